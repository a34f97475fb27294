import PyProof.Rows.All
import Wide.All
import OpenK.AllK
import Wide.FinOn
import KE.KStateDown
import HandS.Base
import HandS.Call
import HandS.List
import HandS.Comp
import HandS.Ends
import HandS.Dict
import HandS.Iter
import HandS.Walk
import HandS.Text
import HandS.Words
import HandS.WordsList
import HandS.WordsDict
import HandS.Exc
import HandS.TryOnly
import HandS.TryMany
import HandS.ExcOwn
import HandS.WordsExc
import HandS.IsInst
import HandS.ExcIs
import HandS.Flow
import HandS.More
import HandS.Wide
import HandS.SortInts
import HandS.SortRule
import HandS.Defaults
import HandS.Head0
import HandS.Head1
import HandS.Head2
import HandS.HeadEnd
import HandS.HeadHook1
import HandS.HeadHook2
import KE.KDictCopyH
import PySem.Challenge.RW_cellkeep_k21_pictures
set_option Elab.async false
set_option linter.all false
set_option maxRecDepth 100000
set_option maxHeartbeats 4000000
namespace G
open PySem PySem.Spec PyProof.Rows L2

/-! ## a caught exception as a tracked thing -/
/-- an exception object of class cls stands at a -/
def ExA (cls : Value) (a : Addr) : HO := .ext fun h => ∃ (o : Obj) (fv : Array Value), h.get? a = some o ∧ Zc cls none o ∧ o.data = .fields fv
theorem exA_ok {P : Program} {w : World} {H : Hp} {h : Heap} {a : Addr} {cls : Value} {o : Obj} {fv : Array Value} (e : h.get? a = some o) (z : Zc cls none o) (d : o.data = .fields fv) : ObjOk P w H h a (ExA cls a) :=
  ⟨⟨o, fv, e, z, d⟩, ⟨o, e⟩, fun _ _ ⟨o', fv', e', z', d'⟩ k => ⟨o', fv', k _ e', z', d'⟩⟩

section
variable {X : Cx} {pins : List (Addr × Obj)} {σ : L2.St} {H : Hp} {s : Shared}
/-- an object that stands untracked is tracked from now on -/
theorem track {a : Addr} {u : HO} (I : Inv X pins σ H s) (na : H a = none) (n0 : X.s_0.heap.get? a = none) (nL : a ≠ X.env.locals) (nC : ∀ x c, X.env.cells.lookup x = some c → c ≠ a)
    (nP : ∀ p ∈ X.pn ++ pins, p.1 ≠ a) (new : ObjOk X.prog X.w (upd H a u) s.heap a u) : Inv X pins σ (upd H a u) s := by
  have ne0 : ∀ b o, X.s_0.heap.get? b = some o → b ≠ a := fun b o e z => by rw [z, n0] at e; cases e
  have neH : ∀ b o, H b = some o → b ≠ a := fun b o e z => by rw [z, na] at e; cases e
  refine ⟨I.ok, I.os, I.bare, ⟨I.base.keep, I.base.slot, ?_, I.base.there, ?_, ?_, ?_⟩, I.loc, I.cell, ?_, ?_, ?_, ?_, I.len⟩
  · intro b o e n hx
    rw [upd_ne (ne0 b o e)]
    exact I.base.free b o e n hx
  · intro b xs e
    have q := I.base.tups b xs e
    rw [upd_ne (neH b _ q)]
    exact q
  · intro b o u' e
    have q := I.base.frzs b o u' e
    rw [upd_ne (neH b _ q)]
    exact q
  · intro b ps e
    obtain ⟨m, q⟩ := I.base.tbls b ps e
    exact ⟨m, by rw [upd_ne (neH b _ q)]; exact q⟩
  · rw [upd_ne (Ne.symm nL)]
    exact I.free
  · intro x c e
    rw [upd_ne (nC x c e)]
    exact I.freeC x c e
  · intro p hp
    obtain ⟨e, n, ne, nf, d⟩ := I.pin p hp
    exact ⟨e, by rw [upd_ne (nP p hp)]; exact n, ne, nf, d⟩
  · intro b o e
    by_cases hb : b = a
    · subst hb
      rw [upd_same] at e
      cases e
      exact new
    · rw [upd_ne hb] at e
      refine (I.hok b o e).stay (fun _ _ _ z => z) (fun c z => ?_) fun c xs z => ?_
      · rw [upd_ne (neH c _ z)]
        exact z
      · rw [upd_ne (neH c _ z)]
        exact z
/-- a list that was laid since the def began is forgotten -/
theorem forget {a : Addr} {xs : List V} (I : Inv X pins σ (upd H a (.lst xs)) s) (na : H a = none) (n0 : X.H_0 a = none) : Inv X pins σ H s := by
  have back : ∀ b, b ≠ a → upd H a (.lst xs) b = H b := fun b hb => upd_ne hb
  have nn : ∀ b, upd H a (.lst xs) b = none → H b = none := fun b e => by
    by_cases hb : b = a
    · rw [hb, upd_same] at e
      cases e
    · rw [upd_ne hb] at e
      exact e
  refine ⟨I.ok, I.os, I.bare, ⟨I.base.keep, I.base.slot, fun b o e n hx => nn b (I.base.free b o e n hx), I.base.there, ?_, ?_, ?_⟩, I.loc, I.cell, nn _ I.free, fun x c e => nn _ (I.freeC x c e), fun p hp => ?_, ?_, I.len⟩
  · intro b ys e
    rw [← back b (fun z => by rw [z, n0] at e; cases e)]
    exact I.base.tups b ys e
  · intro b o u' e
    rw [← back b (fun z => by rw [z, n0] at e; cases e)]
    exact I.base.frzs b o u' e
  · intro b ps e
    rw [← back b (fun z => by rw [z, n0] at e; cases e)]
    exact I.base.tbls b ps e
  · obtain ⟨e, n, r⟩ := I.pin p hp
    exact ⟨e, nn _ n, r⟩
  · intro b o e
    have hb : b ≠ a := fun z => by rw [z, na] at e; cases e
    have q : upd H a (.lst xs) b = some o := by rw [upd_ne hb]; exact e
    refine (I.hok b o q).stay (fun _ _ _ z => z) (fun c z => ?_) fun c ys z => ?_
    · rw [← back c (fun y => by rw [y, upd_same] at z; cases z)]
      exact z
    · rw [← back c (fun y => by rw [y, upd_same] at z; cases z)]
      exact z
/-- what a fresh address of now was ahead of the def -/
theorem fresh0 {a : Addr} (I : Inv X pins σ H s) (na : H a = none) (nt : ∀ o, X.H_0 a = some o → ∃ ob, X.s_0.heap.get? a = some ob) (hs : s.heap.objs.size ≤ a) : X.H_0 a = none := by
  cases e : X.H_0 a with
  | none => rfl
  | some o =>
    obtain ⟨ob, q⟩ := nt o e
    exact absurd (Nat.lt_of_lt_of_le (Heap.lt_size q) (Nat.le_trans I.sz hs)) (Nat.lt_irrefl _)
end
end G
namespace G
open PySem PySem.Spec PyProof.Rows L2
/-! ## a display that is subscripted at once -/
section
variable {X : Cx} {pins : List (Addr × Obj)} {σ : L2.St} {H : Hp} {s : Shared}
theorem itemAt {value slice : Expr} {E : Value → Shared → Prop} {Q : Value → Shared → Prop} {p : Addr} {xs : List V} {its : List Value} {i : Int} {t : Tok} {z : V} (r : Vals xs its) (pl : PlainL s.heap p its.toArray) (hz : xs.length ≤ sizeLine) (he : atI xs i = some z)
    (fin : ∀ w, RelV z w → Q w s) (hs : subscripted slice false (.ref p) (.int i t) = operate [.ref p, .int i t] (getItem (.ref p) (.int i t))) :
    wpAny (model X.prog X.w) X.A (subscriptTail value slice (.ref p) (.int i t)) Q E s := by
  obtain ⟨j, g1, g2, g3, g4, g5⟩ := atI_get he
  obtain ⟨u, eu, ru⟩ := r.get g2
  have ln := r.length
  have big := line63
  by_cases c : 0 ≤ i
  · have ej : i.toNat = j := Option.some.inj ((seqIndex_of c g5).symm.trans g1)
    exact item_listR pl.isList c (by omega) (by subst ej; simpa using eu) (fin u ru) hs
  · have ej : (i + (its.toArray.size : Int)).toNat = j := by
      have z1 := (seqIndex_neg (by omega) g4).symm.trans g1
      simp only [List.size_toArray, ← ln]
      exact Option.some.inj z1
    refine subscriptTail_builtinR (x := u) pl.isList.typeIs slot_list_getitem.lookup ?_ hs
    refine wpAny_getItem_list_neg (Q := fun r s' => r = u ∧ Q r s') pl.isList (by omega) ?_ (by omega) (by subst ej; simpa using eu) ⟨rfl, fin u ru⟩
    simp only [List.size_toArray]
    omega
/-- [a, b, ..][i]: the list is never seen again -/
def tMenu (ta : TA) (ti : TE) : TE := fun σ H Q => ta σ H fun xs H1 => xs.length ≤ sizeLine ∧ ti σ H1 fun y H2 => ∃ i v, y = .int i ∧ atI xs i = some v ∧ Q v H2
theorem pe_menu {es : List Expr} {b : Expr} {ta : TA} {tb : TE} {p1 pos : Pos} (ha : PA X es ta) (hb : PE X b tb) (hs : PlainIx b) : PE X (.Subscript (.List es p1) b pos) (tMenu ta tb) := by
  refine ⟨fun pins s σ H Q I h => ?_⟩
  refine Subscript_ (wpAny_List_spliced (thn (ha.run p1 pins s σ H _ I h) fun us s1 ⟨xs, H1, I1, r, z, q⟩ => ⟨by rw [← r.length]; exact z, ?_⟩))
  have hf : H1 s1.heap.objs.size = none := I1.hok.fresh (Nat.le_refl _)
  have I2 : Inv X pins σ H1 { s1 with heap := s1.heap.push { cls := .type "list", data := .seq us.toArray } } := I1.kept (t' := s1.toks) fun _ _ e => Heap.get?_push_of_some _ e
  have eo : (s1.heap.push { cls := .type "list", data := .seq us.toArray }).get? s1.heap.objs.size = some { cls := .type "list", data := .seq us.toArray } := Heap.get?_push_size _ rfl
  have I3 := I2.pinned (fp := [s1.heap.objs.size]) (fun b hb => by
    have e : b = s1.heap.objs.size := by simpa using hb
    subst e
    exact I1.fpOk (Nat.le_refl _) hf) fun b hb => by
    have e : b = s1.heap.objs.size := by simpa using hb
    subst e
    exact ⟨_, eo, fun v z => by cases z⟩
  refine thn (hb.run _ _ σ H1 _ I3 q) fun u s2 ⟨y, H2, I4, ry, i, v, ey, hv, q2⟩ => ?_
  subst ey
  obtain ⟨t, rfl⟩ := ry
  have e2 : s2.heap.get? s1.heap.objs.size = some { cls := .type "list", data := .seq us.toArray } :=
    (I4.pin (s1.heap.objs.size, _) (List.mem_append_right _ (List.mem_append_right _ (mem_pinsAt (List.mem_cons_self) eo)))).1
  exact itemAt r ⟨_, _, e2, rfl, rfl, rfl⟩ z hv (fun w rw' => ⟨v, H2, I4.unpinned, rw', q2⟩) (hs _ _)
end
/-! ## defs that may be called while an exception is handled: they raise nothing -/
structure RoomN (k : Nat) (A : Around) : Prop where
  dp : A.depth + 3 * k + 5 < recursionLimit
  un : A.units + 16 * k + 200 < cLine
theorem roomN_of {k : Nat} {A : Around} (r : Room k A) : RoomN k A := ⟨r.dp, r.un⟩
theorem roomN_mark {k : Nat} {A : Around} {v : Option Value} (r : Room k A) : RoomN k (A.mark v) := ⟨r.dp, r.un⟩
theorem RoomN.mono {j k : Nat} {A : Around} (r : RoomN k A) (h : j ≤ k) : RoomN j A := ⟨by have := r.dp; omega, by have := r.un; omega⟩
theorem RoomN.deeper {k : Nat} {A : Around} (r : RoomN (k + 1) A) (env : Env) : RoomN k (A.deeper env) :=
  ⟨by have h := r.dp; show A.depth + 1 + (3 * k + 5) < _; omega, by have h := r.un; show A.units + 3 + (16 * k + 200) < _; omega⟩
abbrev cxN (P : Program) (w : World) (K : PySem.W.Frag) (mg : Str → Option Value) (base : Heap) (N : List Str) (qual : Str) (scope : Scope) (f : Addr) (cd : Value) (A : Around) (outer : List Env) (s : Shared) (H : Hp) : Cx :=
  { cxOf CX0 P w K mg base N qual scope f cd A outer s H E0 with calm := false }
structure FnN (P : Program) (w : World) (K : PySem.W.Frag) (mg : Str → Option Value) (base : Heap) (k : Nat) (f : Addr) (fd : FuncData) (ps : List Str) (sp : Sp) : Prop where
  len : ∀ vs H Q E, sp vs H Q E → vs.length = ps.length
  run : ∀ (A : Around) (outer : List Env) (s : Shared) (H : Hp) (args : Args) (us : List Value) (vs : List V) (Q : VK), RoomN k A → Env0 P w K mg base A outer s H → BindsTo s fd args (ps.zip us) → Vals vs us → sp vs H Q E0 →
    codeAny (model P w) A (.call (.ref f) args) (CR CX0 outer P w H s Q E0) s
theorem FnN.mono {P : Program} {w : World} {K : PySem.W.Frag} {mg : Str → Option Value} {base : Heap} {j k : Nat} {f : Addr} {fd : FuncData} {ps : List Str} {sp : Sp} (F : FnN P w K mg base j f fd ps sp) (h : j ≤ k) : FnN P w K mg base k f fd ps sp :=
  ⟨F.len, fun A outer s H args us vs Q hr => F.run A outer s H args us vs Q (hr.mono h)⟩
section
variable {P : Program} {w : World} {K : PySem.W.Frag} {mg : Str → Option Value} {base : Heap}
theorem fn_ofN {x qual : Str} {params : Arguments} {body : List Stmt} {scope : Scope} {dvs : List V} {kws : List (Str × V)} {f : Addr} {fd : FuncData} {N ps : List Str} {k : Nat} {sp : Sp} (F : FunD K x qual params body scope dvs kws f fd) (S : FnScope N ps scope)
    (len : ∀ vs H Q E, sp vs H Q E → vs.length = ps.length)
    (hbody : ∀ (cdv : Value) (A : Around) (outer : List Env) (s : Shared) (H : Hp) (vs : List V) (Q : VK), RoomN k (A.deeper (envOfC qual scope s.heap.objs.size f cdv)) → sp vs H Q E0 →
      ∃ t, PSs (cxN P w K mg base N qual scope f cdv A outer s H) body t ∧ t { nx := fun _ H' => Q .non H', rt := Q } (start N vs) H) : FnN P w K mg base (k + 1) f fd ps sp := by
  obtain ⟨oc, od, dV, kV, doc, pm, an, cdv, ct, osl, rfl, lk, hcd, -, -⟩ := F.ex
  refine ⟨len, fun A outer s H args us vs Q hr e0 hb r hsp => ?_⟩
  have hl := len _ _ _ _ hsp
  have st : ∀ b o, base.get? b = some o → s.heap.get? b = some o := fun b o e => (e0.bs b o e).1
  have KX : K.In s.heap := e0.mod.kin.keeps st
  refine codeAny_call_function (by have := hr.dp; omega) (KX _ _ lk) rfl S.co S.gen rfl (PySem.W.codeRec_of KX hcd) (hb _ _ _ _ ?_)
  refine wpAny_newFunctionEnv_cells S.kind (fun y hy => ?_) fun env he s1 x => ?_
  · rcases S.par y.1 (List.of_mem_zip hy).1 with q | q
    · exact .inl q
    · exact .inr ⟨q, PySem.W.cellsFrom_some _ _ _ (.inl q)⟩
  subst he
  refine ⟨(e0.mod.nolimit.keeps st).keeps x.toInCall.keep, codeAny_func ?_⟩
  obtain ⟨t, ht, hq⟩ := hbody cdv A outer s H vs Q (hr.deeper _) hsp
  have J : Inv (cxOf CX0 P w K mg base N qual scope f cdv { A with handled := none } outer s H E0) [] (start N vs) H s1 := inv_start S rfl ⟨e0.frames, e0.mod, e0.bs, e0.bsz, e0.funs, e0.frf, e0.hok, e0.bare⟩ hl r x
  have I : Inv (cxN P w K mg base N qual scope f cdv A outer s H) [] (start N vs) H s1 :=
    ⟨⟨J.ok.mod, J.ok.kind, J.ok.glob, J.ok.blt, J.ok.above, J.ok.inj, J.ok.has, J.ok.cab, fun z => Bool.noConfusion (show false = true from z), Around.frames_deeper e0.frames, J.ok.stk, J.ok.exf, J.ok.bs, J.ok.bsz, J.ok.noex, J.ok.exfs, J.ok.funs, J.ok.frf⟩,
      J.os, J.bare, J.base, J.loc, J.cell, J.free, J.freeC, J.pin, J.hok, J.len⟩
  refine wpAny_mono (ht.run [] s1 (start N vs) H _ I hq) (fun fl s' hs => ?_) fun e s' hs => hs
  cases fl with
  | ret u =>
    obtain ⟨v, σ', H', J', rv, q⟩ := hs
    exact ⟨v, H', J'.os, J'.bare, J'.base, J'.hok, rv, q⟩
  | next =>
    obtain ⟨σ', H', J', q⟩ := hs
    exact ⟨.non, H', J'.os, J'.bare, J'.base, J'.hok, rfl, q⟩
  | brk => exact hs.elim fun _ z => z.elim fun _ y => y.2.elim
  | cont => exact hs.elim fun _ z => z.elim fun _ y => y.2.elim
/-- as any def -/
theorem FnN.ok {k : Nat} {f : Addr} {fd : FuncData} {ps : List Str} {sp : Sp} (F : FnN P w K mg base k f fd ps sp) (h0 : ∀ vs H Q E, sp vs H Q E → sp vs H Q E0) : FnOk P w K mg base (L2.CX P w) k f fd ps sp :=
  ⟨F.len, fun A outer s H args us vs Q E hr e0 hb r hsp => codeAny_mono (F.run A outer s H args us vs Q (roomN_of hr) e0 hb r (h0 _ _ _ _ hsp)) fun r s' hq => by
    cases r with
    | error e => exact hq.elim
    | ok fl => cases fl with
      | ret u => exact hq
      | next => exact hq.elim
      | brk => exact hq.elim
      | cont => exact hq.elim⟩
end
section
variable {X : Cx} {k : Nat} {f : Addr} {fd : FuncData} {ps : List Str} {sp : Sp} {x : Str} {q pos : Pos} {e : Expr} {es : List Expr} {t : TA}
def tCallN (sp : Sp) (t : TA) : TE := fun σ H Q => t σ H fun vs H1 => sp vs H1 Q E0
theorem pe_callN (F : FnN X.prog X.w X.K X.mg X.base k f fd ps sp) (hr : RoomN k X.A) (hg : Gl X x) (hm : X.mg x = some (.ref f)) (hk : PySem.W.keepIn X.K (.ref f) = true) (hb : Binds X.K fd ps [])
    (ha : PA X (e :: es) t) (hdb : (x == ("__debug__" : Str)) = false := by decide) (he : starEach (e :: es) X.env = (false, eval e X.env) :: starEach es X.env := by rfl) (hpl : (backTo pos (starEach es X.env)).any (·.1) = false := by rfl) :
    PE X (.Call (.Name x q) (e :: es) [] pos) (tCallN sp t) := by
  refine ⟨fun pins s σ H Q I h => ?_⟩
  refine wpAny_Call_Name_kw (ld_glob I hg hm ?_ hdb)
  refine PySem.W.callWith_K (h₀ := X.base) I.ok.mod.kin hk (thn (ha.run pos pins s σ H _ I h) fun us s1 hh => ?_) he hpl
  obtain ⟨vs, H1, I1, r, h2⟩ := hh
  refine ⟨I1.kIn, ?_⟩
  have hl : us.length = ps.length := by rw [← r.length]; exact F.len _ _ _ _ h2
  have b := hb s1 us I1.kIn (by rw [List.append_nil]; exact hl)
  rw [List.append_nil] at b
  refine wpAny_call (codeAny_mono (F.run X.A X.stack s1 H1 ⟨us, []⟩ us vs Q hr I1.env0 b r h2) fun r s' hq => ?_)
  cases r with
  | error e => exact hq.elim
  | ok fl => cases fl with
    | ret u => exact I1.after hq
    | next => exact hq.elim
    | brk => exact hq.elim
    | cont => exact hq.elim
end
end G
namespace G
open PySem PySem.Spec PyProof.Rows L2
/-! ## calls whose exceptions the surroundings take (W) -/
section
variable {X : Cx} {k : Nat} {f C : Addr} {fd : FuncData} {ps : List Str} {sp : Sp} {W : WX} {x m : Str} {p pos apos : Pos} {e o : Expr} {es : List Expr} {ta : TE} {t : TA}
/-- f(..) -/
def tCallW (sp : Sp) (W : WX) (t : TA) : TE := fun σ H Q => t σ H fun vs H1 => sp vs H1 Q fun c d H2 => W c d σ H2
theorem pe_callW (tk : Takes X W) (F : FnOk X.prog X.w X.K X.mg X.base (L2.CX X.prog X.w) k f fd ps sp) (hr : Room k X.A) (hg : Gl X x) (hm : X.mg x = some (.ref f)) (hk : PySem.W.keepIn X.K (.ref f) = true) (hb : Binds X.K fd ps [])
    (ha : PA X (e :: es) t) (hdb : (x == ("__debug__" : Str)) = false := by decide) (he : starEach (e :: es) X.env = (false, eval e X.env) :: starEach es X.env := by rfl) (hpl : (backTo pos (starEach es X.env)).any (·.1) = false := by rfl) :
    PE X (.Call (.Name x p) (e :: es) [] pos) (tCallW sp W t) := pe_callS F hr hg hm hk hb (fun σ => passAt tk σ) ha hdb he hpl
theorem pe_callW0 (tk : Takes X W) (F : FnOk X.prog X.w X.K X.mg X.base (L2.CX X.prog X.w) k f fd ps sp) (hr : Room k X.A) (hg : Gl X x) (hm : X.mg x = some (.ref f)) (hk : PySem.W.keepIn X.K (.ref f) = true) (hb : Binds X.K fd ps [])
    (hdb : (x == ("__debug__" : Str)) = false := by decide) : PE X (.Call (.Name x p) [] [] pos) (tCallW sp W tNil) := by
  refine ⟨fun pins s σ H Q I h => wpAny_Call_Name_kw (ld_glob I hg hm ?_ hdb)⟩
  exact PySem.W.callWith_K0 I.kIn hk (run_fnS (us := []) (E := WE W) F hr hb (passAt tk σ) I .nil h)
/-- o.m(..) -/
def tMethW (C : Addr) (m : Str) (sp : Sp) (W : WX) (ta : TE) (t : TA) : TE := fun σ H Q => ta σ H fun x H1 => ∃ a dx fs, x = .ref a ∧ H1 a = some (.ins C dx fs) ∧ fs.lookup m = none ∧ t σ H1 fun vs H2 => sp (x :: vs) H2 Q fun c d H3 => W c d σ H3
theorem pe_methW {pl : Sem Bool} (tk : Takes X W) (he : PE X o ta) (c : Cls X.K C) (hm : Meth X.K C m f) (F : FnOk X.prog X.w X.K X.mg X.base (L2.CX X.prog X.w) k f fd ps sp) (hr : Room k X.A) (hb : Binds X.K fd ps []) (ha : PA X (e :: es) t)
    (hst : starEach (e :: es) X.env = (false, eval e X.env) :: starEach es X.env := by rfl) (hpl : (backTo pos (starEach es X.env)).any (·.1) = false := by rfl)
    (ht : eval (.Call (.Attribute o m apos) (e :: es) [] pos) X.env = (do
      let z ← eval o X.env
      standAt apos.atName
      let (g, one) ← holding [z] (getMethod z m pl)
      callWith pos g one (backTo pos (starEach (e :: es) X.env)) (backToKw pos (keywordEach [] X.env))) := by rfl) :
    PE X (.Call (.Attribute o m apos) (e :: es) [] pos) (tMethW C m sp W ta t) := by
  refine ⟨fun pins s σ H Q I h => ?_⟩
  refine PySem.W.methodCall_KW (pl := pl) (thn (he.run pins s σ H _ I h) fun u s1 hh => ?_) ht
  obtain ⟨y, H1, I1, ry, a, dx, fs, ey, ea, l, q⟩ := hh
  subst ey
  obtain rfl : u = Value.ref a := ry
  refine getmeth_ok I1 ea c hm l ?_
  refine PySem.W.callWith_K (first := [.ref a]) (h₀ := X.base) I.ok.mod.kin hm.kp (thn (ha.run pos pins s1 σ H1 _ I1 q) fun us s2 h2 => ?_) hst hpl
  obtain ⟨vs, H2, I2, r, q2⟩ := h2
  exact ⟨I2.kIn, run_fnS (us := .ref a :: us) (vs := .ref a :: vs) (E := WE W) F hr hb (passAt tk σ) I2 (.cons rfl r) q2⟩
theorem pe_methW0 {pl : Sem Bool} (tk : Takes X W) (he : PE X o ta) (c : Cls X.K C) (hm : Meth X.K C m f) (F : FnOk X.prog X.w X.K X.mg X.base (L2.CX X.prog X.w) k f fd ps sp) (hr : Room k X.A) (hb : Binds X.K fd ps [])
    (ht : eval (.Call (.Attribute o m apos) [] [] pos) X.env = (do
      let z ← eval o X.env
      standAt apos.atName
      let (g, one) ← holding [z] (getMethod z m pl)
      callWith pos g one (backTo pos (starEach [] X.env)) (backToKw pos (keywordEach [] X.env))) := by rfl) :
    PE X (.Call (.Attribute o m apos) [] [] pos) (tMethW C m sp W ta tNil) := by
  refine ⟨fun pins s σ H Q I h => ?_⟩
  refine PySem.W.methodCall_KW (pl := pl) (thn (he.run pins s σ H _ I h) fun u s1 hh => ?_) ht
  obtain ⟨y, H1, I1, ry, a, dx, fs, ey, ea, l, q⟩ := hh
  subst ey
  obtain rfl : u = Value.ref a := ry
  refine getmeth_ok I1 ea c hm l ?_
  exact PySem.W.callWith_K0 (first := [.ref a]) I1.kIn hm.kp (run_fnS (us := [.ref a]) (vs := [.ref a]) (E := WE W) F hr hb (passAt tk σ) I1 (.cons rfl .nil) q)
/-- C(..) -/
def tMakeW (C : Addr) (sp : Sp) (W : WX) (t : TA) : TE := fun σ H Q => t σ H fun vs H1 => ∀ x dx, H1 x = none → H1 dx = none → dx ≠ x →
  sp (.ref x :: vs) (upd (upd H1 dx (.own x)) x (.ins C dx [])) (fun v H2 => v = .non ∧ Q (.ref x) H2) fun c d H3 => W c d σ H3
theorem run_makeW {pins : List (Addr × Obj)} {σ : L2.St} {H : Hp} {s : Shared} {Q : VK} {us : List Value} {vs : List V} (tk : Takes X W) (M : Mk X.K C f) (F : FnOk X.prog X.w X.K X.mg X.base (L2.CX X.prog X.w) k f fd ps sp) (hr : Room (k + 1) X.A) (hb : Binds X.K fd ps [])
    (I : Inv X pins σ H s) (r : Vals vs us)
    (h : ∀ x dx, H x = none → H dx = none → dx ≠ x → sp (.ref x :: vs) (upd (upd H dx (.own x)) x (.ins C dx [])) (fun v H2 => v = .non ∧ Q (.ref x) H2) fun c d H3 => W c d σ H3) :
    wpAny (model X.prog X.w) X.A (call (.ref C) us) (EP X pins σ Q) X.xe s := by
  have go := h (s.heap.objs.size + 1) s.heap.objs.size (I.hok.fresh (Nat.le_succ _)) (I.hok.fresh (Nat.le_refl _)) (Nat.ne_of_lt (Nat.lt_succ_self _))
  have J := Inv.made (C := C) I
  have r2 : Vals (V.ref (s.heap.objs.size + 1) :: vs) (Value.ref (s.heap.objs.size + 1) :: us) := .cons rfl r
  have hl : (Value.ref (s.heap.objs.size + 1) :: us).length = ps.length := r2.length.symm.trans (F.len _ _ _ _ go)
  have b := hb { s with heap := (s.heap.push PySem.W.emptyDict).push (PySem.W.instObj C s.heap.objs.size) } (Value.ref (s.heap.objs.size + 1) :: us) J.kIn (by rw [List.append_nil]; exact hl)
  rw [List.append_nil] at b
  refine wpAny_call (make_map (f := f) I.kIn M.makes M.init (beq_iff_eq.mp M.fn) (codeAny_mono (F.run _ X.stack _ _ ⟨Value.ref (s.heap.objs.size + 1) :: us, []⟩ _ _ _ _ (hr.make C us []) (J.env0.make C us []) b r2 go) fun r s' hq => ?_))
  cases r with
  | error e => exact passAt tk σ pins _ _ e s' J hq
  | ok fl =>
    cases fl with
    | ret u =>
      obtain ⟨v, H', I3, rv, ev, q3⟩ := J.after hq
      subst ev
      exact ⟨rv, V.ref (s.heap.objs.size + 1), H', I3, rfl, q3⟩
    | next => exact hq.elim
    | brk => exact hq.elim
    | cont => exact hq.elim
theorem pe_makeW (tk : Takes X W) (M : Mk X.K C f) (F : FnOk X.prog X.w X.K X.mg X.base (L2.CX X.prog X.w) k f fd ps sp) (hr : Room (k + 1) X.A) (hg : Gl X x) (hm : X.mg x = some (.ref C)) (hb : Binds X.K fd ps [])
    (ha : PA X (e :: es) t) (hdb : (x == ("__debug__" : Str)) = false := by decide) (he : starEach (e :: es) X.env = (false, eval e X.env) :: starEach es X.env := by rfl) (hpl : (backTo pos (starEach es X.env)).any (·.1) = false := by rfl) :
    PE X (.Call (.Name x p) (e :: es) [] pos) (tMakeW C sp W t) := by
  refine ⟨fun pins s σ H Q I h => wpAny_Call_Name_kw (ld_glob I hg hm ?_ hdb)⟩
  refine PySem.W.callWith_K (h₀ := X.base) I.ok.mod.kin M.kp (thn (ha.run pos pins s σ H _ I h) fun us s1 hh => ?_) he hpl
  obtain ⟨vs, H1, I1, r, q⟩ := hh
  exact ⟨I1.kIn, run_makeW tk M F hr hb I1 r q⟩
theorem pe_makeW0 (tk : Takes X W) (M : Mk X.K C f) (F : FnOk X.prog X.w X.K X.mg X.base (L2.CX X.prog X.w) k f fd ps sp) (hr : Room (k + 1) X.A) (hg : Gl X x) (hm : X.mg x = some (.ref C)) (hb : Binds X.K fd ps [])
    (hdb : (x == ("__debug__" : Str)) = false := by decide) : PE X (.Call (.Name x p) [] [] pos) (tMakeW C sp W tNil) := by
  refine ⟨fun pins s σ H Q I h => wpAny_Call_Name_kw (ld_glob I hg hm ?_ hdb)⟩
  exact PySem.W.callWith_K0 I.kIn M.kp (run_makeW (us := []) tk M F hr hb I .nil h)
end

/-! ## try .. except x as n, the exception a tracked thing in the suite -/
/-- what the clause wishes; slot i is n's -/
def wTr (K : PySem.W.Frag) (c : Value) (i : Nat) (ts : TS) (Wo : WX) (D : Ends) : WX := fun cls d σ H => ∃ b, PySem.W.exmOne K cls c = some b ∧
  (b = true → d = none ∧ ∀ a, H a = none → ts { nx := fun σ' H' => D.nx (σ'.set i none) H', rt := D.rt, bk := fun σ' H' => D.bk (σ'.set i none) H', ct := fun σ' H' => D.ct (σ'.set i none) H' } (σ.set i (some (.ref a))) (upd H a (ExA cls a))) ∧ (b = false → Wo cls d σ H)
section
variable {X : Cx} {x n : Str} {c : Value} {i : Nat} {body suite : List Stmt} {b0 : Stmt} {np pos pos' : Pos} {tb : WX → TS} {ts : TS} {Wo : WX}
theorem toSuite {pins : List (Addr × Obj)} {σ : L2.St} {H : Hp} {s : Shared} (I : Inv X pins σ H s) (a : Addr) : Inv (X.suite a (X.pn ++ pins)) [] σ H s :=
  ⟨I.ok.suite _ _, I.os, I.bare, I.base, I.loc, I.cell, I.free, I.freeC, fun p hp => I.pin p (by simpa using hp), I.hok, I.len⟩
theorem ofSuite {pins pl : List (Addr × Obj)} {σ : L2.St} {H : Hp} {s : Shared} {a : Addr} (ok : X.Ok) (I : Inv (X.suite a (X.pn ++ pins)) pl σ H s) : Inv X pins σ H s :=
  ⟨ok, I.os, I.bare, I.base, I.loc, I.cell, I.free, I.freeC, fun p hp => I.pin p (List.mem_append_left _ hp), I.hok, I.len⟩
theorem ps_tryT (hs : X.stack = X.env :: X.outer) (hf : X.env.frame = some X.env.locals) (hex : X.ex = []) (hN : X.N.Nodup) (hi : X.N[i]? = some n) (hln : X.env.kindOf n = some .local) (hc : Names X x c) (tk : Takes X Wo)
    (hb : ∀ (W : WX) (pn : List (Addr × Obj)) (xe : Value → Shared → Prop), Takes (X.tr pn xe) W → PassesOwn (model X.prog X.w) X.A X.env xe → PSs (X.tr pn xe) body (tb W))
    (hsu : ∀ (a : Addr) (pn : List (Addr × Obj)), PSs (X.suite a pn) (b0 :: suite) ts) :
    PS X (.Try body [.ExceptHandler (some (.Name x np)) (some n) (b0 :: suite) pos'] [] [] pos) (fun D σ H => tb (wTr X.K c i ts Wo D) D σ H) := by
  refine ⟨fun pins s σ H D I h => ?_⟩
  have ok := I.ok
  have hfr : X.A.frames = some (X.env :: X.outer) := by rw [ok.frames, hs]
  have lo : Loc X.env.scope n := .inl hln
  let rest : List ExceptHandler := [.ExceptHandler (some (.Name x np)) (some n) (b0 :: suite) pos']
  let M := model X.prog X.w
  let wish : Value → Shared → Prop := fun e u1 => wpAny M X.A (noteFrame e X.env) (fun _ u2 => wpAny M X.A (setFlight e none) (fun _ u3 => wpAny M X.A (handleBy e X.env rest) (SP X pins D) X.xe u3) X.xe u2) X.xe u1
  refine wpAny_Try_except (wpAny_mono ((hb (wTr X.K c i ts Wo D) (X.pn ++ pins) wish (fun u s' air => ?_) PassesOwn.looking).run [] s σ H D (I.toTry _) h) (fun fl s1 hsp => ?_) (fun e s1 he => he))
  · obtain ⟨a, B, sg, pi', σ1, H1, cls, d, rfl, Jt, nb, up, sky, na, os, ag, b, e1, yes, no⟩ := air
    have J : Inv X pins σ1 H1 sg := Jt.ofTry ok
    have sky' : Sky B (X.env :: X.outer) a (Zc cls d) X.env.locals s'.heap := by rw [← hs]; exact sky
    show wpAny M X.A (noteFrame (.ref a) X.env) _ _ _
    refine Sky.land Zc.steady hfr hf sky' fun h3 fl3 up3 => ?_
    have u3 := up.trans up3
    have J3 : Inv X pins σ1 H1 { s' with heap := h3 } := J.landed nb fl3.1 u3 os ag
    obtain ⟨o3, f3, g3, z3, d3⟩ := fl3.there
    have nfr : a ∉ frs (X.env :: X.outer) := fun hm => by
      obtain ⟨-, o', g', nf⟩ := fl3.2.2.1.mem hm
      rw [g3] at g'
      cases g'
      exact nf _ d3
    have nL : a ≠ X.env.locals := fun z => nfr (List.mem_filterMap.mpr ⟨X.env, List.mem_cons_self, by rw [hf, z]⟩)
    have nst : a ∉ frs X.stack := by rw [hs]; exact nfr
    have nB : B.get? a = none := fl3.2.1
    have ng : sg.heap.get? a = none := by
      cases e : sg.heap.get? a with
      | none => rfl
      | some o =>
        rw [nb a o e nst] at nB
        cases nB
    have n0 : X.s_0.heap.get? a = none := by
      cases e : X.s_0.heap.get? a with
      | none => rfl
      | some o =>
        obtain ⟨o', q⟩ := J.base.there a o e (by rw [hex]; exact List.not_mem_nil)
        rw [ng] at q
        cases q
    have nC : ∀ y z, X.env.cells.lookup y = some z → z ≠ a := fun y z e q => by
      obtain ⟨v, ob, e2, -⟩ := J.cell y z e
      rw [q, ng] at e2
      cases e2
    have nP : ∀ p ∈ X.pn ++ pins, p.1 ≠ a := fun p hp q => by
      have e2 := (J.pin p hp).1
      rw [q, ng] at e2
      cases e2
    have S3 := toSuite J3 a
    refine wpAny_handleBy_cons (codeAny_handlers_test ?_) (by intro q; cases q)
    have LT : PySem.W.Looks M h3 (typeOf (.ref a)) cls := fun _ _ _ _ k q => wpAny_typeOf_ref (k _ _ g3) (by rw [z3.1]; exact q)
    have LM := PySem.W.exm_one (M := M) J3.kIn LT e1
    have test : ∀ {Q : Value → Shared → Prop} {E : Value → Shared → Prop}, Q c { s' with heap := h3 } → wpAny M (X.A.mark (some (.ref a))) (eval (.Name x np) X.env) Q E { s' with heap := h3 } := fun {Q E} q => by
      obtain ⟨hg, hdb, hm | ⟨hm, hv, hnn⟩⟩ := hc
      · exact ld_glob (X := X.suite a (X.pn ++ pins)) S3 hg hm q hdb
      · exact ld_blt (X := X.suite a (X.pn ++ pins)) S3 hg hm hv q hnn hdb
    refine test (LM.here ?_)
    cases b with
    | true =>
      refine codeAny_handlers_suite_as (HandSPX.lands_againZ fl3 fun h4 fl4 up4 => ?_)
      have J4 : Inv X pins σ1 H1 { s' with heap := h4 } := J.landed nb fl4.1 (u3.trans up4) os ag
      obtain ⟨o4, f4, g4, z4, d4⟩ := fl4.there
      obtain ⟨ed, go⟩ := yes rfl
      subst ed
      have J5 := track (u := ExA cls a) J4 na n0 nL nC nP (exA_ok g4 z4 d4)
      refine store_ok (X := X.suite a (X.pn ++ pins)) (v := .ref a) (toSuite J5 a) hN hi lo rfl (fun s5 S5 => ?_) (.inr hln)
      refine wpAny_mono ((hsu a (X.pn ++ pins)).run [] s5 _ _ _ S5 (go a na)) (fun fl s6 hsp => ?_) (fun _ _ z => False.elim z)
      have out : ∀ {σ6 : L2.St} {H6 : Hp} {Q : Shared → Prop}, Inv (X.suite a (X.pn ++ pins)) [] σ6 H6 s6 → (∀ s7, Inv X pins (σ6.set i none) H6 s7 → Q s7) →
          wpAny M X.A (do bindName X.env n .none; unbindBehindTheSuite X.env n pos') (fun _ s7 => Q s7) X.xe s6 := fun S6 hq => gone_ok (ofSuite ok S6) hN hi hln hq
      cases fl with
      | next => exact hsp.elim fun _ z => z.elim fun _ q => out q.1 fun s7 J7 => ⟨_, _, J7, q.2⟩
      | brk => exact hsp.elim fun _ z => z.elim fun _ q => out q.1 fun s7 J7 => ⟨_, _, J7, q.2⟩
      | cont => exact hsp.elim fun _ z => z.elim fun _ q => out q.1 fun s7 J7 => ⟨_, _, J7, q.2⟩
      | ret u =>
        obtain ⟨v6, σ6, H6, S6, r6, q6⟩ := hsp
        exact out S6 fun s7 J7 => ⟨_, _, _, J7, r6, q6⟩
    | false =>
      show wpAny M X.A (handleBy (.ref a) X.env []) _ _ _
      refine wpAny_handleBy_nil ?_
      obtain ⟨-, -, -, oe, vs, T, oT, ts', he, hz, hd, h1, hr⟩ := id fl3
      unfold PySem.passOn
      refine wpAny_bind (wpAny_field he hd h1 ?_)
      rw [if_neg (show ¬ ((Value.ref T == Value.none) = true) from by simp)]
      have fin : wpAny M X.A (setFlight (.ref a) X.env.frame) (fun _ u4 => wpAny M X.A (throw (.ref a) : Sem Flow) (SP X pins D) X.xe u4) X.xe { s' with heap := h3 } := by
        rw [hf]
        refine HandSPX.setFlight_upZ fl3 fun h4 hh4 up4 => wpAny_throw (tk _ _ ?_)
        exact ⟨a, B, sg, pins, σ1, H1, cls, d, rfl, J, nb, u3.trans up4, .inr (.inr (by rw [hs]; exact hh4)), na, os, ag, no rfl⟩
      first
        | exact wpAny_bind (wpAny_pure (wpAny_bind fin))
        | exact wpAny_bind fin
  · cases fl with
    | next => exact hsp.elim fun σ1 z => z.elim fun H1 q => wpAny_execs_nil ⟨σ1, H1, q.1.ofTry ok, q.2⟩
    | brk => exact hsp.elim fun σ1 z => z.elim fun H1 q => ⟨σ1, H1, q.1.ofTry ok, q.2⟩
    | cont => exact hsp.elim fun σ1 z => z.elim fun H1 q => ⟨σ1, H1, q.1.ofTry ok, q.2⟩
    | ret u =>
      obtain ⟨v, σ1, H1, J, r, q⟩ := hsp
      exact ⟨v, σ1, H1, J.ofTry ok, r, q⟩
end
end G
namespace G
open PySem PySem.Spec PyProof.Rows L2
/-! ## isinstance -/
def tyO : Option HO → Option String
  | some (.lst _) => some "list"
  | some (.frz _ (.lst _)) => some "list"
  | some (.tup _) => some "tuple"
  | some (.dK _) => some "dict"
  | some (.dT _) => some "dict"
  | _ => none
def tyOf : V → Hp → Option String
  | .non, _ => some "NoneType"
  | .bl _, _ => some "bool"
  | .int _, _ => some "int"
  | .str _, _ => some "str"
  | .ref a, H => tyO (H a)
  | _, _ => none
theorem tyOf_ok {K : PySem.W.Frag} {x : V} {H : Hp} {t : String} (h : tyOf x H = some t) : TyX K H x (.type t) := by
  cases x with
  | non => cases h; exact .base .non
  | bl b => cases h; exact .base (.bl b)
  | int i => cases h; exact .base (.int i)
  | str z => cases h; exact .base (.str z)
  | byt z => cases h
  | flt z => cases h
  | ty z => cases h
  | ref a =>
    have h1 : tyO (H a) = some t := h
    unfold tyO at h1
    split at h1
    · rename_i e; cases h1; exact .base (.lst e)
    · rename_i e; cases h1; exact .base (.frz e)
    · rename_i e; cases h1; exact .base (.tup e)
    · rename_i e; cases h1; exact .base (.dK e)
    · rename_i e; cases h1; exact .base (.dT e)
    · cases h1
/-- the classes that are asked of plain things, and the answer -/
def isB (t n : String) : Bool := t == n || (t == "bool" && n == "int")
def tys : List String := ["NoneType", "bool", "int", "str", "list", "tuple", "dict"]
theorem isB_all : ∀ t ∈ tys, ∀ n ∈ (["int", "bool", "str", "list", "tuple", "dict"] : List String), kitB t n = some (isB t n) := by decide +kernel
theorem tyOf_in {x : V} {H : Hp} {t : String} (h : tyOf x H = some t) : t ∈ tys := by
  unfold tyOf at h
  split at h
  all_goals first
    | (cases h; decide)
    | (unfold tyO at h; split at h <;> first | (cases h; decide) | (cases h))
    | (cases h)
/-- isinstance(x, T) of a plain thing -/
def gIsi : List V → Hp → VK → Prop
  | [x, .ty n], H, Q => n ∈ (["int", "bool", "str", "list", "tuple", "dict"] : List String) ∧ ∃ t, tyOf x H = some t ∧ Q (.bl (isB t n)) H
  | _, _, _ => False
section
variable {X : Cx}
theorem call_gIsi : CallR X (.builtin "isinstance") gIsi := by
  intro pins s σ H xs us Q I r h
  unfold gIsi at h
  split at h
  · obtain ⟨hn, t, ht, q⟩ := h
    exact call_isi pins s σ _ _ us Q I r ⟨_, _, .type t, .type _, _, rfl, .ty _, tyOf_ok ht, kit_ty (isB_all t (tyOf_in ht) _ hn), q⟩
  · exact h.elim
/-- isinstance(e, C) of a caught error -/
def gIsE (K : PySem.W.Frag) : List V → Hp → VK → Prop
  | [.ref a, c], H, Q => ∃ D u b, H a = some (ExA (.ref D) a) ∧ ExcC K D ∧ ClsV c u ∧ PySem.W.kitOne K (.ref D) u = some b ∧ Q (.bl b) H
  | _, _, _ => False
theorem exA_kit {pins : List (Addr × Obj)} {σ : L2.St} {H : Hp} {s : Shared} {a D : Addr} (I : Inv X pins σ H s) (h : H a = some (ExA (.ref D) a)) (C : ExcC X.K D) : ∃ P : Heap → Prop, PySem.W.KitX X.K (.ref a) (.ref D) P ∧ P s.heap := by
  obtain ⟨⟨o, fv, e, z, d⟩, -, -⟩ := I.hok a _ h
  have J : PySem.W.InstAt s.heap a o D none := by
    obtain ⟨oc, od, dt, sl⟩ := o
    obtain ⟨z1, z2⟩ := z
    dsimp only at z1 z2 d
    subst z1 z2 d
    exact ⟨e, rfl, rfl, trivial⟩
  exact ⟨_, PySem.W.handS_kitx_exc C.hg C.hk C.hs C.hd C.ha C.hn C.ht C.hm, J⟩
theorem call_gIsE : CallR X (.builtin "isinstance") (gIsE X.K) := by
  intro pins s σ H xs us Q I r h
  unfold gIsE at h
  split at h
  · obtain ⟨D, u, b, ha, C, hc, hk, q⟩ := h
    obtain ⟨u1, u2, rfl, r1, r2⟩ := vals2 r
    have e2 := hc.eq r2
    subst e2
    cases (show u1 = Value.ref _ from r1)
    obtain ⟨P, Z, p⟩ := exA_kit I ha C
    exact PySem.W.kia_one Z I.kIn p hk (fun z => nomatch z) fun tk => ⟨.bl b, _, I.tok tk, rfl, q⟩
  · exact h.elim
/-- isinstance(e, (C1, C2, ..)) of a caught error: the tuple is never seen again -/
def tIsT (K : PySem.W.Frag) (ta : TE) (tc : TA) : TE := fun σ H Q => ta σ H fun x H1 => tc σ H1 fun cs H2 => cs.length ≤ sizeLine ∧ ∃ a D us b, x = .ref a ∧ H2 a = some (ExA (.ref D) a) ∧ ExcC K D ∧ Paired ClsV cs us ∧ PySem.W.kitAny K (.ref D) us = some b ∧ Q (.bl b) H2
theorem pe_isT {a : Expr} {es : List Expr} {x1} {ta : TE} {tc : TA} {p tp pos : Pos} (hg : Gl X "isinstance") (hm : X.mg "isinstance" = none) (ha : PE X a ta) (hc : PA X es tc)
    (he : starEach [a, .Tuple es x1 tp] X.env = [(false, eval a X.env), (false, eval (.Tuple es x1 tp) X.env)] := by rfl) : PE X (.Call (.Name "isinstance" p) [a, .Tuple es x1 tp] [] pos) (tIsT X.K ta tc) := by
  refine ⟨fun pins s σ H Q I h => ?_⟩
  refine wpAny_Call_Name_kw (ld_blt I hg hm (by decide +kernel : bootBuiltins "isinstance" = some (.builtin "isinstance")) ?_ (by decide) (by decide))
  refine PyProof.Rows.callWith_builtin1 (rest := [.Tuple es x1 tp]) ?_ he rfl
  rw [he]
  show wpAny _ _ (spliced [(false, eval a X.env), (false, eval (.Tuple es x1 tp) X.env)]) _ _ _
  refine Calls.spliced_cons (thn (ha.run pins s σ H _ I h) fun u s1 ⟨x, H1, I1, rx, q1⟩ => ?_)
  refine Calls.spliced_cons (wpAny_Tuple_spliced (x1 := x1) (thn (hc.run tp pins s1 σ H1 _ I1 q1) fun us s2 hh => ?_))
  obtain ⟨cs, H2, I2, rc, hz, y, D, ws, b, ex, hy, C, hcl, hk, q⟩ := hh
  subst ex
  cases (show u = Value.ref y from rx)
  refine ⟨by rw [← rc.length]; exact hz, Calls.spliced_nil ?_⟩
  have e3 := ClsV.all hcl rc
  subst e3
  have I3 : Inv X pins σ H2 { s2 with heap := s2.heap.push { cls := .type "tuple", data := .seq us.toArray } } := I2.kept (t' := s2.toks) fun _ _ e => Heap.get?_push_of_some _ e
  obtain ⟨P, Z, p⟩ := exA_kit I3 hy C
  exact PySem.W.kia_tup Z I3.kIn p (Heap.get?_push_size _ rfl) hk (fun z => nomatch z) fun tk => ⟨.bl b, H2, I3.tok tk, rfl, q⟩

/-! ## operators by the kinds of their values -/
def gAdd : R2
  | .int i, .int j, H, Q => Q (.int (i + j)) H
  | .str i, .str j, H, Q => i.length + j.length ≤ sizeLine ∧ Q (.str (i ++ j)) H
  | .ref a, .ref b, H, Q => ∃ xs zs, H a = some (.lst xs) ∧ H b = some (.lst zs) ∧ xs.length + zs.length ≤ sizeLine ∧ ∀ p, H p = none → Q (.ref p) (upd H p (.lst (xs ++ zs)))
  | _, _, _, _ => False
theorem op_gAdd : OpR X (binaryOp .Add) gAdd := by
  intro pins s σ H x y v u Q I rx ry h
  unfold gAdd at h
  split at h
  · exact op_add pins s σ _ _ _ v u Q I rx ry ⟨_, _, rfl, rfl, h⟩
  · exact op_add_str pins s σ _ _ _ v u Q I rx ry ⟨_, _, rfl, rfl, h.1, h.2⟩
  · obtain ⟨xs, zs, h1, h2, h3, h4⟩ := h
    exact op_cat pins s σ _ _ _ v u Q I rx ry ⟨_, _, xs, zs, rfl, rfl, h1, h2, h3, h4⟩
  · exact h.elim
def gMul : R2
  | .int i, .int j, H, Q => ((-(2 ^ 64) < i ∧ i < 2 ^ 64) ∨ (-(2 ^ 64) < j ∧ j < 2 ^ 64)) ∧ Q (.int (i * j)) H
  | .str z, .int n, H, Q => (n = 0 ∨ n = 1) ∧ Q (.str (if n = 1 then z else Str.empty)) H
  | .ref a, .int k, H, Q => ∃ xs, H a = some (.lst xs) ∧ -(2 ^ 63) ≤ k ∧ k < 2 ^ 63 ∧ xs.length * k.toNat ≤ sizeLine ∧ ∀ p, H p = none → Q (.ref p) (upd H p (.lst ((List.replicate k.toNat xs).flatten)))
  | _, _, _, _ => False
theorem op_gMul : OpR X (binaryOp .Mult) gMul := by
  intro pins s σ H x y v u Q I rx ry h
  unfold gMul at h
  split at h
  · exact op_mul pins s σ _ _ _ v u Q I rx ry ⟨_, _, rfl, rfl, h.1, h.2⟩
  · rename_i z n
    obtain ⟨hn, q⟩ := h
    obtain ⟨t, rfl⟩ := rx
    obtain ⟨t', rfl⟩ := ry
    rcases hn with rfl | rfl
    · exact PySem.P.mul_str_none (by decide) (by decide) ⟨.str Str.empty, _, I.tok _, ⟨_, rfl⟩, q⟩
    · refine PySem.P.mul_str (by decide) (fun _ z => by simp at z) (fun _ z => by simp at z) ?_
      exact ⟨.str z, _, I, ⟨_, rfl⟩, q⟩
  · obtain ⟨xs, h1, h2, h3, h4, h5⟩ := h
    exact op_rep pins s σ _ _ _ v u Q I rx ry ⟨_, _, xs, rfl, rfl, h1, h2, h3, h4, h5⟩
  · exact h.elim
/-- == : flat values; else data of any depth -/
def gEq (K : PySem.W.Frag) : R2 := fun x y H Q => if flatV x && flatV y then Q (.bl (eqV x y)) H else rEqD K x y H Q
def gNe (K : PySem.W.Frag) : R2 := fun x y H Q => if flatV x && flatV y then Q (.bl (!eqV x y)) H else rNeD K x y H Q
theorem flat_eqv {K : PySem.W.Frag} {H : Hp} {x y : V} (hx : flatV x = true) (hy : flatV y = true) :
    (scal x y = true ∧ decide (x = y) = eqV x y) ∨ ∃ d e, Dp K H x d ∧ Dp K H y e ∧ SeqAt.shaped d = true ∧ SeqAt.shaped e = true ∧ PyData.eqv d e = eqV x y := by
  cases x <;> first | (cases hx; done) | skip
  all_goals (cases y <;> first | (cases hy; done) | skip)
  case bl.int b i => exact .inr ⟨_, _, .bl b, .int i, by cases b <;> decide, rfl, rfl⟩
  case int.bl i b => exact .inr ⟨_, _, .int i, .bl b, rfl, by cases b <;> decide, rfl⟩
  all_goals refine .inl ⟨rfl, ?_⟩
  all_goals first
    | rfl
    | exact dec_int
    | exact dec_bl
    | exact dec_str
theorem op_gEq (hu : X.A.units + 64 < cLine) : OpR X (compareOp .Eq) (gEq X.K) := by
  intro pins s σ H x y v u Q I rx ry h
  unfold gEq at h
  split at h
  · rename_i c
    obtain ⟨c1, c2⟩ := Bool.and_eq_true_iff.mp c
    rcases flat_eqv (K := X.K) (H := H) c1 c2 with ⟨h1, h2⟩ | ⟨d, e, h1, h2, h3, h4, h5⟩
    · exact op_eq pins s σ _ _ _ v u Q I rx ry ⟨h1, by rw [h2]; exact h⟩
    · exact op_eqD hu pins s σ _ _ _ v u Q I rx ry ⟨d, e, h1, h2, h3, h4, by rw [h5]; exact h⟩
  · exact op_eqD hu pins s σ _ _ _ v u Q I rx ry h
theorem op_gNe (hu : X.A.units + 64 < cLine) : OpR X (compareOp .NotEq) (gNe X.K) := by
  intro pins s σ H x y v u Q I rx ry h
  unfold gNe at h
  split at h
  · rename_i c
    obtain ⟨c1, c2⟩ := Bool.and_eq_true_iff.mp c
    rcases flat_eqv (K := X.K) (H := H) c1 c2 with ⟨h1, h2⟩ | ⟨d, e, h1, h2, h3, h4, h5⟩
    · exact op_ne pins s σ _ _ _ v u Q I rx ry ⟨h1, by rw [h2]; exact h⟩
    · exact op_neD hu pins s σ _ _ _ v u Q I rx ry ⟨d, e, h1, h2, h3, h4, by rw [h5]; exact h⟩
  · exact op_neD hu pins s σ _ _ _ v u Q I rx ry h
/-- abs, int(..) -/
def gAbs : List V → Hp → VK → Prop
  | [.int i], H, Q => Q (.int (i.natAbs : Int)) H
  | _, _, _ => False
theorem call_gAbs : CallR X (.builtin "abs") gAbs := by
  intro pins s σ H xs us Q I r h
  unfold gAbs at h
  split at h
  · rename_i i
    refine call_abs pins s σ _ _ us Q I r ⟨i, rfl, ?_⟩
    have e : (if i < 0 then -i else i) = (i.natAbs : Int) := by split <;> omega
    rw [e]
    exact h
  · exact h.elim
def gInt : List V → Hp → VK → Prop
  | [.int i], H, Q => Q (.int i) H
  | [.bl k], H, Q => Q (.int (if k then 1 else 0)) H
  | _, _, _ => False
theorem call_gInt : CallR X (.type "int") gInt := by
  intro pins s σ H xs us Q I r h
  unfold gInt at h
  split at h
  · exact call_int1 pins s σ _ _ us Q I r (.inl ⟨_, rfl, h⟩)
  · exact call_int1 pins s σ _ _ us Q I r (.inr ⟨_, rfl, h⟩)
  · exact h.elim
end
end G
namespace G
open PySem PySem.Spec PyProof.Rows L2
open He (ga ma fAd Fa DefD SaysD)
/-! ## what the top has written, by names -/
/-- what isinstance asks of an error's class -/
def excB (K : PySem.W.Frag) (D : Addr) : Bool :=
  (decide (PySem.W.findIn K (.ref D) "__getattribute__" = some (some (.builtin "BaseException.__getattribute__"))) && (decide (PySem.W.findIn K (.ref D) "__getattr__" = some none) && (decide (PySem.W.subIn K (.ref D) (.type "BaseException") = some true) && PySem.W.hasDictIn K D))) &&
  (decide (PySem.W.findIn K (.ref D) "__class__" = some (some (.builtin "object.__class__"))) && (decide (PySem.W.specialIn K (.builtin "object.__class__") "__get__" = some (some (.builtin "getset_descriptor.__get__"))) &&
    (decide (PySem.W.takesIn K (.builtin "object.__class__") = some true) && decide (PySem.W.mroIn K D (.type "object") = some true))))
theorem excB_ok {K : PySem.W.Frag} {D : Addr} (h : excB K D = true) : ExcC K D := by
  obtain ⟨h1, h2⟩ := He.ba h
  obtain ⟨a1, h1⟩ := He.ba h1
  obtain ⟨a2, h1⟩ := He.ba h1
  obtain ⟨a3, a4⟩ := He.ba h1
  obtain ⟨b1, h2⟩ := He.ba h2
  obtain ⟨b2, h2⟩ := He.ba h2
  obtain ⟨b3, b4⟩ := He.ba h2
  exact ⟨of_decide_eq_true a1, of_decide_eq_true a2, of_decide_eq_true a3, a4, of_decide_eq_true b1, of_decide_eq_true b2, of_decide_eq_true b3, of_decide_eq_true b4⟩
/-- d is a class under c -/
def under (d c : Str) : Bool := d == c || c == "KeepError"
/-- a class of the module, no text -/
structure ClN (K : PySem.W.Frag) (C : Addr) : Prop where
  ha : PySem.W.findIn K (.ref C) "__class__" = some (some (.builtin "object.__class__"))
  hn : PySem.W.specialIn K (.builtin "object.__class__") "__get__" = some (some (.builtin "getset_descriptor.__get__"))
  htk : PySem.W.takesIn K (.builtin "object.__class__") = some true
  hm : PySem.W.mroIn K C (.type "object") = some true
  no : PySem.W.kitOne K (.ref C) (.type "str") = some false
def clB (K : PySem.W.Frag) (C : Addr) : Bool := (decide (PySem.W.findIn K (.ref C) "__class__" = some (some (.builtin "object.__class__"))) && (decide (PySem.W.specialIn K (.builtin "object.__class__") "__get__" = some (some (.builtin "getset_descriptor.__get__"))) &&
  (decide (PySem.W.takesIn K (.builtin "object.__class__") = some true) && (decide (PySem.W.mroIn K C (.type "object") = some true) && decide (PySem.W.kitOne K (.ref C) (.type "str") = some false)))))
theorem clB_ok {K : PySem.W.Frag} {C : Addr} (h : clB K C = true) : ClN K C := by
  obtain ⟨h1, h⟩ := He.ba h
  obtain ⟨h2, h⟩ := He.ba h
  obtain ⟨h3, h⟩ := He.ba h
  obtain ⟨h4, h5⟩ := He.ba h
  exact ⟨of_decide_eq_true h1, of_decide_eq_true h2, of_decide_eq_true h3, of_decide_eq_true h4, of_decide_eq_true h5⟩
structure XL where
  (ex cl : List Str)
/-- the errors' classes, and others -/
def exOk1 (L : List Str) (K : PySem.W.Frag) : Bool := L.all fun d => excB K (ga K d) && (decide (PySem.W.kitOne K (.ref (ga K d)) (.type "ValueError") = some true) &&
  (L.all fun c => decide (PySem.W.kitOne K (.ref (ga K d)) (.ref (ga K c)) = some (under d c)) && decide (PySem.W.exmOne K (.ref (ga K d)) (.ref (ga K c)) = some (under d c))))
def exOk (L : XL) (K : PySem.W.Frag) : Bool := exOk1 L.ex K && L.cl.all fun c => clB K (ga K c)
structure Told (fa : List Fa) (fn : List DefD) (xl : XL) (K : PySem.W.Frag) (mg : Str → Option Value) : Prop where
  ex : ∃ h : Heap, K.In h ∧ h.Ns mainGlobals mg
  says : SaysD fa fn K
  errs : exOk xl K = true
/-- what an object names, but for its class and the classes over it -/
def refsX (o : Obj) : List Addr := (match o.data with
  | .seq its _ => its.toList.flatMap He.refV
  | .dict es _ => es.toList.flatMap fun e => He.refV e.val
  | .func fd => He.refV fd.code ++ He.refV fd.defaults ++ He.refV fd.kwdefaults ++ fd.closure.map (·.2)
  | .cls cd => [cd.ns]
  | .fields vs => vs.toList.flatMap He.refV
  | .cell (some v) => He.refV v
  | _ => []) ++ match o.dict with
  | some d => [d]
  | none => []
def nextX (g : Addr → Option Obj) (as : List Addr) : List Addr := as.flatMap fun a => match g a with
  | some o => refsX o
  | none => []
/-- what the module's names lead to, level by level -/
def asX (g : Addr → Option Obj) : Nat → List Addr → List Addr
  | 0, as => as
  | n + 1, as => as ++ asX g n (nextX g as)
/-- the head's look -/
def lookG (n : Nat) (fa : List Fa) (fn : List DefD) (xl : XL) (g : Addr → Option Obj) : He.AlD × Bool := (He.obsD fa fn (He.frG g (asX g n [mainGlobals])), exOk xl (He.frG g (asX g n [mainGlobals])))
def hookG (n : Nat) (fa : List Fa) (fn : List DefD) (xl : XL) : PySem.W.Hook where
  α := He.AlD × Bool
  obs := fun s => lookG n fa fn xl s.heap.get?
  val := fun _ => (He.valD fn, true)
  says := fun _ h => ∃ K : PySem.W.Frag, K.In h ∧ SaysD fa fn K ∧ exOk xl K = true
  of := fun _ _ e => ⟨_, He.frG_in, congrArg (fun z : He.AlD × Bool => z.1) e, congrArg (fun z : He.AlD × Bool => z.2) e⟩
  keeps := fun _ _ _ ⟨K, hK, c⟩ k => ⟨K, PySem.W.Frag.In.keeps hK k, c⟩
theorem lookG_eq {n : Nat} {fa : List Fa} {fn : List DefD} {xl : XL} {g : Addr → Option Obj} {s : Shared} (h : ∀ a, g a = s.heap.get? a) : lookG n fa fn xl g = (hookG n fa fn xl).obs s := by
  have e : g = s.heap.get? := funext h
  rw [e]
  rfl
section
variable {fa : List Fa} {fn : List DefD} {xl : XL} {K : PySem.W.Frag} {mg : Str → Option Value}
theorem Told.glo (T : Told fa fn xl K mg) (i : Nat) {x : Str} (h : fa[i]? = some (.glo x) := by rfl) : mg x = some (.ref (ga K x)) := let ⟨_, X, N⟩ := T.ex; He.glo_ok X N (T.says.fact i h)
theorem Told.free (T : Told fa fn xl K mg) (i : Nat) {x : Str} (h : fa[i]? = some (.free x) := by rfl) : mg x = none := let ⟨_, X, N⟩ := T.ex; He.free_ok X N (T.says.fact i h)
theorem Told.num (T : Told fa fn xl K mg) (i : Nat) {x : Str} {n : Int} (h : fa[i]? = some (.int x n) := by rfl) : ∃ t, mg x = some (.int n t) := let ⟨_, X, N⟩ := T.ex; He.int_ok X N (T.says.fact i h)
theorem Told.txt (T : Told fa fn xl K mg) (i : Nat) {x z : Str} (h : fa[i]? = some (.str x z) := by rfl) : ∃ t, mg x = some (.str z t) := let ⟨_, X, N⟩ := T.ex; He.str_ok X N (T.says.fact i h)
theorem Told.err (T : Told fa fn xl K mg) {d : Str} (h : d ∈ xl.ex) : ExcC K (ga K d) ∧ PySem.W.kitOne K (.ref (ga K d)) (.type "ValueError") = some true ∧
    ∀ c ∈ xl.ex, PySem.W.kitOne K (.ref (ga K d)) (.ref (ga K c)) = some (under d c) ∧ PySem.W.exmOne K (.ref (ga K d)) (.ref (ga K c)) = some (under d c) := by
  obtain ⟨h1, h2⟩ := He.ba (List.all_eq_true.mp (He.ba T.errs).1 d h)
  obtain ⟨h3, h4⟩ := He.ba h2
  refine ⟨excB_ok h1, of_decide_eq_true h3, fun c hc => ?_⟩
  obtain ⟨h5, h6⟩ := He.ba (List.all_eq_true.mp h4 c hc)
  exact ⟨of_decide_eq_true h5, of_decide_eq_true h6⟩
theorem Told.cln (T : Told fa fn xl K mg) {c : Str} (h : c ∈ xl.cl) : ClN K (ga K c) := clB_ok (List.all_eq_true.mp (He.ba T.errs).2 c h)
/-- isinstance(e, c) of an error of class d -/
theorem Told.isE (T : Told fa fn xl K mg) {d c : Str} {a : Addr} {H : Hp} {Q : VK} (ha : H a = some (ExA (.ref (ga K d)) a)) (hd : d ∈ xl.ex) (hc : c ∈ xl.ex) (q : Q (.bl (under d c)) H) : gIsE K [.ref a, .ref (ga K c)] H Q :=
  ⟨_, _, _, ha, (T.err hd).1, .own _, ((T.err hd).2.2 c hc).1, q⟩
theorem Told.isY (T : Told fa fn xl K mg) {d c : Str} {a : Addr} {H : Hp} {Q : VK} (ha : H a = some (ExA (.ref (ga K d)) a)) (hd : d ∈ xl.ex) (hc : c ∈ xl.ex) (e : under d c = true) (q : Q (.bl true) H) : gIsE K [.ref a, .ref (ga K c)] H Q := T.isE ha hd hc (e ▸ q)
theorem Told.isN (T : Told fa fn xl K mg) {d c : Str} {a : Addr} {H : Hp} {Q : VK} (ha : H a = some (ExA (.ref (ga K d)) a)) (hd : d ∈ xl.ex) (hc : c ∈ xl.ex) (e : under d c = false) (q : Q (.bl false) H) : gIsE K [.ref a, .ref (ga K c)] H Q := T.isE ha hd hc (e ▸ q)
theorem Told.isV (T : Told fa fn xl K mg) {d : Str} {a : Addr} {H : Hp} {Q : VK} (ha : H a = some (ExA (.ref (ga K d)) a)) (hd : d ∈ xl.ex) (q : Q (.bl true) H) : gIsE K [.ref a, .ty "ValueError"] H Q :=
  ⟨_, _, _, ha, (T.err hd).1, .ty _, (T.err hd).2.1, q⟩
end
section
variable {fa : List Fa} {fn : List DefD} {xl : XL} {K : PySem.W.Frag} {mg : Str → Option Value}
/-- an error of class d reaches «except c», c over it -/
theorem Told.caught (T : Told fa fn xl K mg) {d c : Str} {i : Nat} {ts : TS} {Wo : WX} {D : Ends} {σ : L2.St} {H : Hp} (hd : d ∈ xl.ex) (hc : c ∈ xl.ex) (hu : under d c = true)
    (h : ∀ a, H a = none → ts { nx := fun σ' H' => D.nx (σ'.set i none) H', rt := D.rt, bk := fun σ' H' => D.bk (σ'.set i none) H', ct := fun σ' H' => D.ct (σ'.set i none) H' } (σ.set i (some (.ref a))) (upd H a (ExA (.ref (ga K d)) a))) :
    wTr K (.ref (ga K c)) i ts Wo D (.ref (ga K d)) none σ H :=
  ⟨true, by rw [((T.err hd).2.2 c hc).2, hu], fun _ => ⟨rfl, h⟩, fun z => by cases z⟩
end
/-- the function object at f -/
def fdAt (K : PySem.W.Frag) (f : Addr) : FuncData := match K.lookup f with
  | some ⟨_, _, .func fd, _⟩ => fd
  | _ => PySem.W.fnOf "" "" { posonlyargs := [], args := [], vararg := none, kwonlyargs := [], kw_defaults := [], kwarg := none, defaults := [] } [] { kind := .function, names := [], isGenerator := false, isCoroutine := false } .none .none .none .none none .none .none
theorem fdAt_of {K : PySem.W.Frag} {x qual : Str} {params : Arguments} {body : List Stmt} {scope : Scope} {dvs : List V} {kws : List (Str × V)} {f : Addr} {fd : FuncData} (F : FunD K x qual params body scope dvs kws f fd) : fd = fdAt K f := by
  obtain ⟨oc, od, dV, kV, doc, pm, an, cdv, ct, osl, rfl, lk, -⟩ := F.ex
  unfold fdAt
  rw [lk]
/-- every argument is given -/
def Bnd (fd : FuncData) (ps : List Str) : Prop := ∀ (s : Shared) (us : List Value), us.length = ps.length → BindsTo s fd ⟨us, []⟩ (ps.zip us)
theorem Bnd.to {K : PySem.W.Frag} {fd : FuncData} {ps : List Str} (b : Bnd fd ps) : Binds K fd ps [] := fun s us _ hl => by
  rw [List.append_nil] at hl ⊢
  exact b s us hl
/-- a def of the module: its promise sp -/
structure Fn (P : Program) (w : World) (K : PySem.W.Frag) (mg : Str → Option Value) (base : Heap) (k : Nat) (x : Str) (ps : List Str) (sp : Sp) : Prop where
  ok : FnOk P w K mg base (L2.CX P w) k (ga K x) (fdAt K (ga K x)) ps sp
  bd : Bnd (fdAt K (ga K x)) ps
  kp : PySem.W.keepIn K (.ref (ga K x)) = true
  at_ : mg x = some (.ref (ga K x))
/-- nothing is raised -/
theorem quiet {P : Program} {w : World} {K : PySem.W.Frag} {mg : Str → Option Value} {base : Heap} {k : Nat} {f : Addr} {fd : FuncData} {ps : List Str} {sp : Sp} (F : FnOk P w K mg base (L2.CX P w) k f fd ps sp) (h0 : ∀ vs H Q E, sp vs H Q E → sp vs H Q E0) : FnOk P w K mg base CX0 k f fd ps sp :=
  ⟨F.len, fun A outer s H args us vs Q E hr e0 hb r hsp => codeAny_mono (F.run A outer s H args us vs Q E0 hr e0 hb r (h0 _ _ _ _ hsp)) fun r s' hq => by
    cases r with
    | error e =>
      obtain ⟨_, _, _, _, _, _, _, _, _, _, _, _, y⟩ := hq
      exact y.elim
    | ok fl => cases fl with
      | ret u => exact hq
      | next => exact hq.elim
      | brk => exact hq.elim
      | cont => exact hq.elim⟩
/-- .. that may be called in an except suite, too -/
structure FnH (P : Program) (w : World) (K : PySem.W.Frag) (mg : Str → Option Value) (base : Heap) (k : Nat) (x : Str) (ps : List Str) (sp : Sp) : Prop where
  ok : FnN P w K mg base k (ga K x) (fdAt K (ga K x)) ps sp
  bd : Bnd (fdAt K (ga K x)) ps
  kp : PySem.W.keepIn K (.ref (ga K x)) = true
  at_ : mg x = some (.ref (ga K x))
section
variable {fa : List Fa} {fn : List DefD} {xl : XL} {P : Program} {w : World} {K : PySem.W.Frag} {mg : Str → Option Value} {base : Heap}
theorem Told.mkFn (T : Told fa fn xl K mg) (i j : Nat) {d : DefD} {x : Str} {N ps : List Str} {k : Nat} {sp : Sp} (hd : fn[i]? = some d) (hx : d.at_ = (x, none)) (h0 : d.dfl = []) (h1 : d.kwd = []) (hg : fa[j]? = some (.glo x)) (S : FnScope N ps d.scope)
    (bnd : ∀ (kV doc pm : Value) (an : Option Addr) (cdv ct : Value) (us : List Value), us.length = ps.length → bindArgs (PySem.W.fnOf d.name d.qual d.params d.body d.scope .none kV doc pm an cdv ct) ⟨us, []⟩ = pure (ps.zip us))
    (len : ∀ vs H Q E, sp vs H Q E → vs.length = ps.length)
    (body : ∀ (cdv : Value) (A : Around) (outer : List Env) (s : Shared) (H : Hp) (vs : List V) (Q : VK) (E : XK), Room k (A.deeper (envOfC d.qual d.scope s.heap.objs.size (ga K x) cdv)) → sp vs H Q E →
      ∃ t, PSs (cxOf (L2.CX P w) P w K mg base N d.qual d.scope (ga K x) cdv A outer s H E) d.body t ∧ t { nx := fun _ H' => Q .non H', rt := Q } (start N vs) H) : Fn P w K mg base (k + 1) x ps sp := by
  obtain ⟨fd, F⟩ := T.says.def_ i hd
  have e : fAd K d.at_ = ga K x := by rw [hx]; rfl
  have e0 : d.dvs K = [] := by unfold DefD.dvs; rw [h0]; rfl
  have e1 : d.kws K = [] := by unfold DefD.kws; rw [h1]; rfl
  rw [e, e0, e1] at F
  have ef := fdAt_of F
  subst ef
  exact ⟨F.ok S len body, F.bindsA bnd, F.kp, T.glo j hg⟩
theorem Told.mkFnH (T : Told fa fn xl K mg) (i j : Nat) {d : DefD} {x : Str} {N ps : List Str} {k : Nat} {sp : Sp} (hd : fn[i]? = some d) (hx : d.at_ = (x, none)) (h0 : d.dfl = []) (h1 : d.kwd = []) (hg : fa[j]? = some (.glo x)) (S : FnScope N ps d.scope)
    (bnd : ∀ (kV doc pm : Value) (an : Option Addr) (cdv ct : Value) (us : List Value), us.length = ps.length → bindArgs (PySem.W.fnOf d.name d.qual d.params d.body d.scope .none kV doc pm an cdv ct) ⟨us, []⟩ = pure (ps.zip us))
    (len : ∀ vs H Q E, sp vs H Q E → vs.length = ps.length)
    (body : ∀ (cdv : Value) (A : Around) (outer : List Env) (s : Shared) (H : Hp) (vs : List V) (Q : VK), RoomN k (A.deeper (envOfC d.qual d.scope s.heap.objs.size (ga K x) cdv)) → sp vs H Q E0 →
      ∃ t, PSs (cxN P w K mg base N d.qual d.scope (ga K x) cdv A outer s H) d.body t ∧ t { nx := fun _ H' => Q .non H', rt := Q } (start N vs) H) : FnH P w K mg base (k + 1) x ps sp := by
  obtain ⟨fd, F⟩ := T.says.def_ i hd
  have e : fAd K d.at_ = ga K x := by rw [hx]; rfl
  have e0 : d.dvs K = [] := by unfold DefD.dvs; rw [h0]; rfl
  have e1 : d.kws K = [] := by unfold DefD.kws; rw [h1]; rfl
  rw [e, e0, e1] at F
  have ef := fdAt_of F
  subst ef
  exact ⟨fn_ofN F S len body, F.bindsA bnd, F.kp, T.glo j hg⟩
end
section
variable {X : Cx} {k : Nat} {ps : List Str} {sp : Sp} {W : WX} {x : Str} {p pos : Pos} {e : Expr} {es : List Expr} {t : TA}
theorem pe_fn (tk : Takes X W) (F : Fn X.prog X.w X.K X.mg X.base k x ps sp) (hr : Room k X.A) (hg : Gl X x) (ha : PA X (e :: es) t) (hdb : (x == ("__debug__" : Str)) = false := by decide)
    (he : starEach (e :: es) X.env = (false, eval e X.env) :: starEach es X.env := by rfl) (hpl : (backTo pos (starEach es X.env)).any (·.1) = false := by rfl) : PE X (.Call (.Name x p) (e :: es) [] pos) (tCallW sp W t) := by
  exact pe_callW tk F.ok hr hg F.at_ F.kp F.bd.to ha hdb he hpl
theorem pe_fn0 (tk : Takes X W) (F : Fn X.prog X.w X.K X.mg X.base k x ps sp) (hr : Room k X.A) (hg : Gl X x) (hdb : (x == ("__debug__" : Str)) = false := by decide) : PE X (.Call (.Name x p) [] [] pos) (tCallW sp W tNil) := by
  exact pe_callW0 tk F.ok hr hg F.at_ F.kp F.bd.to hdb
theorem pe_fnH (F : FnH X.prog X.w X.K X.mg X.base k x ps sp) (hr : RoomN k X.A) (hg : Gl X x) (ha : PA X (e :: es) t) (hdb : (x == ("__debug__" : Str)) = false := by decide)
    (he : starEach (e :: es) X.env = (false, eval e X.env) :: starEach es X.env := by rfl) (hpl : (backTo pos (starEach es X.env)).any (·.1) = false := by rfl) : PE X (.Call (.Name x p) (e :: es) [] pos) (tCallN sp t) := by
  exact pe_callN F.ok hr hg F.at_ F.kp F.bd.to ha hdb he hpl
theorem call_gLen : CallR X (.builtin "len") (L2.rLen X.K) := call_len
theorem call_lenK {K : PySem.W.Frag} (hK : X.K = K) : CallR X (.builtin "len") (L2.rLen K) := hK ▸ call_len
theorem op_eqK {K : PySem.W.Frag} (hK : X.K = K) (hu : X.A.units + 64 < cLine) : OpR X (compareOp .Eq) (gEq K) := hK ▸ op_gEq hu
theorem op_neK {K : PySem.W.Frag} (hK : X.K = K) (hu : X.A.units + 64 < cLine) : OpR X (compareOp .NotEq) (gNe K) := hK ▸ op_gNe hu
theorem ix_seqK {K : PySem.W.Frag} (hK : X.K = K) : IxR X (rIx K) := hK ▸ ix_seq
theorem call_isEK {K : PySem.W.Frag} (hK : X.K = K) : CallR X (.builtin "isinstance") (gIsE K) := hK ▸ call_gIsE
theorem sl_listK {K : PySem.W.Frag} (hK : X.K = K) : SlR X (rSlL K) := hK ▸ sl_list
theorem pi_listK {K : PySem.W.Frag} {tg l : Expr} {tl : TE} (hK : X.K = K) (h : PE X l tl) : PI X tg l (iList K tl) := hK ▸ pi_list h
def rListG (K : PySem.W.Frag) : List V → Hp → VK → Prop := fun xs H Q => ∃ p ys, xs = [.ref p] ∧ (SqL K H p ys ∨ SqT K H p ys) ∧ ∀ l, H l = none → Q (.ref l) (upd H l (.lst ys))
theorem call_listK {K : PySem.W.Frag} (hK : X.K = K) : CallR X (.type "list") (rListG K) := hK ▸ call_list_of
theorem pe_clsK {K : PySem.W.Frag} (hK : X.K = K) (h : X.mg x = some (.ref (ga K x))) (hg : Gl X x) (hdb : (x == ("__debug__" : Str)) = false := by decide) : PE X (.Name x pos) (tC (.ref (ga K x))) := pe_glob hg h rfl hdb
/-- a constant of the module -/
theorem pe_num {n : Int} (h : ∃ t, X.mg x = some (.int n t)) (hg : Gl X x) (hdb : (x == ("__debug__" : Str)) = false := by decide) : PE X (.Name x pos) (tC (.int n)) := by
  obtain ⟨t, e⟩ := h
  exact pe_glob hg e ⟨t, rfl⟩ hdb
theorem pe_txt {z : Str} (h : ∃ t, X.mg x = some (.str z t)) (hg : Gl X x) (hdb : (x == ("__debug__" : Str)) = false := by decide) : PE X (.Name x pos) (tC (.str z)) := by
  obtain ⟨t, e⟩ := h
  exact pe_glob hg e ⟨t, rfl⟩ hdb
/-- a class of the module as a value; a built-in class -/
theorem pe_cls (h : X.mg x = some (.ref (ga X.K x))) (hg : Gl X x) (hdb : (x == ("__debug__" : Str)) = false := by decide) : PE X (.Name x pos) (tC (.ref (ga X.K x))) := pe_glob hg h rfl hdb
theorem pe_ty {T : String} (hm : X.mg x = none) (hv : bootBuiltins x = some (.type T)) (hg : Gl X x) (hn : x ≠ "__name__" := by decide) (hdb : (x == ("__debug__" : Str)) = false := by decide) : PE X (.Name x pos) (tC (.ty T)) := pe_bltn hg hm hv rfl hn hdb
/-- raise C('..') -/
def tRaise (C : Addr) (W : WX) : TS := fun _ σ H => W (.ref C) none σ H
theorem ps_raiseK {K : PySem.W.Frag} {m : Str} {j : Nat} {p2 pos2 : Pos} (hK : X.K = K) (hc : X.calm = true) (tk : Takes X W) (h : (Fa.exc x).ok K = true) (hm : X.mg x = some (.ref (ga K x))) (hg : Gl X x) (hdb : (x == ("__debug__" : Str)) = false := by decide) :
    PS X (.Raise (some (.Call (.Name x p) [.Constant (.str m) j p2] [] pos)) none pos2) (tRaise (ga K x) W) := by
  subst hK
  obtain ⟨h1, h2, h3, h4⟩ := He.exc_ok h
  exact ps_raise hc tk (pmk_own PySem.F.excBase_ValueError h1 hm h2 (raises_own h3 h4) hg hdb)
theorem ps_raiseW {m : Str} {j : Nat} {p2 pos2 : Pos} (hc : X.calm = true) (tk : Takes X W) (h : (Fa.exc x).ok X.K = true) (hm : X.mg x = some (.ref (ga X.K x))) (hg : Gl X x) (hdb : (x == ("__debug__" : Str)) = false := by decide) :
    PS X (.Raise (some (.Call (.Name x p) [.Constant (.str m) j p2] [] pos)) none pos2) (tRaise (ga X.K x) W) := by
  obtain ⟨h1, h2, h3, h4⟩ := He.exc_ok h
  exact ps_raise hc tk (pmk_own PySem.F.excBase_ValueError h1 hm h2 (raises_own h3 h4) hg hdb)
end

/-! ## readings, step by step -/
section
variable {σ : L2.St} {H : Hp} {Q : VK} {QT : Bool → Hp → Prop} {QA : List V → Hp → Prop} {D : Ends} {v x y z : V} {i : Nat} {o : Option V} {ta tb te tc : TE} {t u c : TT} {ts us : TS} {as : TA} {r r' : R2} {g : TG} {b : Bool}
theorem x_K {CX : CXT} {P : Program} {w : World} {K : PySem.W.Frag} {mg : Str → Option Value} {base : Heap} {N : List Str} {qual : Str} {scope : Scope} {f : Addr} {cd : Value} {A : Around} {outer : List Env} {s : Shared} {E : XK} : (cxOf CX P w K mg base N qual scope f cd A outer s H E).K = K := rfl
theorem x_var0 : tVar 0 (some v :: σ) H Q = Q v H := propext ⟨fun ⟨_, e, q⟩ => by cases e; exact q, fun q => ⟨v, rfl, q⟩⟩
theorem x_varS : tVar (i + 1) (o :: σ) H Q = tVar i σ H Q := rfl
theorem x_c : tC v σ H Q = Q v H := rfl
theorem x_op : tOp r ta tb σ H Q = ta σ H fun x H1 => tb σ H1 fun y H2 => r x y H2 Q := rfl
theorem x_un {r : V → Hp → VK → Prop} : tUn r ta σ H Q = ta σ H fun x H1 => r x H1 Q := rfl
theorem x_cb {r : List V → Hp → VK → Prop} : tCB r as σ H Q = as σ H fun vs H1 => r vs H1 Q := rfl
theorem x_nil : tNil σ H QA = QA [] H := rfl
theorem x_cons : tCons te as σ H QA = te σ H fun x H1 => as σ H1 fun xs H2 => QA (x :: xs) H2 := rfl
theorem x_test : tTest te σ H QT = te σ H fun x H1 => ∃ k, x = .bl k ∧ QT k H1 := rfl
theorem x_b : tB te σ H QT = te σ H fun x H1 => ∃ k, x = .bl k ∧ QT k H1 := rfl
theorem x_ex {P : Bool → Prop} : (∃ k, V.bl b = .bl k ∧ P k) = P b := propext ⟨fun ⟨_, e, q⟩ => by cases e; exact q, fun q => ⟨b, rfl, q⟩⟩
theorem x_and : tAnd t u σ H QT = t σ H fun c H1 => if c = true then u σ H1 QT else QT false H1 := rfl
theorem x_or : tOr t u σ H QT = t σ H fun c H1 => if c = true then QT true H1 else u σ H1 QT := rfl
theorem x_not : tNot t σ H QT = t σ H fun c H1 => QT (!c) H1 := rfl
theorem x_andV : tAndV ta tb σ H Q = ta σ H fun x H1 => ∃ c, x = .bl c ∧ if c = true then tb σ H1 Q else Q (.bl false) H1 := rfl
theorem x_orV : tOrV ta tb σ H Q = ta σ H fun x H1 => ∃ c, x = .bl c ∧ if c = true then Q (.bl true) H1 else tb σ H1 Q := rfl
theorem x_notV : tNotV ta σ H Q = ta σ H fun x H1 => ∃ c, x = .bl c ∧ Q (.bl (!c)) H1 := rfl
theorem x_tif : tIf t ta tb σ H Q = t σ H fun c H1 => if c = true then ta σ H1 Q else tb σ H1 Q := rfl
theorem x_chain : tChain r r' ta tb tc σ H Q = ta σ H fun x H1 => tb σ H1 fun y H2 => r x y H2 fun z H3 => ∃ k, z = .bl k ∧ (if k = true then tc σ H3 fun u H4 => r' y u H4 Q else Q (.bl false) H3) := rfl
theorem x_menu : tMenu as te σ H Q = as σ H fun xs H1 => xs.length ≤ sizeLine ∧ te σ H1 fun y H2 => ∃ i v, y = .int i ∧ atI xs i = some v ∧ Q v H2 := rfl
theorem x_menuI {xs : List V} {n : Int} {P : V → Prop} : (∃ i v, V.int n = .int i ∧ atI xs i = some v ∧ P v) = ∃ v, atI xs n = some v ∧ P v := propext ⟨fun ⟨_, w, e, q⟩ => by cases e; exact ⟨w, q⟩, fun ⟨w, q⟩ => ⟨n, w, rfl, q⟩⟩
theorem x_lst : tLst as σ H Q = as σ H fun xs H1 => xs.length ≤ sizeLine ∧ ∀ p, H1 p = none → Q (.ref p) (upd H1 p (.lst xs)) := rfl
theorem x_tup : tTup as σ H Q = as σ H fun xs H1 => xs.length ≤ sizeLine ∧ ∀ p, H1 p = none → Q (.ref p) (upd H1 p (.tup xs)) := rfl
theorem x_dnew : tDNewK σ H Q = ∀ p, H p = none → Q (.ref p) (upd H p (.dK [])) := rfl
theorem x_callW {sp : Sp} {W : WX} : tCallW sp W as σ H Q = as σ H fun vs H1 => sp vs H1 Q fun c d H2 => W c d σ H2 := rfl
theorem x_callN {sp : Sp} : tCallN sp as σ H Q = as σ H fun vs H1 => sp vs H1 Q E0 := rfl
theorem x_seq : tSeq ts us D σ H = ts { D with nx := us D } σ H := rfl
theorem x_next : tNext D σ H = D.nx σ H := rfl
theorem x_ret : tRet te D σ H = te σ H D.rt := rfl
theorem x_retN : tRetN D σ H = D.rt .non H := rfl
theorem x_drop : tDrop te D σ H = te σ H fun _ H1 => D.nx σ H1 := rfl
theorem x_ifS : tIfS c ts us D σ H = c σ H fun b H1 => if b = true then ts D σ H1 else us D σ H1 := rfl
theorem x_asg : tAsg te g D σ H = te σ H fun x H1 => g x σ H1 D.nx := rfl
theorem x_name {N : L2.St → Hp → Prop} : gName i v σ H N = N (σ.set i (some v)) H := rfl
theorem x_raise {C : Addr} {W : WX} : tRaise C W D σ H = W (.ref C) none σ H := rfl
theorem x_start {N : List Str} {n : Str} {vs : List V} : start (n :: N) (v :: vs) = some v :: start N vs := by
  unfold L2.start
  simp only [List.map_cons, List.length_cons, List.cons_append, Nat.add_sub_add_right]
theorem x_start0 {N : List Str} : start N [] = List.replicate N.length none := by
  unfold L2.start
  simp
theorem q_str {a b : Str} (q : Q (.str a) H) (e : a = b) : Q (.str b) H := e ▸ q
theorem r_i0 {g : Int → Int → V} {a b : Int} : rI0 g (.int a) (.int b) H Q = Q (g a b) H := propext ⟨fun ⟨_, _, e, e', q⟩ => by cases e; cases e'; exact q, fun q => ⟨a, b, rfl, rfl, q⟩⟩
theorem r_i {C : Int → Int → Prop} {g : Int → Int → V} {a b : Int} : rI C g (.int a) (.int b) H Q = (C a b ∧ Q (g a b) H) := propext ⟨fun ⟨_, _, e, e', q⟩ => by cases e; cases e'; exact q, fun q => ⟨a, b, rfl, rfl, q⟩⟩
theorem r_u {g : Int → V} {a : Int} : rU g (.int a) H Q = Q (g a) H := propext ⟨fun ⟨_, e, q⟩ => by cases e; exact q, fun q => ⟨a, rfl, q⟩⟩
theorem r_addI {a b : Int} : gAdd (.int a) (.int b) H Q = Q (.int (a + b)) H := rfl
theorem r_addS {a b : Str} : gAdd (.str a) (.str b) H Q = (a.length + b.length ≤ sizeLine ∧ Q (.str (a ++ b)) H) := rfl
theorem r_mulI {a b : Int} : gMul (.int a) (.int b) H Q = (((-(2 ^ 64) < a ∧ a < 2 ^ 64) ∨ (-(2 ^ 64) < b ∧ b < 2 ^ 64)) ∧ Q (.int (a * b)) H) := rfl
theorem r_mulS {a : Str} {b : Int} : gMul (.str a) (.int b) H Q = ((b = 0 ∨ b = 1) ∧ Q (.str (if b = 1 then a else Str.empty)) H) := rfl
theorem r_eqI {K : PySem.W.Frag} {a b : Int} : gEq K (.int a) (.int b) H Q = Q (.bl (decide (a = b))) H := by
  show (if true = true then Q (.bl (a == b)) H else rEqD K (.int a) (.int b) H Q) = _
  rw [if_pos (rfl : true = true), Bool.beq_eq_decide_eq]
theorem r_neI {K : PySem.W.Frag} {a b : Int} : gNe K (.int a) (.int b) H Q = Q (.bl (!decide (a = b))) H := by
  show (if true = true then Q (.bl (!(a == b))) H else rNeD K (.int a) (.int b) H Q) = _
  rw [if_pos (rfl : true = true), Bool.beq_eq_decide_eq]
theorem r_eqF {K : PySem.W.Frag} (hx : flatV x = true) (hy : flatV y = true) : gEq K x y H Q = Q (.bl (eqV x y)) H := by unfold gEq; rw [hx, hy]; rfl
theorem r_neF {K : PySem.W.Frag} (hx : flatV x = true) (hy : flatV y = true) : gNe K x y H Q = Q (.bl (!eqV x y)) H := by unfold gNe; rw [hx, hy]; rfl
theorem r_eqS {K : PySem.W.Frag} {a b : Str} : gEq K (.str a) (.str b) H Q = Q (.bl (decide (a = b))) H := by
  show (if true = true then Q (.bl (a == b)) H else rEqD K (.str a) (.str b) H Q) = _
  rw [if_pos (rfl : true = true), Bool.beq_eq_decide_eq]
theorem r_neS {K : PySem.W.Frag} {a b : Str} : gNe K (.str a) (.str b) H Q = Q (.bl (!decide (a = b))) H := by
  show (if true = true then Q (.bl (!(a == b))) H else rNeD K (.str a) (.str b) H Q) = _
  rw [if_pos (rfl : true = true), Bool.beq_eq_decide_eq]
theorem n_ten : Int.natAbs 10 < 18446744073709551616 := by decide
theorem c_div {i j : Int} : CDiv i j = (0 < j ∧ j < 1073741824) := rfl
theorem c_pow {i j : Int} : CPow i j = (0 ≤ j ∧ j ≤ 1000000 ∧ i.natAbs < 2 ^ 64) := rfl
theorem r_absI {a : Int} : gAbs [.int a] H Q = Q (.int (a.natAbs : Int)) H := rfl
theorem r_intI {a : Int} : gInt [.int a] H Q = Q (.int a) H := rfl
theorem r_intB {k : Bool} : gInt [.bl k] H Q = Q (.int (if k then 1 else 0)) H := rfl
theorem r_lenL {K : PySem.W.Frag} {a : Addr} {xs : List V} (h : H a = some (.lst xs)) (q : Q (.int (xs.length : Int)) H) : L2.rLen K [.ref a] H Q := ⟨_, _, rfl, .inl ⟨_, SqL.of h, rfl⟩, q⟩
end
end G
namespace G
open PySem PySem.Spec PyProof.Rows L2
open He (ga ma fAd Fa DefD SaysD)
/-! ## classes of the module: fields, methods, instances -/
section
variable {fa : List Fa} {fn : List DefD} {xl : XL} {K : PySem.W.Frag} {mg : Str → Option Value}
theorem Told.cls (T : Told fa fn xl K mg) (i : Nat) {x : Str} (h : fa[i]? = some (.cls x) := by rfl) : Cls K (ga K x) := He.cls_ok (T.says.fact i h)
theorem Told.noat (T : Told fa fn xl K mg) (i : Nat) {x f : Str} (h : fa[i]? = some (.noat x f) := by rfl) : NoAttr K (ga K x) f := He.noat_ok (T.says.fact i h)
end
/-- x holds v in its field f, an instance of the class at C -/
def FldIs (C : Addr) (f : Str) (x : V) (H : Hp) (v : V) : Prop := ∃ a dx fs, x = .ref a ∧ H a = some (.ins C dx fs) ∧ fs.lookup f = some v
theorem fldIs {C : Addr} {f : Str} {a dx : Addr} {H : Hp} {fs : List (Str × V)} {v : V} (h : H a = some (.ins C dx fs)) (e : fs.lookup f = some v := by rfl) : FldIs C f (.ref a) H v := ⟨a, dx, fs, rfl, h, e⟩
def gFld (C : Addr) (ta : TE) (f : Str) : TE := fun σ H Q => ta σ H fun x H1 => ∃ v, FldIs C f x H1 v ∧ Q v H1
def gSetF (C : Addr) (ta tv : TE) (f : Str) : TS := fun D σ H => tv σ H fun y H1 => ta σ H1 fun x H2 => ∃ a dx fs, x = .ref a ∧ H2 a = some (.ins C dx fs) ∧ fs.length < 1000 ∧ D.nx σ (upd H2 a (.ins C dx (putF f y fs)))
section
variable {X : Cx} {C : Addr} {o e value : Expr} {f : Str} {pos pos' : Pos} {ta tv : TE}
theorem pe_fldC (c : Cls X.K C) (n : NoAttr X.K C f) (he : PE X e ta) (hb : attributeBase e f X.env (eval e X.env) = eval e X.env := by rfl) : PE X (.Attribute e f pos) (gFld C ta f) := by
  refine ⟨fun pins s σ H Q I h => attr_of hb (thn (he.run pins s σ H _ I h) fun u s1 hh => ?_)⟩
  obtain ⟨x, H1, I1, rx, v, ⟨a, dx, fs, ex, ea, l⟩, q⟩ := hh
  subst ex
  obtain rfl : u = Value.ref a := rx
  exact getattr_ok I1 ea c n l fun _ _ I2 ru => ⟨v, H1, I2, ru, q⟩
theorem ps_fldC (c : Cls X.K C) (n : NoAttr X.K C f) (ha : PE X o ta) (hv : PE X value tv) (hs : swapsWith value (some (.Attribute o f pos')) pos.line X.env = pure false := by rfl) : PS X (.Assign [.Attribute o f pos'] value pos) (gSetF C ta tv f) := by
  refine ⟨fun pins s σ H D I h => plainObj_wpAny_Assign_Attribute (thn (hv.run pins s σ H _ I h) fun u s1 hh => ?_) hs⟩
  obtain ⟨y, H1, I1, ry, q⟩ := hh
  refine thn (ha.run pins s1 σ H1 _ I1 q) fun ov s2 h2 => ?_
  obtain ⟨x, H2, I2, rx, a, dx, fs, ex, ea, l, q2⟩ := h2
  subst ex
  obtain rfl : ov = Value.ref a := rx
  exact setattr_ok I2 ea c n l ry fun _ I3 => ⟨σ, _, I3, q2⟩
end
/-- a method of a class of the module: its promise -/
structure Mt (P : Program) (w : World) (K : PySem.W.Frag) (mg : Str → Option Value) (base : Heap) (k : Nat) (C m : Str) (ps : List Str) (sp : Sp) : Prop where
  ok : FnOk P w K mg base (L2.CX P w) k (ma K (ga K C) m) (fdAt K (ma K (ga K C) m)) ps sp
  bd : Bnd (fdAt K (ma K (ga K C) m)) ps
  me : Meth K (ga K C) m (ma K (ga K C) m)
  cl : Cls K (ga K C)
/-- the __init__ of a class -/
structure Mi (P : Program) (w : World) (K : PySem.W.Frag) (mg : Str → Option Value) (base : Heap) (k : Nat) (C : Str) (ps : List Str) (sp : Sp) : Prop where
  ok : FnOk P w K mg base (L2.CX P w) k (ma K (ga K C) "__init__") (fdAt K (ma K (ga K C) "__init__")) ps sp
  bd : Bnd (fdAt K (ma K (ga K C) "__init__")) ps
  mkr : Mk K (ga K C) (ma K (ga K C) "__init__")
  at_ : mg C = some (.ref (ga K C))
section
variable {fa : List Fa} {fn : List DefD} {xl : XL} {P : Program} {w : World} {K : PySem.W.Frag} {mg : Str → Option Value} {base : Heap}
theorem Told.mkAny (T : Told fa fn xl K mg) (i : Nat) {d : DefD} {f : Addr} {N ps : List Str} {k : Nat} {sp : Sp} (hd : fn[i]? = some d) (hx : fAd K d.at_ = f) (h0 : d.dfl = []) (h1 : d.kwd = []) (S : FnScope N ps d.scope)
    (bnd : ∀ (kV doc pm : Value) (an : Option Addr) (cdv ct : Value) (us : List Value), us.length = ps.length → bindArgs (PySem.W.fnOf d.name d.qual d.params d.body d.scope .none kV doc pm an cdv ct) ⟨us, []⟩ = pure (ps.zip us))
    (len : ∀ vs H Q E, sp vs H Q E → vs.length = ps.length)
    (body : ∀ (cdv : Value) (A : Around) (outer : List Env) (s : Shared) (H : Hp) (vs : List V) (Q : VK) (E : XK), Room k (A.deeper (envOfC d.qual d.scope s.heap.objs.size f cdv)) → sp vs H Q E →
      ∃ t, PSs (cxOf (L2.CX P w) P w K mg base N d.qual d.scope f cdv A outer s H E) d.body t ∧ t { nx := fun _ H' => Q .non H', rt := Q } (start N vs) H) : FnOk P w K mg base (L2.CX P w) (k + 1) f (fdAt K f) ps sp ∧ Bnd (fdAt K f) ps := by
  obtain ⟨fd, F⟩ := T.says.def_ i hd
  have e0 : d.dvs K = [] := by unfold DefD.dvs; rw [h0]; rfl
  have e1 : d.kws K = [] := by unfold DefD.kws; rw [h1]; rfl
  rw [hx, e0, e1] at F
  have ef := fdAt_of F
  subst ef
  exact ⟨F.ok S len body, F.bindsA bnd⟩
theorem Told.mkMt (T : Told fa fn xl K mg) (i j l : Nat) {d : DefD} {C m : Str} {N ps : List Str} {k : Nat} {sp : Sp} (hd : fn[i]? = some d) (hx : d.at_ = (C, some m)) (h0 : d.dfl = []) (h1 : d.kwd = []) (hg : fa[j]? = some (.meth C m)) (hc : fa[l]? = some (.cls C)) (S : FnScope N ps d.scope)
    (bnd : ∀ (kV doc pm : Value) (an : Option Addr) (cdv ct : Value) (us : List Value), us.length = ps.length → bindArgs (PySem.W.fnOf d.name d.qual d.params d.body d.scope .none kV doc pm an cdv ct) ⟨us, []⟩ = pure (ps.zip us))
    (len : ∀ vs H Q E, sp vs H Q E → vs.length = ps.length)
    (body : ∀ (cdv : Value) (A : Around) (outer : List Env) (s : Shared) (H : Hp) (vs : List V) (Q : VK) (E : XK), Room k (A.deeper (envOfC d.qual d.scope s.heap.objs.size (ma K (ga K C) m) cdv)) → sp vs H Q E →
      ∃ t, PSs (cxOf (L2.CX P w) P w K mg base N d.qual d.scope (ma K (ga K C) m) cdv A outer s H E) d.body t ∧ t { nx := fun _ H' => Q .non H', rt := Q } (start N vs) H) : Mt P w K mg base (k + 1) C m ps sp := by
  obtain ⟨a, b⟩ := T.mkAny (P := P) (w := w) (base := base) i hd (by rw [hx]; rfl) h0 h1 S bnd len body
  exact ⟨a, b, He.meth_ok (T.says.fact j hg), T.cls l hc⟩
theorem Told.mkMi (T : Told fa fn xl K mg) (i j l : Nat) {d : DefD} {C : Str} {N ps : List Str} {k : Nat} {sp : Sp} (hd : fn[i]? = some d) (hx : d.at_ = (C, some ("__init__" : Str))) (h0 : d.dfl = []) (h1 : d.kwd = []) (hg : fa[j]? = some (.mkr C)) (hc : fa[l]? = some (.glo C)) (S : FnScope N ps d.scope)
    (bnd : ∀ (kV doc pm : Value) (an : Option Addr) (cdv ct : Value) (us : List Value), us.length = ps.length → bindArgs (PySem.W.fnOf d.name d.qual d.params d.body d.scope .none kV doc pm an cdv ct) ⟨us, []⟩ = pure (ps.zip us))
    (len : ∀ vs H Q E, sp vs H Q E → vs.length = ps.length)
    (body : ∀ (cdv : Value) (A : Around) (outer : List Env) (s : Shared) (H : Hp) (vs : List V) (Q : VK) (E : XK), Room k (A.deeper (envOfC d.qual d.scope s.heap.objs.size (ma K (ga K C) "__init__") cdv)) → sp vs H Q E →
      ∃ t, PSs (cxOf (L2.CX P w) P w K mg base N d.qual d.scope (ma K (ga K C) "__init__") cdv A outer s H E) d.body t ∧ t { nx := fun _ H' => Q .non H', rt := Q } (start N vs) H) : Mi P w K mg base (k + 1) C ps sp := by
  obtain ⟨a, b⟩ := T.mkAny (P := P) (w := w) (base := base) i hd (by rw [hx]; rfl) h0 h1 S bnd len body
  exact ⟨a, b, He.mkr_ok (T.says.fact j hg), T.glo l hc⟩
end
/-- x is an instance of the class at C, its attributes none of the name m -/
def Recv (C : Addr) (m : Str) (x : V) (H : Hp) : Prop := ∃ a dx fs, x = .ref a ∧ H a = some (.ins C dx fs) ∧ fs.lookup m = none
theorem recv {C : Addr} {m : Str} {a dx : Addr} {H : Hp} {fs : List (Str × V)} (h : H a = some (.ins C dx fs)) (e : fs.lookup m = none := by rfl) : Recv C m (.ref a) H := ⟨a, dx, fs, rfl, h, e⟩
section
variable {X : Cx} {k : Nat} {C m : Str} {ps : List Str} {sp : Sp} {W : WX} {p pos apos : Pos} {o e : Expr} {es : List Expr} {ta : TE} {t : TA}
def gMeth (C : Addr) (m : Str) (sp : Sp) (W : WX) (ta : TE) (t : TA) : TE := fun σ H Q => ta σ H fun x H1 => Recv C m x H1 ∧ t σ H1 fun vs H2 => sp (x :: vs) H2 Q fun c d H3 => W c d σ H3
theorem pe_mt {pl : Sem Bool} {K : PySem.W.Frag} (hK : X.K = K) (tk : Takes X W) (he : PE X o ta) (F : Mt X.prog X.w K X.mg X.base k C m ps sp) (hr : Room k X.A) (ha : PA X (e :: es) t)
    (hst : starEach (e :: es) X.env = (false, eval e X.env) :: starEach es X.env := by rfl) (hpl : (backTo pos (starEach es X.env)).any (·.1) = false := by rfl)
    (ht : eval (.Call (.Attribute o m apos) (e :: es) [] pos) X.env = (do
      let z ← eval o X.env
      standAt apos.atName
      let (g, one) ← holding [z] (getMethod z m pl)
      callWith pos g one (backTo pos (starEach (e :: es) X.env)) (backToKw pos (keywordEach [] X.env))) := by rfl) :
    PE X (.Call (.Attribute o m apos) (e :: es) [] pos) (gMeth (ga K C) m sp W ta t) := by
  subst hK
  refine ⟨fun pins s σ H Q I h => ?_⟩
  refine PySem.W.methodCall_KW (pl := pl) (thn (he.run pins s σ H _ I h) fun u s1 hh => ?_) ht
  obtain ⟨y, H1, I1, ry, ⟨a, dx, fs, ey, ea, l⟩, q⟩ := hh
  subst ey
  obtain rfl : u = Value.ref a := ry
  refine getmeth_ok I1 ea F.cl F.me l ?_
  refine PySem.W.callWith_K (first := [.ref a]) (h₀ := X.base) I.ok.mod.kin F.me.kp (thn (ha.run pos pins s1 σ H1 _ I1 q) fun us s2 h2 => ?_) hst hpl
  obtain ⟨vs, H2, I2, r, q2⟩ := h2
  exact ⟨I2.kIn, run_fnS (us := .ref a :: us) (vs := .ref a :: vs) (E := WE W) F.ok hr F.bd.to (passAt tk σ) I2 (.cons rfl r) q2⟩
theorem pe_mt0 {pl : Sem Bool} {K : PySem.W.Frag} (hK : X.K = K) (tk : Takes X W) (he : PE X o ta) (F : Mt X.prog X.w K X.mg X.base k C m ps sp) (hr : Room k X.A)
    (ht : eval (.Call (.Attribute o m apos) [] [] pos) X.env = (do
      let z ← eval o X.env
      standAt apos.atName
      let (g, one) ← holding [z] (getMethod z m pl)
      callWith pos g one (backTo pos (starEach [] X.env)) (backToKw pos (keywordEach [] X.env))) := by rfl) :
    PE X (.Call (.Attribute o m apos) [] [] pos) (gMeth (ga K C) m sp W ta tNil) := by
  subst hK
  refine ⟨fun pins s σ H Q I h => ?_⟩
  refine PySem.W.methodCall_KW (pl := pl) (thn (he.run pins s σ H _ I h) fun u s1 hh => ?_) ht
  obtain ⟨y, H1, I1, ry, ⟨a, dx, fs, ey, ea, l⟩, q⟩ := hh
  subst ey
  obtain rfl : u = Value.ref a := ry
  refine getmeth_ok I1 ea F.cl F.me l ?_
  exact PySem.W.callWith_K0 (first := [.ref a]) I1.kIn F.me.kp (run_fnS (us := [.ref a]) (vs := [.ref a]) (E := WE W) F.ok hr F.bd.to (passAt tk σ) I1 (.cons rfl .nil) q)
theorem pe_mk {K : PySem.W.Frag} (hK : X.K = K) (tk : Takes X W) (F : Mi X.prog X.w K X.mg X.base k C ps sp) (hr : Room (k + 1) X.A) (hg : Gl X C) (ha : PA X (e :: es) t) (hdb : (C == ("__debug__" : Str)) = false := by decide)
    (he : starEach (e :: es) X.env = (false, eval e X.env) :: starEach es X.env := by rfl) (hpl : (backTo pos (starEach es X.env)).any (·.1) = false := by rfl) : PE X (.Call (.Name C p) (e :: es) [] pos) (tMakeW (ga K C) sp W t) := by
  subst hK
  exact pe_makeW tk F.mkr F.ok hr hg F.at_ F.bd.to ha hdb he hpl
theorem pe_mk0 {K : PySem.W.Frag} (hK : X.K = K) (tk : Takes X W) (F : Mi X.prog X.w K X.mg X.base k C ps sp) (hr : Room (k + 1) X.A) (hg : Gl X C) (hdb : (C == ("__debug__" : Str)) = false := by decide) : PE X (.Call (.Name C p) [] [] pos) (tMakeW (ga K C) sp W tNil) := by
  subst hK
  exact pe_makeW0 tk F.mkr F.ok hr hg F.at_ F.bd.to hdb
/-- least, greatest of two -/
def gMin : List V → Hp → VK → Prop
  | [.int i, .int j], H, Q => Q (.int (min i j)) H
  | _, _, _ => False
def gMax : List V → Hp → VK → Prop
  | [.int i, .int j], H, Q => Q (.int (max i j)) H
  | _, _, _ => False
theorem call_gMin (hc : X.calm = true) : CallR X (.builtin "min") gMin := by
  intro pins s σ H xs us Q I r h
  unfold gMin at h
  split at h
  · rename_i i j
    refine call_min2 hc pins s σ _ _ us Q I r ⟨i, j, rfl, ?_⟩
    have e : (if j < i then j else i) = min i j := by split <;> omega
    rw [e]
    exact h
  · exact h.elim
theorem call_gMax (hc : X.calm = true) : CallR X (.builtin "max") gMax := by
  intro pins s σ H xs us Q I r h
  unfold gMax at h
  split at h
  · rename_i i j
    refine call_max2 hc pins s σ _ _ us Q I r ⟨i, j, rfl, ?_⟩
    have e : (if j > i then j else i) = max i j := by split <;> omega
    rw [e]
    exact h
  · exact h.elim
end
section
variable {σ : L2.St} {H : Hp} {Q : VK} {D : Ends} {C : Addr} {f m : Str} {ta tv : TE} {as : TA} {sp : Sp} {W : WX} {a b : Int} {y x i : V} {S : TSet}
theorem x_fld : gFld C ta f σ H Q = ta σ H fun x H1 => ∃ v, FldIs C f x H1 v ∧ Q v H1 := rfl
theorem x_setF : gSetF C ta tv f D σ H = tv σ H fun y H1 => ta σ H1 fun x H2 => ∃ a dx fs, x = .ref a ∧ H2 a = some (.ins C dx fs) ∧ fs.length < 1000 ∧ D.nx σ (upd H2 a (.ins C dx (putF f y fs))) := rfl
theorem x_meth : gMeth C m sp W ta as σ H Q = ta σ H fun x H1 => Recv C m x H1 ∧ as σ H1 fun vs H2 => sp (x :: vs) H2 Q fun c d H3 => W c d σ H3 := rfl
theorem x_make : tMakeW C sp W as σ H Q = as σ H fun vs H1 => ∀ x dx, H1 x = none → H1 dx = none → dx ≠ x → sp (.ref x :: vs) (upd (upd H1 dx (.own x)) x (.ins C dx [])) (fun v H2 => v = .non ∧ Q (.ref x) H2) fun c d H3 => W c d σ H3 := rfl
theorem x_sub {to ti : TE} {N : L2.St → Hp → Prop} : gSub to ti S y σ H N = to σ H fun o H1 => ti σ H1 fun i H2 => S o i y H2 fun H3 => N σ H3 := rfl
theorem r_min : gMin [.int a, .int b] H Q = Q (.int (min a b)) H := rfl
theorem r_max : gMax [.int a, .int b] H Q = Q (.int (max a b)) H := rfl
/-- a store to a list at i -/
theorem r_setL {p : Addr} {xs : List V} {k : Int} {N : Hp → Prop} (h : H p = some (.lst xs)) (h0 : 0 ≤ k) (h1 : k < xs.length) (q : N (upd H p (.lst (xs.set k.toNat y)))) : rSetL (.ref p) (.int k) y H N :=
  ⟨p, xs, k, k.toNat, rfl, rfl, h, by unfold ixN; rw [if_pos h0, if_pos h1], q⟩
end
end G
namespace G
open PySem PySem.Spec PyProof.Rows L2
/-! ## comprehensions whose parts leave the heap as it is -/
section
variable {σ : L2.St} {vs : List Nat} {H1 : Hp} {D : Addr} {Qd : Hp → Prop} {te : TE} {tt : TT} {k : Nat} {f : Nat → V} {K : PySem.W.Frag} {a : Addr} {xs : List V}
theorem tYes_on {σ2 : L2.St} {H : Hp} {A B : Hp → Prop} (h : A H) : tYes σ2 H fun b H3 => if b = true then A H3 else B H3 := by
  show (if true = true then A H else B H)
  rw [if_pos (rfl : true = true)]
  exact h
/-- [e for x in range(..)] -/
theorem lc_mapR {lo : Int} {n : Nat} (f : Nat → V) (hw : ∀ v, wipe ((wipe σ vs).set k (some v)) vs = wipe σ vs) (hn : n ≤ sizeLine)
    (he : ∀ i, i < n → ∀ acc (Q : VK), Q (f i) (upd H1 D (.lst acc)) → te ((wipe σ vs).set k (some (.int (lo + i)))) (upd H1 D (.lst acc)) Q) (hd : Qd (upd H1 D (.lst ((List.range n).map f)))) :
    ∃ W : Nat → Nat → Hp → Prop, (∃ m, W 0 m (upd H1 D (.lst []))) ∧ ∀ i m H, W i m H →
      ((Itr lo n).stop i H ∧ Qd H) ∨ ((Itr lo n).go i H ∧ ∃ Nx : Hp → Prop, (∀ H', Nx H' → ∃ m', m' < m ∧ W (i + 1) m' H') ∧ ∀ x H', (Itr lo n).yld i H x H' → gName k x (wipe σ vs) H' fun σ2 H2 => wipe σ2 vs = wipe σ vs ∧ tYes σ2 H2 fun b H3 =>
        if b = true then te σ2 H3 fun y H4 => ∃ acc, H4 D = some (.lst acc) ∧ acc.length < sizeLine ∧ Nx (upd H4 D (.lst (acc ++ [y]))) else Nx H3) := by
  refine lc_range (Qd := Qd) (fun i H => H = upd H1 D (.lst ((List.range i).map f))) rfl ?_ fun H e => by rw [e]; exact hd
  rintro i H hi rfl
  refine ⟨hw _, tYes_on (he i hi _ _ ⟨_, upd_same, by rw [List.length_map, List.length_range]; omega, ?_⟩)⟩
  rw [upd_upd, List.range_succ, List.map_append]
  rfl
/-- [e for x in xs] -/
theorem lc_mapL {ys : List V} (hw : ∀ v, wipe ((wipe σ vs).set k (some v)) vs = wipe σ vs) (hl : ∀ acc, SqL K (upd H1 D (.lst acc)) a xs) (hn : xs.length ≤ sizeLine) (hy : ys.length = xs.length)
    (he : ∀ (i : Nat) (x y : V), xs[i]? = some x → ys[i]? = some y → ∀ acc (Q : VK), Q y (upd H1 D (.lst acc)) → te ((wipe σ vs).set k (some x)) (upd H1 D (.lst acc)) Q) (hd : Qd (upd H1 D (.lst ys))) :
    ∃ W : Nat → Nat → Hp → Prop, (∃ m, W 0 m (upd H1 D (.lst []))) ∧ ∀ i m H, W i m H →
      ((Itl K a).stop i H ∧ Qd H) ∨ ((Itl K a).go i H ∧ ∃ Nx : Hp → Prop, (∀ H', Nx H' → ∃ m', m' < m ∧ W (i + 1) m' H') ∧ ∀ x H', (Itl K a).yld i H x H' → gName k x (wipe σ vs) H' fun σ2 H2 => wipe σ2 vs = wipe σ vs ∧ tYes σ2 H2 fun b H3 =>
        if b = true then te σ2 H3 fun y H4 => ∃ acc, H4 D = some (.lst acc) ∧ acc.length < sizeLine ∧ Nx (upd H4 D (.lst (acc ++ [y]))) else Nx H3) := by
  refine lc_list (Qd := Qd) (xs := xs) (fun i H => H = upd H1 D (.lst (ys.take i))) (by rfl) (fun i H _ e => by rw [e]; exact hl _) ?_ fun H e => by
    rw [e, ← hy, List.take_length]
    exact hd
  rintro i x H hi rfl
  have hlt : i < ys.length := by rw [hy]; exact (List.getElem?_eq_some_iff.mp hi).1
  refine ⟨hw _, tYes_on (he i x ys[i] hi (List.getElem?_eq_getElem hlt) _ _ ⟨_, upd_same, by rw [List.length_take]; omega, ?_⟩)⟩
  rw [upd_upd, List.take_succ_eq_append_getElem hlt]
/-- [e for x in xs if t], ys the kept ones, by the places of what is kept -/
theorem lc_iffL {g : V → Option V} (hw : ∀ v, wipe ((wipe σ vs).set k (some v)) vs = wipe σ vs) (hl : ∀ acc, SqL K (upd H1 D (.lst acc)) a xs) (hn : xs.length ≤ sizeLine)
    (he : ∀ (i : Nat) (x : V), xs[i]? = some x → ∀ acc (N : Bool → Hp → Prop), ((g x).isSome = true → N true (upd H1 D (.lst acc))) → ((g x).isSome = false → N false (upd H1 D (.lst acc))) → tt ((wipe σ vs).set k (some x)) (upd H1 D (.lst acc)) N)
    (hy : ∀ (i : Nat) (x y : V), xs[i]? = some x → g x = some y → ∀ acc (Q : VK), Q y (upd H1 D (.lst acc)) → te ((wipe σ vs).set k (some x)) (upd H1 D (.lst acc)) Q) (hd : Qd (upd H1 D (.lst (xs.filterMap g)))) :
    ∃ W : Nat → Nat → Hp → Prop, (∃ m, W 0 m (upd H1 D (.lst []))) ∧ ∀ i m H, W i m H →
      ((Itl K a).stop i H ∧ Qd H) ∨ ((Itl K a).go i H ∧ ∃ Nx : Hp → Prop, (∀ H', Nx H' → ∃ m', m' < m ∧ W (i + 1) m' H') ∧ ∀ x H', (Itl K a).yld i H x H' → gName k x (wipe σ vs) H' fun σ2 H2 => wipe σ2 vs = wipe σ vs ∧ tt σ2 H2 fun b H3 =>
        if b = true then te σ2 H3 fun y H4 => ∃ acc, H4 D = some (.lst acc) ∧ acc.length < sizeLine ∧ Nx (upd H4 D (.lst (acc ++ [y]))) else Nx H3) := by
  refine lc_list (Qd := Qd) (xs := xs) (fun i H => H = upd H1 D (.lst ((xs.take i).filterMap g))) (by rfl) (fun i H _ e => by rw [e]; exact hl _) ?_ fun H e => by
    rw [e, List.take_length]
    exact hd
  rintro i x H hi rfl
  have hlt : i < xs.length := (List.getElem?_eq_some_iff.mp hi).1
  have ex : xs[i] = x := by rw [List.getElem?_eq_getElem hlt] at hi; exact Option.some.inj hi
  have small : ((xs.take i).filterMap g).length < sizeLine := Nat.lt_of_le_of_lt (List.length_filterMap_le _ _) (by rw [List.length_take]; omega)
  refine ⟨hw _, he i x hi _ _ (fun c => ?_) fun c => ?_⟩
  · obtain ⟨y, ey⟩ := Option.isSome_iff_exists.mp c
    rw [if_pos (rfl : true = true)]
    refine hy i x y hi ey _ _ ⟨_, upd_same, small, ?_⟩
    rw [upd_upd, List.take_succ_eq_append_getElem hlt, List.filterMap_append, ex]
    simp only [List.filterMap_cons, ey, List.filterMap_nil]
  · rw [if_neg Bool.false_ne_true, List.take_succ_eq_append_getElem hlt, List.filterMap_append, ex]
    have e0 : g x = none := by cases e : g x with
      | none => rfl
      | some y => rw [e] at c; cases c
    simp only [List.filterMap_cons, e0, List.filterMap_nil, List.append_nil]
end
/-- a statement, then the rest, by what holds between them -/
def tCut (t u : TS) : TS := fun D σ H => ∃ M : L2.St → Hp → Prop, t { D with nx := M } σ H ∧ ∀ σ' H', M σ' H' → u D σ' H'
theorem pss_cut {X : Cx} {st : Stmt} {rest : List Stmt} {t u : TS} (h1 : PS X st t) (h2 : PSs X rest u) : PSs X (st :: rest) (tCut t u) := by
  refine ⟨fun pins s σ H D I h => ?_⟩
  obtain ⟨M, a, b⟩ := h
  refine wpAny_execs_cons (thn (h1.run pins s σ H { D with nx := M } I a) fun f s1 q => ?_)
  cases f with
  | next => exact q.elim fun σ1 z => z.elim fun H1 y => h2.run pins s1 σ1 H1 D y.1 (b σ1 H1 y.2)
  | ret v => exact q
  | brk => exact q
  | cont => exact q
/-- what is wanted of a loop over J; of a comprehension -/
def ForW (J : It) (g : TG) (tb : TS) (D : Ends) (σ : L2.St) (H : Hp) : Prop := ∃ W : Nat → Nat → L2.St → Hp → Prop, (∃ m, W 0 m σ H) ∧ ∀ i m σ H, W i m σ H →
  (J.stop i H ∧ D.nx σ H) ∨ (J.go i H ∧ ∃ N : L2.St → Hp → Prop, (∀ σ' H', N σ' H' → ∃ m', m' < m ∧ W (i + 1) m' σ' H') ∧ ∀ x H', J.yld i H x H' → g x σ H' fun σ2 H2 => tb { D with nx := N, ct := N, bk := D.nx } σ2 H2)
def LcW (J : It) (g : TG) (tt : TT) (te : TE) (vs : List Nat) (σ : L2.St) (H1 : Hp) (Q : VK) : Prop := ∀ D, H1 D = none → ∃ W : Nat → Nat → Hp → Prop, (∃ m, W 0 m (upd H1 D (.lst []))) ∧ ∀ i m H, W i m H →
  (J.stop i H ∧ Q (.ref D) H) ∨ (J.go i H ∧ ∃ Nx : Hp → Prop, (∀ H', Nx H' → ∃ m', m' < m ∧ W (i + 1) m' H') ∧ ∀ x H', J.yld i H x H' → g x (wipe σ vs) H' fun σ2 H2 => wipe σ2 vs = wipe σ vs ∧ tt σ2 H2 fun b H3 =>
    if b = true then te σ2 H3 fun y H4 => ∃ acc, H4 D = some (.lst acc) ∧ acc.length < sizeLine ∧ Nx (upd H4 D (.lst (acc ++ [y]))) else Nx H3)
section
variable {σ : L2.St} {H : Hp} {Q : VK} {D : Ends} {wi : TI} {g : TG} {tb : TS} {tt : TT} {te : TE} {ta : TA} {vs : List Nat} {R : It → Hp → Prop} {K : PySem.W.Frag} {a b : Addr} {n m : Int}
theorem x_for : tFor wi g tb D σ H = wi σ H fun J H1 => ForW J g tb D σ H1 := rfl
theorem x_lc : tLc wi g tt te vs σ H Q = wi σ H fun J H1 => LcW J g tt te vs σ H1 Q := rfl
theorem x_rng1 : iRng1 ta σ H R = ta σ H fun vs H1 => ∃ j : Int, vs = [.int j] ∧ -(2 ^ 62) ≤ j ∧ j < 2 ^ 62 ∧ R (Itr 0 j.toNat) H1 := rfl
theorem x_rng2 : iRng2 ta σ H R = ta σ H fun vs H1 => ∃ i j : Int, vs = [.int i, .int j] ∧ (-(2 ^ 62) ≤ i ∧ i < 2 ^ 62 ∧ -(2 ^ 62) ≤ j ∧ j < 2 ^ 62) ∧ R (Itr i (j - i).toNat) H1 := rfl
theorem x_lst1 {tl : TE} : iList K tl σ H R = tl σ H fun x H1 => ∃ a, x = .ref a ∧ (∃ xs, SqL K H1 a xs) ∧ R (Itl K a) H1 := rfl
theorem x_one {P : Int → Prop} : (∃ j : Int, [V.int n] = [V.int j] ∧ P j) = P n := propext ⟨fun ⟨_, e, q⟩ => by cases e; exact q, fun q => ⟨n, rfl, q⟩⟩
theorem x_two {P : Int → Int → Prop} : (∃ i j : Int, [V.int n, V.int m] = [V.int i, V.int j] ∧ P i j) = P n m := propext ⟨fun ⟨_, _, e, q⟩ => by cases e; exact q, fun q => ⟨n, m, rfl, q⟩⟩
theorem x_adr {P : Addr → Prop} : (∃ b, V.ref a = V.ref b ∧ P b) = P a := propext ⟨fun ⟨_, e, q⟩ => by cases e; exact q, fun q => ⟨a, rfl, q⟩⟩
theorem x_sl {r : V → Option Int → Option Int → Hp → VK → Prop} {tl th : TO} : tSl r te tl th σ H Q = te σ H fun x H1 => tl σ H1 fun l H2 => th σ H2 fun u H3 => r x l u H3 Q := rfl
theorem x_np {QO : Option Int → Hp → Prop} : tNoPart σ H QO = QO none H := rfl
theorem x_pt {QO : Option Int → Hp → Prop} : tPart te σ H QO = te σ H fun x H1 => ∃ i, x = .int i ∧ QO (some i) H1 := rfl
theorem x_int {P : Int → Prop} : (∃ j : Int, V.int n = V.int j ∧ P j) = P n := propext ⟨fun ⟨_, e, q⟩ => by cases e; exact q, fun q => ⟨n, rfl, q⟩⟩
theorem x_bm {T : String} {r : V → List V → Hp → VK → Prop} : tBM K T r te ta σ H Q = te σ H fun x H1 => tyV K T x H1 ∧ ta σ H1 fun xs H2 => r x xs H2 Q := rfl
theorem x_bm0 {T : String} {r : V → List V → Hp → VK → Prop} : tBM0 K T r te σ H Q = te σ H fun x H1 => tyV K T x H1 ∧ r x [] H1 Q := rfl
theorem x_tupg {ts : TGs} {n : Nat} {v : V} {N : L2.St → Hp → Prop} : gTup K n ts v σ H N = ∃ a xs, v = .ref a ∧ SqT K H a xs ∧ xs.length = n ∧ ts xs σ H N := rfl
theorem x_consg {t : TG} {u : TGs} {v : V} {r : List V} {N : L2.St → Hp → Prop} : gCons t u (v :: r) σ H N = t v σ H fun σ' H' => u r σ' H' N := propext ⟨fun ⟨_, _, e, q⟩ => by cases e; exact q, fun q => ⟨v, r, rfl, q⟩⟩
theorem x_nilg {N : L2.St → Hp → Prop} : gNil [] σ H N = N σ H := propext ⟨fun z => z.2, fun z => ⟨rfl, z⟩⟩
theorem x_cut {t u : TS} : tCut t u D σ H = ∃ M : L2.St → Hp → Prop, t { D with nx := M } σ H ∧ ∀ σ' H', M σ' H' → u D σ' H' := rfl
theorem x_dget2 {td ty tx : TE} : tDGet2 td ty tx σ H Q = td σ H fun x H1 => ∃ a, x = .ref a ∧ IsD H1 a ∧ ty σ H1 fun y H2 => tx σ H2 fun z H3 => ∃ o, DGet H3 a y o ∧ Q (o.getD z) H3 := rfl
theorem x_dget1 {td ty : TE} : tDGet1 td ty σ H Q = td σ H fun x H1 => ∃ a, x = .ref a ∧ IsD H1 a ∧ ty σ H1 fun y H2 => ∃ o, DGet H2 a y o ∧ Q (o.getD .non) H2 := rfl
theorem x_dget {td ty : TE} : tDGet td ty σ H Q = td σ H fun x H1 => ty σ H1 fun y H2 => ∃ a v, x = .ref a ∧ DGet H2 a y (some v) ∧ Q v H2 := rfl
theorem x_din {td ty : TE} : tDIn ty td σ H Q = ty σ H fun y H1 => td σ H1 fun x H2 => ∃ a o, x = .ref a ∧ DGet H2 a y o ∧ Q (.bl o.isSome) H2 := rfl
theorem x_dni {td ty : TE} : tDNotIn ty td σ H Q = ty σ H fun y H1 => td σ H1 fun x H2 => ∃ a o, x = .ref a ∧ DGet H2 a y o ∧ Q (.bl (!o.isSome)) H2 := rfl
theorem x_dput {td ty tv : TE} : sDPut td ty tv D σ H = tv σ H fun v H1 => td σ H1 fun x H2 => ty σ H2 fun y H3 => ∃ a H4, x = .ref a ∧ DPut H3 a y v H4 ∧ D.nx σ H4 := rfl
theorem isD_k {kvs : List (Key × V)} (h : H a = some (.dK kvs)) : IsD H a := .inl ⟨kvs, .inl h⟩
theorem dget_i {kvs : List (Key × V)} {i : Int} (h : H a = some (.dK kvs)) : DGet H a (.int i) (valV kvs (.inl i : Key)) := DGet.k (k := .inl i) h
theorem dput_i {kvs : List (Key × V)} {i : Int} {v : V} (h : H a = some (.dK kvs)) (hl : kvs.length < sizeLine) : DPut H a (.int i) v (upd H a (.dK (putK kvs (.inl i : Key) v))) := DPut.k (k := .inl i) h hl
theorem forW_range {lo : Int} {n : Nat} (Pv : Nat → L2.St → Hp → Prop) (h0 : Pv 0 σ H) (hs : ∀ i σ H, i < n → Pv i σ H → g (.int (lo + i)) σ H fun σ2 H2 => tb { D with nx := Pv (i + 1), ct := Pv (i + 1), bk := D.nx } σ2 H2) (hd : ∀ σ H, Pv n σ H → D.nx σ H) : ForW (Itr lo n) g tb D σ H := for_range Pv h0 hs hd
theorem forW_list {xs : List V} (Pv : Nat → L2.St → Hp → Prop) (h0 : Pv 0 σ H) (hl : ∀ i σ H, i ≤ xs.length → Pv i σ H → SqL K H a xs) (hs : ∀ i x σ H, xs[i]? = some x → Pv i σ H → g x σ H fun σ2 H2 => tb { D with nx := Pv (i + 1), ct := Pv (i + 1), bk := D.nx } σ2 H2)
    (hd : ∀ σ H, Pv xs.length σ H → D.nx σ H) : ForW (Itl K a) g tb D σ H := for_list (xs := xs) Pv h0 hl hs hd
end
theorem x_yes {σ : L2.St} {H : Hp} {Q : Bool → Hp → Prop} : tYes σ H Q = Q true H := rfl
end G
namespace G
open PySem PySem.Spec PySem.Calls PyProof.Rows L2
/-! ### more shapes of loops, of targets -/
section
variable {σ : L2.St} {H : Hp} {Q : VK} {D : Ends} {g : TG} {tb : TS} {tl : TE} {ta : TA} {R : It → Hp → Prop} {K : PySem.W.Frag} {a : Addr}
theorem x_itup : iTup K tl σ H R = tl σ H fun x H1 => ∃ a, x = .ref a ∧ (∃ xs, SqT K H1 a xs) ∧ R (Itt K a) H1 := rfl
theorem x_rng3 : iRng3 ta σ H R = ta σ H fun vs H1 => ∃ (i j c : Int) (n : Nat), vs = [.int i, .int j, .int c] ∧ RgC i j c n ∧ R (Itc i c n) H1 := rfl
theorem x_three {x y z : Int} {P : Int → Int → Int → Nat → Prop} : (∃ (i j c : Int) (n : Nat), [V.int x, V.int y, V.int z] = [.int i, .int j, .int c] ∧ P i j c n) = ∃ n, P x y z n :=
  propext ⟨fun ⟨_, _, _, n, e, q⟩ => by cases e; exact ⟨n, q⟩, fun ⟨n, q⟩ => ⟨x, y, z, n, rfl, q⟩⟩
theorem x_lstg {ts : TGs} {n : Nat} {v : V} {N : L2.St → Hp → Prop} : gLst K n ts v σ H N = ∃ a xs, v = .ref a ∧ SqL K H a xs ∧ xs.length = n ∧ ts xs σ H N := rfl
theorem x_adrS {β : Type} {P : Addr → β → Prop} : (∃ b xs, V.ref a = V.ref b ∧ P b xs) = ∃ xs, P a xs := propext ⟨fun ⟨_, xs, e, q⟩ => by cases e; exact ⟨xs, q⟩, fun ⟨xs, q⟩ => ⟨a, xs, rfl, q⟩⟩
theorem forW_tup {xs : List V} (Pv : Nat → L2.St → Hp → Prop) (h0 : Pv 0 σ H) (hl : ∀ i σ H, i ≤ xs.length → Pv i σ H → SqT K H a xs) (hs : ∀ i x σ H, xs[i]? = some x → Pv i σ H → g x σ H fun σ2 H2 => tb { D with nx := Pv (i + 1), ct := Pv (i + 1), bk := D.nx } σ2 H2)
    (hd : ∀ σ H, Pv xs.length σ H → D.nx σ H) : ForW (Itt K a) g tb D σ H := for_tup (xs := xs) Pv h0 hl hs hd
theorem forW_step {lo c : Int} {n : Nat} (Pv : Nat → L2.St → Hp → Prop) (h0 : Pv 0 σ H) (hs : ∀ i σ H, i < n → Pv i σ H → g (.int (lo + (i : Nat) * c)) σ H fun σ2 H2 => tb { D with nx := Pv (i + 1), ct := Pv (i + 1), bk := D.nx } σ2 H2)
    (hd : ∀ σ H, Pv n σ H → D.nx σ H) : ForW (Itc lo c n) g tb D σ H := for_rangeC Pv h0 hs hd
end
end G
namespace G
open PySem PySem.Spec PySem.Calls PyProof.Rows L2 He
/-! ### is True, in, sorted, all -/
section
variable {X : Cx} {K : PySem.W.Frag}
def gIsB : R2 := fun x y H Q => ∃ b, y = .bl b ∧ Q (.bl (decide (x = .bl b))) H
def gNotB : R2 := fun x y H Q => ∃ b, y = .bl b ∧ Q (.bl (!decide (x = .bl b))) H
theorem relV_bl {x : V} {b : Bool} (r : RelV x (.bool b)) : x = .bl b := by
  cases x with
  | bl c => cases r; rfl
  | int i => obtain ⟨t, e⟩ := r; cases e
  | str i => obtain ⟨t, e⟩ := r; cases e
  | byt i => obtain ⟨t, e⟩ := r; cases e
  | flt i => obtain ⟨t, e⟩ := r; cases e
  | non => cases r
  | ref a => cases r
  | ty n => cases r
theorem relV_plain {x : V} {v : Value} {b : Bool} (r : RelV x v) : plainIs v (.bool b) = true := by
  cases x with
  | bl c => cases r; rfl
  | int i => obtain ⟨t, e⟩ := r; subst e; rfl
  | str i => obtain ⟨t, e⟩ := r; subst e; rfl
  | byt i => obtain ⟨t, e⟩ := r; subst e; rfl
  | flt i => obtain ⟨t, e⟩ := r; subst e; rfl
  | non => cases r; rfl
  | ref a => cases r; rfl
  | ty n => cases r; rfl
theorem op_gIsB : OpR X (compareOp .Is) gIsB := by
  intro pins s σ H x y v u Q I rx ry h
  obtain ⟨b, rfl, q⟩ := h
  cases (show u = Value.bool b from ry)
  by_cases e : v = .bool b
  · subst e
    have ex := relV_bl rx
    exact wpAny_is_self rfl ⟨.bl true, H, I, rfl, by rw [decide_eq_true ex] at q; exact q⟩
  · have ex : ¬ x = .bl b := fun z => e (by subst z; exact rx)
    exact wpAny_is_other (relV_plain rx) e ⟨.bl false, H, I, rfl, by rw [decide_eq_false ex] at q; exact q⟩
theorem op_gNotB : OpR X (compareOp .IsNot) gNotB := by
  intro pins s σ H x y v u Q I rx ry h
  obtain ⟨b, rfl, q⟩ := h
  cases (show u = Value.bool b from ry)
  by_cases e : v = .bool b
  · subst e
    have ex := relV_bl rx
    exact wpAny_isNot_self rfl ⟨.bl false, H, I, rfl, by rw [decide_eq_true ex] at q; exact q⟩
  · have ex : ¬ x = .bl b := fun z => e (by subst z; exact rx)
    exact wpAny_isNot_other (relV_plain rx) e ⟨.bl true, H, I, rfl, by rw [decide_eq_false ex] at q; exact q⟩
theorem op_inK (hK : X.K = K) : OpR X (compareOp .In) (rIn K false) := hK ▸ op_in_seq
theorem op_ninK (hK : X.K = K) : OpR X (compareOp .NotIn) (rIn K true) := hK ▸ op_notIn_seq
theorem call_sortedK (hK : X.K = K) : CallR X (.builtin "sorted") (rSortedI K) := hK ▸ cr_sortedI
theorem call_allK (hK : X.K = K) (hc : X.calm = true) : CallR X (.builtin "all") (rAll K) := hK ▸ cr_all hc
theorem call_anyK (hK : X.K = K) (hc : X.calm = true) : CallR X (.builtin "any") (rAny K) := hK ▸ cr_any hc
end
section
variable {σ : L2.St} {H : Hp} {Q : VK} {x : V} {b : Bool}
theorem r_isB : gIsB x (.bl b) H Q = Q (.bl (decide (x = .bl b))) H := propext ⟨fun ⟨_, e, q⟩ => by cases e; exact q, fun q => ⟨b, rfl, q⟩⟩
theorem r_notB : gNotB x (.bl b) H Q = Q (.bl (!decide (x = .bl b))) H := propext ⟨fun ⟨_, e, q⟩ => by cases e; exact q, fun q => ⟨b, rfl, q⟩⟩
theorem x_dpop2 {td ty tx : TE} : tDPop2 td ty tx σ H Q = td σ H fun x H1 => ∃ a, x = .ref a ∧ IsD H1 a ∧ ty σ H1 fun y H2 => tx σ H2 fun z H3 => ∃ kvs k, H3 a = some (.dK kvs) ∧ y = kV k ∧
  (∀ v, valV kvs k = some v → Q v (upd H3 a (.dK (dropK kvs k)))) ∧ (valV kvs k = none → Q z H3) := rfl
theorem r_isi {v : V} {T t : String} (e : tyOf v H = some t) (q : Q (.bl (isB t T)) H) (hT : T ∈ (["int", "bool", "str", "list", "tuple", "dict"] : List String) := by decide) : gIsi [v, .ty T] H Q := ⟨hT, t, e, q⟩
theorem r_isiL {a : Addr} {xs : List V} (h : H a = some (.lst xs)) (q : Q (.bl true) H) : gIsi [.ref a, .ty "list"] H Q := r_isi (t := "list") (by show tyO (H a) = _; rw [h]; rfl) q
theorem r_isiT {a : Addr} {xs : List V} (h : H a = some (.tup xs)) (q : Q (.bl true) H) : gIsi [.ref a, .ty "tuple"] H Q := r_isi (t := "tuple") (by show tyO (H a) = _; rw [h]; rfl) q
theorem r_isiII {n : Int} : gIsi [.int n, .ty "int"] H Q = Q (.bl true) H := propext ⟨fun ⟨_, t, e, q⟩ => by cases e; exact q, fun q => ⟨by decide, _, rfl, q⟩⟩
theorem r_isiBB : gIsi [.bl b, .ty "bool"] H Q = Q (.bl true) H := propext ⟨fun ⟨_, t, e, q⟩ => by cases e; exact q, fun q => ⟨by decide, _, rfl, q⟩⟩
theorem r_isiIB {n : Int} : gIsi [.int n, .ty "bool"] H Q = Q (.bl false) H := propext ⟨fun ⟨_, t, e, q⟩ => by cases e; exact q, fun q => ⟨by decide, _, rfl, q⟩⟩
theorem r_isiSS {z : Str} : gIsi [.str z, .ty "str"] H Q = Q (.bl true) H := propext ⟨fun ⟨_, t, e, q⟩ => by cases e; exact q, fun q => ⟨by decide, _, rfl, q⟩⟩
theorem r_neNS {K : PySem.W.Frag} {z : Str} : gNe K .non (.str z) H Q = Q (.bl true) H := rfl
theorem r_neSN {K : PySem.W.Frag} {z : Str} : gNe K (.str z) .non H Q = Q (.bl true) H := rfl
theorem r_neNN {K : PySem.W.Frag} : gNe K .non .non H Q = Q (.bl false) H := rfl
theorem r_eqNS {K : PySem.W.Frag} {z : Str} : gEq K .non (.str z) H Q = Q (.bl false) H := rfl
theorem r_eqSN {K : PySem.W.Frag} {z : Str} : gEq K (.str z) .non H Q = Q (.bl false) H := rfl
theorem r_eqNN {K : PySem.W.Frag} : gEq K .non .non H Q = Q (.bl true) H := rfl
theorem r_eqIS {K : PySem.W.Frag} {n : Int} {z : Str} : gEq K (.int n) (.str z) H Q = Q (.bl false) H := rfl
theorem r_neIS {K : PySem.W.Frag} {n : Int} {z : Str} : gNe K (.int n) (.str z) H Q = Q (.bl true) H := rfl
theorem r_neSI {K : PySem.W.Frag} {n : Int} {z : Str} : gNe K (.str z) (.int n) H Q = Q (.bl true) H := rfl
theorem r_neBS {K : PySem.W.Frag} {z : Str} : gNe K (.bl b) (.str z) H Q = Q (.bl true) H := rfl
theorem r_eqBB {K : PySem.W.Frag} {c : Bool} : gEq K (.bl b) (.bl c) H Q = Q (.bl (b == c)) H := rfl
theorem r_neBB {K : PySem.W.Frag} {c : Bool} : gNe K (.bl b) (.bl c) H Q = Q (.bl (!(b == c))) H := rfl
theorem r_ixL {K : PySem.W.Frag} {a : Addr} {xs : List V} {i : Nat} {v : V} (h : H a = some (.lst xs)) (e : xs[i]? = some v) (q : Q v H) : rIx K (.ref a) (.int (i : Int)) H Q := .inl ⟨_, _, _, _, rfl, rfl, .of h, by
  have hl := (List.getElem?_eq_some_iff.mp e).1
  unfold atI ixN
  rw [if_pos (by omega), if_pos (by omega), Int.toNat_natCast]
  exact e, q⟩
end
/-! ### isinstance(e, (C, D, ..)) of a caught error -/
def tIsQ (K : PySem.W.Frag) (x : V) (cs : List V) (H : Hp) (Q : VK) : Prop := cs.length ≤ sizeLine ∧ ∃ a D us b, x = .ref a ∧ H a = some (ExA (.ref D) a) ∧ ExcC K D ∧ Paired ClsV cs us ∧ PySem.W.kitAny K (.ref D) us = some b ∧ Q (.bl b) H
theorem x_isT {K : PySem.W.Frag} {σ : L2.St} {H : Hp} {Q : VK} {ta : TE} {tc : TA} : tIsT K ta tc σ H Q = ta σ H fun x H1 => tc σ H1 fun cs H2 => tIsQ K x cs H2 Q := rfl
inductive NamesK (K : PySem.W.Frag) : List V → List Str → Prop where
  | nil : NamesK K [] []
  | cons (c : Str) {cs : List V} {ns : List Str} (t : NamesK K cs ns) : NamesK K (.ref (ga K c) :: cs) (c :: ns)
theorem NamesK.len {K : PySem.W.Frag} {cs : List V} {ns : List Str} (h : NamesK K cs ns) : cs.length = ns.length := by
  induction h with
  | nil => rfl
  | cons c t ih => exact congrArg (· + 1) ih
theorem NamesK.pair {K : PySem.W.Frag} {cs : List V} {ns : List Str} (h : NamesK K cs ns) : Paired ClsV cs (ns.map fun c => Value.ref (ga K c)) := by
  induction h with
  | nil => exact .nil
  | cons c t ih => exact .cons (.own _) ih
theorem Told.anyOf {fa : List Fa} {fn : List DefD} {xl : XL} {K : PySem.W.Frag} {mg : Str → Option Value} (T : Told fa fn xl K mg) {d : Str} (hd : d ∈ xl.ex) : ∀ ns : List Str, (∀ c ∈ ns, c ∈ xl.ex) → PySem.W.kitAny K (.ref (ga K d)) (ns.map fun c => Value.ref (ga K c)) = some (ns.any (under d))
  | [], _ => rfl
  | c :: r, h => by
    show (match PySem.W.kitOne K (.ref (ga K d)) (.ref (ga K c)) with
      | some true => some true
      | some false => PySem.W.kitAny K (.ref (ga K d)) (r.map fun c => Value.ref (ga K c))
      | none => none) = some (under d c || r.any (under d))
    rw [((T.err hd).2.2 c (h c (List.mem_cons_self))).1]
    cases under d c with
    | true => rfl
    | false => exact T.anyOf hd r fun c hc => h c (List.mem_cons_of_mem _ hc)
theorem Told.isA {fa : List Fa} {fn : List DefD} {xl : XL} {K : PySem.W.Frag} {mg : Str → Option Value} (T : Told fa fn xl K mg) {d : Str} {a : Addr} {H : Hp} {Q : VK} {cs : List V} {ns : List Str} {b : Bool} (ha : H a = some (ExA (.ref (ga K d)) a)) (n : NamesK K cs ns)
    (hd : d ∈ xl.ex) (hc : (ns.all fun c => decide (c ∈ xl.ex)) = true) (hl : ns.length ≤ 1000) (e : ns.any (under d) = b) (q : Q (.bl b) H) : tIsQ K (.ref a) cs H Q :=
  ⟨by rw [n.len, sizeLine_eq]; omega, a, _, _, b, rfl, ha, (T.err hd).1, n.pair, (T.anyOf hd ns fun c h => of_decide_eq_true (List.all_eq_true.mp hc c h)).trans (congrArg some e), q⟩
end G
namespace G
open PySem PySem.Spec PySem.Calls PyProof.Rows L2 He
/-! ### == of data of some depth -/
def ShK (k : Nat) (d : PyData) : Prop := d.canLay0 = true ∧ d.depth ≤ k
theorem ShK.up {k n : Nat} {d : PyData} (h : ShK k d) (e : k ≤ n) : ShK n d := ⟨h.1, Nat.le_trans h.2 e⟩
theorem ShK.all {k : Nat} : ∀ {ds : List PyData}, (∀ z ∈ ds, ShK k z) → PyData.canLayAll0 ds = true ∧ PyData.depthAll ds ≤ k
  | [], _ => ⟨by simp [PyData.canLayAll0], by simp [PyData.depthAll]⟩
  | z :: zs, h => by
    have h1 := ShK.all (ds := zs) fun y hy => h y (List.mem_cons_of_mem _ hy)
    have h2 := h z (List.mem_cons_self)
    refine ⟨by simp [PyData.canLayAll0, h2.1, h1.1], ?_⟩
    have a := h2.2
    have b := h1.2
    simp only [PyData.depthAll]
    omega
theorem ShK.lst {k : Nat} {ds : List PyData} (h : ∀ z ∈ ds, ShK k z) : ShK (k + 1) (.list ds) := by
  have a := ShK.all h
  refine ⟨by simp [PyData.canLay0, a.1], ?_⟩
  have b := a.2
  simp only [PyData.depth]
  omega
theorem ShK.tup {k : Nat} {ds : List PyData} (h : ∀ z ∈ ds, ShK k z) : ShK (k + 1) (.tuple ds) := by
  have a := ShK.all h
  refine ⟨by simp [PyData.canLay0, a.1], ?_⟩
  have b := a.2
  simp only [PyData.depth]
  omega
theorem ShK.ok {k : Nat} {d : PyData} (h : ShK k d) (e : k ≤ 64) : SeqAt.shaped d = true := by
  show (d.canLay0 && decide (d.depth ≤ 64)) = true
  rw [h.1, decide_eq_true (Nat.le_trans h.2 e)]
  rfl
/-- flat things as data -/
def toD : V → PyData
  | .bl b => .bool b
  | .int i => .int i
  | _ => .none
def flatI : V → Bool
  | .non => true
  | .bl _ => true
  | .int _ => true
  | _ => false
theorem toD_sh {v : V} : ShK 0 (toD v) := by cases v <;> exact ⟨by simp [toD, PyData.canLay0], by simp [toD, PyData.depth]⟩
theorem toD_dp {K : PySem.W.Frag} {H : Hp} {v : V} (h : flatI v = true) : Dp K H v (toD v) := by
  cases v <;> first | (cases h; done) | skip
  · exact .non
  · exact .bl _
  · exact .int _
theorem toDs_dp {K : PySem.W.Frag} {H : Hp} : ∀ {xs : List V}, (∀ x ∈ xs, flatI x = true) → DpAll K H xs (xs.map toD)
  | [], _ => .nil
  | _ :: _, h => .cons (toD_dp (h _ (List.mem_cons_self))) (toDs_dp fun y hy => h y (List.mem_cons_of_mem _ hy))
theorem toDs_sh {xs : List V} : ∀ z ∈ xs.map toD, ShK 0 z := fun z h => by
  obtain ⟨v, -, e⟩ := List.mem_map.mp h
  subst e
  exact toD_sh
/-- lists of flat things; of tuples of flat things -/
theorem dp_flat {K : PySem.W.Frag} {H : Hp} {a : Addr} {xs : List V} (h : H a = some (.lst xs)) (f : ∀ x ∈ xs, flatI x = true) : Dp K H (.ref a) (.list (xs.map toD)) := .lst (.of h) (toDs_dp f)
theorem sh_flat {xs : List V} : SeqAt.shaped (.list (xs.map toD)) = true := (ShK.lst toDs_sh).ok (by decide)
inductive TupAll (H : Hp) : List V → List (List V) → Prop where
  | nil : TupAll H [] []
  | cons {tp : Addr} {xs : List V} {rs : List V} {yss : List (List V)} (h : H tp = some (.tup xs)) (f : ∀ x ∈ xs, flatI x = true) (t : TupAll H rs yss) : TupAll H (.ref tp :: rs) (xs :: yss)
def tupD (yss : List (List V)) : PyData := .list (yss.map fun xs => .tuple (xs.map toD))
theorem TupAll.dp {K : PySem.W.Frag} {H : Hp} : ∀ {rs : List V} {yss : List (List V)}, TupAll H rs yss → DpAll K H rs (yss.map fun xs => .tuple (xs.map toD))
  | _, _, .nil => .nil
  | _, _, .cons h f t => .cons (.tup (.inl (.inl h)) (toDs_dp f)) t.dp
theorem TupAll.same {H H' : Hp} {rs : List V} {yss : List (List V)} (h : TupAll H rs yss) (s : Same H H') : TupAll H' rs yss := by
  induction h with
  | nil => exact .nil
  | cons h f t ih => exact .cons (s _ _ h) f ih
theorem TupAll.snoc {H : Hp} {rs : List V} {yss : List (List V)} {tp : Addr} {xs : List V} (h : TupAll H rs yss) (e : H tp = some (.tup xs)) (f : ∀ x ∈ xs, flatI x = true) : TupAll H (rs ++ [.ref tp]) (yss ++ [xs]) := by
  induction h with
  | nil => exact .cons e f .nil
  | cons h f' t ih => exact .cons h f' ih
theorem TupAll.put {H : Hp} {rs : List V} {yss : List (List V)} {D : Addr} {o o' : HO} (h : TupAll H rs yss) (e : H D = some o) (n : ∀ xs, o ≠ .tup xs) : TupAll (upd H D o') rs yss := by
  induction h with
  | nil => exact .nil
  | cons h f t ih => exact .cons (by rw [upd_ne (ne_of h e fun z => n _ z.symm)]; exact h) f ih
theorem TupAll.len {H : Hp} {rs : List V} {yss : List (List V)} (h : TupAll H rs yss) : rs.length = yss.length := by
  induction h with
  | nil => rfl
  | cons h f t ih => exact congrArg (· + 1) ih
theorem TupAll.mem {H : Hp} {rs : List V} {yss : List (List V)} (h : TupAll H rs yss) : ∀ r ∈ rs, ∃ tp xs, r = .ref tp ∧ H tp = some (.tup xs) ∧ xs ∈ yss := by
  induction h with
  | nil => exact fun r h => (List.not_mem_nil h).elim
  | cons h f t ih =>
    intro r hr
    rcases List.mem_cons.mp hr with rfl | hr
    · exact ⟨_, _, rfl, h, List.mem_cons_self⟩
    · obtain ⟨tp, xs, e, h', m⟩ := ih r hr
      exact ⟨tp, xs, e, h', List.mem_cons_of_mem _ m⟩
theorem dp_tups {K : PySem.W.Frag} {H : Hp} {a : Addr} {rs : List V} {yss : List (List V)} (h : H a = some (.lst rs)) (t : TupAll H rs yss) : Dp K H (.ref a) (tupD yss) := .lst (.of h) t.dp
theorem sh_tups {yss : List (List V)} : SeqAt.shaped (tupD yss) = true := by
  refine (ShK.lst (k := 1) fun z h => ?_).ok (by decide)
  obtain ⟨xs, -, e⟩ := List.mem_map.mp h
  subst e
  exact ShK.tup toDs_sh
theorem shaped_refl {d : PyData} (s : SeqAt.shaped d = true) : PyData.eqv d d = true := PySem.SeqAt.eqv_refl d (SeqAt.canLay_of_shaped s)
theorem r_eqSame {K : PySem.W.Frag} {H : Hp} {Q : VK} {a b : Addr} {d : PyData} (h1 : Dp K H (.ref a) d) (h2 : Dp K H (.ref b) d) (s : SeqAt.shaped d = true) (q : Q (.bl true) H) : gEq K (.ref a) (.ref b) H Q := ⟨d, d, h1, h2, s, s, by rw [shaped_refl s]; exact q⟩
theorem r_neSame {K : PySem.W.Frag} {H : Hp} {Q : VK} {a b : Addr} {d : PyData} (h1 : Dp K H (.ref a) d) (h2 : Dp K H (.ref b) d) (s : SeqAt.shaped d = true) (q : Q (.bl false) H) : gNe K (.ref a) (.ref b) H Q := ⟨d, d, h1, h2, s, s, by rw [shaped_refl s]; exact q⟩
theorem getD_range {ts : List V} {d : V} : (List.range ts.length).map (fun i => ts.getD i d) = ts := by
  refine List.ext_getElem (by rw [List.length_map, List.length_range]) fun i h1 h2 => ?_
  rw [List.getElem_map, List.getElem_range, List.getD_eq_getElem?_getD, List.getElem?_eq_getElem h2]
  rfl
theorem getD_at {α : Type} {ts : List α} {d : α} {i : Nat} (h : i < ts.length) : ts[i]? = some (ts.getD i d) := by
  rw [List.getElem?_eq_getElem h, List.getD_eq_getElem?_getD, List.getElem?_eq_getElem h]
  rfl
theorem r_ixT {K : PySem.W.Frag} {H : Hp} {Q : VK} {a : Addr} {xs : List V} {i : Nat} {v : V} (h : H a = some (.tup xs)) (e : xs[i]? = some v) (q : Q v H) : rIx K (.ref a) (.int (i : Int)) H Q := .inr (.inl ⟨_, _, _, _, rfl, rfl, .inl (.inl h), by
  have hl := (List.getElem?_eq_some_iff.mp e).1
  unfold atI ixN
  rw [if_pos (by omega), if_pos (by omega), Int.toNat_natCast]
  exact e, q⟩)
theorem op_catTK {X : Cx} {K : PySem.W.Frag} (hK : X.K = K) : OpR X (binaryOp .Add) (rCatT K) := hK ▸ op_catT
theorem r_cat {K : PySem.W.Frag} {H : Hp} {Q : VK} {a b : Addr} {xs ys : List V} (h1 : H a = some (.tup xs)) (h2 : H b = some (.tup ys)) (nx : xs ≠ []) (ny : ys ≠ []) (hl : xs.length + ys.length ≤ sizeLine) (q : ∀ p, H p = none → Q (.ref p) (upd H p (.tup (xs ++ ys)))) : rCatT K (.ref a) (.ref b) H Q :=
  ⟨a, b, xs, ys, rfl, rfl, .inl (.inl h1), .inl (.inl h2), nx, hl, fun e => absurd e ny, fun _ => q⟩
/-- addresses that are in use -/
def Live (H : Hp) (L : List Addr) : Prop := L.Nodup ∧ ∀ c ∈ L, ∃ o, H c = some o
theorem Live.nil {H : Hp} : Live H [] := ⟨List.nodup_nil, fun c h => (List.not_mem_nil h).elim⟩
theorem Live.same {H H' : Hp} {L : List Addr} (h : Live H L) (s : Same H H') : Live H' L := ⟨h.1, fun c m => let ⟨o, e⟩ := h.2 c m; ⟨o, s _ _ e⟩⟩
theorem Live.cons {H H' : Hp} {L : List Addr} {x : Addr} {o : HO} (h : Live H L) (s : Same H H') (e : H x = none) (e' : H' x = some o) : Live H' (x :: L) := by
  refine ⟨List.nodup_cons.mpr ⟨fun m => ?_, h.1⟩, fun c m => ?_⟩
  · obtain ⟨o, g⟩ := h.2 x m
    rw [e] at g
    cases g
  · rcases List.mem_cons.mp m with rfl | m
    · exact ⟨_, e'⟩
    · obtain ⟨o, g⟩ := h.2 c m
      exact ⟨o, s _ _ g⟩
/-! ### enumerate -/
theorem x_enum {σ : L2.St} {H : Hp} {ta : TA} {R : It → Hp → Prop} {K : PySem.W.Frag} : iEnum K ta σ H R = ta σ H fun vs H1 => ∃ a xs, vs = [.ref a] ∧ SqL K H1 a xs ∧ R (Ite K a) H1 := rfl
end G
namespace G
open PySem PySem.Spec PySem.Calls PyProof.Rows L2 He
/-! ### while -/
def WhB (W : Nat → L2.St → Hp → Prop) (k : Nat) (tb : TS) (D : Ends) (σ : L2.St) (H : Hp) : Prop :=
  ∃ N : L2.St → Hp → Prop, (∀ σ' H', N σ' H' → ∃ m', m' < k ∧ W m' σ' H') ∧ tb { D with nx := N, ct := N, bk := D.nx } σ H
theorem whW {c : TT} {tb : TS} {D : Ends} {σ : L2.St} {H : Hp} (W : Nat → L2.St → Hp → Prop) (h0 : ∃ k, W k σ H) (hs : ∀ k σ H, W k σ H → c σ H fun b H1 => if b = true then WhB W k tb D σ H1 else D.nx σ H1) : tWhile c tb D σ H :=
  ⟨W, h0, hs⟩
theorem whB {W : Nat → L2.St → Hp → Prop} {k : Nat} {tb : TS} {D : Ends} {σ : L2.St} {H : Hp} (h : tb { D with nx := fun σ' H' => ∃ m', m' < k ∧ W m' σ' H', ct := fun σ' H' => ∃ m', m' < k ∧ W m' σ' H', bk := D.nx } σ H) : WhB W k tb D σ H :=
  ⟨_, fun _ _ q => q, h⟩
end G
namespace G
open PySem PySem.Spec PySem.Calls PyProof.Rows L2 He
theorem call_sumK {X : Cx} {K : PySem.W.Frag} (hK : X.K = K) (hc : X.calm = true) : CallR X (.builtin "sum") (rSum K) := hK ▸ cr_sum hc
theorem r_sumL {K : PySem.W.Frag} {H : Hp} {Q : VK} {a : Addr} {ns : List Int} (h : H a = some (.lst (ns.map V.int))) (q : Q (.int ns.sum) H) : rSum K [.ref a] H Q := ⟨a, ns, rfl, .of h, q⟩
/-- all of a list of truths is true -/
theorem r_allT {K : PySem.W.Frag} {H : Hp} {Q : VK} {a : Addr} {n : Nat} (h : H a = some (.lst (List.replicate n (.bl true)))) (q : Q (.bl true) H) : rAll K [.ref a] H Q := by
  refine ⟨a, List.replicate n true, rfl, .of (by rw [List.map_replicate]; exact h), ?_⟩
  rw [show (List.replicate n true).all id = true from List.all_eq_true.mpr fun b hb => (List.mem_replicate.mp hb).2]
  exact q
/-- [True for .. in xs] -/
theorem lc_trueL {σ : L2.St} {vs : List Nat} {H1 : Hp} {D : Addr} {Qd : Hp → Prop} {te : TE} {k : Nat} {K : PySem.W.Frag} {a : Addr} {xs : List V} (hw : ∀ v, wipe ((wipe σ vs).set k (some v)) vs = wipe σ vs) (hl : ∀ acc, SqL K (upd H1 D (.lst acc)) a xs) (hn : xs.length ≤ sizeLine)
    (he : ∀ (i : Nat) (x : V), xs[i]? = some x → ∀ acc (Q : VK), Q (.bl true) (upd H1 D (.lst acc)) → te ((wipe σ vs).set k (some x)) (upd H1 D (.lst acc)) Q) (hd : Qd (upd H1 D (.lst (List.replicate xs.length (.bl true))))) :
    ∃ W : Nat → Nat → Hp → Prop, (∃ m, W 0 m (upd H1 D (.lst []))) ∧ ∀ i m H, W i m H →
      ((Itl K a).stop i H ∧ Qd H) ∨ ((Itl K a).go i H ∧ ∃ Nx : Hp → Prop, (∀ H', Nx H' → ∃ m', m' < m ∧ W (i + 1) m' H') ∧ ∀ x H', (Itl K a).yld i H x H' → gName k x (wipe σ vs) H' fun σ2 H2 => wipe σ2 vs = wipe σ vs ∧ tYes σ2 H2 fun b H3 =>
        if b = true then te σ2 H3 fun y H4 => ∃ acc, H4 D = some (.lst acc) ∧ acc.length < sizeLine ∧ Nx (upd H4 D (.lst (acc ++ [y]))) else Nx H3) :=
  lc_mapL (ys := List.replicate xs.length (.bl true)) hw hl hn (List.length_replicate) (fun i x y hx hy acc Q q => by
    have e := (List.mem_replicate.mp (List.mem_of_getElem? hy)).2
    subst e
    exact he i x hx acc Q q) hd
/-- whole numbers in a list -/
theorem ints_mem {ns : List Int} {i : Nat} {x : V} (h : (ns.map V.int)[i]? = some x) : ∃ n, x = .int n ∧ n ∈ ns := by
  obtain ⟨n, m, e⟩ := List.mem_map.mp (List.mem_of_getElem? h)
  exact ⟨n, e.symm, m⟩
theorem ints_flat {ns : List Int} : ∀ x ∈ ns.map V.int, flatI x = true := fun x h => by
  obtain ⟨i, -, e⟩ := List.mem_map.mp h
  subst e
  rfl
theorem dp_ints {K : PySem.W.Frag} {H : Hp} {a : Addr} {ns : List Int} (h : H a = some (.lst (ns.map V.int))) : Dp K H (.ref a) (.list ((ns.map V.int).map toD)) := dp_flat h ints_flat
/-- two lists of the same whole numbers -/
theorem r_eqInts {K : PySem.W.Frag} {H : Hp} {Q : VK} {a b : Addr} {ns : List Int} (h1 : H a = some (.lst (ns.map V.int))) (h2 : H b = some (.lst (ns.map V.int))) (q : Q (.bl true) H) : gEq K (.ref a) (.ref b) H Q := r_eqSame (dp_ints h1) (dp_ints h2) sh_flat q
theorem r_neInts {K : PySem.W.Frag} {H : Hp} {Q : VK} {a b : Addr} {ns : List Int} (h1 : H a = some (.lst (ns.map V.int))) (h2 : H b = some (.lst (ns.map V.int))) (q : Q (.bl false) H) : gNe K (.ref a) (.ref b) H Q := r_neSame (dp_ints h1) (dp_ints h2) sh_flat q
/-- [text, thing]: what law's tries tell -/
inductive PlD : V → PyData → Prop where
  | non : PlD .non .none
  | bl (b : Bool) : PlD (.bl b) (.bool b)
  | int (i : Int) : PlD (.int i) (.int i)
  | str (z : Str) (h : PyData.strOk z = true) : PlD (.str z) (.str z)
theorem PlD.dp {K : PySem.W.Frag} {H : Hp} {v : V} {d : PyData} (h : PlD v d) : Dp K H v d := by
  cases h with
  | non => exact .non
  | bl b => exact .bl b
  | int i => exact .int i
  | str z h => exact .str z
theorem PlD.sh {v : V} {d : PyData} (h : PlD v d) : ShK 0 d := by
  cases h with
  | str z h => exact ⟨by simp only [PyData.canLay0]; exact h, by simp [PyData.depth]⟩
  | _ => exact ⟨by simp [PyData.canLay0], by simp [PyData.depth]⟩
inductive PlAll : List V → List PyData → Prop where
  | nil : PlAll [] []
  | cons {v : V} {d : PyData} {vs : List V} {ds : List PyData} (h : PlD v d) (t : PlAll vs ds) : PlAll (v :: vs) (d :: ds)
theorem PlAll.dp {K : PySem.W.Frag} {H : Hp} {vs : List V} {ds : List PyData} (h : PlAll vs ds) : DpAll K H vs ds := by
  induction h with
  | nil => exact .nil
  | cons h t ih => exact .cons h.dp ih
theorem PlAll.sh {vs : List V} {ds : List PyData} (h : PlAll vs ds) : ∀ z ∈ ds, ShK 0 z := by
  induction h with
  | nil => exact fun z h => (List.not_mem_nil h).elim
  | cons h t ih =>
    intro z m
    rcases List.mem_cons.mp m with rfl | m
    · exact h.sh
    · exact ih z m
/-- == of lists of plain things -/
theorem r_eqPl {K : PySem.W.Frag} {H : Hp} {Q : VK} {a b : Addr} {xs ys : List V} {ds es : List PyData} (h1 : H a = some (.lst xs)) (h2 : H b = some (.lst ys)) (p1 : PlAll xs ds) (p2 : PlAll ys es) (q : Q (.bl (PyData.eqv (.list ds) (.list es))) H) : gEq K (.ref a) (.ref b) H Q :=
  ⟨_, _, .lst (.of h1) p1.dp, .lst (.of h2) p2.dp, (ShK.lst p1.sh).ok (by decide), (ShK.lst p2.sh).ok (by decide), q⟩
theorem r_nePl {K : PySem.W.Frag} {H : Hp} {Q : VK} {a b : Addr} {xs ys : List V} {ds es : List PyData} (h1 : H a = some (.lst xs)) (h2 : H b = some (.lst ys)) (p1 : PlAll xs ds) (p2 : PlAll ys es) (q : Q (.bl (!PyData.eqv (.list ds) (.list es))) H) : gNe K (.ref a) (.ref b) H Q :=
  ⟨_, _, .lst (.of h1) p1.dp, .lst (.of h2) p2.dp, (ShK.lst p1.sh).ok (by decide), (ShK.lst p2.sh).ok (by decide), q⟩
theorem r_eqPlT {K : PySem.W.Frag} {H : Hp} {Q : VK} {a b : Addr} {xs : List V} {ds : List PyData} (h1 : H a = some (.lst xs)) (h2 : H b = some (.lst xs)) (p : PlAll xs ds) (q : Q (.bl true) H) : gEq K (.ref a) (.ref b) H Q :=
  r_eqSame (.lst (.of h1) p.dp) (.lst (.of h2) p.dp) ((ShK.lst p.sh).ok (by decide)) q
theorem r_nePlT {K : PySem.W.Frag} {H : Hp} {Q : VK} {a b : Addr} {xs : List V} {ds : List PyData} (h1 : H a = some (.lst xs)) (h2 : H b = some (.lst xs)) (p : PlAll xs ds) (q : Q (.bl false) H) : gNe K (.ref a) (.ref b) H Q :=
  r_neSame (.lst (.of h1) p.dp) (.lst (.of h2) p.dp) ((ShK.lst p.sh).ok (by decide)) q
end G
namespace G
open PySem PySem.Spec PySem.Calls PyProof.Rows L2 He
/-! ### isinstance of an own class's instance; in a written tuple -/
theorem call_isiK {X : Cx} {K : PySem.W.Frag} (hK : X.K = K) : CallR X (.builtin "isinstance") (rIsi K) := hK ▸ call_isi
theorem r_isiIns {K : PySem.W.Frag} {H : Hp} {Q : VK} {a C dx : Addr} {fs : List (Str × V)} (h : H a = some (.ins C dx fs)) (c : Cls K C) (n : ClN K C) (q : Q (.bl false) H) : rIsi K [.ref a, .ty "str"] H Q :=
  ⟨_, _, _, _, _, rfl, .ty _, .base (TyOf.ins h c n.ha n.hn n.htk n.hm), n.no, q⟩
theorem r_isiOwn {K : PySem.W.Frag} {H : Hp} {Q : VK} {a C dx : Addr} {fs : List (Str × V)} (h : H a = some (.ins C dx fs)) (c : Cls K C) (n : ClN K C) (q : Q (.bl true) H) : rIsi K [.ref a, .ref C] H Q :=
  ⟨_, _, _, _, _, rfl, .own _, .base (TyOf.ins h c n.ha n.hn n.htk n.hm), (by show (if (Value.ref C == Value.ref C) = true then some true else _) = _; rw [if_pos (beq_self_eq_true _)]), q⟩
theorem r_isiPl {K : PySem.W.Frag} {H : Hp} {Q : VK} {x : V} {t n : String} (h : tyOf x H = some t) (hn : n ∈ (["int", "bool", "str", "list", "tuple", "dict"] : List String)) (q : Q (.bl (isB t n)) H) : rIsi K [x, .ty n] H Q :=
  ⟨_, _, _, _, _, rfl, .ty _, tyOf_ok h, kit_ty (isB_all t (tyOf_in h) _ hn), q⟩
/-- x in a written tuple: flat things; data -/
def rInG (K : PySem.W.Frag) (neg : Bool) : R2 := fun x y H Q => rIn K neg x y H Q ∨ ∃ d ds, Dp K H x d ∧ Dp K H y (.tuple ds) ∧ SeqAt.shaped d = true ∧ SeqAt.shaped (.tuple ds) = true ∧ Q (.bl (if neg then !ds.any fun z => PyData.eqv z d else ds.any fun z => PyData.eqv z d)) H
theorem op_inTG {X : Cx} {K : PySem.W.Frag} (hK : X.K = K) (hu : X.A.units + 65 < cLine) : OpR X (compareOp .In) (rInG K false) := by
  subst hK
  intro pins s σ H x y v u Q I rx ry h
  rcases h with h | ⟨d, ds, hd, he, sd, se, q⟩
  · exact op_in_seq pins s σ H x y v u Q I rx ry h
  obtain ⟨as, r1⟩ := Dp.reads I d x v hd rx
  obtain ⟨bs, r2⟩ := Dp.reads I (.tuple ds) y u he ry
  exact SeqAt.in_tuple_reads r2 r1 (SeqAt.canLay_of_shaped se) (SeqAt.canLay_of_shaped sd) (room_in_shaped sd hu) ⟨.bl _, H, I, rfl, q⟩
theorem op_ninTG {X : Cx} {K : PySem.W.Frag} (hK : X.K = K) (hu : X.A.units + 65 < cLine) : OpR X (compareOp .NotIn) (rInG K true) := by
  subst hK
  intro pins s σ H x y v u Q I rx ry h
  rcases h with h | ⟨d, ds, hd, he, sd, se, q⟩
  · exact op_notIn_seq pins s σ H x y v u Q I rx ry h
  obtain ⟨as, r1⟩ := Dp.reads I d x v hd rx
  obtain ⟨bs, r2⟩ := Dp.reads I (.tuple ds) y u he ry
  exact SeqAt.notIn_tuple_reads r2 r1 (SeqAt.canLay_of_shaped se) (SeqAt.canLay_of_shaped sd) (room_in_shaped sd hu) ⟨.bl _, H, I, rfl, q⟩
end G
namespace G
open PySem PySem.Spec PySem.Calls PyProof.Rows L2 He
theorem hu65 {k : Nat} {A : Around} (r : Room k A) : A.units + 65 < cLine := by have := r.un; omega
theorem hu65N {k : Nat} {A : Around} (r : RoomN k A) : A.units + 65 < cLine := by have := r.un; omega
end G
namespace G
open PySem PySem.Spec PySem.Calls PyProof.Rows L2 He
/-! ### two named except clauses -/
section
variable {X : Cx} {x x2 n : Str} {c c2 : Value} {i : Nat} {body suite suite2 : List Stmt} {b0 b2 : Stmt} {np np2 pos pos' pos2' : Pos} {tb : WX → TS} {ts ts2 : TS} {Wo : WX}
theorem ps_tryT2 (hs : X.stack = X.env :: X.outer) (hf : X.env.frame = some X.env.locals) (hex : X.ex = []) (hN : X.N.Nodup) (hi : X.N[i]? = some n) (hln : X.env.kindOf n = some .local) (hc : Names X x c) (hc2 : Names X x2 c2) (tk : Takes X Wo)
    (hb : ∀ (W : WX) (pn : List (Addr × Obj)) (xe : Value → Shared → Prop), Takes (X.tr pn xe) W → PassesOwn (model X.prog X.w) X.A X.env xe → PSs (X.tr pn xe) body (tb W))
    (hsu : ∀ (a : Addr) (pn : List (Addr × Obj)), PSs (X.suite a pn) (b0 :: suite) ts) (hsu2 : ∀ (a : Addr) (pn : List (Addr × Obj)), PSs (X.suite a pn) (b2 :: suite2) ts2) :
    PS X (.Try body [.ExceptHandler (some (.Name x np)) (some n) (b0 :: suite) pos', .ExceptHandler (some (.Name x2 np2)) (some n) (b2 :: suite2) pos2'] [] [] pos) (fun D σ H => tb (wTr X.K c i ts (wTr X.K c2 i ts2 Wo D) D) D σ H) := by
  refine ⟨fun pins s σ H D I h => ?_⟩
  have ok := I.ok
  have hfr : X.A.frames = some (X.env :: X.outer) := by rw [ok.frames, hs]
  have lo : Loc X.env.scope n := .inl hln
  let rest : List ExceptHandler := [.ExceptHandler (some (.Name x np)) (some n) (b0 :: suite) pos', .ExceptHandler (some (.Name x2 np2)) (some n) (b2 :: suite2) pos2']
  let M := model X.prog X.w
  let wish : Value → Shared → Prop := fun e u1 => wpAny M X.A (noteFrame e X.env) (fun _ u2 => wpAny M X.A (setFlight e none) (fun _ u3 => wpAny M X.A (handleBy e X.env rest) (SP X pins D) X.xe u3) X.xe u2) X.xe u1
  refine wpAny_Try_except (wpAny_mono ((hb (wTr X.K c i ts (wTr X.K c2 i ts2 Wo D) D) (X.pn ++ pins) wish (fun u s' air => ?_) PassesOwn.looking).run [] s σ H D (I.toTry _) h) (fun fl s1 hsp => ?_) (fun e s1 he => he))
  · obtain ⟨a, B, sg, pi', σ1, H1, cls, d, rfl, Jt, nb, up, sky, na, os, ag, b, e1, yes, no⟩ := air
    have J : Inv X pins σ1 H1 sg := Jt.ofTry ok
    have sky' : Sky B (X.env :: X.outer) a (Zc cls d) X.env.locals s'.heap := by rw [← hs]; exact sky
    show wpAny M X.A (noteFrame (.ref a) X.env) _ _ _
    refine Sky.land Zc.steady hfr hf sky' fun h3 fl3 up3 => ?_
    have u3 := up.trans up3
    have J3 : Inv X pins σ1 H1 { s' with heap := h3 } := J.landed nb fl3.1 u3 os ag
    obtain ⟨o3, f3, g3, z3, d3⟩ := fl3.there
    have nfr : a ∉ frs (X.env :: X.outer) := fun hm => by
      obtain ⟨-, o', g', nf⟩ := fl3.2.2.1.mem hm
      rw [g3] at g'
      cases g'
      exact nf _ d3
    have nL : a ≠ X.env.locals := fun z => nfr (List.mem_filterMap.mpr ⟨X.env, List.mem_cons_self, by rw [hf, z]⟩)
    have nst : a ∉ frs X.stack := by rw [hs]; exact nfr
    have nB : B.get? a = none := fl3.2.1
    have ng : sg.heap.get? a = none := by
      cases e : sg.heap.get? a with
      | none => rfl
      | some o =>
        rw [nb a o e nst] at nB
        cases nB
    have n0 : X.s_0.heap.get? a = none := by
      cases e : X.s_0.heap.get? a with
      | none => rfl
      | some o =>
        obtain ⟨o', q⟩ := J.base.there a o e (by rw [hex]; exact List.not_mem_nil)
        rw [ng] at q
        cases q
    have nC : ∀ y z, X.env.cells.lookup y = some z → z ≠ a := fun y z e q => by
      obtain ⟨v, ob, e2, -⟩ := J.cell y z e
      rw [q, ng] at e2
      cases e2
    have nP : ∀ p ∈ X.pn ++ pins, p.1 ≠ a := fun p hp q => by
      have e2 := (J.pin p hp).1
      rw [q, ng] at e2
      cases e2
    have S3 := toSuite J3 a
    refine wpAny_handleBy_cons (codeAny_handlers_test ?_) (by intro q; cases q)
    have LT : PySem.W.Looks M h3 (typeOf (.ref a)) cls := fun _ _ _ _ k q => wpAny_typeOf_ref (k _ _ g3) (by rw [z3.1]; exact q)
    have LM := PySem.W.exm_one (M := M) J3.kIn LT e1
    have test : ∀ {Q : Value → Shared → Prop} {E : Value → Shared → Prop}, Q c { s' with heap := h3 } → wpAny M (X.A.mark (some (.ref a))) (eval (.Name x np) X.env) Q E { s' with heap := h3 } := fun {Q E} q => by
      obtain ⟨hg, hdb, hm | ⟨hm, hv, hnn⟩⟩ := hc
      · exact ld_glob (X := X.suite a (X.pn ++ pins)) S3 hg hm q hdb
      · exact ld_blt (X := X.suite a (X.pn ++ pins)) S3 hg hm hv q hnn hdb
    refine test (LM.here ?_)
    cases b with
    | true =>
      refine codeAny_handlers_suite_as (HandSPX.lands_againZ fl3 fun h4 fl4 up4 => ?_)
      have J4 : Inv X pins σ1 H1 { s' with heap := h4 } := J.landed nb fl4.1 (u3.trans up4) os ag
      obtain ⟨o4, f4, g4, z4, d4⟩ := fl4.there
      obtain ⟨ed, go⟩ := yes rfl
      subst ed
      have J5 := track (u := ExA cls a) J4 na n0 nL nC nP (exA_ok g4 z4 d4)
      refine store_ok (X := X.suite a (X.pn ++ pins)) (v := .ref a) (toSuite J5 a) hN hi lo rfl (fun s5 S5 => ?_) (.inr hln)
      refine wpAny_mono ((hsu a (X.pn ++ pins)).run [] s5 _ _ _ S5 (go a na)) (fun fl s6 hsp => ?_) (fun _ _ z => False.elim z)
      have out : ∀ {σ6 : L2.St} {H6 : Hp} {Q : Shared → Prop}, Inv (X.suite a (X.pn ++ pins)) [] σ6 H6 s6 → (∀ s7, Inv X pins (σ6.set i none) H6 s7 → Q s7) →
          wpAny M X.A (do bindName X.env n .none; unbindBehindTheSuite X.env n pos') (fun _ s7 => Q s7) X.xe s6 := fun S6 hq => gone_ok (ofSuite ok S6) hN hi hln hq
      cases fl with
      | next => exact hsp.elim fun _ z => z.elim fun _ q => out q.1 fun s7 J7 => ⟨_, _, J7, q.2⟩
      | brk => exact hsp.elim fun _ z => z.elim fun _ q => out q.1 fun s7 J7 => ⟨_, _, J7, q.2⟩
      | cont => exact hsp.elim fun _ z => z.elim fun _ q => out q.1 fun s7 J7 => ⟨_, _, J7, q.2⟩
      | ret u =>
        obtain ⟨v6, σ6, H6, S6, r6, q6⟩ := hsp
        exact out S6 fun s7 J7 => ⟨_, _, _, J7, r6, q6⟩
    | false =>
      obtain ⟨b', e1', yes', no'⟩ := no rfl
      refine wpAny_handleBy_cons (codeAny_handlers_test ?_) (by intro q; cases q)
      have LM2 := PySem.W.exm_one (M := M) J3.kIn LT e1'
      have test2 : ∀ {Q : Value → Shared → Prop} {E : Value → Shared → Prop}, Q c2 { s' with heap := h3 } → wpAny M (X.A.mark (some (.ref a))) (eval (.Name x2 np2) X.env) Q E { s' with heap := h3 } := fun {Q E} q => by
        obtain ⟨hg, hdb, hm | ⟨hm, hv, hnn⟩⟩ := hc2
        · exact ld_glob (X := X.suite a (X.pn ++ pins)) S3 hg hm q hdb
        · exact ld_blt (X := X.suite a (X.pn ++ pins)) S3 hg hm hv q hnn hdb
      refine test2 (LM2.here ?_)
      cases b' with
      | true =>
        refine codeAny_handlers_suite_as (HandSPX.lands_againZ fl3 fun h4 fl4 up4 => ?_)
        have J4 : Inv X pins σ1 H1 { s' with heap := h4 } := J.landed nb fl4.1 (u3.trans up4) os ag
        obtain ⟨o4, f4, g4, z4, d4⟩ := fl4.there
        obtain ⟨ed, go⟩ := yes' rfl
        subst ed
        have J5 := track (u := ExA cls a) J4 na n0 nL nC nP (exA_ok g4 z4 d4)
        refine store_ok (X := X.suite a (X.pn ++ pins)) (v := .ref a) (toSuite J5 a) hN hi lo rfl (fun s5 S5 => ?_) (.inr hln)
        refine wpAny_mono ((hsu2 a (X.pn ++ pins)).run [] s5 _ _ _ S5 (go a na)) (fun fl s6 hsp => ?_) (fun _ _ z => False.elim z)
        have out : ∀ {σ6 : L2.St} {H6 : Hp} {Q : Shared → Prop}, Inv (X.suite a (X.pn ++ pins)) [] σ6 H6 s6 → (∀ s7, Inv X pins (σ6.set i none) H6 s7 → Q s7) →
            wpAny M X.A (do bindName X.env n .none; unbindBehindTheSuite X.env n pos2') (fun _ s7 => Q s7) X.xe s6 := fun S6 hq => gone_ok (ofSuite ok S6) hN hi hln hq
        cases fl with
        | next => exact hsp.elim fun _ z => z.elim fun _ q => out q.1 fun s7 J7 => ⟨_, _, J7, q.2⟩
        | brk => exact hsp.elim fun _ z => z.elim fun _ q => out q.1 fun s7 J7 => ⟨_, _, J7, q.2⟩
        | cont => exact hsp.elim fun _ z => z.elim fun _ q => out q.1 fun s7 J7 => ⟨_, _, J7, q.2⟩
        | ret u =>
          obtain ⟨v6, σ6, H6, S6, r6, q6⟩ := hsp
          exact out S6 fun s7 J7 => ⟨_, _, _, J7, r6, q6⟩
      | false =>
        show wpAny M X.A (handleBy (.ref a) X.env []) _ _ _
        refine wpAny_handleBy_nil ?_
        obtain ⟨-, -, -, oe, vs, T, oT, ts', he, hz, hd, h1, hr⟩ := id fl3
        unfold PySem.passOn
        refine wpAny_bind (wpAny_field he hd h1 ?_)
        rw [if_neg (show ¬ ((Value.ref T == Value.none) = true) from by simp)]
        have fin : wpAny M X.A (setFlight (.ref a) X.env.frame) (fun _ u4 => wpAny M X.A (throw (.ref a) : Sem Flow) (SP X pins D) X.xe u4) X.xe { s' with heap := h3 } := by
          rw [hf]
          refine HandSPX.setFlight_upZ fl3 fun h4 hh4 up4 => wpAny_throw (tk _ _ ?_)
          exact ⟨a, B, sg, pins, σ1, H1, cls, d, rfl, J, nb, u3.trans up4, .inr (.inr (by rw [hs]; exact hh4)), na, os, ag, no' rfl⟩
        first
          | exact wpAny_bind (wpAny_pure (wpAny_bind fin))
          | exact wpAny_bind fin
  · cases fl with
    | next => exact hsp.elim fun σ1 z => z.elim fun H1 q => wpAny_execs_nil ⟨σ1, H1, q.1.ofTry ok, q.2⟩
    | brk => exact hsp.elim fun σ1 z => z.elim fun H1 q => ⟨σ1, H1, q.1.ofTry ok, q.2⟩
    | cont => exact hsp.elim fun σ1 z => z.elim fun H1 q => ⟨σ1, H1, q.1.ofTry ok, q.2⟩
    | ret u =>
      obtain ⟨v, σ1, H1, J, r, q⟩ := hsp
      exact ⟨v, σ1, H1, J.ofTry ok, r, q⟩
end

section
variable {fa : List Fa} {fn : List DefD} {xl : XL} {K : PySem.W.Frag} {mg : Str → Option Value}
theorem Told.missed (T : Told fa fn xl K mg) {d c : Str} {i : Nat} {ts : TS} {Wo : WX} {D : Ends} {σ : L2.St} {H : Hp} (hd : d ∈ xl.ex) (hc : c ∈ xl.ex) (hu : under d c = false) (h : Wo (.ref (ga K d)) none σ H) :
    wTr K (.ref (ga K c)) i ts Wo D (.ref (ga K d)) none σ H :=
  ⟨false, by rw [((T.err hd).2.2 c hc).2, hu], (fun z => by cases z), (fun _ => h)⟩
theorem Told.caughtU (T : Told fa fn xl K mg) {d c : Str} {ts : Addr → Value → Option Addr → TS} {r : List (Value × (Addr → Value → Option Addr → TS))} {Wo : WX} {D : Ends} {σ : L2.St} {H : Hp} (hd : d ∈ xl.ex) (hc : c ∈ xl.ex) (hu : under d c = true)
    (h : ∀ a, H a = none → ts a (.ref (ga K d)) none D σ H) : wMany K Wo D ((.ref (ga K c), ts) :: r) (.ref (ga K d)) none σ H :=
  ⟨true, by rw [((T.err hd).2.2 c hc).2, hu], (fun _ => h), (fun z => by cases z)⟩
theorem Told.missedU (T : Told fa fn xl K mg) {d c : Str} {ts : Addr → Value → Option Addr → TS} {r : List (Value × (Addr → Value → Option Addr → TS))} {Wo : WX} {D : Ends} {σ : L2.St} {H : Hp} (hd : d ∈ xl.ex) (hc : c ∈ xl.ex) (hu : under d c = false)
    (h : wMany K Wo D r (.ref (ga K d)) none σ H) : wMany K Wo D ((.ref (ga K c), ts) :: r) (.ref (ga K d)) none σ H :=
  ⟨false, by rw [((T.err hd).2.2 c hc).2, hu], (fun z => by cases z), (fun _ => h)⟩
end
end G
namespace G
open PySem PySem.Spec PySem.Calls PyProof.Rows L2 He
/-! ### for k in d -/
def LockW (t : TS) (D : Ends) (σ : L2.St) (H : Hp) : Prop := tLock t D σ H
section
variable {t : TS} {D : Ends} {σ : L2.St} {H : Hp} {d : Addr} {kvs : List (Key × V)} {td : TE} {R : It → Hp → Prop} {o : Obj} {g : TG} {tb : TS}
theorem x_lock : tLock t D σ H = LockW t D σ H := rfl
theorem lockD (hd : H d = some (.dK kvs)) (h : ∀ od, t ⟨fun σ' H' => H' d = some (.frz od (.dK kvs)) ∧ D.nx σ' (upd H' d (.dK kvs)), fun v H' => H' d = some (.frz od (.dK kvs)) ∧ D.rt v (upd H' d (.dK kvs)), fun σ' H' => H' d = some (.frz od (.dK kvs)) ∧ D.bk σ' (upd H' d (.dK kvs)), fun σ' H' => H' d = some (.frz od (.dK kvs)) ∧ D.ct σ' (upd H' d (.dK kvs))⟩ σ (upd H d (.frz od (.dK kvs)))) : LockW t D σ H := ⟨d, _, hd, trivial, h⟩
theorem x_keys : iKeys td σ H R = td σ H fun x H1 => ∃ d o, x = .ref d ∧ ((∃ kvs, H1 d = some (.frz o (.dK kvs)) ∧ R (Itk d o kvs) H1) ∨ ∃ kvs, H1 d = some (.frz o (.dT kvs)) ∧ R (Itkt d o kvs) H1) := rfl
theorem forW_keys (Pv : Nat → L2.St → Hp → Prop) (h0 : Pv 0 σ H) (hG : ∀ i σ H, i ≤ kvs.length → Pv i σ H → H d = some (.frz o (.dK kvs)))
    (hs : ∀ i k v σ H, kvs[i]? = some (k, v) → Pv i σ H → g (kV k) σ H fun σ2 H2 => tb { D with nx := Pv (i + 1), ct := Pv (i + 1), bk := D.nx } σ2 H2) (hd : ∀ σ H, Pv kvs.length σ H → D.nx σ H) : ForW (Itk d o kvs) g tb D σ H :=
  for_it walk_keys Pv h0 hG (fun i x σ H H' hi p y => by
    obtain ⟨rfl, k, v, e, rfl⟩ := y
    exact hs i k v σ _ e p) hd
theorem dget_f {i : Int} (h : H d = some (.frz o (.dK kvs))) : DGet H d (.int i) (valV kvs (.inl i : Key)) := .inl ⟨kvs, .inl i, .inr ⟨o, h⟩, rfl, rfl⟩
end
end G
namespace G
open PySem PySem.Spec PySem.Calls PyProof.Rows L2 He
/-! ### == of dicts, dict(d), xs.pop(i) -/
section
variable {X : Cx} {σ : L2.St} {H : Hp} {Q : VK}
def gEqDD : R2 := fun x y H Q => ∃ a b kvs kvs', x = .ref a ∧ y = .ref b ∧ H a = some (.dK kvs) ∧ H b = some (.dK kvs') ∧ ((kvs = kvs' ∧ (kvs.map (·.1)).Nodup ∧ (∀ p ∈ kvs, flatB p.2 = true) ∧ Q (.bl true) H) ∨ (kvs.length ≠ kvs'.length ∧ Q (.bl false) H))
def gNeDD : R2 := fun x y H Q => ∃ a b kvs kvs', x = .ref a ∧ y = .ref b ∧ H a = some (.dK kvs) ∧ H b = some (.dK kvs') ∧ ((kvs = kvs' ∧ (kvs.map (·.1)).Nodup ∧ (∀ p ∈ kvs, flatB p.2 = true) ∧ Q (.bl false) H) ∨ (kvs.length ≠ kvs'.length ∧ Q (.bl true) H))
theorem op_eqDD (hu : X.A.units < cLine) : OpR X (compareOp .Eq) gEqDD := by
  intro pins s σ H x y v u Q I rx ry h
  obtain ⟨a, b, kvs, kvs', rfl, rfl, ea, eb, h⟩ := h
  obtain rfl : v = Value.ref a := rx
  obtain rfl : u = Value.ref b := ry
  obtain ⟨_, ya, va, ra, da⟩ := (show ObjOk X.prog X.w H s.heap a (.dK kvs) from I.hok a _ ea)
  obtain ⟨_, yb, vb, rb, db⟩ := (show ObjOk X.prog X.w H s.heap b (.dK kvs') from I.hok b _ eb)
  rcases h with ⟨rfl, nd, fl, q⟩ | ⟨ne, q⟩
  · have hl : va.length = vb.length := ra.length.symm.trans rb.length
    exact PySem.W.keq_eq (knd := mixKind X.prog X.w) (r := true) ya yb da db hu (fun _ => hits_all rb ra fun p hp => ⟨val_nodup nd p hp, fl p hp⟩) (fin_bl I q (by simp [hl]))
  · have hl : va.length ≠ vb.length := fun z => ne (ra.length.trans (z.trans rb.length.symm))
    exact PySem.W.keq_eq (knd := mixKind X.prog X.w) (r := true) ya yb da db hu (fun z => absurd z hl) (fin_bl I q (by simp [hl]))
theorem op_neDD (hu : X.A.units < cLine) : OpR X (compareOp .NotEq) gNeDD := by
  intro pins s σ H x y v u Q I rx ry h
  obtain ⟨a, b, kvs, kvs', rfl, rfl, ea, eb, h⟩ := h
  obtain rfl : v = Value.ref a := rx
  obtain rfl : u = Value.ref b := ry
  obtain ⟨_, ya, va, ra, da⟩ := (show ObjOk X.prog X.w H s.heap a (.dK kvs) from I.hok a _ ea)
  obtain ⟨_, yb, vb, rb, db⟩ := (show ObjOk X.prog X.w H s.heap b (.dK kvs') from I.hok b _ eb)
  rcases h with ⟨rfl, nd, fl, q⟩ | ⟨ne, q⟩
  · have hl : va.length = vb.length := ra.length.symm.trans rb.length
    exact PySem.W.keq_ne (knd := mixKind X.prog X.w) (r := true) ya yb da db hu (fun _ => hits_all rb ra fun p hp => ⟨val_nodup nd p hp, fl p hp⟩) (fin_bl I q (by simp [hl]))
  · have hl : va.length ≠ vb.length := fun z => ne (ra.length.trans (z.trans rb.length.symm))
    exact PySem.W.keq_ne (knd := mixKind X.prog X.w) (r := true) ya yb da db hu (fun z => absurd z hl) (fin_bl I q (by simp [hl]))
theorem r_eqDD {a b : Addr} {kvs : List (Key × V)} (h1 : H a = some (.dK kvs)) (h2 : H b = some (.dK kvs)) (nd : (kvs.map (·.1)).Nodup) (fl : ∀ p ∈ kvs, flatB p.2 = true) (q : Q (.bl true) H) : gEqDD (.ref a) (.ref b) H Q := ⟨a, b, kvs, kvs, rfl, rfl, h1, h2, .inl ⟨rfl, nd, fl, q⟩⟩
theorem r_neDD {a b : Addr} {kvs : List (Key × V)} (h1 : H a = some (.dK kvs)) (h2 : H b = some (.dK kvs)) (nd : (kvs.map (·.1)).Nodup) (fl : ∀ p ∈ kvs, flatB p.2 = true) (q : Q (.bl false) H) : gNeDD (.ref a) (.ref b) H Q := ⟨a, b, kvs, kvs, rfl, rfl, h1, h2, .inl ⟨rfl, nd, fl, q⟩⟩
theorem r_eqDL {a b : Addr} {kvs kvs' : List (Key × V)} (h1 : H a = some (.dK kvs)) (h2 : H b = some (.dK kvs')) (ne : kvs.length ≠ kvs'.length) (q : Q (.bl false) H) : gEqDD (.ref a) (.ref b) H Q := ⟨a, b, kvs, kvs', rfl, rfl, h1, h2, .inr ⟨ne, q⟩⟩
def rDictD : List V → Hp → VK → Prop := fun xs H Q => ∃ (a : Addr) (kvs : List (Key × V)), xs = [.ref a] ∧ Rd H a (.dK kvs) ∧ ∀ p, H p = none → Q (.ref p) (upd H p (.dK kvs))
theorem call_dictDK : CallR X (.type "dict") rDictD := call_dictD
theorem r_isiD {a : Addr} {kvs : List (Key × V)} (h : H a = some (.dK kvs)) (q : Q (.bl true) H) : gIsi [.ref a, .ty "dict"] H Q := r_isi (t := "dict") (by show tyO (H a) = _; rw [h]; rfl) q
def rLenDD : List V → Hp → VK → Prop := fun xs H Q => ∃ a kvs, xs = [V.ref a] ∧ H a = some (.dK kvs) ∧ Q (.int kvs.length) H
theorem call_lenDD : CallR X (.builtin "len") rLenDD := call_lenD
theorem r_lenDD {a : Addr} {kvs : List (Key × V)} (h : H a = some (.dK kvs)) (q : Q (.int (kvs.length : Int)) H) : rLenDD [.ref a] H Q := ⟨_, _, rfl, h, q⟩
theorem r_popAt {a : Addr} {xs : List V} {i : Nat} {y : V} (h : H a = some (.lst xs)) (hi : xs[i]? = some y) (hs : xs.length ≤ sizeLine) (q : Q y (upd H a (.lst (xs.eraseIdx i)))) : rPopAt (.ref a) [.int (i : Int)] H Q := by
  have hl := (List.getElem?_eq_some_iff.mp hi).1
  have sz := sizeLine_eq
  refine ⟨a, xs, _, i, y, rfl, rfl, h, by omega, by omega, ?_, hi, q⟩
  unfold seqIndex?
  simp only [if_neg (show ¬ ((i : Int) < 0) by omega)]
  rw [if_pos (by rw [Bool.and_eq_true, decide_eq_true_eq, decide_eq_true_eq]; omega), Int.toNat_natCast]
theorem cutV_one {xs : List V} : cutV xs (some 1) none = xs.drop 1 := by
  have e : HT.sIx xs.length 0 (some 1) = min 1 xs.length := HT.sIx_nat _ _ 1
  unfold cutV
  rw [e, HT.sIx_none]
  cases xs with
  | nil => rfl
  | cons x r =>
    have e : min 1 (x :: r).length = 1 := by rw [List.length_cons]; omega
    rw [e]
    show (r.take (r.length + 1 - 1)) = r
    rw [Nat.add_sub_cancel, List.take_length]
/-! ### zip -/
theorem x_zip {ta : TA} {R : It → Hp → Prop} {K : PySem.W.Frag} : iZip K ta σ H R = ta σ H fun vs H1 => ∃ a b xs ys, vs = [.ref a, .ref b] ∧ SqL K H1 a xs ∧ SqL K H1 b ys ∧ R (Itz K a b) H1 := rfl
theorem forW_zip {K : PySem.W.Frag} {g : TG} {tb : TS} {D : Ends} {a b : Addr} {xs ys : List V} (Pv : Nat → L2.St → Hp → Prop) (h0 : Pv 0 σ H) (hG : ∀ i σ H, i ≤ min xs.length ys.length → Pv i σ H → SqL K H a xs ∧ SqL K H b ys)
    (hs : ∀ i x y T σ H, xs[i]? = some x → ys[i]? = some y → H T = none → Pv i σ H → g (.ref T) σ (upd H T (.tup [x, y])) fun σ2 H2 => tb { D with nx := Pv (i + 1), ct := Pv (i + 1), bk := D.nx } σ2 H2) (hd : ∀ σ H, Pv (min xs.length ys.length) σ H → D.nx σ H) : ForW (Itz K a b) g tb D σ H :=
  for_it (walk_zip rfl) Pv h0 hG (fun i x σ H H' hi p y => by
    obtain ⟨T, u, v, rfl, nT, rfl, e1, e2⟩ := y
    exact hs i u v T σ H e1 e2 nT p) hd
end
end G
namespace G
open PySem PySem.Spec PySem.Calls PyProof.Rows L2 He
/-! ### a comprehension whose item may raise -/
/-- what is wanted behind a block that began in env: an error goes on in env's frame -/
def PostX (M : Model) (A : Around) (E : Value → Shared → Prop) (env : Env) (Q : Value → Shared → Prop) (acc : Value) (C : Addr) : Result → Shared → Prop
  | .ok _, t => ∃ m, t.heap.Ns C m ∧ ∀ h', Heap.SameBut C t.heap h' → Q acc { t with heap := h' }
  | .error x, t => ∃ m, t.heap.Ns C m ∧ ∀ h', Heap.SameBut C t.heap h' → ∀ ce : Env, ce.locals = C → ce.frame = env.frame → wpAny M A (PySem.passOn "comprehension.variables-let-go" x ce : Sem Value) (fun _ _ => False) E { t with heap := h' }
section
variable {M : Model} {A : Around} {E : Value → Shared → Prop} {s : Shared} {env : Env}
theorem compX {e : Expr} {scope : Scope} {pos : Pos} {new fst : Sem Value} {g : Comprehension} {gs : List Comprehension} {cl : List (Str × Addr)} {Q : Value → Shared → Prop}
    (c1 : clausesOf e = g :: gs) (c2 : ∀ x, foldedSetIterable g.iter env x = pure x) (c3 : closureFor scope env = pure cl) (c4 : scope.kind = .function) (c5 : ∀ x ∈ scope.names, x.2 = .local → scope.names.lookup x.1 = some .local)
    (c6 : wpAny M A fst (fun x s1 => wpAny M A (pyIter x) (fun it s2 => wpAny M A new (fun acc s3 => wpAny M A (newFunctionEnv scope env.globals cl [] env.qual none .none (some env)) (fun ce s4 => ce.frame = env.frame ∧
        codeAny M A (.compStart e 0 it acc { ce with scope := relabel scope env }) (PostX M A E env Q acc ce.locals) s4) E s3) E s2) E s1) E s) :
    wpAny M A (comprehension e scope env pos new false fst none) Q E s := by
  have again : ∀ {α : Type} {m : Sem α} {R R' : α → Shared → Prop} {t : Shared}, wpAny M A m R E t → (∀ a u, R a u → R' a u) → wpAny M A m R' E t := fun k f => wpAny_mono k f fun _ _ z => z
  unfold comprehension
  rw [c3, c1]
  refine wpAny_bind (again c6 fun x s1 k1 => wpAny_bind (wpAny_standAt (wpAny_bind (wpAny_of_eq (c2 x) (wpAny_bind (wpAny_holding (again k1 fun it s2 k2 => ?_)))))))
  refine wpAny_standIf (wpAny_bind (again k2 fun acc s3 k3 => wpAny_bind (wpAny_pure (wpAny_bind (again k3 fun ce s4 k4 => ?_)))))
  obtain ⟨fr, k4⟩ := k4
  dsimp only
  have see : ∀ y ∈ (scope.names.filter fun y => (y.2 == .local || y.2 == .cell) && y.1 != (".0" : Str)).reverse, y.2 = .local → Env.kindOf { ce with scope := relabel scope env } y.1 = some .local := fun y hy hl =>
    lookup_relabel_local (c5 y (List.mem_filter.mp (List.mem_reverse.mp hy)).1 hl)
  refine wpAny_holding (wpAny_bind (wpAny_attempt (wpAny_holding (wpAny_run (codeAny_mono k4 fun r t k5 => ?_)))))
  cases r with
  | ok f =>
    obtain ⟨m, n5, k6⟩ := k5
    exact wpAny_bind (wpAny_holding (wpAny_comp_letGo (cenv := { ce with scope := relabel scope env }) c4 _ t m see n5 fun h' m' _ z => wpAny_pure (k6 h' z)))
  | error x =>
    obtain ⟨m, n5, k6⟩ := k5
    exact wpAny_bind (wpAny_holding (wpAny_comp_letGo (cenv := { ce with scope := relabel scope env }) c4 _ t m see n5 fun h' m' _ z => wpAny_mono (k6 h' z _ rfl fr) (fun _ _ f => f.elim) fun _ _ y => y))
end
section
variable {M : Model} {A : Around} {E : Value → Shared → Prop} {s : Shared} {Z : Obj → Prop} {base : Heap} {env : Env} {outer : List Env} {L e : Addr}
/-- a frame is noted behind another one -/
theorem look_fromZ {fl : Value} {Q : Unit → Shared → Prop} (hZ : HandSPX.Steady Z) (fr : A.frames = some (env :: outer)) (ef : env.frame = some L) (b1 : base.StaysIn s.heap) (b2 : base.get? e = none) (b3 : s.heap.FunFrames base (env :: outer))
    (tr : HandSPX.TracedZ s.heap base e Z fl) (ne : (fl == rawInt L) = false) (hQ : ∀ h', HandSPX.HeldZ base (env :: outer) e Z L h' → s.heap.UpToSlots h' → Q () { s with heap := h' }) : wpAny M A (noteFrame (.ref e) env) Q E s := by
  obtain ⟨oe, vs, T, oT, ts, he, hz, hd, h1, hnT, hTe, hT, hdT, h3⟩ := tr
  unfold noteFrame
  simp only [ef]
  refine wpAny_bind (wpAny_field he hd h1 ?_)
  rw [if_pos (by simp : (Value.ref T != Value.none) = true)]
  refine wpAny_bind (wpAny_field hT hdT h3 ?_)
  rw [if_neg (by rw [ne]; exact Bool.false_ne_true : ¬ ((fl == rawInt L) = true))]
  refine wpAny_bind (wpAny_setField hT hdT (Array.getElem?_eq_some_iff.mp h3).1 ?_)
  have off : ∀ b, b ≠ T → (s.heap.update T (Obj.mapFields (·.setIfInBounds 3 Value.none))).get? b = s.heap.get? b := fun b n => Heap.get?_update_other _ _ n.symm
  have plain : ∀ b o, s.heap.get? b = some o → (∀ v, o.data ≠ .fields v) → b ≠ T := fun b o g n q => by
    rw [q, hT] at g
    cases g
    exact n ts hdT
  refine HandSPX.wpAny_entryZ hZ fr (b3.of_keeps fun b o g n => ⟨o, (off b (plain b o g n)).trans g, rfl⟩) ef ((off e hTe.symm).trans he)
    (fun b o g => (off b fun q => by rw [q, hnT] at g; cases g).trans (b1 b o g)) b2 hd (Array.getElem?_eq_some_iff.mp h1).1 hz fun h' nt => ?_
  obtain ⟨x1, x2, x3, x4⟩ := nt
  exact hQ h' ⟨x1, b2, x2, x3⟩ fun b o g n => x4 b o ((off b (plain b o g n)).trans g) n
theorem funFrames_off {base base' h h' : Heap} {C : Addr} (k : ∀ b o, b ≠ C → h.get? b = some o → h'.get? b = some o) (kb : ∀ b, base.get? b = none → base'.get? b = none) : ∀ {l : List Env}, h.FunFrames base l → C ∉ frs l → h'.FunFrames base' l
  | [], _, _ => trivial
  | env :: l, ff, nC => by
    obtain ⟨hk, ⟨L, o, hf, hb, ho, hd⟩, hr⟩ := ff
    have nL : L ≠ C := fun z => nC (List.mem_filterMap.mpr ⟨env, List.mem_cons_self, by rw [hf, z]⟩)
    exact ⟨hk, ⟨L, o, hf, kb L hb, k L o nL ho, hd⟩, funFrames_off k kb hr fun m => by
      obtain ⟨e, he, q⟩ := List.mem_filterMap.mp m
      exact nC (List.mem_filterMap.mpr ⟨e, List.mem_cons_of_mem _ he, q⟩)⟩
end
/-- the context of a block that may raise -/
abbrev blkX (X : Cx) (s : Shared) (H : Hp) (scope : Scope) (ce : Env) (fp : List Addr) (xe : Value → Shared → Prop) : Cx := { X.blk s H scope ce fp with xe := xe }
theorem blkX_inv {X : Cx} {s : Shared} {H : Hp} {scope : Scope} {ce : Env} {fp : List Addr} {xe : Value → Shared → Prop} {pins : List (Addr × Obj)} {σ : L2.St} {H' : Hp} {t : Shared} (I : Inv (X.blk s H scope ce fp) pins σ H' t) : Inv (blkX X s H scope ce fp xe) pins σ H' t :=
  ⟨⟨I.ok.mod, I.ok.kind, I.ok.glob, I.ok.blt, I.ok.above, I.ok.inj, I.ok.has, I.ok.cab, I.ok.hd, I.ok.frames, I.ok.stk, I.ok.exf, I.ok.bs, I.ok.bsz, I.ok.noex, I.ok.exfs, I.ok.funs, I.ok.frf⟩, I.os, I.bare, I.base, I.loc, I.cell, I.free, I.freeC, I.pin, I.hok, I.len⟩
/-- an error leaves a block -/
theorem blk_err {X : Cx} {pins0 : List (Addr × Obj)} {σ : L2.St} {H3 : Hp} {s3 : Shared} {scope : Scope} {ce : Env} {fp : List Addr} {xe : Value → Shared → Prop} {Eo : XK} {Q : Value → Shared → Prop} {acc u : Value} {t : Shared} {E1 : Value → Shared → Prop}
    (hs : X.stack = X.env :: X.outer) (hf : X.env.frame = some X.env.locals) (I3 : Inv X pins0 σ H3 s3) (f3 : ∀ b ∈ fp, FpOk X pins0 H3 b) (cL : ce.locals = s3.heap.objs.size) (cf : ce.frame = X.env.frame)
    (tk : Takes X fun c d _ H => Eo c d H) (x : XE (blkX X s3 H3 scope ce fp xe) (fun c d _ H => Eo c d H) u t) :
    wpAny (model X.prog X.w) X.A (noteFrame u ce) (fun _ t' => PostX (model X.prog X.w) X.A X.xe X.env Q acc s3.heap.objs.size (.error u) t') E1 t := by
  obtain ⟨a, B, sI, pins, σ', H', cls, d, rfl, I, nb, up, sky, na, os, ag, w⟩ := x
  have fr : X.A.frames = some (X.env :: X.outer) := by rw [I3.ok.frames, hs]
  have J : Inv X pins0 σ H' sI := I3.call' (ch := fp) I.os I.base I.hok I.bare fun b hb => ⟨(f3 b hb).2.2.2.1, (f3 b hb).2.1, (f3 b hb).2.2.2.2.1, (f3 b hb).2.2.2.2.2⟩
  have free : H' ce.locals = none := I.free
  obtain ⟨m, ns, -⟩ := I.loc
  have ns : sI.heap.Ns ce.locals m := ns
  rw [cL] at free ns
  generalize hC : s3.heap.objs.size = C at free ns cL ⊢
  have fC : FpOk X pins0 H' C := I3.fpOk (Nat.le_of_eq hC) free
  have Cst : C ∉ frs X.stack := by
    rw [hs]
    intro z
    obtain ⟨v, hv, q⟩ := List.mem_filterMap.mp z
    rcases List.mem_cons.mp hv with rfl | hv
    · rw [hf] at q
      exact fC.2.1 (Option.some.inj q).symm
    · exact fC.2.2.1 (List.mem_filterMap.mpr ⟨v, hv, q⟩)
  obtain ⟨oC, es, ep, gC, rC⟩ := ns
  have bC : B.get? C = some oC := nb C oC gC Cst
  have en : (noteFrame (.ref a) ce : Sem Unit) = noteFrame (.ref a) X.env := by
    unfold noteFrame PySem.frameOf
    rw [cf]
  rw [en]
  have go : ∀ h1, HandSPX.HeldZ B (X.env :: X.outer) a (Zc cls d) X.env.locals h1 → t.heap.UpToSlots h1 → PostX (model X.prog X.w) X.A X.xe X.env Q acc C (.error (.ref a)) { t with heap := h1 } := fun h1 hh up1 => by
    obtain ⟨b1, b2, b3, oe, vs, T, oT, ts, he, hz, hd, h1', hnT, hTe, hT, hdT, h3⟩ := hh
    refine ⟨m, ⟨oC, es, ep, b1 _ _ bC, rC⟩, fun h' sb ce' e1 e2 => ?_⟩
    have aC : a ≠ C := fun z => by rw [z, bC] at b2; cases b2
    have TC : T ≠ C := fun z => by rw [z, bC] at hnT; cases hnT
    have off : ∀ b o, b ≠ C → h1.get? b = some o → h'.get? b = some o := fun b o n g => (sb.2 b n).trans g
    have hid : ∀ b, B.get? b = none → (PySem.W.hideAll B [C]).get? b = none := fun b g => by
      cases q : (PySem.W.hideAll B [C]).get? b with
      | none => rfl
      | some o => rw [PySem.W.of_hideAll _ q] at g; cases g
    have hidC : ∀ {h : Heap} {b o}, (PySem.W.hideAll h [C]).get? b = some o → b ≠ C := fun {h b o} g z => by
      rw [z, PySem.W.hideAll_none [C] (List.mem_singleton_self C)] at g
      cases g
    unfold PySem.passOn
    refine wpAny_bind (wpAny_field (off a oe aC he) hd h1' ?_)
    rw [if_neg (by simp : ¬ ((Value.ref T == Value.none) = true))]
    have fin : wpAny (model X.prog X.w) X.A (setFlight (.ref a) ce'.frame) (fun _ u4 => wpAny (model X.prog X.w) X.A (throw (.ref a) : Sem Value) (fun _ _ => False) X.xe u4) X.xe { t with heap := h' } := by
      rw [e2, hf]
      refine HandSPX.setFlight_anyZ (base := PySem.W.hideAll B [C]) (l := X.env :: X.outer) (Z := Zc cls d) (fl := rawInt X.env.locals) (fun b o g => off b o (hidC g) (b1 b o (PySem.W.of_hideAll _ g))) (funFrames_off off hid b3 (by rw [← hs]; exact Cst))
        ⟨oe, vs, T, oT, ts, off a oe aC he, hz, hd, h1', hid T hnT, hTe, off T oT TC hT, hdT, h3⟩ fun h4 k1 k2 k3 k4 => wpAny_throw (tk _ _ ?_)
      have J' : Inv X pins0 σ H' { sI with heap := PySem.W.hideAll sI.heap [C], toks := sI.toks } := J.turned (it := C) (fun b o n g => PySem.W.hideAll_get [C] g (fun z => n (List.mem_singleton.mp z))) free fC.2.1 fC.2.2.2.1 fC.2.2.2.2.1 fC.2.2.2.2.2
      refine ⟨a, PySem.W.hideAll B [C], _, pins0, σ, H', cls, d, rfl, J', fun b o g n => ?_, fun b o g nf => ?_, .inr (.inr (by rw [hs]; exact ⟨k1, hid a b2, k2, k3⟩)), na, os, ag, w⟩
      · exact PySem.W.hideAll_get [C] (nb b o (PySem.W.of_hideAll _ g) n) fun z => hidC g (List.mem_singleton.mp z)
      · have bn := hidC g
        obtain ⟨l1, g1⟩ := up b o (PySem.W.of_hideAll _ g) nf
        obtain ⟨l2, g2⟩ := up1 b _ g1 nf
        obtain ⟨l4, g4⟩ := k4 b _ (off b _ bn g2) nf
        exact ⟨l4, g4⟩
    first
      | exact wpAny_bind (wpAny_pure (wpAny_bind fin))
      | exact wpAny_bind fin
  rw [hs] at sky
  rcases sky with ⟨hB, hn, hl, oe, vs, he, hz, hd, h1⟩ | fl | hh
  · exact HandSPX.look_newZ Zc.steady fr hl hf he hB hn hd h1 hz go
  · exact HandSPX.looks_onZ Zc.steady fr hf fl go
  · obtain ⟨b1, b2, b3, b4⟩ := hh
    refine look_fromZ Zc.steady fr hf b1 b2 b3 b4 ?_ go
    have ne : ce.locals ≠ X.env.locals := by rw [cL]; exact fC.2.1
    simp [rawInt]
    exact fun z => ne (Int.ofNat.inj z)
/-- [elt for tg in iter if ..], of which elt may raise -/
theorem pe_lcX {X : Cx} {elt tg iter : Expr} {ifs : List Expr} {scope : Scope} {own : List (Str × Nat)} {pos : Pos} {wi : TI} {g : TG} {tt : TT} {te : XK → TE} {Eo : XK} (tk : Takes X fun c d _ H => Eo c d H) (es : X.stack = X.env :: X.outer) (ef : X.env.frame = some X.env.locals) (hc : X.calm = true)
    (hN : X.N.Nodup) (hi : PI X tg iter wi) (ok : BlkOk X.N X.env.scope scope own) (hg : ∀ (s : Shared) (H : Hp) (C : Addr) (cl : List (Str × Addr)) (fp : List Addr) (xe : Value → Shared → Prop), PG (blkX X s H scope (compEnvC scope cl C X.env) fp xe) tg g)
    (ht : ∀ (s : Shared) (H : Hp) (C : Addr) (cl : List (Str × Addr)) (fp : List Addr) (xe : Value → Shared → Prop), PTs (blkX X s H scope (compEnvC scope cl C X.env) fp xe) ifs tt)
    (he : ∀ (s : Shared) (H : Hp) (C : Addr) (cl : List (Str × Addr)) (fp : List Addr) (xe : Value → Shared → Prop) (E : XK), Takes (blkX X s H scope (compEnvC scope cl C X.env) fp xe) (fun c d _ H => E c d H) → PE (blkX X s H scope (compEnvC scope cl C X.env) fp xe) elt (te E))
    (hset : ∀ x, foldedSetIterable iter X.env x = pure x := by intro _; rfl) : PE X (.ListComp elt [⟨tg, iter, ifs, 0⟩] scope pos) (tLc wi g tt (te Eo) (own.map (·.2))) := by
  refine ⟨fun pins s σ H Q I h => ?_⟩
  rw [eval_ListComp]
  have clo : ∀ y ∈ scope.names, y.2 = .free → ∃ c, X.env.cells.lookup y.1 = some c := fun y hy e => (ok.free y hy e).elim (fun k => I.ok.has _ (.inl k)) fun k => I.ok.has _ (.inr k)
  refine compX rfl hset (closure_ok clo) ok.kind (fun y hy z => by rw [ok.uniq y hy, z]) (thn (hi.run pins s σ H _ I h) fun xv t1 hx => thn hx fun itv t2 h2 => ?_)
  obtain ⟨it, fp, tn, J, H2, e, I2, T, st2, f2, q⟩ := h2
  subst e
  refine wpAny_newObj_type (newEnv_comp ⟨rfl, ?_⟩) (by show 0 ≤ sizeLine; decide)
  generalize eD : t2.heap.objs.size = D
  obtain ⟨W, ⟨m0, w0⟩, turn⟩ := q D (I2.hok.fresh (Nat.le_of_eq eD))
  generalize e3 : ({ t2 with heap := t2.heap.push { cls := .type "list", data := .seq ([] : List Value).toArray } } : Shared) = t3
  have g3 : t3.heap = t2.heap.push { cls := .type "list", data := .seq ([] : List Value).toArray } := by rw [← e3]
  have I3 : Inv X pins σ (upd H2 D (.lst [])) t3 := by
    rw [← e3]
    refine I2.laid (t' := t2.toks) (fun b o g => Heap.get?_push_of_some _ g) (Nat.le_of_eq eD) ⟨Nat.zero_le _, [], 0, .nil, ?_⟩
    rw [← eD]
    exact Heap.get?_push_size _ rfl
  have lt2 : ∀ b ∈ fp, b < t2.heap.objs.size := fun b hb => let ⟨o, e, _⟩ := T.obj _ _ st2 b hb; Heap.lt_size e
  have f3 : ∀ b ∈ fp, FpOk X pins (upd H2 D (.lst [])) b ∧ b < t3.heap.objs.size := fun b hb => by
    have hl := lt2 b hb
    refine ⟨⟨?_, (f2 b hb).2⟩, by rw [g3, Heap.size_push]; exact Nat.lt_succ_of_lt hl⟩
    rw [upd_ne (by rw [← eD]; exact Nat.ne_of_lt hl)]
    exact (f2 b hb).1
  have st3 : tn 0 t3.heap := T.keep _ _ _ st2 fun b _ o g => by rw [g3]; exact Heap.get?_push_of_some _ g
  have I4 := block_start I3 ok hN f3
  have pg := hg t3 (upd H2 D (.lst [])) t3.heap.objs.size (cellsFrom (t3.heap.objs.size + 1) scope.names (cloFrom X.env.cells scope.names [])) fp
  have pt := ht t3 (upd H2 D (.lst [])) t3.heap.objs.size (cellsFrom (t3.heap.objs.size + 1) scope.names (cloFrom X.env.cells scope.names [])) fp
  have pe := he t3 (upd H2 D (.lst [])) t3.heap.objs.size (cellsFrom (t3.heap.objs.size + 1) scope.names (cloFrom X.env.cells scope.names [])) fp
  show codeAny _ _ (.compStart (.ListComp elt [⟨tg, iter, ifs, 0⟩] scope pos) 0 (.ref it) (.ref D) (compEnvC scope (cellsFrom (t3.heap.objs.size + 1) scope.names (cloFrom X.env.cells scope.names [])) t3.heap.objs.size X.env)) (PostX (model X.prog X.w) X.A X.xe X.env (EP X pins σ Q) (.ref D) t3.heap.objs.size) { t3 with heap := pushCells (t3.heap.push { cls := .type "dict", data := .dict #[] }) scope.names }
  have nfp : ∀ b ∈ fp, (upd H2 D (.lst [])) b = none := fun b hb => (f3 b hb).1.1
  generalize ece : compEnvC scope (cellsFrom (t3.heap.objs.size + 1) scope.names (cloFrom X.env.cells scope.names [])) t3.heap.objs.size X.env = ce at I4 pg pt pe ⊢
  have cL : ce.locals = t3.heap.objs.size := by subst ece; rfl
  have cf : ce.frame = X.env.frame := by subst ece; rfl
  generalize eH3 : upd H2 D (.lst []) = H3 at I3 I4 pg pt pe w0 nfp f3
  generalize e4 : ({ t3 with heap := pushCells (t3.heap.push { cls := .type "dict", data := .dict #[] }) scope.names } : Shared) = t4 at I4 ⊢
  have st4 : tn 0 t4.heap := T.keep _ _ _ st3 fun b _ o g => by rw [← e4]; exact pushCells_keeps _ _ _ _ (Heap.get?_push_of_some _ g)
  let R := PostX (model X.prog X.w) X.A X.xe X.env (EP X pins σ Q) (.ref D) t3.heap.objs.size
  let xe := notedBy (model X.prog X.w) X.A ce fun e t' => R (.error e) t'
  have tkb : Takes (blkX X t3 H3 scope ce fp xe) (fun c d _ H => Eo c d H) := fun u t x => blk_err (pins0 := pins) (xe := xe) es ef I3 (fun b hb => (f3 b hb).1) cL cf tk x
  have pg := pg xe
  have pt := pt xe
  have pe := pe xe Eo tkb
  have I4 : Inv (blkX X t3 H3 scope ce fp xe) [] (wipe σ (own.map (·.2))) H3 t4 := blkX_inv I4
  have stat : ∀ {σ' : L2.St} {H' : Hp} {t' : Shared}, Inv (blkX X t3 H3 scope ce fp xe) [] σ' H' t' → (∀ b ∈ fp, H' b = none) → ∀ b ∈ fp, FpOk (blkX X t3 H3 scope ce fp xe) [] H' b := fun {σ' H' t'} I' hn b hb =>
    ⟨hn b hb, (I'.ok.exf b hb).1, I'.ok.exfs b hb, .inl hb, fun x c e => (I'.ok.exf b hb).2 x c e, fun p hp => absurd (show p ∈ ([] : List (Addr × Obj)) ++ [] from hp) (by simp)⟩
  have loop : codeAny (model X.prog X.w) X.A (.compLoop (.ListComp elt [⟨tg, iter, ifs, 0⟩] scope pos) 0 (.ref it) (.ref D) ce) R t4 := by
    refine compLoop_any (fun n t' => ∃ i H', Inv (blkX X t3 H3 scope ce fp xe) [] (wipe σ (own.map (·.2))) H' t' ∧ tn i t'.heap ∧ (∀ b ∈ fp, H' b = none) ∧ W i n H') ?_ m0 ⟨0, H3, I4, st4, nfp, w0⟩
    rintro n t5 ⟨i, H5, I5, st5, n5, w5⟩
    rcases turn i n H5 w5 with ⟨stop, qq⟩ | ⟨go, Nx, hNx, step⟩
    · have td := T.done (blkX X t3 H3 scope ce fp xe) rfl rfl rfl hc i [] t5 _ H5 (fun _ _ => False) I5 (stat I5 n5) st5 stop
      refine thnF td fun r t6 ⟨hr, I6⟩ => ?_
      subst hr
      have I7 : Inv X pins σ H5 t6 := I3.call' (ch := fp) I6.os I6.base I6.hok I6.bare fun b hb => ⟨(f3 b hb).1.2.2.2.1, (f3 b hb).1.2.1, (f3 b hb).1.2.2.2.2.1, (f3 b hb).1.2.2.2.2.2⟩
      have nC : H5 t3.heap.objs.size = none := cL ▸ (show H5 ce.locals = none from I6.free)
      obtain ⟨m, hn, -⟩ := I6.loc
      have hn : t6.heap.Ns ce.locals m := hn
      rw [cL] at hn
      obtain ⟨a0, a1, a2, a3, a4, a5⟩ := I3.fpOk (Nat.le_refl _) nC
      exact ⟨m, hn, fun h' sb => ⟨.ref D, H5, I7.turned (t' := t6.toks) (fun b o n g => (sb.2 b n).trans g) a0 a1 a3 a4 a5, rfl, qq⟩⟩
    · have ti := T.item (blkX X t3 H3 scope ce fp xe) rfl rfl rfl hc i [] t5 _ H5 (fun _ _ => False) I5 (stat I5 n5) st5 go
      refine thnF ti fun r t6 ⟨u, hr, h6⟩ => ?_
      subst hr
      refine thnF h6 fun _ t7 ⟨x, H7, I7, r7, y7, st7, n7⟩ => ?_
      refine thn (pg.run _ t7 _ H7 x u _ (I7.pinned (stat I7 n7) (T.obj _ _ st7)) r7 (step x H7 y7)) fun _ t8 ⟨σ8, H8, I8, hw8, q8⟩ => ?_
      refine thn (pt.run _ t8 σ8 H8 _ I8 q8) fun b t9 ⟨H9, I9, q9⟩ => ?_
      have fin : ∀ {t' : Shared} {H' : Hp}, Inv (blkX X t3 H3 scope ce fp xe) ([] ++ pinsAt fp t7.heap) σ8 H' t' → Nx H' → ∃ m, m < n ∧ ∃ i H', Inv (blkX X t3 H3 scope ce fp xe) [] (wipe σ (own.map (·.2))) H' t' ∧ tn i t'.heap ∧ (∀ b ∈ fp, H' b = none) ∧ W i m H' := fun {t' H'} I' nx => by
        obtain ⟨m', hm, w'⟩ := hNx H' nx
        have pn : ∀ b ∈ fp, ∀ o, t7.heap.get? b = some o → t'.heap.get? b = some o ∧ H' b = none := fun b hb o g =>
          let z := I'.pin (b, o) (List.mem_append_right _ (List.mem_append_right _ (mem_pinsAt hb g))); ⟨z.1, z.2.1⟩
        have el : (wipe σ (own.map (·.2))).length = σ8.length := by rw [← hw8, wipe_length]
        refine ⟨m', hm, i + 1, H', (I'.unpinned (pins := [])).weak el (fun j v g => ?_), T.keep _ _ _ st7 fun b hb o g => (pn b hb o g).1, fun b hb => ?_, w'⟩
        · rw [← hw8] at g
          exact (wipe_some g).1
        · obtain ⟨o, g, _⟩ := T.obj _ _ st7 b hb
          exact (pn b hb o g).2
      cases b with
      | false =>
        simp only [Bool.false_eq_true, if_false] at q9 ⊢
        exact fin I9 q9
      | true =>
        simp only [if_true] at q9 ⊢
        refine thn (pe.run _ t9 σ8 H9 _ I9 q9) fun z t10 ⟨yv, H10, I10, r10, acc, hD10, hz10, nx⟩ => ?_
        exact app_ok (X := blkX X t3 H3 scope ce fp xe) I10 hD10 hz10 r10 fun t11 I11 => fin I11 nx
  exact codeAny_compStart_list loop (T.self X.A 0 _ _ _ st4 loop)
end G
namespace G
open PySem PySem.Spec PySem.Calls PyProof.Rows L2 He
/-! ### texts -/
/-- a text by its signs -/
abbrev Sg (l : List Nat) : Str := ⟨l.toArray⟩
theorem Sg_tl (l : List Nat) : TL.tl (Sg l) = l := rfl
theorem Sg_of (z : Str) : z = Sg (TL.tl z) := (TL.mk_tl z).symm
theorem Sg_inj {a b : List Nat} : Sg a = Sg b ↔ a = b := ⟨fun h => by have := congrArg TL.tl h; exact this, fun h => by rw [h]⟩
theorem Sg_add (a b : List Nat) : Sg a ++ Sg b = Sg (a ++ b) := TL.ext_tl (by rw [TL.tl_append])
theorem Sg_len (a : List Nat) : (Sg a).length = a.length := by rw [TL.len_tl]
theorem Sg_eq {a b : List Nat} : decide (Sg a = Sg b) = decide (a = b) := by
  by_cases h : a = b
  · rw [decide_eq_true h, decide_eq_true (Sg_inj.mpr h)]
  · rw [decide_eq_false h, decide_eq_false fun z => h (Sg_inj.mp z)]
def cutL (l : List Nat) (lo hi : Option Int) : List Nat := (l.drop (HT.sIx l.length 0 lo)).take (HT.sIx l.length l.length hi - HT.sIx l.length 0 lo)
theorem cutS_S {l : List Nat} {lo hi : Option Int} : cutS (Sg l) lo hi = Sg (cutL l lo hi) := by
  unfold cutS cutL
  rw [show (Sg l).length = l.length from Sg_len l]
theorem cutL_to {l : List Nat} {k : Nat} : cutL l none (some (k : Int)) = l.take k := by
  unfold cutL
  rw [HT.sIx_none, HT.sIx_nat, List.drop_zero, Nat.sub_zero]
  by_cases h : k ≤ l.length
  · rw [Nat.min_eq_left h]
  · rw [Nat.min_eq_right (by omega), List.take_length, List.take_of_length_le (by omega)]
theorem cutL_from {l : List Nat} {k : Nat} : cutL l (some (k : Int)) none = l.drop k := by
  unfold cutL
  rw [HT.sIx_none, HT.sIx_nat]
  by_cases h : k ≤ l.length
  · rw [Nat.min_eq_left h, List.take_of_length_le (by rw [List.length_drop]; omega)]
  · rw [Nat.min_eq_right (by omega), Nat.sub_self, List.take_zero, List.drop_eq_nil_of_le (by omega)]
theorem cutL_to1 {l : List Nat} : cutL l none (some 1) = l.take 1 := cutL_to (k := 1)
theorem cutL_from1 {l : List Nat} : cutL l (some 1) none = l.drop 1 := cutL_from (k := 1)
section
variable {X : Cx} {K : PySem.W.Frag} {σ : L2.St} {H : Hp} {Q : VK} {D : Ends} {g : TG} {tb : TS}
/-- a text so many times -/
def repL (l : List Nat) : Nat → List Nat
  | 0 => []
  | n + 1 => l ++ repL l n
theorem repL_len {l : List Nat} : ∀ {n : Nat}, (repL l n).length = n * l.length
  | 0 => by rw [Nat.zero_mul]; rfl
  | n + 1 => by
    show (l ++ repL l n).length = _
    rw [List.length_append, repL_len, Nat.succ_mul, Nat.add_comm]
theorem rep_fold : ∀ {n : Nat} {a : Array Nat} {l : List Nat}, ((List.replicate n l.toArray).foldl (· ++ ·) a).toList = a.toList ++ repL l n
  | 0, a, l => by
    rw [show repL l 0 = [] from rfl, List.append_nil]
    rfl
  | n + 1, a, l => by
    show ((List.replicate n l.toArray).foldl (· ++ ·) (a ++ l.toArray)).toList = _
    rw [rep_fold, Array.toList_append, List.append_assoc]
    rfl
def gRepS : R2
  | .str z, .int n, H, Q => 0 ≤ n ∧ n ≤ 1000 ∧ z.length ≤ 1000 ∧ Q (.str (Sg (repL (TL.tl z) n.toNat))) H
  | _, _, _, _ => False
theorem op_gRepS : OpR X (binaryOp .Mult) gRepS := by
  intro pins s σ H x y v u Q I rx ry h
  unfold gRepS at h
  split at h
  · rename_i z n
    obtain ⟨h0, h1, h2, q⟩ := h
    obtain ⟨t, rfl⟩ := rx
    obtain ⟨t', rfl⟩ := ry
    rcases Int.lt_or_le n 1 with c | c
    · obtain rfl : n = 0 := by omega
      exact PySem.P.mul_str_none (by decide) (by decide) ⟨.str Str.empty, _, I.tok _, ⟨_, rfl⟩, q⟩
    · obtain ⟨m, rfl⟩ := Int.eq_ofNat_of_zero_le h0
      refine PySem.P.mul_str (by rw [Bool.or_eq_false_iff]; exact ⟨decide_eq_false (by omega), decide_eq_false (by omega)⟩) (fun _ _ => ?_) (fun _ _ => ?_) ?_
      · have : (1000 : Int) ≤ (2 ^ 63 - 1) / (m : Int) := (Int.le_ediv_iff_mul_le (by omega)).mpr (by omega)
        omega
      · rw [Int.toNat_natCast]
        have : z.length * m ≤ 1000 * 1000 := Nat.mul_le_mul h2 (by omega)
        have sz : sizeLine = 16777216 := sizeLine_eq
        exact decide_eq_false (by omega)
      · rw [if_neg (by omega)]
        have e1 : (⟨(List.replicate m z.cps).foldl (· ++ ·) #[]⟩ : Str) = Sg (repL (TL.tl z) m) := TL.ext_tl (by
          have := rep_fold (n := m) (a := #[]) (l := z.cps.toList)
          rw [Array.toArray_toList] at this
          exact this)
        rw [Int.toNat_natCast] at q ⊢
        split
        · rename_i c2
          have e2 : z = Sg (repL (TL.tl z) m) := by
            rw [Bool.or_eq_true] at c2
            rcases c2 with c2 | c2
            · obtain rfl : m = 1 := by
                have := of_decide_eq_true c2
                omega
              exact TL.ext_tl (by show TL.tl z = TL.tl z ++ []; rw [List.append_nil])
            · have c2 : z.length = 0 := by simpa using c2
              rw [TL.len_tl] at c2
              refine TL.ext_tl ?_
              have e : (repL (TL.tl z) m).length = 0 := by rw [repL_len, c2, Nat.mul_zero]
              rw [List.eq_nil_of_length_eq_zero c2]
              rw [List.eq_nil_of_length_eq_zero c2] at e
              exact (List.eq_nil_of_length_eq_zero e).symm
          rw [← e2] at q
          exact ⟨.str z, _, I, ⟨_, rfl⟩, q⟩
        · rw [e1]
          refine ⟨?_, .str _, _, I.tok _, ⟨_, rfl⟩, q⟩
          have sz : sizeLine = 16777216 := sizeLine_eq
          have : m * (TL.tl z).length ≤ 1000 * 1000 := Nat.mul_le_mul (by omega) (by rw [← TL.len_tl]; exact h2)
          rw [Sg_len, repL_len]
          omega
  · exact h.elim
theorem r_repS {l : List Nat} {n : Int} : gRepS (.str (Sg l)) (.int n) H Q = (0 ≤ n ∧ n ≤ 1000 ∧ (Sg l).length ≤ 1000 ∧ Q (.str (Sg (repL l n.toNat))) H) := rfl
/-- a sign in a text -/
def gInS : R2 := fun x y H Q => ∃ (c : Nat) (z : Str), x = .str ⟨#[c]⟩ ∧ y = .str z ∧ Q (.bl (decide (c ∈ z.cps.toList))) H
def gNinS : R2 := fun x y H Q => ∃ (c : Nat) (z : Str), x = .str ⟨#[c]⟩ ∧ y = .str z ∧ Q (.bl (!decide (c ∈ z.cps.toList))) H
theorem op_gInS : OpR X (compareOp .In) gInS := op_in_sign
theorem op_gNinS : OpR X (compareOp .NotIn) gNinS := op_notIn_sign
theorem r_inS {c : Nat} {z : Str} : gInS (.str ⟨#[c]⟩) (.str z) H Q = Q (.bl (decide (c ∈ TL.tl z))) H := propext ⟨fun ⟨_, _, e, e', q⟩ => by cases e; cases e'; exact q, fun q => ⟨c, z, rfl, rfl, q⟩⟩
theorem r_ninS {c : Nat} {z : Str} : gNinS (.str ⟨#[c]⟩) (.str z) H Q = Q (.bl (!decide (c ∈ TL.tl z))) H := propext ⟨fun ⟨_, _, e, e', q⟩ => by cases e; cases e'; exact q, fun q => ⟨c, z, rfl, rfl, q⟩⟩
/-- x in a written tuple of flat things -/
theorem r_inT {a : Addr} {xs : List V} {x : V} (h : H a = some (.tup xs)) (fx : flatV x = true) (fs : xs.all flatV = true) (q : Q (.bl (inV x xs)) H) : rInG K false x (.ref a) H Q := .inl ⟨a, xs, rfl, .inr (.inl (.inl h)), fx, fs, by rw [if_neg Bool.false_ne_true]; exact q⟩
theorem r_ninT {a : Addr} {xs : List V} {x : V} (h : H a = some (.tup xs)) (fx : flatV x = true) (fs : xs.all flatV = true) (q : Q (.bl (!inV x xs)) H) : rInG K true x (.ref a) H Q := .inl ⟨a, xs, rfl, .inr (.inl (.inl h)), fx, fs, by rw [if_pos (rfl : true = true)]; exact q⟩
theorem r_inL {a : Addr} {xs : List V} {x : V} (h : SqL K H a xs) (fx : flatV x = true) (fs : xs.all flatV = true) (q : Q (.bl (inV x xs)) H) : rIn K false x (.ref a) H Q := ⟨a, xs, rfl, .inl h, fx, fs, by rw [if_neg Bool.false_ne_true]; exact q⟩
theorem r_ninL {a : Addr} {xs : List V} {x : V} (h : SqL K H a xs) (fx : flatV x = true) (fs : xs.all flatV = true) (q : Q (.bl (!inV x xs)) H) : rIn K true x (.ref a) H Q := ⟨a, xs, rfl, .inl h, fx, fs, by rw [if_pos (rfl : true = true)]; exact q⟩
/-- for c in a text -/
theorem x_str {te : TE} {R : It → Hp → Prop} : iStr te σ H R = te σ H fun v H1 => ∃ x, v = .str x ∧ R (Its x) H1 := rfl
theorem x_strE {z : Str} {P : Str → Prop} : (∃ x, V.str z = V.str x ∧ P x) = P z := propext ⟨fun ⟨_, e, q⟩ => by cases e; exact q, fun q => ⟨z, rfl, q⟩⟩
theorem forW_str {l : List Nat} (Pv : Nat → L2.St → Hp → Prop) (h0 : Pv 0 σ H) (hs : ∀ (i c : Nat) σ H, l[i]? = some c → Pv i σ H → g (.str (Sg [c])) σ H fun σ2 H2 => tb { D with nx := Pv (i + 1), ct := Pv (i + 1), bk := D.nx } σ2 H2)
    (hd : ∀ σ H, Pv l.length σ H → D.nx σ H) : ForW (Its (Sg l)) g tb D σ H :=
  for_it (walk_str (z := Sg l)) Pv h0 (fun _ _ _ _ _ => trivial) (fun i x σ H H' hi p y => by
    obtain ⟨rfl, c, e, rfl⟩ := y
    exact hs i c σ _ (by simpa using e) p) (by simpa using hd)
/-! ### calls -/
def gIntS : List V → Hp → VK → Prop := fun xs H Q => ∃ a n, xs = [.str a] ∧ PySem.intText? a = some n ∧ a.length ≤ 640 ∧ Q (.int n) H
theorem call_gIntS : CallR X (.type "int") gIntS := call_int_str
def gStrI : List V → Hp → VK → Prop
  | [.int i], H, Q => i.natAbs.log2 < 1920 ∧ Q (.str (toString i)) H
  | _, _, _ => False
theorem call_gStrI : CallR X (.type "str") gStrI := by
  intro pins s σ H xs us Q I r h
  unfold gStrI at h
  split at h
  · exact call_str_int pins s σ _ _ us Q I r ⟨_, rfl, h.1, h.2⟩
  · exact h.elim
theorem r_strI {i : Int} (h : i.natAbs.log2 < 1920) (q : Q (.str (Str.ofString (toString i))) H) : gStrI [.int i] H Q := ⟨h, q⟩
def rTupG (K : PySem.W.Frag) : List V → Hp → VK → Prop := fun xs H Q => ∃ p ys, xs = [.ref p] ∧ ((SqL K H p ys ∧ ∀ l, H l = none → Q (.ref l) (upd H l (.tup ys))) ∨ (SqT K H p ys ∧ Q (.ref p) H))
theorem call_tupK (hK : X.K = K) : CallR X (.type "tuple") (rTupG K) := hK ▸ call_tuple_of
def rJoin (K : PySem.W.Frag) : V → List V → Hp → VK → Prop := fun x xs H Q => ∃ a p, ∃ ys : List Str, x = .str a ∧ xs = [.ref p] ∧ (SqL K H p (ys.map V.str) ∨ SqT K H p (ys.map V.str)) ∧ (ys.map (·.length)).sum + ys.length * a.length ≤ 16777216 ∧ Q (.str (Txt.join a ys)) H
theorem mt_joinK (hK : X.K = K) : MtR X "str.join" (rJoin K) := hK ▸ mt_join
def rSplit : V → List V → Hp → VK → Prop := fun x xs H Q => ∃ a b, x = .str a ∧ xs = [.str b] ∧ (b.length == 0) = false ∧ a.length + 2 ≤ sizeLine ∧ rNewStrs (Txt.split a b) H Q
theorem mt_splitG : MtR X "str.split" rSplit := mt_split
def rFindS : V → List V → Hp → VK → Prop := fun x xs H Q => ∃ a b, x = .str a ∧ xs = [.str b] ∧ Q (.int (Txt.find a b)) H
theorem mt_findG : MtR X "str.find" rFindS := mt_find
theorem mt_indexK (hK : X.K = K) : MtR X "list.index" (rIndex K) := hK ▸ mt_index
/-- texts by their signs -/
def SgL (ps : List (List Nat)) : List V := ps.map fun p => V.str (Sg p)
theorem r_split {l : List Nat} {c : Nat} (hc : c < 256) (hz : l.length + 2 ≤ sizeLine) (q : ∀ p, H p = none → Q (.ref p) (upd H p (.lst (SgL (TL.spl [c] 0 [] l))))) : rSplit (.str (Sg l)) [.str (Sg [c])] H Q := by
  refine ⟨_, _, rfl, rfl, rfl, by rw [Sg_len]; exact hz, fun p hp => ?_⟩
  have e := TL.split_spl (Sg l) (Sg [c]) (by simp) (TL.kind_ok (by simp [hc]))
  have e2 : (Txt.split (Sg l) (Sg [c])).map V.str = SgL (TL.spl [c] 0 [] l) := by
    have e : (Txt.split (Sg l) (Sg [c])).map TL.tl = TL.spl [c] 0 [] l := e
    rw [← e]
    unfold SgL
    rw [List.map_map]
    refine List.map_congr_left fun z _ => ?_
    show V.str z = V.str (Sg (TL.tl z))
    rw [← Sg_of]
  rw [e2]
  exact q p hp
theorem r_join {sep : List Nat} {ps : List (List Nat)} {p : Addr} (h : SqL K H p (SgL ps)) (hz : (ps.map List.length).sum + ps.length * sep.length ≤ 16777216) (q : Q (.str (Sg (TL.joinL sep ps))) H) : rJoin K (.str (Sg sep)) [.ref p] H Q := by
  refine ⟨_, p, ps.map Sg, rfl, rfl, .inl (by rw [List.map_map]; exact h), ?_, ?_⟩
  · rw [List.map_map, List.length_map, Sg_len, show ((·.length) ∘ Sg : List Nat → Nat) = List.length from funext fun l => Sg_len l]
    exact hz
  · have e : Txt.join (Sg sep) (ps.map Sg) = Sg (TL.joinL sep ps) := TL.ext_tl (by
      rw [TL.join_eq, TL.tl_join, List.map_map, show (TL.tl ∘ Sg) = (id : List Nat → List Nat) from rfl, List.map_id])
    rw [e]
    exact q
theorem r_ixStr {l : List Nat} {i c : Nat} (hz : l.length ≤ sizeLine) (e : l[i]? = some c) (q : Q (.str (Sg [c])) H) : rIx K (.str (Sg l)) (.int (i : Int)) H Q :=
  .inr (.inr ⟨_, _, c, rfl, rfl, by rw [Sg_len]; exact hz, atI_nat e, q⟩)
theorem r_lenStr {l : List Nat} : (q : l.length ≤ sizeLine ∧ Q (.int (l.length : Int)) H) → L2.rLen K [.str (Sg l)] H Q := fun q => ⟨_, _, rfl, by show (Sg l).length ≤ sizeLine ∧ _ = (Sg l).length; rw [Sg_len]; exact ⟨q.1, rfl⟩, q.2⟩
theorem r_slStr {l : List Nat} {lo hi : Option Int} (hz : l.length ≤ sizeLine) (q : Q (.str (Sg (cutL l lo hi))) H) : rSlS (.str (Sg l)) lo hi H Q := ⟨_, rfl, by rw [Sg_len]; exact hz, by rw [cutS_S]; exact q⟩
theorem r_tupL {a : Addr} {xs : List V} (h : SqL K H a xs) (q : ∀ l, H l = none → Q (.ref l) (upd H l (.tup xs))) : rTupG K [.ref a] H Q := ⟨a, xs, rfl, .inl ⟨h, q⟩⟩
end
end G
namespace G
open PySem PySem.Spec PySem.Calls PyProof.Rows L2 He
/-! ### suites of some statements -/
section
variable {X : Addr → List (Addr × Obj) → Cx} {st : Stmt} {rest a b : List Stmt} {t u : TS} {tc : TT} {c : Expr} {pos : Pos}
theorem su_nil : ∀ x y, PSs (X x y) [] tNext := fun _ _ => pss_nil
theorem su_one (h : ∀ x y, PS (X x y) st t) : ∀ x y, PSs (X x y) [st] t := fun x y => pss_one (h x y)
theorem su_cons (h1 : ∀ x y, PS (X x y) st t) (h2 : ∀ x y, PSs (X x y) rest u) : ∀ x y, PSs (X x y) (st :: rest) (tSeq t u) := fun x y => pss_cons (h1 x y) (h2 x y)
theorem su_if (h : ∀ x y, PT (X x y) c tc) (h1 : ∀ x y, PSs (X x y) a t) (h2 : ∀ x y, PSs (X x y) b u) : ∀ x y, PS (X x y) (.If c a b pos) (tIfS tc t u) := fun x y => ps_if (h x y) (h1 x y) (h2 x y)
end
theorem pe_isTK {X : Cx} {K : PySem.W.Frag} {a : Expr} {es : List Expr} {x1} {ta : TE} {tc : TA} {p tp pos : Pos} (hK : X.K = K) (hg : Gl X "isinstance") (hm : X.mg "isinstance" = none) (ha : PE X a ta) (hc : PA X es tc)
    (he : starEach [a, .Tuple es x1 tp] X.env = [(false, eval a X.env), (false, eval (.Tuple es x1 tp) X.env)] := by rfl) : PE X (.Call (.Name "isinstance" p) [a, .Tuple es x1 tp] [] pos) (tIsT K ta tc) := by
  subst hK
  exact pe_isT hg hm ha hc he
end G
namespace G
open PySem PySem.Spec PySem.Calls PyProof.Rows L2 He
/-! ### a written dict -/
section
variable {σ : L2.St} {H : Hp} {Q : VK} {K : PySem.W.Frag}
theorem x_disp {trs : List (TE × TE)} : tDisp trs σ H Q = ∀ p, H p = none → tPairs trs σ (upd H p (.dK [])) fun ps H2 => H2 p = some (.dK []) ∧ ∃ kvs : List (Key × V), ps = kvs.map (fun kv => (kV kv.1, kv.2)) ∧ kvs.length ≤ 15 ∧ Q (.ref p) (upd H2 p (.dK (mergeK [] kvs))) := rfl
theorem x_pnil {R : List (V × V) → Hp → Prop} : tPairs [] σ H R = R [] H := rfl
theorem x_pcons {tk tv : TE} {r : List (TE × TE)} {R : List (V × V) → Hp → Prop} : tPairs ((tk, tv) :: r) σ H R = tk σ H fun x H1 => tv σ H1 fun y H2 => tPairs r σ H2 fun ps H3 => R ((x, y) :: ps) H3 := rfl
theorem r_lenT {a : Addr} {xs : List V} (h : H a = some (.tup xs)) (q : Q (.int (xs.length : Int)) H) : L2.rLen K [.ref a] H Q := ⟨_, _, rfl, .inr ⟨_, .inl (.inl h), rfl⟩, q⟩
theorem call_maxK {X : Cx} {K : PySem.W.Frag} (hK : X.K = K) (hc : X.calm = true) : CallR X (.builtin "max") (rMax K) := hK ▸ cr_max hc
theorem call_minK {X : Cx} {K : PySem.W.Frag} (hK : X.K = K) (hc : X.calm = true) : CallR X (.builtin "min") (rMin K) := hK ▸ cr_min hc
end
end G
namespace G
open PySem PySem.Spec PySem.Calls PyProof.Rows L2 He
/-! ### d.get(x), x None too -/
/-- a dict of ints and texts, seen with keys that may be None -/
theorem leaf_map {P : Program} {w : World} {h : Heap} {a : Addr} {vs : List (Key × Value)} (d : h.DictOf (mixKind P w) a vs) : ∃ f, h.MapOf (leafKind P w) a f ∧ f .none = none := by
  obtain ⟨o, es, ep, h1, h2, h3, h4, -, -⟩ := d
  refine ⟨fun k => findBy (leafKind P w).is es k, ⟨o, es, ep, h1, h2, h3, fun e m => ?_, fun k => rfl⟩, ?_⟩
  · obtain ⟨k, hk, hh⟩ := h4 e m
    cases k with
    | inl i =>
      obtain ⟨t, et⟩ := Value.isInt_shape (k := i) (v := e.key) hk
      exact ⟨.num i, by rw [et]; exact decide_eq_true rfl, hh⟩
    | inr x => exact ⟨.text x, hk, hh⟩
  · show (Array.find? (fun e => (leafKind P w).is .none e.key) es).map (·.val) = none
    rw [Array.find?_eq_none.mpr fun e m => ?_]
    · rfl
    · obtain ⟨k, hk, -⟩ := h4 e m
      rcases keyIs_shape hk with ⟨i, t, -, e2⟩ | ⟨x, t, -, e2⟩ <;> (rw [e2]; exact Bool.false_ne_true)
theorem d_getN {X : Cx} {pins : List (Addr × Obj)} {σ : L2.St} {H : Hp} {s : Shared} {a : Addr} {kvs : List (Key × V)} {A : Around} {E : Value → Shared → Prop} {Q : Value → Shared → Prop} (I : Inv X pins σ H s) (e : Rd H a (.dK kvs)) (h : ∀ s', Inv X pins σ H s' → Q .none s') :
    wpAny (model X.prog X.w) A (call (.builtin "dict.get") [.ref a, .none]) Q E s := by
  obtain ⟨z, hd, vs, rel, dd⟩ := dk_rd I.hok e
  obtain ⟨f, fm, fn⟩ := leaf_map dd
  refine call_meetsIn PySem.F.slot_dict_get dd.typeIs PySem.F.entry_dict_get (PySem.F.args_dict_get_2 _ _) (meets_dict_get (leafKind X.prog X.w) (k := .none) (key := .none) a rfl hd) ⟨f, fm, ?_⟩
  rw [fn]
  exact h _ (I.tok _)
def tDGetN (td ty : TE) : TE := fun σ H Q => td σ H fun x H1 => ∃ a, x = .ref a ∧ IsD H1 a ∧ ty σ H1 fun y H2 => (y = .non ∧ (∃ kvs, Rd H2 a (.dK kvs)) ∧ Q .non H2) ∨ ∃ o, DGet H2 a y o ∧ Q (o.getD .non) H2
theorem pe_dgetN {X : Cx} {o e : Expr} {apos cpos : Pos} {td ty : TE} (hu : X.A.units + 1 < cLine) (ho : PE X o td) (he : PE X e ty) (m : M1 X o "get" apos e cpos) : PE X (.Call (.Attribute o "get" apos) [e] [] cpos) (tDGetN td ty) := by
  refine ⟨fun pins s σ H Q I h => ?_⟩
  refine wpAny_Call_method m.base m.few m.line PySem.F.plainAttrs_dict PySem.F.slot_dict_get PySem.F.type_dict_get (thn (ho.run pins s σ H _ I h) fun u s1 ⟨x, H1, I1, rx, a, ex, d, q1⟩ => ?_)
  subst ex
  obtain rfl : u = Value.ref a := rx
  obtain ⟨t1, t2, _⟩ := isD_at I1 d
  refine ⟨t1, t2, ?_⟩
  rw [m.trees]
  refine Calls.callWith_builtin rfl (Calls.evalArgs_plain (Calls.spliced_cons (thn (he.run pins s1 σ H1 _ I1 q1) fun iv s2 ⟨y, H2, I2, ry, q2⟩ => Calls.spliced_nil ?_)))
  rcases q2 with ⟨rfl, ⟨kvs, rd⟩, q2⟩ | ⟨ov, g, q2⟩
  · obtain rfl : iv = Value.none := ry
    exact d_getN I2 rd fun s3 I3 => ⟨.non, H2, I3, rfl, q2⟩
  · exact d_get1 hu I2 g ry fun w' s3 I3 rw' => ⟨_, H2, I3, rw', q2⟩
theorem x_dgetN {σ : L2.St} {H : Hp} {Q : VK} {td ty : TE} : tDGetN td ty σ H Q = td σ H fun x H1 => ∃ a, x = .ref a ∧ IsD H1 a ∧ ty σ H1 fun y H2 => (y = .non ∧ (∃ kvs, Rd H2 a (.dK kvs)) ∧ Q .non H2) ∨ ∃ o, DGet H2 a y o ∧ Q (o.getD .non) H2 := rfl
end G
namespace Pr
open PySem PySem.Spec PyProof.Rows L2 G
local macro_rules | `(tactic| walk_at "x") => `(tactic| try simp only [↓x_var0, ↓x_varS, ↓x_c, ↓x_op, ↓x_un, ↓x_cb, ↓x_nil, ↓x_cons, ↓x_test, ↓x_b, ↓x_ex, ↓x_and, ↓x_or, ↓x_not, ↓x_andV, ↓x_orV, ↓x_notV, ↓x_tif, ↓x_chain, ↓x_menu, ↓x_menuI, ↓x_lst, ↓x_tup, ↓x_dnew, ↓x_callW, ↓x_callN, ↓x_seq, ↓x_next, ↓x_ret, ↓x_retN, ↓x_drop, ↓x_ifS, ↓x_asg, ↓x_name, ↓x_raise, ↓x_fld, ↓x_setF, ↓x_meth, ↓x_make, ↓x_sub, ↓r_min, ↓r_max, ↓x_yes, ↓x_for, ↓x_lock, ↓x_keys, ↓x_cut, ↓x_lc, ↓x_rng1, ↓x_rng2, ↓x_lst1, ↓x_itup, ↓x_rng3, ↓x_three, ↓x_lstg, ↓x_tupg, ↓x_adrS, ↓x_one, ↓x_two, ↓x_adr, ↓x_sl, ↓x_np, ↓x_pt, ↓x_int, ↓x_bm, ↓x_bm0, ↓x_consg, ↓x_nilg, ↓x_dget2, ↓x_dget1, ↓x_dgetN, ↓x_dget, ↓x_din, ↓x_dni, ↓x_dput, ↓x_dpop2, ↓r_isB, ↓r_notB, ↓x_enum, ↓x_zip, ↓x_str, ↓x_strE, ↓r_inS, ↓r_ninS, wipe, List.map_cons, List.map_nil, ↓x_isT, ↓r_isiII, ↓r_isiBB, ↓r_isiIB, ↓r_isiSS, ↓r_neNS, ↓r_neSN, ↓r_neNN, ↓r_eqNS, ↓r_eqSN, ↓r_eqNN, ↓r_eqIS, ↓r_neIS, ↓r_neSI, ↓r_neBS, ↓r_eqBB, ↓r_neBB, ↓x_start, ↓x_K, ↓x_start0, ↓r_i0, ↓r_i, ↓r_u, ↓r_addI, ↓r_addS, ↓r_mulI, ↓r_mulS, ↓r_eqI, ↓r_neI, ↓r_eqS, ↓r_neS, ↓r_absI, ↓r_intI, ↓r_intB, List.length_cons, List.length_nil, List.replicate, List.set_cons_zero, List.set_cons_succ, decide_eq_true_eq, Bool.not_eq_true', decide_eq_false_iff_not, if_true, if_false, Bool.false_eq_true, Bool.true_eq_false, ite_true, ite_false, Bool.not_true, Bool.not_false, c_div, n_ten, c_pow, not_true_eq_false, not_false_eq_true, decide_true, decide_false, true_and, and_true, and_self, true_or, or_true, Int.reduceLT, Int.reduceLE, Int.reduceMul, Int.reduceAdd, Int.reduceSub, Int.reducePow, Int.reduceNeg, Int.reduceDiv, Int.reduceMod, Nat.reducePow, Int.reduceToNat, Int.reduceEq, Int.reduceNe, Nat.reduceLT, Nat.reduceLeDiff, Nat.reduceAdd])

/-! ## the text by places -/
def top (i : Nat) : Stmt := PySem.Challenge.pw_cellkeep_k21_pictures.main.body.getD i (.Pass ⟨0, 0, 0, 0⟩)
abbrev s__wall : Stmt := top 0
abbrev s_is_whole : Stmt := top 16
abbrev s_number_word : Stmt := top 17
abbrev s_place_word : Stmt := top 18
abbrev s_kind : Stmt := top 19
abbrev s_worth : Stmt := top 20
abbrev s_need_slots : Stmt := top 24
abbrev s_lay : Stmt := top 25
abbrev s_head_of : Stmt := top 26
abbrev s_slots_of : Stmt := top 27
abbrev s_age_of : Stmt := top 28
abbrev s_words_of : Stmt := top 29
abbrev s_aged : Stmt := top 30
abbrev s_slot_place : Stmt := top 31
abbrev s_children : Stmt := top 32
abbrev s_send : Stmt := top 33
abbrev s_sent_to : Stmt := top 34
abbrev s_reached : Stmt := top 36
abbrev s_drawn : Stmt := top 38
abbrev s_drawn_cell : Stmt := top 39
abbrev s_picture : Stmt := top 40
abbrev s_Memory___init__ : Stmt := inClass (top 43) 0
abbrev s_Memory_need : Stmt := inClass (top 43) 1
abbrev s_Memory_read : Stmt := inClass (top 43) 2
abbrev s_Memory_write : Stmt := inClass (top 43) 3
abbrev s_Memory_need_stretch : Stmt := inClass (top 43) 4
abbrev s_Memory_copy : Stmt := inClass (top 43) 5
abbrev s_Space___init__ : Stmt := inClass (top 45) 0
abbrev s_Space_room : Stmt := inClass (top 45) 1
abbrev s_Space_used : Stmt := inClass (top 45) 2
abbrev s_Space_has : Stmt := inClass (top 45) 3
abbrev s_Space_take : Stmt := inClass (top 45) 4
abbrev s_Space_empty : Stmt := inClass (top 45) 5
abbrev s_Space_cut : Stmt := inClass (top 45) 6
abbrev s_Space_cells : Stmt := inClass (top 45) 7
abbrev s_Areas___init__ : Stmt := inClass (top 51) 0
abbrev s_Areas_flip : Stmt := inClass (top 51) 1
abbrev s_Areas_area_of : Stmt := inClass (top 51) 2
abbrev s_Areas_lay_young : Stmt := inClass (top 51) 3
abbrev s_Areas_lay_old : Stmt := inClass (top 51) 4
abbrev s_Book___init__ : Stmt := inClass (top 53) 0
abbrev s_Book_write : Stmt := inClass (top 53) 1
abbrev s_Book_rub : Stmt := inClass (top 53) 2
abbrev s_Book_has : Stmt := inClass (top 53) 3
abbrev s_Book_places : Stmt := inClass (top 53) 4
abbrev s_Book_clear : Stmt := inClass (top 53) 5
abbrev s_Hands___init__ : Stmt := inClass (top 56) 0
abbrev s_Hands_need : Stmt := inClass (top 56) 1
abbrev s_Hands_get : Stmt := inClass (top 56) 2
abbrev s_Hands_put : Stmt := inClass (top 56) 3
abbrev s_Hands_row : Stmt := inClass (top 56) 4
abbrev s_Lasts___init__ : Stmt := inClass (top 58) 0
abbrev s_Lasts_give : Stmt := inClass (top 58) 1
abbrev s_Lasts_need : Stmt := inClass (top 58) 2
abbrev s_Lasts_move : Stmt := inClass (top 58) 3
abbrev s_Lasts_say : Stmt := inClass (top 58) 4
abbrev s_Lasts_pending : Stmt := inClass (top 58) 5
abbrev s_Lasts_said : Stmt := inClass (top 58) 6
abbrev s_Weak___init__ : Stmt := inClass (top 60) 0
abbrev s_Weak_name : Stmt := inClass (top 60) 1
abbrev s_Weak_need : Stmt := inClass (top 60) 2
abbrev s_Weak_at : Stmt := inClass (top 60) 3
abbrev s_Weak_need_there : Stmt := inClass (top 60) 4
abbrev s_Weak_move : Stmt := inClass (top 60) 5
abbrev s_Weak_gone : Stmt := inClass (top 60) 6
abbrev s_Weak_names : Stmt := inClass (top 60) 7
abbrev s_Roots___init__ : Stmt := inClass (top 62) 0
abbrev s_Roots_starts : Stmt := inClass (top 62) 1
abbrev s_goals : Stmt := top 64
abbrev s_turned : Stmt := top 65
abbrev s_turn_slots : Stmt := top 66
abbrev s_turn_roots : Stmt := top 67
abbrev s_collect_all : Stmt := top 68
abbrev s_copied : Stmt := top 70
abbrev s_moved : Stmt := top 71
abbrev s_carried : Stmt := top 73
abbrev s_carry_place : Stmt := top 74
abbrev s_slot_places : Stmt := top 75
abbrev s_carry_all : Stmt := top 76
abbrev s_settle_names : Stmt := top 77
abbrev s_settle_lasts : Stmt := top 78
abbrev s_note : Stmt := top 79
abbrev s_collect_young : Stmt := top 80
abbrev s__law_cell_at : Stmt := top 82
abbrev s__law_next : Stmt := top 83
abbrev s__law_laid : Stmt := top 84
abbrev s__law_word : Stmt := top 85
abbrev s__law_write : Stmt := top 86
abbrev s__law_met : Stmt := top 87
abbrev s__law_drawn : Stmt := top 88
abbrev s__law_alike : Stmt := top 89
abbrev s__law_due : Stmt := top 90
abbrev s__law_apart : Stmt := top 91
abbrev s_law : Stmt := top 92
def F_Memory (v0 v1 : V) : List (Str × V) := [("size", v0), ("words", v1)]
theorem pi_Memory_size {x  : V} : putF "size" x ([] : List (Str × V)) = ([("size", x)] : List (Str × V)) := rfl
theorem pf_Memory_size {x v0 v1 : V} : putF "size" x (F_Memory v0 v1) = F_Memory x v1 := rfl
theorem pi_Memory_words {x v0 : V} : putF "words" x ([("size", v0)] : List (Str × V)) = F_Memory v0 x := rfl
theorem pf_Memory_words {x v0 v1 : V} : putF "words" x (F_Memory v0 v1) = F_Memory v0 x := rfl
def F_Space (v0 v1 v2 : V) : List (Str × V) := [("begin", v0), ("end", v1), ("top", v2)]
theorem pi_Space_begin {x  : V} : putF "begin" x ([] : List (Str × V)) = ([("begin", x)] : List (Str × V)) := rfl
theorem pf_Space_begin {x v0 v1 v2 : V} : putF "begin" x (F_Space v0 v1 v2) = F_Space x v1 v2 := rfl
theorem pi_Space_end {x v0 : V} : putF "end" x ([("begin", v0)] : List (Str × V)) = ([("begin", v0), ("end", x)] : List (Str × V)) := rfl
theorem pf_Space_end {x v0 v1 v2 : V} : putF "end" x (F_Space v0 v1 v2) = F_Space v0 x v2 := rfl
theorem pi_Space_top {x v0 v1 : V} : putF "top" x ([("begin", v0), ("end", v1)] : List (Str × V)) = F_Space v0 v1 x := rfl
theorem pf_Space_top {x v0 v1 v2 : V} : putF "top" x (F_Space v0 v1 v2) = F_Space v0 v1 x := rfl
def F_Areas (v0 v1 v2 v3 : V) : List (Str × V) := [("memory", v0), ("old", v1), ("young", v2), ("spare", v3)]
theorem pi_Areas_memory {x  : V} : putF "memory" x ([] : List (Str × V)) = ([("memory", x)] : List (Str × V)) := rfl
theorem pf_Areas_memory {x v0 v1 v2 v3 : V} : putF "memory" x (F_Areas v0 v1 v2 v3) = F_Areas x v1 v2 v3 := rfl
theorem pi_Areas_old {x v0 : V} : putF "old" x ([("memory", v0)] : List (Str × V)) = ([("memory", v0), ("old", x)] : List (Str × V)) := rfl
theorem pf_Areas_old {x v0 v1 v2 v3 : V} : putF "old" x (F_Areas v0 v1 v2 v3) = F_Areas v0 x v2 v3 := rfl
theorem pi_Areas_young {x v0 v1 : V} : putF "young" x ([("memory", v0), ("old", v1)] : List (Str × V)) = ([("memory", v0), ("old", v1), ("young", x)] : List (Str × V)) := rfl
theorem pf_Areas_young {x v0 v1 v2 v3 : V} : putF "young" x (F_Areas v0 v1 v2 v3) = F_Areas v0 v1 x v3 := rfl
theorem pi_Areas_spare {x v0 v1 v2 : V} : putF "spare" x ([("memory", v0), ("old", v1), ("young", v2)] : List (Str × V)) = F_Areas v0 v1 v2 x := rfl
theorem pf_Areas_spare {x v0 v1 v2 v3 : V} : putF "spare" x (F_Areas v0 v1 v2 v3) = F_Areas v0 v1 v2 x := rfl
def F_Book (v0 : V) : List (Str × V) := [("marks", v0)]
theorem pi_Book_marks {x  : V} : putF "marks" x ([] : List (Str × V)) = F_Book  x := rfl
theorem pf_Book_marks {x v0 : V} : putF "marks" x (F_Book v0) = F_Book x := rfl
def F_Hands (v0 : V) : List (Str × V) := [("kept", v0)]
theorem pi_Hands_kept {x  : V} : putF "kept" x ([] : List (Str × V)) = F_Hands  x := rfl
theorem pf_Hands_kept {x v0 : V} : putF "kept" x (F_Hands v0) = F_Hands x := rfl
def F_Lasts (v0 v1 : V) : List (Str × V) := [("waiting", v0), ("spoken", v1)]
theorem pi_Lasts_waiting {x  : V} : putF "waiting" x ([] : List (Str × V)) = ([("waiting", x)] : List (Str × V)) := rfl
theorem pf_Lasts_waiting {x v0 v1 : V} : putF "waiting" x (F_Lasts v0 v1) = F_Lasts x v1 := rfl
theorem pi_Lasts_spoken {x v0 : V} : putF "spoken" x ([("waiting", v0)] : List (Str × V)) = F_Lasts v0 x := rfl
theorem pf_Lasts_spoken {x v0 v1 : V} : putF "spoken" x (F_Lasts v0 v1) = F_Lasts v0 x := rfl
def F_Weak (v0 : V) : List (Str × V) := [("told", v0)]
theorem pi_Weak_told {x  : V} : putF "told" x ([] : List (Str × V)) = F_Weak  x := rfl
theorem pf_Weak_told {x v0 : V} : putF "told" x (F_Weak v0) = F_Weak x := rfl
def F_Roots (v0 v1 v2 v3 : V) : List (Str × V) := [("hands", v0), ("book", v1), ("weaks", v2), ("lasts", v3)]
theorem pi_Roots_hands {x  : V} : putF "hands" x ([] : List (Str × V)) = ([("hands", x)] : List (Str × V)) := rfl
theorem pf_Roots_hands {x v0 v1 v2 v3 : V} : putF "hands" x (F_Roots v0 v1 v2 v3) = F_Roots x v1 v2 v3 := rfl
theorem pi_Roots_book {x v0 : V} : putF "book" x ([("hands", v0)] : List (Str × V)) = ([("hands", v0), ("book", x)] : List (Str × V)) := rfl
theorem pf_Roots_book {x v0 v1 v2 v3 : V} : putF "book" x (F_Roots v0 v1 v2 v3) = F_Roots v0 x v2 v3 := rfl
theorem pi_Roots_weaks {x v0 v1 : V} : putF "weaks" x ([("hands", v0), ("book", v1)] : List (Str × V)) = ([("hands", v0), ("book", v1), ("weaks", x)] : List (Str × V)) := rfl
theorem pf_Roots_weaks {x v0 v1 v2 v3 : V} : putF "weaks" x (F_Roots v0 v1 v2 v3) = F_Roots v0 v1 x v3 := rfl
theorem pi_Roots_lasts {x v0 v1 v2 : V} : putF "lasts" x ([("hands", v0), ("book", v1), ("weaks", v2)] : List (Str × V)) = F_Roots v0 v1 v2 x := rfl
theorem pf_Roots_lasts {x v0 v1 v2 v3 : V} : putF "lasts" x (F_Roots v0 v1 v2 v3) = F_Roots v0 v1 v2 x := rfl
/-! ## the facts -/
def fa : List He.Fa := [.glo "KeepError", .glo "BadNumber", .glo "BadWord", .glo "BadCount", .glo "NoPlace", .glo "NoRoom", .glo "NoSlot", .glo "NoCell", .glo "NoHand", .glo "NoName", .glo "Memory", .glo "Space", .glo "Areas", .glo "Book", .glo "Hands", .glo "Lasts", .glo "Weak", .glo "Roots", .glo "_wall", .glo "is_whole", .glo "number_word", .glo "place_word", .glo "kind", .glo "worth", .glo "need_slots", .glo "lay", .glo "head_of", .glo "slots_of", .glo "age_of", .glo "words_of", .glo "aged", .glo "slot_place", .glo "children", .glo "send", .glo "sent_to", .glo "reached", .glo "drawn", .glo "drawn_cell", .glo "picture", .glo "goals", .glo "turned", .glo "turn_slots", .glo "turn_roots", .glo "collect_all", .glo "copied", .glo "moved", .glo "carried", .glo "carry_place", .glo "slot_places", .glo "carry_all", .glo "settle_names", .glo "settle_lasts", .glo "note", .glo "collect_young", .glo "_law_cell_at", .glo "_law_next", .glo "_law_laid", .glo "_law_word", .glo "_law_write", .glo "_law_met", .glo "_law_drawn", .glo "_law_alike", .glo "_law_due", .glo "_law_apart", .glo "law", .int "MOST_NUMBER" (1000000000000), .int "MOST_PLACE" (9999), .int "NOTHING" (-1), .int "MOST_SLOTS" (8), .int "MOST_AGE" (2), .int "MOST_SIZE" (4000), .int "LEAST_OLD" (4), .int "MOST_OLD" (2000), .int "LEAST_YOUNG" (2), .int "MOST_YOUNG" (500), .int "MOST_HANDS" (6), .free "isinstance", .free "len", .free "abs", .free "range", .free "sorted", .free "enumerate", .free "zip", .free "int", .free "bool", .free "list", .free "tuple", .free "ValueError", .exc "KeepError", .exc "BadNumber", .exc "BadWord", .exc "BadCount", .exc "NoPlace", .exc "NoRoom", .exc "NoSlot", .exc "NoCell", .exc "NoHand", .exc "NoName", .cls "Memory", .mkr "Memory", .meth "Memory" "need", .meth "Memory" "read", .meth "Memory" "write", .meth "Memory" "need_stretch", .meth "Memory" "copy", .noat "Memory" "size", .noat "Memory" "words", .cls "Space", .mkr "Space", .meth "Space" "room", .meth "Space" "used", .meth "Space" "has", .meth "Space" "take", .meth "Space" "empty", .meth "Space" "cut", .meth "Space" "cells", .noat "Space" "begin", .noat "Space" "end", .noat "Space" "top", .cls "Areas", .mkr "Areas", .meth "Areas" "flip", .meth "Areas" "area_of", .meth "Areas" "lay_young", .meth "Areas" "lay_old", .noat "Areas" "memory", .noat "Areas" "old", .noat "Areas" "young", .noat "Areas" "spare", .cls "Book", .mkr "Book", .meth "Book" "write", .meth "Book" "rub", .meth "Book" "has", .meth "Book" "places", .meth "Book" "clear", .noat "Book" "marks", .cls "Hands", .mkr "Hands", .meth "Hands" "need", .meth "Hands" "get", .meth "Hands" "put", .meth "Hands" "row", .noat "Hands" "kept", .cls "Lasts", .mkr "Lasts", .meth "Lasts" "give", .meth "Lasts" "need", .meth "Lasts" "move", .meth "Lasts" "say", .meth "Lasts" "pending", .meth "Lasts" "said", .noat "Lasts" "waiting", .noat "Lasts" "spoken", .cls "Weak", .mkr "Weak", .meth "Weak" "name", .meth "Weak" "need", .meth "Weak" "at", .meth "Weak" "need_there", .meth "Weak" "move", .meth "Weak" "gone", .meth "Weak" "names", .noat "Weak" "told", .cls "Roots", .mkr "Roots", .meth "Roots" "starts", .noat "Roots" "hands", .noat "Roots" "book", .noat "Roots" "weaks", .noat "Roots" "lasts"]
def d__wall : He.DefD := ⟨("_wall", none), "_wall", "_wall", defArgs s__wall, defBody s__wall, defScope s__wall, [], []⟩
def d_is_whole : He.DefD := ⟨("is_whole", none), "is_whole", "is_whole", defArgs s_is_whole, defBody s_is_whole, defScope s_is_whole, [], []⟩
def d_number_word : He.DefD := ⟨("number_word", none), "number_word", "number_word", defArgs s_number_word, defBody s_number_word, defScope s_number_word, [], []⟩
def d_place_word : He.DefD := ⟨("place_word", none), "place_word", "place_word", defArgs s_place_word, defBody s_place_word, defScope s_place_word, [], []⟩
def d_kind : He.DefD := ⟨("kind", none), "kind", "kind", defArgs s_kind, defBody s_kind, defScope s_kind, [], []⟩
def d_worth : He.DefD := ⟨("worth", none), "worth", "worth", defArgs s_worth, defBody s_worth, defScope s_worth, [], []⟩
def d_need_slots : He.DefD := ⟨("need_slots", none), "need_slots", "need_slots", defArgs s_need_slots, defBody s_need_slots, defScope s_need_slots, [], []⟩
def d_lay : He.DefD := ⟨("lay", none), "lay", "lay", defArgs s_lay, defBody s_lay, defScope s_lay, [], []⟩
def d_head_of : He.DefD := ⟨("head_of", none), "head_of", "head_of", defArgs s_head_of, defBody s_head_of, defScope s_head_of, [], []⟩
def d_slots_of : He.DefD := ⟨("slots_of", none), "slots_of", "slots_of", defArgs s_slots_of, defBody s_slots_of, defScope s_slots_of, [], []⟩
def d_age_of : He.DefD := ⟨("age_of", none), "age_of", "age_of", defArgs s_age_of, defBody s_age_of, defScope s_age_of, [], []⟩
def d_words_of : He.DefD := ⟨("words_of", none), "words_of", "words_of", defArgs s_words_of, defBody s_words_of, defScope s_words_of, [], []⟩
def d_aged : He.DefD := ⟨("aged", none), "aged", "aged", defArgs s_aged, defBody s_aged, defScope s_aged, [], []⟩
def d_slot_place : He.DefD := ⟨("slot_place", none), "slot_place", "slot_place", defArgs s_slot_place, defBody s_slot_place, defScope s_slot_place, [], []⟩
def d_children : He.DefD := ⟨("children", none), "children", "children", defArgs s_children, defBody s_children, defScope s_children, [], []⟩
def d_send : He.DefD := ⟨("send", none), "send", "send", defArgs s_send, defBody s_send, defScope s_send, [], []⟩
def d_sent_to : He.DefD := ⟨("sent_to", none), "sent_to", "sent_to", defArgs s_sent_to, defBody s_sent_to, defScope s_sent_to, [], []⟩
def d_reached : He.DefD := ⟨("reached", none), "reached", "reached", defArgs s_reached, defBody s_reached, defScope s_reached, [], []⟩
def d_drawn : He.DefD := ⟨("drawn", none), "drawn", "drawn", defArgs s_drawn, defBody s_drawn, defScope s_drawn, [], []⟩
def d_drawn_cell : He.DefD := ⟨("drawn_cell", none), "drawn_cell", "drawn_cell", defArgs s_drawn_cell, defBody s_drawn_cell, defScope s_drawn_cell, [], []⟩
def d_picture : He.DefD := ⟨("picture", none), "picture", "picture", defArgs s_picture, defBody s_picture, defScope s_picture, [], []⟩
def d_Memory___init__ : He.DefD := ⟨("Memory", some "__init__"), "__init__", "Memory.__init__", defArgs s_Memory___init__, defBody s_Memory___init__, defScope s_Memory___init__, [], []⟩
def d_Memory_need : He.DefD := ⟨("Memory", some "need"), "need", "Memory.need", defArgs s_Memory_need, defBody s_Memory_need, defScope s_Memory_need, [], []⟩
def d_Memory_read : He.DefD := ⟨("Memory", some "read"), "read", "Memory.read", defArgs s_Memory_read, defBody s_Memory_read, defScope s_Memory_read, [], []⟩
def d_Memory_write : He.DefD := ⟨("Memory", some "write"), "write", "Memory.write", defArgs s_Memory_write, defBody s_Memory_write, defScope s_Memory_write, [], []⟩
def d_Memory_need_stretch : He.DefD := ⟨("Memory", some "need_stretch"), "need_stretch", "Memory.need_stretch", defArgs s_Memory_need_stretch, defBody s_Memory_need_stretch, defScope s_Memory_need_stretch, [], []⟩
def d_Memory_copy : He.DefD := ⟨("Memory", some "copy"), "copy", "Memory.copy", defArgs s_Memory_copy, defBody s_Memory_copy, defScope s_Memory_copy, [], []⟩
def d_Space___init__ : He.DefD := ⟨("Space", some "__init__"), "__init__", "Space.__init__", defArgs s_Space___init__, defBody s_Space___init__, defScope s_Space___init__, [], []⟩
def d_Space_room : He.DefD := ⟨("Space", some "room"), "room", "Space.room", defArgs s_Space_room, defBody s_Space_room, defScope s_Space_room, [], []⟩
def d_Space_used : He.DefD := ⟨("Space", some "used"), "used", "Space.used", defArgs s_Space_used, defBody s_Space_used, defScope s_Space_used, [], []⟩
def d_Space_has : He.DefD := ⟨("Space", some "has"), "has", "Space.has", defArgs s_Space_has, defBody s_Space_has, defScope s_Space_has, [], []⟩
def d_Space_take : He.DefD := ⟨("Space", some "take"), "take", "Space.take", defArgs s_Space_take, defBody s_Space_take, defScope s_Space_take, [], []⟩
def d_Space_empty : He.DefD := ⟨("Space", some "empty"), "empty", "Space.empty", defArgs s_Space_empty, defBody s_Space_empty, defScope s_Space_empty, [], []⟩
def d_Space_cut : He.DefD := ⟨("Space", some "cut"), "cut", "Space.cut", defArgs s_Space_cut, defBody s_Space_cut, defScope s_Space_cut, [], []⟩
def d_Space_cells : He.DefD := ⟨("Space", some "cells"), "cells", "Space.cells", defArgs s_Space_cells, defBody s_Space_cells, defScope s_Space_cells, [], []⟩
def d_Areas___init__ : He.DefD := ⟨("Areas", some "__init__"), "__init__", "Areas.__init__", defArgs s_Areas___init__, defBody s_Areas___init__, defScope s_Areas___init__, [], []⟩
def d_Areas_flip : He.DefD := ⟨("Areas", some "flip"), "flip", "Areas.flip", defArgs s_Areas_flip, defBody s_Areas_flip, defScope s_Areas_flip, [], []⟩
def d_Areas_area_of : He.DefD := ⟨("Areas", some "area_of"), "area_of", "Areas.area_of", defArgs s_Areas_area_of, defBody s_Areas_area_of, defScope s_Areas_area_of, [], []⟩
def d_Areas_lay_young : He.DefD := ⟨("Areas", some "lay_young"), "lay_young", "Areas.lay_young", defArgs s_Areas_lay_young, defBody s_Areas_lay_young, defScope s_Areas_lay_young, [], []⟩
def d_Areas_lay_old : He.DefD := ⟨("Areas", some "lay_old"), "lay_old", "Areas.lay_old", defArgs s_Areas_lay_old, defBody s_Areas_lay_old, defScope s_Areas_lay_old, [], []⟩
def d_Book___init__ : He.DefD := ⟨("Book", some "__init__"), "__init__", "Book.__init__", defArgs s_Book___init__, defBody s_Book___init__, defScope s_Book___init__, [], []⟩
def d_Book_write : He.DefD := ⟨("Book", some "write"), "write", "Book.write", defArgs s_Book_write, defBody s_Book_write, defScope s_Book_write, [], []⟩
def d_Book_rub : He.DefD := ⟨("Book", some "rub"), "rub", "Book.rub", defArgs s_Book_rub, defBody s_Book_rub, defScope s_Book_rub, [], []⟩
def d_Book_has : He.DefD := ⟨("Book", some "has"), "has", "Book.has", defArgs s_Book_has, defBody s_Book_has, defScope s_Book_has, [], []⟩
def d_Book_places : He.DefD := ⟨("Book", some "places"), "places", "Book.places", defArgs s_Book_places, defBody s_Book_places, defScope s_Book_places, [], []⟩
def d_Book_clear : He.DefD := ⟨("Book", some "clear"), "clear", "Book.clear", defArgs s_Book_clear, defBody s_Book_clear, defScope s_Book_clear, [], []⟩
def d_Hands___init__ : He.DefD := ⟨("Hands", some "__init__"), "__init__", "Hands.__init__", defArgs s_Hands___init__, defBody s_Hands___init__, defScope s_Hands___init__, [], []⟩
def d_Hands_need : He.DefD := ⟨("Hands", some "need"), "need", "Hands.need", defArgs s_Hands_need, defBody s_Hands_need, defScope s_Hands_need, [], []⟩
def d_Hands_get : He.DefD := ⟨("Hands", some "get"), "get", "Hands.get", defArgs s_Hands_get, defBody s_Hands_get, defScope s_Hands_get, [], []⟩
def d_Hands_put : He.DefD := ⟨("Hands", some "put"), "put", "Hands.put", defArgs s_Hands_put, defBody s_Hands_put, defScope s_Hands_put, [], []⟩
def d_Hands_row : He.DefD := ⟨("Hands", some "row"), "row", "Hands.row", defArgs s_Hands_row, defBody s_Hands_row, defScope s_Hands_row, [], []⟩
def d_Lasts___init__ : He.DefD := ⟨("Lasts", some "__init__"), "__init__", "Lasts.__init__", defArgs s_Lasts___init__, defBody s_Lasts___init__, defScope s_Lasts___init__, [], []⟩
def d_Lasts_give : He.DefD := ⟨("Lasts", some "give"), "give", "Lasts.give", defArgs s_Lasts_give, defBody s_Lasts_give, defScope s_Lasts_give, [], []⟩
def d_Lasts_need : He.DefD := ⟨("Lasts", some "need"), "need", "Lasts.need", defArgs s_Lasts_need, defBody s_Lasts_need, defScope s_Lasts_need, [], []⟩
def d_Lasts_move : He.DefD := ⟨("Lasts", some "move"), "move", "Lasts.move", defArgs s_Lasts_move, defBody s_Lasts_move, defScope s_Lasts_move, [], []⟩
def d_Lasts_say : He.DefD := ⟨("Lasts", some "say"), "say", "Lasts.say", defArgs s_Lasts_say, defBody s_Lasts_say, defScope s_Lasts_say, [], []⟩
def d_Lasts_pending : He.DefD := ⟨("Lasts", some "pending"), "pending", "Lasts.pending", defArgs s_Lasts_pending, defBody s_Lasts_pending, defScope s_Lasts_pending, [], []⟩
def d_Lasts_said : He.DefD := ⟨("Lasts", some "said"), "said", "Lasts.said", defArgs s_Lasts_said, defBody s_Lasts_said, defScope s_Lasts_said, [], []⟩
def d_Weak___init__ : He.DefD := ⟨("Weak", some "__init__"), "__init__", "Weak.__init__", defArgs s_Weak___init__, defBody s_Weak___init__, defScope s_Weak___init__, [], []⟩
def d_Weak_name : He.DefD := ⟨("Weak", some "name"), "name", "Weak.name", defArgs s_Weak_name, defBody s_Weak_name, defScope s_Weak_name, [], []⟩
def d_Weak_need : He.DefD := ⟨("Weak", some "need"), "need", "Weak.need", defArgs s_Weak_need, defBody s_Weak_need, defScope s_Weak_need, [], []⟩
def d_Weak_at : He.DefD := ⟨("Weak", some "at"), "at", "Weak.at", defArgs s_Weak_at, defBody s_Weak_at, defScope s_Weak_at, [], []⟩
def d_Weak_need_there : He.DefD := ⟨("Weak", some "need_there"), "need_there", "Weak.need_there", defArgs s_Weak_need_there, defBody s_Weak_need_there, defScope s_Weak_need_there, [], []⟩
def d_Weak_move : He.DefD := ⟨("Weak", some "move"), "move", "Weak.move", defArgs s_Weak_move, defBody s_Weak_move, defScope s_Weak_move, [], []⟩
def d_Weak_gone : He.DefD := ⟨("Weak", some "gone"), "gone", "Weak.gone", defArgs s_Weak_gone, defBody s_Weak_gone, defScope s_Weak_gone, [], []⟩
def d_Weak_names : He.DefD := ⟨("Weak", some "names"), "names", "Weak.names", defArgs s_Weak_names, defBody s_Weak_names, defScope s_Weak_names, [], []⟩
def d_Roots___init__ : He.DefD := ⟨("Roots", some "__init__"), "__init__", "Roots.__init__", defArgs s_Roots___init__, defBody s_Roots___init__, defScope s_Roots___init__, [], []⟩
def d_Roots_starts : He.DefD := ⟨("Roots", some "starts"), "starts", "Roots.starts", defArgs s_Roots_starts, defBody s_Roots_starts, defScope s_Roots_starts, [], []⟩
def d_goals : He.DefD := ⟨("goals", none), "goals", "goals", defArgs s_goals, defBody s_goals, defScope s_goals, [], []⟩
def d_turned : He.DefD := ⟨("turned", none), "turned", "turned", defArgs s_turned, defBody s_turned, defScope s_turned, [], []⟩
def d_turn_slots : He.DefD := ⟨("turn_slots", none), "turn_slots", "turn_slots", defArgs s_turn_slots, defBody s_turn_slots, defScope s_turn_slots, [], []⟩
def d_turn_roots : He.DefD := ⟨("turn_roots", none), "turn_roots", "turn_roots", defArgs s_turn_roots, defBody s_turn_roots, defScope s_turn_roots, [], []⟩
def d_collect_all : He.DefD := ⟨("collect_all", none), "collect_all", "collect_all", defArgs s_collect_all, defBody s_collect_all, defScope s_collect_all, [], []⟩
def d_copied : He.DefD := ⟨("copied", none), "copied", "copied", defArgs s_copied, defBody s_copied, defScope s_copied, [], []⟩
def d_moved : He.DefD := ⟨("moved", none), "moved", "moved", defArgs s_moved, defBody s_moved, defScope s_moved, [], []⟩
def d_carried : He.DefD := ⟨("carried", none), "carried", "carried", defArgs s_carried, defBody s_carried, defScope s_carried, [], []⟩
def d_carry_place : He.DefD := ⟨("carry_place", none), "carry_place", "carry_place", defArgs s_carry_place, defBody s_carry_place, defScope s_carry_place, [], []⟩
def d_slot_places : He.DefD := ⟨("slot_places", none), "slot_places", "slot_places", defArgs s_slot_places, defBody s_slot_places, defScope s_slot_places, [], []⟩
def d_carry_all : He.DefD := ⟨("carry_all", none), "carry_all", "carry_all", defArgs s_carry_all, defBody s_carry_all, defScope s_carry_all, [], []⟩
def d_settle_names : He.DefD := ⟨("settle_names", none), "settle_names", "settle_names", defArgs s_settle_names, defBody s_settle_names, defScope s_settle_names, [], []⟩
def d_settle_lasts : He.DefD := ⟨("settle_lasts", none), "settle_lasts", "settle_lasts", defArgs s_settle_lasts, defBody s_settle_lasts, defScope s_settle_lasts, [], []⟩
def d_note : He.DefD := ⟨("note", none), "note", "note", defArgs s_note, defBody s_note, defScope s_note, [], []⟩
def d_collect_young : He.DefD := ⟨("collect_young", none), "collect_young", "collect_young", defArgs s_collect_young, defBody s_collect_young, defScope s_collect_young, [], []⟩
def d__law_cell_at : He.DefD := ⟨("_law_cell_at", none), "_law_cell_at", "_law_cell_at", defArgs s__law_cell_at, defBody s__law_cell_at, defScope s__law_cell_at, [], []⟩
def d__law_next : He.DefD := ⟨("_law_next", none), "_law_next", "_law_next", defArgs s__law_next, defBody s__law_next, defScope s__law_next, [], []⟩
def d__law_laid : He.DefD := ⟨("_law_laid", none), "_law_laid", "_law_laid", defArgs s__law_laid, defBody s__law_laid, defScope s__law_laid, [], []⟩
def d__law_word : He.DefD := ⟨("_law_word", none), "_law_word", "_law_word", defArgs s__law_word, defBody s__law_word, defScope s__law_word, [], []⟩
def d__law_write : He.DefD := ⟨("_law_write", none), "_law_write", "_law_write", defArgs s__law_write, defBody s__law_write, defScope s__law_write, [], []⟩
def d__law_met : He.DefD := ⟨("_law_met", none), "_law_met", "_law_met", defArgs s__law_met, defBody s__law_met, defScope s__law_met, [], []⟩
def d__law_drawn : He.DefD := ⟨("_law_drawn", none), "_law_drawn", "_law_drawn", defArgs s__law_drawn, defBody s__law_drawn, defScope s__law_drawn, [], []⟩
def d__law_alike : He.DefD := ⟨("_law_alike", none), "_law_alike", "_law_alike", defArgs s__law_alike, defBody s__law_alike, defScope s__law_alike, [], []⟩
def d__law_due : He.DefD := ⟨("_law_due", none), "_law_due", "_law_due", defArgs s__law_due, defBody s__law_due, defScope s__law_due, [], []⟩
def d__law_apart : He.DefD := ⟨("_law_apart", none), "_law_apart", "_law_apart", defArgs s__law_apart, defBody s__law_apart, defScope s__law_apart, [], []⟩
def d_law : He.DefD := ⟨("law", none), "law", "law", defArgs s_law, defBody s_law, defScope s_law, [], []⟩
def fn : List He.DefD := [d__wall, d_is_whole, d_number_word, d_place_word, d_kind, d_worth, d_need_slots, d_lay, d_head_of, d_slots_of, d_age_of, d_words_of, d_aged, d_slot_place, d_children, d_send, d_sent_to, d_reached, d_drawn, d_drawn_cell, d_picture, d_Memory___init__, d_Memory_need, d_Memory_read, d_Memory_write, d_Memory_need_stretch, d_Memory_copy, d_Space___init__, d_Space_room, d_Space_used, d_Space_has, d_Space_take, d_Space_empty, d_Space_cut, d_Space_cells, d_Areas___init__, d_Areas_flip, d_Areas_area_of, d_Areas_lay_young, d_Areas_lay_old, d_Book___init__, d_Book_write, d_Book_rub, d_Book_has, d_Book_places, d_Book_clear, d_Hands___init__, d_Hands_need, d_Hands_get, d_Hands_put, d_Hands_row, d_Lasts___init__, d_Lasts_give, d_Lasts_need, d_Lasts_move, d_Lasts_say, d_Lasts_pending, d_Lasts_said, d_Weak___init__, d_Weak_name, d_Weak_need, d_Weak_at, d_Weak_need_there, d_Weak_move, d_Weak_gone, d_Weak_names, d_Roots___init__, d_Roots_starts, d_goals, d_turned, d_turn_slots, d_turn_roots, d_collect_all, d_copied, d_moved, d_carried, d_carry_place, d_slot_places, d_carry_all, d_settle_names, d_settle_lasts, d_note, d_collect_young, d__law_cell_at, d__law_next, d__law_laid, d__law_word, d__law_write, d__law_met, d__law_drawn, d__law_alike, d__law_due, d__law_apart, d_law]
def exL : XL := ⟨["KeepError", "BadNumber", "BadWord", "BadCount", "NoPlace", "NoRoom", "NoSlot", "NoCell", "NoHand", "NoName"], []⟩
abbrev Tx (K : PySem.W.Frag) (mg : Str → Option Value) : Prop := Told fa fn exL K mg
theorem sc__wall : FnScope ["k"] ["k"] (defScope s__wall) := ⟨rfl, rfl, rfl, by decide +kernel, rfl, by decide +kernel, by decide +kernel⟩
theorem sc_is_whole : FnScope ["thing"] ["thing"] (defScope s_is_whole) := ⟨rfl, rfl, rfl, by decide +kernel, rfl, by decide +kernel, by decide +kernel⟩
theorem sc_number_word : FnScope ["number"] ["number"] (defScope s_number_word) := ⟨rfl, rfl, rfl, by decide +kernel, rfl, by decide +kernel, by decide +kernel⟩
theorem sc_place_word : FnScope ["at"] ["at"] (defScope s_place_word) := ⟨rfl, rfl, rfl, by decide +kernel, rfl, by decide +kernel, by decide +kernel⟩
theorem sc_kind : FnScope ["word"] ["word"] (defScope s_kind) := ⟨rfl, rfl, rfl, by decide +kernel, rfl, by decide +kernel, by decide +kernel⟩
theorem sc_worth : FnScope ["word"] ["word"] (defScope s_worth) := ⟨rfl, rfl, rfl, by decide +kernel, rfl, by decide +kernel, by decide +kernel⟩
theorem sc_need_slots : FnScope ["slots"] ["slots"] (defScope s_need_slots) := ⟨rfl, rfl, rfl, by decide +kernel, rfl, by decide +kernel, by decide +kernel⟩
theorem sc_lay : FnScope ["memory", "at", "slots", "slot"] ["memory", "at", "slots"] (defScope s_lay) := ⟨rfl, rfl, rfl, by decide +kernel, rfl, by decide +kernel, by decide +kernel⟩
theorem sc_head_of : FnScope ["memory", "at", "word"] ["memory", "at"] (defScope s_head_of) := ⟨rfl, rfl, rfl, by decide +kernel, rfl, by decide +kernel, by decide +kernel⟩
theorem sc_slots_of : FnScope ["memory", "at"] ["memory", "at"] (defScope s_slots_of) := ⟨rfl, rfl, rfl, by decide +kernel, rfl, by decide +kernel, by decide +kernel⟩
theorem sc_age_of : FnScope ["memory", "at"] ["memory", "at"] (defScope s_age_of) := ⟨rfl, rfl, rfl, by decide +kernel, rfl, by decide +kernel, by decide +kernel⟩
theorem sc_words_of : FnScope ["memory", "at"] ["memory", "at"] (defScope s_words_of) := ⟨rfl, rfl, rfl, by decide +kernel, rfl, by decide +kernel, by decide +kernel⟩
theorem sc_aged : FnScope ["memory", "at", "age", "slots"] ["memory", "at", "age"] (defScope s_aged) := ⟨rfl, rfl, rfl, by decide +kernel, rfl, by decide +kernel, by decide +kernel⟩
theorem sc_slot_place : FnScope ["memory", "at", "slot", "slots"] ["memory", "at", "slot"] (defScope s_slot_place) := ⟨rfl, rfl, rfl, by decide +kernel, rfl, by decide +kernel, by decide +kernel⟩
theorem sc_children : FnScope ["memory", "at", "found", "slot", "word"] ["memory", "at"] (defScope s_children) := ⟨rfl, rfl, rfl, by decide +kernel, rfl, by decide +kernel, by decide +kernel⟩
theorem sc_send : FnScope ["memory", "at", "goal"] ["memory", "at", "goal"] (defScope s_send) := ⟨rfl, rfl, rfl, by decide +kernel, rfl, by decide +kernel, by decide +kernel⟩
theorem sc_sent_to : FnScope ["memory", "at", "word"] ["memory", "at"] (defScope s_sent_to) := ⟨rfl, rfl, rfl, by decide +kernel, rfl, by decide +kernel, by decide +kernel⟩
theorem sc_reached : FnScope ["memory", "starts", "found", "met", "at", "turn"] ["memory", "starts"] (defScope s_reached) := ⟨rfl, rfl, rfl, by decide +kernel, rfl, by decide +kernel, by decide +kernel⟩
theorem sc_drawn : FnScope ["word", "numbers"] ["word", "numbers"] (defScope s_drawn) := ⟨rfl, rfl, rfl, by decide +kernel, rfl, by decide +kernel, by decide +kernel⟩
theorem sc_drawn_cell : FnScope ["memory", "at", "numbers", "slot"] ["memory", "at", "numbers"] (defScope s_drawn_cell) := ⟨rfl, rfl, rfl, by decide +kernel, rfl, by decide +kernel, by decide +kernel⟩
theorem sc_picture : FnScope ["areas", "roots", "kept", "numbers", "k", "at", "hands", "word"] ["areas", "roots"] (defScope s_picture) := ⟨rfl, rfl, rfl, by decide +kernel, rfl, by decide +kernel, by decide +kernel⟩
theorem sc_Memory___init__ : FnScope ["self", "size", "at"] ["self", "size"] (defScope s_Memory___init__) := ⟨rfl, rfl, rfl, by decide +kernel, rfl, by decide +kernel, by decide +kernel⟩
theorem sc_Memory_need : FnScope ["self", "at"] ["self", "at"] (defScope s_Memory_need) := ⟨rfl, rfl, rfl, by decide +kernel, rfl, by decide +kernel, by decide +kernel⟩
theorem sc_Memory_read : FnScope ["self", "at"] ["self", "at"] (defScope s_Memory_read) := ⟨rfl, rfl, rfl, by decide +kernel, rfl, by decide +kernel, by decide +kernel⟩
theorem sc_Memory_write : FnScope ["self", "at", "word"] ["self", "at", "word"] (defScope s_Memory_write) := ⟨rfl, rfl, rfl, by decide +kernel, rfl, by decide +kernel, by decide +kernel⟩
theorem sc_Memory_need_stretch : FnScope ["self", "at", "many"] ["self", "at", "many"] (defScope s_Memory_need_stretch) := ⟨rfl, rfl, rfl, by decide +kernel, rfl, by decide +kernel, by decide +kernel⟩
theorem sc_Memory_copy : FnScope ["self", "start", "goal", "many", "row", "turn"] ["self", "start", "goal", "many"] (defScope s_Memory_copy) := ⟨rfl, rfl, rfl, by decide +kernel, rfl, by decide +kernel, by decide +kernel⟩
theorem sc_Space___init__ : FnScope ["self", "begin", "end"] ["self", "begin", "end"] (defScope s_Space___init__) := ⟨rfl, rfl, rfl, by decide +kernel, rfl, by decide +kernel, by decide +kernel⟩
theorem sc_Space_room : FnScope ["self"] ["self"] (defScope s_Space_room) := ⟨rfl, rfl, rfl, by decide +kernel, rfl, by decide +kernel, by decide +kernel⟩
theorem sc_Space_used : FnScope ["self"] ["self"] (defScope s_Space_used) := ⟨rfl, rfl, rfl, by decide +kernel, rfl, by decide +kernel, by decide +kernel⟩
theorem sc_Space_has : FnScope ["self", "at"] ["self", "at"] (defScope s_Space_has) := ⟨rfl, rfl, rfl, by decide +kernel, rfl, by decide +kernel, by decide +kernel⟩
theorem sc_Space_take : FnScope ["self", "many", "at"] ["self", "many"] (defScope s_Space_take) := ⟨rfl, rfl, rfl, by decide +kernel, rfl, by decide +kernel, by decide +kernel⟩
theorem sc_Space_empty : FnScope ["self"] ["self"] (defScope s_Space_empty) := ⟨rfl, rfl, rfl, by decide +kernel, rfl, by decide +kernel, by decide +kernel⟩
theorem sc_Space_cut : FnScope ["self", "top"] ["self", "top"] (defScope s_Space_cut) := ⟨rfl, rfl, rfl, by decide +kernel, rfl, by decide +kernel, by decide +kernel⟩
theorem sc_Space_cells : FnScope ["self", "memory", "found", "at"] ["self", "memory"] (defScope s_Space_cells) := ⟨rfl, rfl, rfl, by decide +kernel, rfl, by decide +kernel, by decide +kernel⟩
theorem sc_Areas___init__ : FnScope ["self", "old_words", "young_words"] ["self", "old_words", "young_words"] (defScope s_Areas___init__) := ⟨rfl, rfl, rfl, by decide +kernel, rfl, by decide +kernel, by decide +kernel⟩
theorem sc_Areas_flip : FnScope ["self", "kept"] ["self"] (defScope s_Areas_flip) := ⟨rfl, rfl, rfl, by decide +kernel, rfl, by decide +kernel, by decide +kernel⟩
theorem sc_Areas_area_of : FnScope ["self", "at"] ["self", "at"] (defScope s_Areas_area_of) := ⟨rfl, rfl, rfl, by decide +kernel, rfl, by decide +kernel, by decide +kernel⟩
theorem sc_Areas_lay_young : FnScope ["self", "slots", "at"] ["self", "slots"] (defScope s_Areas_lay_young) := ⟨rfl, rfl, rfl, by decide +kernel, rfl, by decide +kernel, by decide +kernel⟩
theorem sc_Areas_lay_old : FnScope ["self", "slots", "at"] ["self", "slots"] (defScope s_Areas_lay_old) := ⟨rfl, rfl, rfl, by decide +kernel, rfl, by decide +kernel, by decide +kernel⟩
theorem sc_Book___init__ : FnScope ["self"] ["self"] (defScope s_Book___init__) := ⟨rfl, rfl, rfl, by decide +kernel, rfl, by decide +kernel, by decide +kernel⟩
theorem sc_Book_write : FnScope ["self", "place"] ["self", "place"] (defScope s_Book_write) := ⟨rfl, rfl, rfl, by decide +kernel, rfl, by decide +kernel, by decide +kernel⟩
theorem sc_Book_rub : FnScope ["self", "place"] ["self", "place"] (defScope s_Book_rub) := ⟨rfl, rfl, rfl, by decide +kernel, rfl, by decide +kernel, by decide +kernel⟩
theorem sc_Book_has : FnScope ["self", "place"] ["self", "place"] (defScope s_Book_has) := ⟨rfl, rfl, rfl, by decide +kernel, rfl, by decide +kernel, by decide +kernel⟩
theorem sc_Book_places : FnScope ["self"] ["self"] (defScope s_Book_places) := ⟨rfl, rfl, rfl, by decide +kernel, rfl, by decide +kernel, by decide +kernel⟩
theorem sc_Book_clear : FnScope ["self"] ["self"] (defScope s_Book_clear) := ⟨rfl, rfl, rfl, by decide +kernel, rfl, by decide +kernel, by decide +kernel⟩
theorem sc_Hands___init__ : FnScope ["self", "many", "hand"] ["self", "many"] (defScope s_Hands___init__) := ⟨rfl, rfl, rfl, by decide +kernel, rfl, by decide +kernel, by decide +kernel⟩
theorem sc_Hands_need : FnScope ["self", "hand"] ["self", "hand"] (defScope s_Hands_need) := ⟨rfl, rfl, rfl, by decide +kernel, rfl, by decide +kernel, by decide +kernel⟩
theorem sc_Hands_get : FnScope ["self", "hand"] ["self", "hand"] (defScope s_Hands_get) := ⟨rfl, rfl, rfl, by decide +kernel, rfl, by decide +kernel, by decide +kernel⟩
theorem sc_Hands_put : FnScope ["self", "hand", "word"] ["self", "hand", "word"] (defScope s_Hands_put) := ⟨rfl, rfl, rfl, by decide +kernel, rfl, by decide +kernel, by decide +kernel⟩
theorem sc_Hands_row : FnScope ["self"] ["self"] (defScope s_Hands_row) := ⟨rfl, rfl, rfl, by decide +kernel, rfl, by decide +kernel, by decide +kernel⟩
theorem sc_Lasts___init__ : FnScope ["self"] ["self"] (defScope s_Lasts___init__) := ⟨rfl, rfl, rfl, by decide +kernel, rfl, by decide +kernel, by decide +kernel⟩
theorem sc_Lasts_give : FnScope ["self", "at", "number"] ["self", "at", "number"] (defScope s_Lasts_give) := ⟨rfl, rfl, rfl, by decide +kernel, rfl, by decide +kernel, by decide +kernel⟩
theorem sc_Lasts_need : FnScope ["self", "ticket"] ["self", "ticket"] (defScope s_Lasts_need) := ⟨rfl, rfl, rfl, by decide +kernel, rfl, by decide +kernel, by decide +kernel⟩
theorem sc_Lasts_move : FnScope ["self", "ticket", "at"] ["self", "ticket", "at"] (defScope s_Lasts_move) := ⟨rfl, rfl, rfl, by decide +kernel, rfl, by decide +kernel, by decide +kernel⟩
theorem sc_Lasts_say : FnScope ["self", "ticket"] ["self", "ticket"] (defScope s_Lasts_say) := ⟨rfl, rfl, rfl, by decide +kernel, rfl, by decide +kernel, by decide +kernel⟩
theorem sc_Lasts_pending : FnScope ["self", "found", "ticket", "pair"] ["self"] (defScope s_Lasts_pending) := ⟨rfl, rfl, rfl, by decide +kernel, rfl, by decide +kernel, by decide +kernel⟩
theorem sc_Lasts_said : FnScope ["self"] ["self"] (defScope s_Lasts_said) := ⟨rfl, rfl, rfl, by decide +kernel, rfl, by decide +kernel, by decide +kernel⟩
theorem sc_Weak___init__ : FnScope ["self"] ["self"] (defScope s_Weak___init__) := ⟨rfl, rfl, rfl, by decide +kernel, rfl, by decide +kernel, by decide +kernel⟩
theorem sc_Weak_name : FnScope ["self", "at"] ["self", "at"] (defScope s_Weak_name) := ⟨rfl, rfl, rfl, by decide +kernel, rfl, by decide +kernel, by decide +kernel⟩
theorem sc_Weak_need : FnScope ["self", "name"] ["self", "name"] (defScope s_Weak_need) := ⟨rfl, rfl, rfl, by decide +kernel, rfl, by decide +kernel, by decide +kernel⟩
theorem sc_Weak_at : FnScope ["self", "name"] ["self", "name"] (defScope s_Weak_at) := ⟨rfl, rfl, rfl, by decide +kernel, rfl, by decide +kernel, by decide +kernel⟩
theorem sc_Weak_need_there : FnScope ["self", "name"] ["self", "name"] (defScope s_Weak_need_there) := ⟨rfl, rfl, rfl, by decide +kernel, rfl, by decide +kernel, by decide +kernel⟩
theorem sc_Weak_move : FnScope ["self", "name", "at"] ["self", "name", "at"] (defScope s_Weak_move) := ⟨rfl, rfl, rfl, by decide +kernel, rfl, by decide +kernel, by decide +kernel⟩
theorem sc_Weak_gone : FnScope ["self", "name"] ["self", "name"] (defScope s_Weak_gone) := ⟨rfl, rfl, rfl, by decide +kernel, rfl, by decide +kernel, by decide +kernel⟩
theorem sc_Weak_names : FnScope ["self", "name", "at"] ["self"] (defScope s_Weak_names) := ⟨rfl, rfl, rfl, by decide +kernel, rfl, by decide +kernel, by decide +kernel⟩
theorem sc_Roots___init__ : FnScope ["self", "many"] ["self", "many"] (defScope s_Roots___init__) := ⟨rfl, rfl, rfl, by decide +kernel, rfl, by decide +kernel, by decide +kernel⟩
theorem sc_Roots_starts : FnScope ["self", "word"] ["self"] (defScope s_Roots_starts) := ⟨rfl, rfl, rfl, by decide +kernel, rfl, by decide +kernel, by decide +kernel⟩
theorem sc_goals : FnScope ["areas", "kept", "found", "top", "at"] ["areas", "kept"] (defScope s_goals) := ⟨rfl, rfl, rfl, by decide +kernel, rfl, by decide +kernel, by decide +kernel⟩
theorem sc_turned : FnScope ["word", "where"] ["word", "where"] (defScope s_turned) := ⟨rfl, rfl, rfl, by decide +kernel, rfl, by decide +kernel, by decide +kernel⟩
theorem sc_turn_slots : FnScope ["memory", "at", "where", "slot", "place"] ["memory", "at", "where"] (defScope s_turn_slots) := ⟨rfl, rfl, rfl, by decide +kernel, rfl, by decide +kernel, by decide +kernel⟩
theorem sc_turn_roots : FnScope ["roots", "where", "words", "hand", "name", "at", "ticket", "number"] ["roots", "where"] (defScope s_turn_roots) := ⟨rfl, rfl, rfl, by decide +kernel, rfl, by decide +kernel, by decide +kernel⟩
theorem sc_collect_all : FnScope ["areas", "roots", "memory", "kept", "where", "at", "top", "many"] ["areas", "roots"] (defScope s_collect_all) := ⟨rfl, rfl, rfl, by decide +kernel, rfl, by decide +kernel, by decide +kernel⟩
theorem sc_copied : FnScope ["memory", "at", "space", "age", "many", "goal"] ["memory", "at", "space", "age"] (defScope s_copied) := ⟨rfl, rfl, rfl, by decide +kernel, rfl, by decide +kernel, by decide +kernel⟩
theorem sc_moved : FnScope ["memory", "word", "goal"] ["memory", "word"] (defScope s_moved) := ⟨rfl, rfl, rfl, by decide +kernel, rfl, by decide +kernel, by decide +kernel⟩
theorem sc_carried : FnScope ["areas", "row", "word", "at"] ["areas", "row", "word"] (defScope s_carried) := ⟨rfl, rfl, rfl, by decide +kernel, rfl, by decide +kernel, by decide +kernel⟩
theorem sc_carry_place : FnScope ["areas", "row", "place"] ["areas", "row", "place"] (defScope s_carry_place) := ⟨rfl, rfl, rfl, by decide +kernel, rfl, by decide +kernel, by decide +kernel⟩
theorem sc_slot_places : FnScope ["memory", "at", "slot"] ["memory", "at"] (defScope s_slot_places) := ⟨rfl, rfl, rfl, by decide +kernel, rfl, by decide +kernel, by decide +kernel⟩
theorem sc_carry_all : FnScope ["areas", "roots", "row", "hand", "word", "place", "turn"] ["areas", "roots"] (defScope s_carry_all) := ⟨rfl, rfl, rfl, by decide +kernel, rfl, by decide +kernel, by decide +kernel⟩
theorem sc_settle_names : FnScope ["areas", "roots", "name", "at", "goal"] ["areas", "roots"] (defScope s_settle_names) := ⟨rfl, rfl, rfl, by decide +kernel, rfl, by decide +kernel, by decide +kernel⟩
theorem sc_settle_lasts : FnScope ["areas", "roots", "ticket", "at", "number", "goal"] ["areas", "roots"] (defScope s_settle_lasts) := ⟨rfl, rfl, rfl, by decide +kernel, rfl, by decide +kernel, by decide +kernel⟩
theorem sc_note : FnScope ["areas", "roots", "place", "word"] ["areas", "roots", "place"] (defScope s_note) := ⟨rfl, rfl, rfl, by decide +kernel, rfl, by decide +kernel, by decide +kernel⟩
theorem sc_collect_young : FnScope ["areas", "roots", "row", "place", "grown", "at"] ["areas", "roots"] (defScope s_collect_young) := ⟨rfl, rfl, rfl, by decide +kernel, rfl, by decide +kernel, by decide +kernel⟩
theorem sc__law_cell_at : FnScope ["_law_script", "_law_k"] ["_law_script", "_law_k"] (defScope s__law_cell_at) := ⟨rfl, rfl, rfl, by decide +kernel, rfl, by decide +kernel, by decide +kernel⟩
theorem sc__law_next : FnScope ["_law_seed"] ["_law_seed"] (defScope s__law_next) := ⟨rfl, rfl, rfl, by decide +kernel, rfl, by decide +kernel, by decide +kernel⟩
theorem sc__law_laid : FnScope ["_law_areas", "_law_rooms", "_law_script", "_law_cells", "_law_seed", "_law_used", "_law_k", "_law_slots", "_law_side", "_law_at", "_law_slot"] ["_law_areas", "_law_rooms", "_law_script"] (defScope s__law_laid) := ⟨rfl, rfl, rfl, by decide +kernel, rfl, by decide +kernel, by decide +kernel⟩
theorem sc__law_word : FnScope ["_law_cells", "_law_seed", "_law_pick"] ["_law_cells", "_law_seed"] (defScope s__law_word) := ⟨rfl, rfl, rfl, by decide +kernel, rfl, by decide +kernel, by decide +kernel⟩
theorem sc__law_write : FnScope ["_law_areas", "_law_roots", "_law_cells", "_law_at", "_law_slot", "_law_word_here"] ["_law_areas", "_law_roots", "_law_cells", "_law_at", "_law_slot", "_law_word_here"] (defScope s__law_write) := ⟨rfl, rfl, rfl, by decide +kernel, rfl, by decide +kernel, by decide +kernel⟩
theorem sc__law_met : FnScope ["_law_cells", "_law_hands", "_law_found", "_law_row", "_law_word_here", "_law_at"] ["_law_cells", "_law_hands"] (defScope s__law_met) := ⟨rfl, rfl, rfl, by decide +kernel, rfl, by decide +kernel, by decide +kernel⟩
theorem sc__law_drawn : FnScope ["_law_word_here", "_law_met_here"] ["_law_word_here", "_law_met_here"] (defScope s__law_drawn) := ⟨rfl, rfl, rfl, by decide +kernel, rfl, by decide +kernel, by decide +kernel⟩
theorem sc__law_alike : FnScope ["_law_found", "_law_due_here", "_law_one", "_law_other"] ["_law_found", "_law_due_here"] (defScope s__law_alike) := ⟨rfl, rfl, rfl, by decide +kernel, rfl, by decide +kernel, by decide +kernel⟩
theorem sc__law_due : FnScope ["_law_found", "_law_cells", "_law_hands", "_law_met_here", "_law_word_here", "_law_row", "_law_at"] ["_law_found", "_law_cells", "_law_hands"] (defScope s__law_due) := ⟨rfl, rfl, rfl, by decide +kernel, rfl, by decide +kernel, by decide +kernel⟩
theorem sc__law_apart : FnScope ["_law_found", "_law_k"] ["_law_found"] (defScope s__law_apart) := ⟨rfl, rfl, rfl, by decide +kernel, rfl, by decide +kernel, by decide +kernel⟩
theorem sc_law : FnScope ["_law_script", "_law_rooms", "_law_areas", "_law_cells", "_law_many", "_law_hands", "_law_k", "_law_roots", "_law_seed", "_law_at", "_law_slot", "_law_hand", "_law_first", "_law_held", "_law_row", "_law_wide", "_law_last"] ["_law_script"] (defScope s_law) := ⟨rfl, rfl, rfl, by decide +kernel, rfl, by decide +kernel, by decide +kernel⟩

/-! ## the head and the end -/
abbrev RR : PySem.W.OpenRow := PySem.W.OpenLaw.row PySem.Challenge.rw_cellkeep_k21_pictures
abbrev hk : PySem.W.Hook := hookG 6 fa fn exL
def ob (s : PySem.W.SharedT) : He.AlD × Bool := lookG 6 fa fn exL (HandSHeadRun.getT s)
theorem ob_eq (s : PySem.W.SharedT) : ob s = hk.obs s.abs := lookG_eq (HandSHeadRun.getT_eq s)
def loose : List Str := (["_wall", "KeepError", "BadNumber", "BadWord", "BadCount", "NoPlace", "NoRoom", "NoSlot", "NoCell", "NoHand", "NoName", "MOST_NUMBER", "MOST_PLACE", "NOTHING", "is_whole", "number_word", "place_word", "kind", "worth", "MOST_SLOTS", "MOST_AGE", "need_slots", "lay", "head_of", "slots_of", "age_of", "words_of", "aged", "slot_place", "children"] : List Str) ++ (["send", "sent_to", "reached", "drawn", "drawn_cell", "picture", "MOST_SIZE", "Memory", "Space", "LEAST_OLD", "MOST_OLD", "LEAST_YOUNG", "MOST_YOUNG", "Areas", "Book", "MOST_HANDS", "Hands", "Lasts", "Weak", "Roots", "goals", "turned", "turn_slots", "turn_roots", "collect_all", "copied", "moved", "carried", "carry_place", "slot_places"] : List Str) ++ (["carry_all", "settle_names", "settle_lasts", "note", "collect_young", "_law_cell_at", "_law_next", "_law_laid", "_law_word", "_law_write", "_law_met", "_law_drawn", "_law_alike", "_law_due", "_law_apart"] : List Str)
theorem run (w : World) : HandSHeadRun.RunEq RR (PySem.W.view RR.prog [92]) hk ob 16000 loose w := by
  intro os
  kernel_rfl

/-! ## words -/
/-- a plain thing that is no whole number -/
def Odd (H : Hp) (v : V) : Prop := ∃ t, tyOf v H = some t ∧ t ≠ "int"
theorem odd_not {H : Hp} {n : Int} : ¬ Odd H (.int n) := fun ⟨t, e, h⟩ => h (Option.some.inj e).symm
theorem odd_bl {H : Hp} {b : Bool} : Odd H (.bl b) := ⟨"bool", rfl, by decide⟩
theorem odd_non {H : Hp} : Odd H .non := ⟨"NoneType", rfl, by decide⟩
theorem odd_str {H : Hp} {z : Str} : Odd H (.str z) := ⟨"str", rfl, by decide⟩
theorem odd_lst {H : Hp} {a : Addr} {xs : List V} (h : H a = some (.lst xs)) : Odd H (.ref a) := ⟨"list", by show tyO (H a) = _; rw [h]; rfl, by decide⟩
theorem odd_tup {H : Hp} {a : Addr} {xs : List V} (h : H a = some (.tup xs)) : Odd H (.ref a) := ⟨"tuple", by show tyO (H a) = _; rw [h]; rfl, by decide⟩
theorem odd_dK {H : Hp} {a : Addr} {kvs : List (Key × V)} (h : H a = some (.dK kvs)) : Odd H (.ref a) := ⟨"dict", by show tyO (H a) = _; rw [h]; rfl, by decide⟩
inductive Wd where
  | num (n : Int) | place (p : Int) | nothing
  deriving DecidableEq
def Wd.kind : Wd → Str
  | .num _ => "number"
  | .place _ => "place"
  | .nothing => "nothing"
def Wd.worth : Wd → V
  | .num n => .int n
  | .place p => .int p
  | .nothing => .non
def wordOf (n : Int) : Option Wd := if n = -1 then some .nothing else if n % 2 = 0 ∧ (n.natAbs : Int) ≤ 2000000000000 then some (.num (n / 2)) else if n % 2 = 1 ∧ 0 < n ∧ n ≤ 19999 then some (.place (n / 2)) else none
abbrev Ex (K : PySem.W.Frag) (x : Str) : Value := .ref (He.ga K x)
def sp_is_whole : Sp
  | [.int _], H, Q, _ => Q (.bl true) H
  | [v], H, Q, _ => Odd H v ∧ Q (.bl false) H
  | _, _, _, _ => False
theorem len_is_whole {vs H Q E} (h : sp_is_whole vs H Q E) : vs.length = 1 := by unfold sp_is_whole at h; split at h <;> first | rfl | exact h.elim
theorem odd_whole {H : Hp} {v : V} {Q : VK} {E : XK} (h : Odd H v) : sp_is_whole [v] H Q E = Q (.bl false) H := by
  cases v with
  | int n => exact (odd_not h).elim
  | _ => exact propext ⟨fun z => z.2, fun z => ⟨h, z⟩⟩
theorem x_whole {H : Hp} {n : Int} {Q : VK} {E : XK} : sp_is_whole [.int n] H Q E = Q (.bl true) H := rfl
/-- the two questions of is_whole -/
theorem whole_odd {H : Hp} {v : V} {Q : VK} (h : Odd H v) (q : Q (.bl false) H) : gIsi [v, .ty "int"] H fun x H1 => ∃ c, x = .bl c ∧ if c = true then gIsi [v, .ty "bool"] H1 (fun x H2 => ∃ c, x = .bl c ∧ Q (.bl (!c)) H2) else Q (.bl false) H1 := by
  obtain ⟨t, e, ne⟩ := h
  refine ⟨by decide, t, e, _, rfl, ?_⟩
  have m := tyOf_in e
  split
  · rename_i c
    have tb : t = "bool" := by
      simp only [tys, List.mem_cons, List.not_mem_nil, or_false] at m
      rcases m with rfl | rfl | rfl | rfl | rfl | rfl | rfl
      · exact absurd c (by decide)
      · rfl
      · exact absurd rfl ne
      · exact absurd c (by decide)
      · exact absurd c (by decide)
      · exact absurd c (by decide)
      · exact absurd c (by decide)
    subst tb
    exact ⟨by decide, _, e, _, rfl, q⟩
  · exact q
theorem whole_int {H : Hp} {n : Int} {Q : VK} (q : Q (.bl true) H) : gIsi [.int n, .ty "int"] H fun x H1 => ∃ c, x = .bl c ∧ if c = true then gIsi [.int n, .ty "bool"] H1 (fun x H2 => ∃ c, x = .bl c ∧ Q (.bl (!c)) H2) else Q (.bl false) H1 :=
  ⟨by decide, _, rfl, _, rfl, by rw [if_pos (by decide)]; exact ⟨by decide, _, rfl, _, rfl, q⟩⟩
def sp_number_word (K : PySem.W.Frag) : Sp
  | [.int n], H, Q, E => if (n.natAbs : Int) ≤ 1000000000000 then Q (.int (2 * n)) H else E (Ex K "BadNumber") none H
  | [v], H, _, E => Odd H v ∧ E (Ex K "BadNumber") none H
  | _, _, _, _ => False
theorem odd_number_word {K : PySem.W.Frag} {H : Hp} {v : V} {Q : VK} {E : XK} (h : Odd H v) : sp_number_word K [v] H Q E = E (Ex K "BadNumber") none H := by
  cases v with
  | int n => exact (odd_not h).elim
  | _ => exact propext ⟨fun z => z.2, fun z => ⟨h, z⟩⟩
theorem one_number_word {K : PySem.W.Frag} {vs : List V} {H : Hp} {Q : VK} {E : XK} (h : sp_number_word K vs H Q E) : (∃ n, vs = [.int n]) ∨ ∃ v, vs = [v] ∧ Odd H v ∧ E (Ex K "BadNumber") none H := by
  unfold sp_number_word at h
  split at h
  · exact .inl ⟨_, rfl⟩
  · exact .inr ⟨_, rfl, h⟩
  · exact h.elim
theorem len_number_word {K vs H Q E} (h : sp_number_word K vs H Q E) : vs.length = 1 := by unfold sp_number_word at h; split at h <;> first | rfl | exact h.elim
def sp_place_word (K : PySem.W.Frag) : Sp
  | [.int n], H, Q, E => if 0 ≤ n ∧ n ≤ 9999 then Q (.int (2 * n + 1)) H else E (Ex K "NoPlace") none H
  | [v], H, _, E => Odd H v ∧ E (Ex K "NoPlace") none H
  | _, _, _, _ => False
theorem odd_place_word {K : PySem.W.Frag} {H : Hp} {v : V} {Q : VK} {E : XK} (h : Odd H v) : sp_place_word K [v] H Q E = E (Ex K "NoPlace") none H := by
  cases v with
  | int n => exact (odd_not h).elim
  | _ => exact propext ⟨fun z => z.2, fun z => ⟨h, z⟩⟩
theorem one_place_word {K : PySem.W.Frag} {vs : List V} {H : Hp} {Q : VK} {E : XK} (h : sp_place_word K vs H Q E) : (∃ n, vs = [.int n]) ∨ ∃ v, vs = [v] ∧ Odd H v ∧ E (Ex K "NoPlace") none H := by
  unfold sp_place_word at h
  split at h
  · exact .inl ⟨_, rfl⟩
  · exact .inr ⟨_, rfl, h⟩
  · exact h.elim
theorem len_place_word {K vs H Q E} (h : sp_place_word K vs H Q E) : vs.length = 1 := by unfold sp_place_word at h; split at h <;> first | rfl | exact h.elim
def sp_kind (K : PySem.W.Frag) : Sp
  | [.int n], H, Q, E => match wordOf n with
    | some w => Q (.str w.kind) H
    | none => E (Ex K "BadWord") none H
  | [v], H, _, E => Odd H v ∧ E (Ex K "BadWord") none H
  | _, _, _, _ => False
theorem odd_kind {K : PySem.W.Frag} {H : Hp} {v : V} {Q : VK} {E : XK} (h : Odd H v) : sp_kind K [v] H Q E = E (Ex K "BadWord") none H := by
  cases v with
  | int n => exact (odd_not h).elim
  | _ => exact propext ⟨fun z => z.2, fun z => ⟨h, z⟩⟩
theorem one_kind {K : PySem.W.Frag} {vs : List V} {H : Hp} {Q : VK} {E : XK} (h : sp_kind K vs H Q E) : (∃ n, vs = [.int n]) ∨ ∃ v, vs = [v] ∧ Odd H v ∧ E (Ex K "BadWord") none H := by
  unfold sp_kind at h
  split at h
  · exact .inl ⟨_, rfl⟩
  · exact .inr ⟨_, rfl, h⟩
  · exact h.elim
theorem len_kind {K vs H Q E} (h : sp_kind K vs H Q E) : vs.length = 1 := by unfold sp_kind at h; split at h <;> first | rfl | exact h.elim
def sp_worth (K : PySem.W.Frag) : Sp
  | [.int n], H, Q, E => match wordOf n with
    | some w => Q w.worth H
    | none => E (Ex K "BadWord") none H
  | [v], H, _, E => Odd H v ∧ E (Ex K "BadWord") none H
  | _, _, _, _ => False
theorem odd_worth {K : PySem.W.Frag} {H : Hp} {v : V} {Q : VK} {E : XK} (h : Odd H v) : sp_worth K [v] H Q E = E (Ex K "BadWord") none H := by
  cases v with
  | int n => exact (odd_not h).elim
  | _ => exact propext ⟨fun z => z.2, fun z => ⟨h, z⟩⟩
theorem one_worth {K : PySem.W.Frag} {vs : List V} {H : Hp} {Q : VK} {E : XK} (h : sp_worth K vs H Q E) : (∃ n, vs = [.int n]) ∨ ∃ v, vs = [v] ∧ Odd H v ∧ E (Ex K "BadWord") none H := by
  unfold sp_worth at h
  split at h
  · exact .inl ⟨_, rfl⟩
  · exact .inr ⟨_, rfl, h⟩
  · exact h.elim
theorem len_worth {K vs H Q E} (h : sp_worth K vs H Q E) : vs.length = 1 := by unfold sp_worth at h; split at h <;> first | rfl | exact h.elim
section
variable {K : PySem.W.Frag} {H : Hp} {n : Int} {Q : VK} {E : XK}
theorem x_number_word : sp_number_word K [.int n] H Q E = if (n.natAbs : Int) ≤ 1000000000000 then Q (.int (2 * n)) H else E (Ex K "BadNumber") none H := rfl
theorem x_place_word : sp_place_word K [.int n] H Q E = if 0 ≤ n ∧ n ≤ 9999 then Q (.int (2 * n + 1)) H else E (Ex K "NoPlace") none H := rfl
theorem x_kind : sp_kind K [.int n] H Q E = match wordOf n with
    | some w => Q (.str w.kind) H
    | none => E (Ex K "BadWord") none H := rfl
theorem x_worth : sp_worth K [.int n] H Q E = match wordOf n with
    | some w => Q w.worth H
    | none => E (Ex K "BadWord") none H := rfl
end
theorem kind_if {A B C F : Prop} {n : Int} {f : Wd → Prop} (h1 : f .nothing = A) (h2 : f (.num (n / 2)) = B) (h3 : f (.place (n / 2)) = C) :
    (match wordOf n with
    | some w => f w
    | none => F) = if n = -1 then A else if n % 2 = 0 ∧ (n.natAbs : Int) ≤ 2000000000000 then B else if n % 2 = 1 ∧ 0 < n ∧ n ≤ 19999 then C else F := by
  unfold wordOf
  by_cases c1 : n = -1
  · rw [if_pos c1, if_pos c1]; exact h1
  · rw [if_neg c1, if_neg c1]
    by_cases c2 : n % 2 = 0 ∧ (n.natAbs : Int) ≤ 2000000000000
    · rw [if_pos c2, if_pos c2]; exact h2
    · rw [if_neg c2, if_neg c2]
      by_cases c3 : n % 2 = 1 ∧ 0 < n ∧ n ≤ 19999
      · rw [if_pos c3, if_pos c3]; exact h3
      · rw [if_neg c3, if_neg c3]
theorem kind_is (w : Wd) : (w.kind = "nothing" ↔ w = .nothing) ∧ (w.kind = "place" ↔ ∃ p, w = .place p) ∧ (w.kind = "number" ↔ ∃ n, w = .num n) := by
  have d1 : ("number" : Str) ≠ "nothing" := by decide +kernel
  have d2 : ("number" : Str) ≠ "place" := by decide +kernel
  have d3 : ("place" : Str) ≠ "nothing" := by decide +kernel
  cases w with
  | num n => exact ⟨⟨fun z => (d1 z).elim, fun z => by cases z⟩, ⟨fun z => (d2 z).elim, fun ⟨_, z⟩ => by cases z⟩, ⟨fun _ => ⟨n, rfl⟩, fun _ => rfl⟩⟩
  | place n => exact ⟨⟨fun z => (d3 z).elim, fun z => by cases z⟩, ⟨fun _ => ⟨n, rfl⟩, fun _ => rfl⟩, ⟨fun z => (d2 z.symm).elim, fun ⟨_, z⟩ => by cases z⟩⟩
  | nothing => exact ⟨⟨fun _ => rfl, fun _ => rfl⟩, ⟨fun z => (d3 z.symm).elim, fun ⟨_, z⟩ => by cases z⟩, ⟨fun z => (d1 z.symm).elim, fun ⟨_, z⟩ => by cases z⟩⟩
theorem wordOf_div {n : Int} {w : Wd} (h : wordOf n = some w) : w.worth = if w = .nothing then .non else .int (n / 2) := by
  unfold wordOf at h
  repeat' split at h
  all_goals (cases h; try rfl)
local macro_rules | `(tactic| walk_at "w") => `(tactic| try simp only [↓x_var0, ↓x_varS, ↓x_c, ↓x_op, ↓x_un, ↓x_cb, ↓x_nil, ↓x_cons, ↓x_test, ↓x_b, ↓x_ex, ↓x_and, ↓x_or, ↓x_not, ↓x_andV, ↓x_orV, ↓x_notV, ↓x_tif, ↓x_chain, ↓x_menu, ↓x_menuI, ↓x_lst, ↓x_tup, ↓x_dnew, ↓x_callW, ↓x_callN, ↓x_seq, ↓x_next, ↓x_ret, ↓x_retN, ↓x_drop, ↓x_ifS, ↓x_asg, ↓x_name, ↓x_raise, ↓x_fld, ↓x_setF, ↓x_meth, ↓x_make, ↓x_sub, ↓r_min, ↓r_max, ↓x_yes, ↓x_for, ↓x_lock, ↓x_keys, ↓x_cut, ↓x_lc, ↓x_rng1, ↓x_rng2, ↓x_lst1, ↓x_itup, ↓x_rng3, ↓x_three, ↓x_lstg, ↓x_tupg, ↓x_adrS, ↓x_one, ↓x_two, ↓x_adr, ↓x_sl, ↓x_np, ↓x_pt, ↓x_int, ↓x_bm, ↓x_bm0, ↓x_consg, ↓x_nilg, ↓x_dget2, ↓x_dget1, ↓x_dgetN, ↓x_dget, ↓x_din, ↓x_dni, ↓x_dput, ↓x_dpop2, ↓r_isB, ↓r_notB, ↓x_enum, ↓x_zip, ↓x_str, ↓x_strE, ↓r_inS, ↓r_ninS, wipe, List.map_cons, List.map_nil, ↓x_isT, ↓r_isiII, ↓r_isiBB, ↓r_isiIB, ↓r_isiSS, ↓r_neNS, ↓r_neSN, ↓r_neNN, ↓r_eqNS, ↓r_eqSN, ↓r_eqNN, ↓r_eqIS, ↓r_neIS, ↓r_neSI, ↓r_neBS, ↓r_eqBB, ↓r_neBB, ↓x_start, ↓x_K, ↓x_start0, ↓r_i0, ↓r_i, ↓r_u, ↓r_addI, ↓r_addS, ↓r_mulI, ↓r_mulS, ↓r_eqI, ↓r_neI, ↓r_eqS, ↓r_neS, ↓r_absI, ↓r_intI, ↓r_intB, List.length_cons, List.length_nil, List.replicate, List.set_cons_zero, List.set_cons_succ, decide_eq_true_eq, Bool.not_eq_true', decide_eq_false_iff_not, if_true, if_false, Bool.false_eq_true, Bool.true_eq_false, ite_true, ite_false, Bool.not_true, Bool.not_false, c_div, n_ten, c_pow, not_true_eq_false, not_false_eq_true, decide_true, decide_false, true_and, and_true, and_self, true_or, or_true, Int.reduceLT, Int.reduceLE, Int.reduceMul, Int.reduceAdd, Int.reduceSub, Int.reducePow, Int.reduceNeg, Int.reduceDiv, Int.reduceMod, Nat.reducePow, Int.reduceToNat, Int.reduceEq, Int.reduceNe, Nat.reduceLT, Nat.reduceLeDiff, Nat.reduceAdd, ↓x_whole])
section
variable {P : Program} {w : World} {K : PySem.W.Frag} {mg : Str → Option Value} {base : Heap}
theorem f_is_whole (T : Tx K mg) : Fn P w K mg base 1 "is_whole" ["thing"] (sp_is_whole) := by
  refine T.mkFn 1 19 (d := d_is_whole) (N := ["thing"]) (k := 0) rfl rfl rfl rfl rfl sc_is_whole (fun _ _ _ _ _ _ us hl => match us, hl with | [_], _ => rfl) (fun vs H Q E h => ?len) (fun cdv A outer s H vs Q E hr h => ⟨_,
      (pss_one (ps_ret (pe_and (pe_callB call_gIsi (by rfl) (T.free 76) (by decide +kernel) (pa_cons (pv 0) (pa_cons (pe_ty (T := "int") (T.free 83) (by decide +kernel) (by rfl)) pa_nil))) (pe_one (pe_not (pe_callB call_gIsi (by rfl) (T.free 76) (by decide +kernel) (pa_cons (pv 0) (pa_cons (pe_ty (T := "bool") (T.free 84) (by decide +kernel) (by rfl)) pa_nil)))))))), ?rd⟩)
  case len => first | exact len_is_whole h | (repeat (first | (obtain ⟨rfl, _⟩ := h; rfl; done) | obtain ⟨_, h⟩ := h))
  case rd =>
    obtain ⟨v, rfl⟩ : ∃ v, vs = [v] := by unfold sp_is_whole at h; split at h <;> first | exact ⟨_, rfl⟩ | exact h.elim
    walk_at "x"
    cases v with
    | int n => exact whole_int h
    | _ => exact whole_odd h.1 h.2
theorem f_number_word (T : Tx K mg) : Fn P w K mg base 2 "number_word" ["number"] (sp_number_word K) := by
  have c_is_whole := f_is_whole (P := P) (w := w) (base := base) T
  refine T.mkFn 2 20 (d := d_number_word) (N := ["number"]) (k := 1) rfl rfl rfl rfl rfl sc_number_word (fun _ _ _ _ _ _ us hl => match us, hl with | [_], _ => rfl) (fun vs H Q E h => ?len) (fun cdv A outer s H vs Q E hr h => ⟨_,
      (pss_cons (ps_if (PW.pt (pw_or (pt_not (pt_val (pe_fn (takes_of rfl rfl rfl rfl) c_is_whole (hr.mono (by decide)) (by rfl) (pa_cons (pv 0) pa_nil)))) (pw_or1 (pt_cmpR op_gt (pe_callB call_gAbs (by rfl) (T.free 78) (by decide +kernel) (pa_cons (pv 0) pa_nil)) (pe_num (T.num 65) (by rfl)) (nomark _))))) (pss_one (ps_raiseK (K := K) rfl rfl (takes_of rfl rfl rfl rfl) (T.says.fact 89 rfl) (T.glo 1) (by rfl))) pss_nil)
        (pss_one (ps_ret (pe_op op_gMul pe_int (pv 0))))), ?rd⟩)
  case len => first | exact len_number_word h | (repeat (first | (obtain ⟨rfl, _⟩ := h; rfl; done) | obtain ⟨_, h⟩ := h))
  case rd =>
    rcases one_number_word h with ⟨n, rfl⟩ | ⟨v, rfl, o, h⟩
    · walk_at "w"
      rw [x_number_word] at h
      ((repeat' split) <;> (repeat' split at h) <;> first | exact h | (exfalso; omega))
    · walk_at "x"
      rw [odd_whole o]
      walk_at "x"
      exact h
theorem f_place_word (T : Tx K mg) : Fn P w K mg base 2 "place_word" ["at"] (sp_place_word K) := by
  have c_is_whole := f_is_whole (P := P) (w := w) (base := base) T
  refine T.mkFn 3 21 (d := d_place_word) (N := ["at"]) (k := 1) rfl rfl rfl rfl rfl sc_place_word (fun _ _ _ _ _ _ us hl => match us, hl with | [_], _ => rfl) (fun vs H Q E h => ?len) (fun cdv A outer s H vs Q E hr h => ⟨_,
      (pss_cons (ps_if (PW.pt (pw_or (pt_not (pt_val (pe_fn (takes_of rfl rfl rfl rfl) c_is_whole (hr.mono (by decide)) (by rfl) (pa_cons (pv 0) pa_nil)))) (pw_or1 (pt_not (pt_chain op_le op_le pe_int (pv 0) (pe_num (T.num 66) (by rfl))))))) (pss_one (ps_raiseK (K := K) rfl rfl (takes_of rfl rfl rfl rfl) (T.says.fact 92 rfl) (T.glo 4) (by rfl))) pss_nil)
        (pss_one (ps_ret (pe_op op_gAdd (pe_op op_gMul pe_int (pv 0)) pe_int)))), ?rd⟩)
  case len => first | exact len_place_word h | (repeat (first | (obtain ⟨rfl, _⟩ := h; rfl; done) | obtain ⟨_, h⟩ := h))
  case rd =>
    rcases one_place_word h with ⟨n, rfl⟩ | ⟨v, rfl, o, h⟩
    · walk_at "w"
      rw [x_place_word] at h
      ((repeat' split) <;> (repeat' split at h) <;> first | exact h | (exfalso; omega))
    · walk_at "x"
      rw [odd_whole o]
      walk_at "x"
      exact h
theorem f_kind (T : Tx K mg) : Fn P w K mg base 2 "kind" ["word"] (sp_kind K) := by
  have c_is_whole := f_is_whole (P := P) (w := w) (base := base) T
  refine T.mkFn 4 22 (d := d_kind) (N := ["word"]) (k := 1) rfl rfl rfl rfl rfl sc_kind (fun _ _ _ _ _ _ us hl => match us, hl with | [_], _ => rfl) (fun vs H Q E h => ?len) (fun cdv A outer s H vs Q E hr h => ⟨_,
      (pss_cons (ps_if (pt_not (pt_val (pe_fn (takes_of rfl rfl rfl rfl) c_is_whole (hr.mono (by decide)) (by rfl) (pa_cons (pv 0) pa_nil)))) (pss_one (ps_raiseK (K := K) rfl rfl (takes_of rfl rfl rfl rfl) (T.says.fact 90 rfl) (T.glo 2) (by rfl))) pss_nil)
        (pss_cons (ps_if (pt_cmpR (op_eqK (K := K) rfl hr.units) (pv 0) (pe_num (T.num 67) (by rfl)) (nomark _)) (pss_one (ps_ret pe_str)) pss_nil)
        (pss_cons (ps_if (PW.pt (pw_and (pt_cmpR (op_eqK (K := K) rfl hr.units) (pe_op op_mod (pv 0) pe_int) pe_int (nomark _)) (pw_and1 (pt_cmpR op_le (pe_callB call_gAbs (by rfl) (T.free 78) (by decide +kernel) (pa_cons (pv 0) pa_nil)) (pe_op op_gMul pe_int (pe_num (T.num 65) (by rfl))) (nomark _))))) (pss_one (ps_ret pe_str)) pss_nil)
        (pss_cons (ps_if (PW.pt (pw_and (pt_cmpR (op_eqK (K := K) rfl hr.units) (pe_op op_mod (pv 0) pe_int) pe_int (nomark _)) (pw_and1 (pt_chain op_lt op_le pe_int (pv 0) (pe_op op_gAdd (pe_op op_gMul pe_int (pe_num (T.num 66) (by rfl))) pe_int))))) (pss_one (ps_ret pe_str)) pss_nil)
        (pss_one (ps_raiseK (K := K) rfl rfl (takes_of rfl rfl rfl rfl) (T.says.fact 90 rfl) (T.glo 2) (by rfl))))))), ?rd⟩)
  case len => first | exact len_kind h | (repeat (first | (obtain ⟨rfl, _⟩ := h; rfl; done) | obtain ⟨_, h⟩ := h))
  case rd =>
    rcases one_kind h with ⟨n, rfl⟩ | ⟨v, rfl, o, h⟩
    · walk_at "w"
      rw [x_kind, kind_if rfl rfl rfl] at h
      ((repeat' split) <;> (repeat' split at h) <;> first | exact h | (exfalso; omega))
    · walk_at "x"
      rw [odd_whole o]
      walk_at "x"
      exact h
local macro_rules | `(tactic| walk_at "w2") => `(tactic| try simp only [↓x_var0, ↓x_varS, ↓x_c, ↓x_op, ↓x_un, ↓x_cb, ↓x_nil, ↓x_cons, ↓x_test, ↓x_b, ↓x_ex, ↓x_and, ↓x_or, ↓x_not, ↓x_andV, ↓x_orV, ↓x_notV, ↓x_tif, ↓x_chain, ↓x_menu, ↓x_menuI, ↓x_lst, ↓x_tup, ↓x_dnew, ↓x_callW, ↓x_callN, ↓x_seq, ↓x_next, ↓x_ret, ↓x_retN, ↓x_drop, ↓x_ifS, ↓x_asg, ↓x_name, ↓x_raise, ↓x_fld, ↓x_setF, ↓x_meth, ↓x_make, ↓x_sub, ↓r_min, ↓r_max, ↓x_yes, ↓x_for, ↓x_lock, ↓x_keys, ↓x_cut, ↓x_lc, ↓x_rng1, ↓x_rng2, ↓x_lst1, ↓x_itup, ↓x_rng3, ↓x_three, ↓x_lstg, ↓x_tupg, ↓x_adrS, ↓x_one, ↓x_two, ↓x_adr, ↓x_sl, ↓x_np, ↓x_pt, ↓x_int, ↓x_bm, ↓x_bm0, ↓x_consg, ↓x_nilg, ↓x_dget2, ↓x_dget1, ↓x_dgetN, ↓x_dget, ↓x_din, ↓x_dni, ↓x_dput, ↓x_dpop2, ↓r_isB, ↓r_notB, ↓x_enum, ↓x_zip, ↓x_str, ↓x_strE, ↓r_inS, ↓r_ninS, wipe, List.map_cons, List.map_nil, ↓x_isT, ↓r_isiII, ↓r_isiBB, ↓r_isiIB, ↓r_isiSS, ↓r_neNS, ↓r_neSN, ↓r_neNN, ↓r_eqNS, ↓r_eqSN, ↓r_eqNN, ↓r_eqIS, ↓r_neIS, ↓r_neSI, ↓r_neBS, ↓r_eqBB, ↓r_neBB, ↓x_start, ↓x_K, ↓x_start0, ↓r_i0, ↓r_i, ↓r_u, ↓r_addI, ↓r_addS, ↓r_mulI, ↓r_mulS, ↓r_eqI, ↓r_neI, ↓r_eqS, ↓r_neS, ↓r_absI, ↓r_intI, ↓r_intB, List.length_cons, List.length_nil, List.replicate, List.set_cons_zero, List.set_cons_succ, decide_eq_true_eq, Bool.not_eq_true', decide_eq_false_iff_not, if_true, if_false, Bool.false_eq_true, Bool.true_eq_false, ite_true, ite_false, Bool.not_true, Bool.not_false, c_div, n_ten, c_pow, not_true_eq_false, not_false_eq_true, decide_true, decide_false, true_and, and_true, and_self, true_or, or_true, Int.reduceLT, Int.reduceLE, Int.reduceMul, Int.reduceAdd, Int.reduceSub, Int.reducePow, Int.reduceNeg, Int.reduceDiv, Int.reduceMod, Nat.reducePow, Int.reduceToNat, Int.reduceEq, Int.reduceNe, Nat.reduceLT, Nat.reduceLeDiff, Nat.reduceAdd, ↓x_whole, ↓x_kind])
theorem f_worth (T : Tx K mg) : Fn P w K mg base 3 "worth" ["word"] (sp_worth K) := by
  have c_kind := f_kind (P := P) (w := w) (base := base) T
  refine T.mkFn 5 23 (d := d_worth) (N := ["word"]) (k := 2) rfl rfl rfl rfl rfl sc_worth (fun _ _ _ _ _ _ us hl => match us, hl with | [_], _ => rfl) (fun vs H Q E h => ?len) (fun cdv A outer s H vs Q E hr h => ⟨_,
      (pss_cons (ps_if (pt_cmpR (op_eqK (K := K) rfl hr.units) (pe_fn (takes_of rfl rfl rfl rfl) c_kind (hr.mono (by decide)) (by rfl) (pa_cons (pv 0) pa_nil)) pe_str (nomark _)) (pss_one (ps_ret pe_non)) pss_nil)
        (pss_one (ps_ret (pe_op op_fdiv (pv 0) pe_int)))), ?rd⟩)
  case len => first | exact len_worth h | (repeat (first | (obtain ⟨rfl, _⟩ := h; rfl; done) | obtain ⟨_, h⟩ := h))
  case rd =>
    rcases one_worth h with ⟨n, rfl⟩ | ⟨v, rfl, o, h⟩
    · walk_at "w2"
      rw [x_worth] at h
      cases e : wordOf n with
      | none => rw [e] at h; exact h
      | some w =>
        rw [e] at h
        replace h : Q w.worth H := h
        walk_at "w2"
        rw [wordOf_div e] at h
        simp only [(kind_is w).1]
        split
        · rename_i c
          rw [if_pos c] at h
          exact h
        · rename_i c
          rw [if_neg c] at h
          exact h
    · walk_at "x"
      rw [odd_kind o]
      exact h
end
def Vw (ws : List Int) : Prop := ∀ w ∈ ws, (wordOf w).isSome = true
theorem Vw.get {ws : List Int} (h : Vw ws) {i : Nat} (hi : i < ws.length) : ∃ w, wordOf (ws.getD i 0) = some w := by
  have m := List.mem_of_getElem? (getD_at (d := 0) hi)
  exact Option.isSome_iff_exists.mp (h _ m)
theorem Vw.set {ws : List Int} (h : Vw ws) {i : Nat} {n : Int} (hn : (wordOf n).isSome = true) : Vw (ws.set i n) := fun w m => by
  rcases List.mem_or_eq_of_mem_set m with m | rfl
  · exact h w m
  · exact hn
theorem Vw.rep {n : Nat} : Vw (List.replicate n (-1)) := fun w m => by
  rw [(List.mem_replicate.mp m).2]
  rfl
theorem k_nn : (Wd.nothing.kind = ("number" : Str)) = False := eq_false (show ¬ ("nothing" : Str) = "number" by decide +kernel)
theorem k_pn {p : Int} : ((Wd.place p).kind = ("number" : Str)) = False := eq_false (show ¬ ("place" : Str) = "number" by decide +kernel)
theorem k_Nn {n : Int} : ((Wd.num n).kind = ("number" : Str)) = True := eq_true (show ("number" : Str) = "number" from rfl)
theorem k_np : (Wd.nothing.kind = ("place" : Str)) = False := eq_false (show ¬ ("nothing" : Str) = "place" by decide +kernel)
theorem k_Np {n : Int} : ((Wd.num n).kind = ("place" : Str)) = False := eq_false (show ¬ ("number" : Str) = "place" by decide +kernel)
theorem k_pp {p : Int} : ((Wd.place p).kind = ("place" : Str)) = True := eq_true (show ("place" : Str) = "place" from rfl)
theorem word_num {n : Int} (h : (n.natAbs : Int) ≤ 1000000000000) : wordOf (2 * n) = some (.num n) := by
  unfold wordOf
  rw [if_neg (by omega), if_pos (by omega)]
  congr 2
  omega
theorem word_place {n : Int} (h0 : 0 ≤ n) (h1 : n ≤ 9999) : wordOf (2 * n + 1) = some (.place n) := by
  unfold wordOf
  rw [if_neg (by omega), if_neg (by omega), if_pos (by omega)]
  congr 2
  omega
def wordV : V → Option Int
  | .int n => if (wordOf n).isSome then some n else none
  | _ => none
theorem wordV_int {n : Int} : wordV (.int n) = if (wordOf n).isSome then some n else none := rfl
theorem wordV_odd {H : Hp} {v : V} (h : Odd H v) : wordV v = none := by
  cases v with
  | int i => exact (odd_not h).elim
  | _ => rfl
theorem wordV_some {v : V} {n : Int} (h : wordV v = some n) : v = .int n ∧ ∃ w, wordOf n = some w := by
  cases v with
  | int j =>
    rw [wordV_int] at h
    split at h
    · rename_i c
      cases h
      exact ⟨rfl, Option.isSome_iff_exists.mp c⟩
    · cases h
  | _ => cases h
theorem wordV_none {n : Int} (h : wordV (.int n) = none) : wordOf n = none := by
  rw [wordV_int] at h
  split at h
  · cases h
  · rename_i c
    cases e : wordOf n with
    | none => rfl
    | some w => rw [e] at c; exact absurd rfl c
local macro_rules | `(tactic| walk_at "w2") => `(tactic| try simp only [↓x_var0, ↓x_varS, ↓x_c, ↓x_op, ↓x_un, ↓x_cb, ↓x_nil, ↓x_cons, ↓x_test, ↓x_b, ↓x_ex, ↓x_and, ↓x_or, ↓x_not, ↓x_andV, ↓x_orV, ↓x_notV, ↓x_tif, ↓x_chain, ↓x_menu, ↓x_menuI, ↓x_lst, ↓x_tup, ↓x_dnew, ↓x_callW, ↓x_callN, ↓x_seq, ↓x_next, ↓x_ret, ↓x_retN, ↓x_drop, ↓x_ifS, ↓x_asg, ↓x_name, ↓x_raise, ↓x_fld, ↓x_setF, ↓x_meth, ↓x_make, ↓x_sub, ↓r_min, ↓r_max, ↓x_yes, ↓x_for, ↓x_lock, ↓x_keys, ↓x_cut, ↓x_lc, ↓x_rng1, ↓x_rng2, ↓x_lst1, ↓x_itup, ↓x_rng3, ↓x_three, ↓x_lstg, ↓x_tupg, ↓x_adrS, ↓x_one, ↓x_two, ↓x_adr, ↓x_sl, ↓x_np, ↓x_pt, ↓x_int, ↓x_bm, ↓x_bm0, ↓x_consg, ↓x_nilg, ↓x_dget2, ↓x_dget1, ↓x_dgetN, ↓x_dget, ↓x_din, ↓x_dni, ↓x_dput, ↓x_dpop2, ↓r_isB, ↓r_notB, ↓x_enum, ↓x_zip, ↓x_str, ↓x_strE, ↓r_inS, ↓r_ninS, wipe, List.map_cons, List.map_nil, ↓x_isT, ↓r_isiII, ↓r_isiBB, ↓r_isiIB, ↓r_isiSS, ↓r_neNS, ↓r_neSN, ↓r_neNN, ↓r_eqNS, ↓r_eqSN, ↓r_eqNN, ↓r_eqIS, ↓r_neIS, ↓r_neSI, ↓r_neBS, ↓r_eqBB, ↓r_neBB, ↓x_start, ↓x_K, ↓x_start0, ↓r_i0, ↓r_i, ↓r_u, ↓r_addI, ↓r_addS, ↓r_mulI, ↓r_mulS, ↓r_eqI, ↓r_neI, ↓r_eqS, ↓r_neS, ↓r_absI, ↓r_intI, ↓r_intB, List.length_cons, List.length_nil, List.replicate, List.set_cons_zero, List.set_cons_succ, decide_eq_true_eq, Bool.not_eq_true', decide_eq_false_iff_not, if_true, if_false, Bool.false_eq_true, Bool.true_eq_false, ite_true, ite_false, Bool.not_true, Bool.not_false, c_div, n_ten, c_pow, not_true_eq_false, not_false_eq_true, decide_true, decide_false, true_and, and_true, and_self, true_or, or_true, Int.reduceLT, Int.reduceLE, Int.reduceMul, Int.reduceAdd, Int.reduceSub, Int.reducePow, Int.reduceNeg, Int.reduceDiv, Int.reduceMod, Nat.reducePow, Int.reduceToNat, Int.reduceEq, Int.reduceNe, Nat.reduceLT, Nat.reduceLeDiff, Nat.reduceAdd, ↓x_whole, ↓x_kind])

/-! ## the script's cells, lists that are read -/
def cell (ns : List Int) (j : Int) : Int := ns.getD j.toNat 0
theorem same_new {H : Hp} {p : Addr} {o : HO} (h : H p = none) : Same H (upd H p o) := fun b u e => by
  rw [upd_ne (ne_of_none e h)]
  exact e
theorem ite_and {P Q A B : Prop} [Decidable P] [Decidable Q] (h1 : P → Q → A) (h2 : ¬ (P ∧ Q) → B) : if P then (if Q then A else B) else B := by
  split
  · split
    · exact h1 ‹_› ‹_›
    · exact h2 fun z => absurd z.2 ‹_›
  · exact h2 fun z => absurd z.1 ‹_›
theorem ite_or {P Q A B : Prop} [Decidable P] [Decidable Q] (h1 : P ∨ Q → A) (h2 : ¬ P → ¬ Q → B) : if P then A else if Q then A else B := by
  split
  · exact h1 (.inl ‹_›)
  · split
    · exact h1 (.inr ‹_›)
    · exact h2 ‹_› ‹_›
/-- a new instance; its first deed -/
theorem same_mk {H : Hp} {x dx C : Addr} (nx : H x = none) (ndx : H dx = none) (ne : dx ≠ x) : Same H (upd (upd H dx (.own x)) x (.ins C dx [])) := (same_new ndx).trans (same_new (by rw [upd_ne ne.symm]; exact nx))
theorem same_init {H H' : Hp} {x dx C : Addr} (nx : H x = none) (ndx : H dx = none) (ne : dx ≠ x) (k : ∀ c o, c ≠ x → upd (upd H dx (.own x)) x (.ins C dx []) c = some o → H' c = some o) : Same H H' := fun c o e => k c o (ne_of_none e nx) (same_mk nx ndx ne c o e)
theorem cut_ints (ns : List Int) (lo hi : Option Int) : ∃ cs : List Int, cutV (ns.map V.int) lo hi = cs.map V.int := ⟨(ns.drop (HT.sIx ns.length 0 lo)).take (HT.sIx ns.length ns.length hi - HT.sIx ns.length 0 lo), by unfold cutV; rw [List.length_map, List.map_take, List.map_drop]⟩
def placeOf (n : Nat) : V → Option Nat
  | .int i => if 0 ≤ i ∧ i < n then some i.toNat else none
  | _ => none
theorem placeOf_int {n : Nat} {i : Int} : placeOf n (.int i) = if 0 ≤ i ∧ i < n then some i.toNat else none := rfl
theorem placeOf_odd {H : Hp} {n : Nat} {v : V} (h : Odd H v) : placeOf n v = none := by
  cases v with
  | int i => exact (odd_not h).elim
  | _ => rfl
theorem placeOf_some {n : Nat} {v : V} {i : Nat} (h : placeOf n v = some i) : v = .int (i : Int) ∧ i < n := by
  cases v with
  | int j =>
    rw [placeOf_int] at h
    split at h
    · rename_i c
      have e := Option.some.inj h
      exact ⟨by rw [← e]; congr 1; omega, by omega⟩
    · cases h
  | _ => cases h
def placeW : V → Option Int
  | .int n => if 0 ≤ n ∧ n ≤ 9999 then some n else none
  | _ => none
theorem placeW_int {n : Int} : placeW (.int n) = if 0 ≤ n ∧ n ≤ 9999 then some n else none := rfl
theorem placeW_odd {H : Hp} {v : V} (h : Odd H v) : placeW v = none := by
  cases v with
  | int i => exact (odd_not h).elim
  | _ => rfl
theorem placeW_some {v : V} {n : Int} (h : placeW v = some n) : v = .int n ∧ 0 ≤ n ∧ n ≤ 9999 := by
  cases v with
  | int j =>
    rw [placeW_int] at h
    split at h
    · rename_i c
      cases h
      exact ⟨rfl, c⟩
    · cases h
  | _ => cases h
theorem all_flat {ws : List Int} : (ws.map V.int).all flatV = true := by
  rw [List.all_map]
  exact List.all_eq_true.mpr fun _ _ => rfl
theorem in_ints {n : Int} {ws : List Int} : inV (.int n) (ws.map V.int) = decide (n ∈ ws) := by
  unfold inV
  rw [List.any_map]
  by_cases c : n ∈ ws
  · rw [decide_eq_true c]
    exact List.any_eq_true.mpr ⟨n, c, beq_self_eq_true n⟩
  · rw [decide_eq_false c]
    refine List.any_eq_false.mpr fun x hx e => c ?_
    have e2 : x = n := eq_of_beq e
    exact e2 ▸ hx
theorem none_of {H H' : Hp} {a : Addr} (s : Same H H') (h : H' a = none) : H a = none := by
  cases e : H a with
  | none => rfl
  | some o =>
    rw [s a o e] at h
    cases h
/-- a list that grows -/
theorem r_app {K : PySem.W.Frag} {H : Hp} {l : Addr} {xs : List V} {y : V} {Q : VK} (h : H l = some (.lst xs)) (hn : xs.length < sizeLine) (q : Q .non (upd H l (.lst (xs ++ [y])))) : tyV K "list" (.ref l) H ∧ rAppend (.ref l) [y] H Q := ⟨.inl ⟨rfl, _, .of h⟩, l, xs, y, rfl, rfl, h, hn, q⟩
theorem ty_lst {K : PySem.W.Frag} {H : Hp} {l : Addr} {xs : List V} (h : H l = some (.lst xs)) : tyV K "list" (.ref l) H := .inl ⟨rfl, _, .of h⟩
theorem same_tyOf {H H' : Hp} {v : V} {t : String} (s : Same H H') (h : tyOf v H = some t) : tyOf v H' = some t := by
  cases v with
  | ref a =>
    have h1 : tyO (H a) = some t := h
    cases e : H a with
    | none =>
      rw [e] at h1
      cases h1
    | some o =>
      rw [e] at h1
      show tyO (H' a) = some t
      rw [s a o e]
      exact h1
  | _ => exact h
theorem odd_same {H H' : Hp} {v : V} (s : Same H H') (h : Odd H v) : Odd H' v := h.elim fun t q => ⟨t, same_tyOf s q.1, q.2⟩
def Thing (H : Hp) (v : V) : Prop := (∃ n, v = .int n) ∨ Odd H v
theorem thing_same {H H' : Hp} {v : V} (s : Same H H') (h : Thing H v) : Thing H' v := h.imp id (odd_same s)
theorem thing_upd {H : Hp} {a : Addr} {o o' : HO} {v : V} (e : H a = some o) (q : tyO (some o) = tyO (some o')) (h : Thing H v) : Thing (upd H a o') v := h.imp id fun ⟨t, g, ne⟩ => ⟨t, by
  cases v with
  | ref b =>
    have h1 : tyO (H b) = some t := g
    show tyO (upd H a o' b) = some t
    by_cases c : b = a
    · subst c
      rw [upd_same, ← q, ← e]
      exact h1
    · rw [upd_ne c]
      exact h1
  | _ => exact g, ne⟩
theorem r_lenS {K : PySem.W.Frag} {H : Hp} {a : Addr} {xs : List V} {Q : VK} (h : SqL K H a xs) (q : Q (.int (xs.length : Int)) H) : L2.rLen K [.ref a] H Q := ⟨_, _, rfl, .inl ⟨_, h, rfl⟩, q⟩
theorem r_ixS {K : PySem.W.Frag} {H : Hp} {a : Addr} {xs : List V} {i : Int} {v : V} {Q : VK} (h : SqL K H a xs) (e : atI xs i = some v) (q : Q v H) : rIx K (.ref a) (.int i) H Q := .inl ⟨_, _, _, _, rfl, rfl, h, e, q⟩
theorem at_pos {α : Type} {xs : List α} {i : Int} {v : α} (h : 0 ≤ i) (e : xs[i.toNat]? = some v) : atI xs i = some v := by
  have hl := (List.getElem?_eq_some_iff.mp e).1
  unfold atI ixN
  rw [if_pos h, if_pos (by omega)]
  exact e
theorem menu_pick {xs : List V} {i : Int} {P : V → Prop} (Good : V → Prop) (h : ∃ v, atI xs i = some v ∧ Good v) (k : ∀ v, Good v → P v) : ∃ v, atI xs i = some v ∧ P v := h.elim fun v q => ⟨v, q.1, k v q.2⟩
theorem cut_int {ns : List Int} {lo hi : Option Int} {i : Nat} {x : V} (h : (cutV (ns.map V.int) lo hi)[i]? = some x) : ∃ c, x = .int c := by
  have m := List.mem_of_getElem? h
  unfold cutV at m
  have m2 := List.mem_of_mem_drop (List.mem_of_mem_take m)
  obtain ⟨c, -, e⟩ := List.mem_map.mp m2
  exact ⟨c, e.symm⟩
theorem sIx_pos {n d : Nat} {v : Int} (h : 0 ≤ v) : HT.sIx n d (some v) = min v.toNat n := by
  show (if v < 0 then (v + (n : Int)).toNat else min v.toNat n) = _
  rw [if_neg (by omega)]
theorem cut_len {xs : List V} {a b : Int} (h0 : 0 ≤ a) (h1 : a ≤ b) : (cutV xs (some a) (some b)).length ≤ (b - a).toNat := by
  unfold cutV
  rw [List.length_take, List.length_drop]
  rw [sIx_pos h0, sIx_pos (by omega)]
  omega
def sp_cell (K : PySem.W.Frag) : Sp := fun vs H Q _ => ∃ a j ns, vs = [.ref a, .int j] ∧ SqL K H a (ns.map V.int) ∧ 0 ≤ j ∧ Q (.int (cell ns j)) H
section
variable {P : Program} {w : World} {K : PySem.W.Frag} {mg : Str → Option Value} {base : Heap}
theorem f__law_cell_at (T : Tx K mg) : Fn P w K mg base 1 "_law_cell_at" ["_law_script", "_law_k"] (sp_cell K) := by
  refine T.mkFn 83 54 (d := d__law_cell_at) (N := ["_law_script", "_law_k"]) (k := 0) rfl rfl rfl rfl rfl sc__law_cell_at (fun _ _ _ _ _ _ us hl => match us, hl with | [_, _], _ => rfl) (fun vs H Q E h => ?len) (fun cdv A outer s H vs Q E hr h => ⟨_,
      (pss_cons (ps_if (pt_cmpR op_lt (pv 1) (pe_callB (call_lenK (K := K) rfl) (by rfl) (T.free 77) PySem.boot_len (pa_cons (pv 0) pa_nil)) (nomark _)) (pss_one (ps_ret (pe_ix (ix_seqK (K := K) rfl) (pv 0) (pv 1) (fun _ _ => rfl)))) pss_nil)
        (pss_one (ps_ret pe_int))), ?rd⟩)
  case len => obtain ⟨a, j, ns, rfl, _⟩ := h; rfl
  case rd =>
    obtain ⟨a, j, ns, rfl, hS, h0, q⟩ := h
    walk_at "x"
    refine r_lenS hS ?_
    walk_at "x"
    rw [List.length_map]
    unfold cell at q
    split
    · rename_i c
      have e : ns[j.toNat]? = some ns[j.toNat] := List.getElem?_eq_getElem (by omega)
      rw [List.getD_eq_getElem?_getD, e] at q
      exact r_ixS hS (at_pos h0 (by rw [List.getElem?_map, e]; rfl)) q
    · rw [List.getD_eq_getElem?_getD, List.getElem?_eq_none (by omega)] at q
      exact q
end



/-! ## memories -/
structure MemO (K : PySem.W.Frag) (H : Hp) (m dx l : Addr) (ws : List Int) : Prop where
  ob : H m = some (.ins (He.ga K "Memory") dx (F_Memory (.int ws.length) (.ref l)))
  ls : H l = some (.lst (ws.map V.int))
  sz : ws.length ≤ 4000
theorem MemO.ne {K H m dx l ws} (h : MemO K H m dx l ws) : l ≠ m := ne_of h.ls h.ob (by intro z; cases z)
theorem MemO.same {K H H' m dx l ws} (h : MemO K H m dx l ws) (s : Same H H') : MemO K H' m dx l ws := ⟨s _ _ h.ob, s _ _ h.ls, h.sz⟩
theorem MemO.put {K H m dx l ws} (h : MemO K H m dx l ws) (vs : List Int) (e : vs.length = ws.length) : MemO K (upd H l (.lst (vs.map V.int))) m dx l vs :=
  ⟨by rw [upd_ne h.ne.symm, e]; exact h.ob, upd_same, by rw [e]; exact h.sz⟩
def sizeV : V → Option Nat
  | .int n => if 1 ≤ n ∧ n ≤ 4000 then some n.toNat else none
  | _ => none
theorem sizeV_int {n : Int} : sizeV (.int n) = if 1 ≤ n ∧ n ≤ 4000 then some n.toNat else none := rfl
theorem sizeV_odd {H : Hp} {v : V} (h : Odd H v) : sizeV v = none := by
  cases v with
  | int i => exact (odd_not h).elim
  | _ => rfl
def sp_Memory_need (K : PySem.W.Frag) : Sp := fun vs H Q E => ∃ m dx l ws v, vs = [.ref m, v] ∧ MemO K H m dx l ws ∧ Thing H v ∧ match placeOf ws.length v with
  | some _ => Q .non H
  | none => E (Ex K "NoPlace") none H
def sp_Memory_read (K : PySem.W.Frag) : Sp := fun vs H Q E => ∃ m dx l ws v, vs = [.ref m, v] ∧ MemO K H m dx l ws ∧ Thing H v ∧ match placeOf ws.length v with
  | some i => Q (.int (ws.getD i 0)) H
  | none => E (Ex K "NoPlace") none H
def sp_Memory_write (K : PySem.W.Frag) : Sp := fun vs H Q E => ∃ m dx l ws v z, vs = [.ref m, v, z] ∧ MemO K H m dx l ws ∧ Thing H v ∧ Thing H z ∧ match placeOf ws.length v with
  | some i => (match wordV z with
    | some n => Q .non (upd H l (.lst ((ws.set i n).map V.int)))
    | none => E (Ex K "BadWord") none H)
  | none => E (Ex K "NoPlace") none H
def sp_Memory___init__ (K : PySem.W.Frag) : Sp := fun vs H Q E => ∃ m dx v, vs = [.ref m, v] ∧ H m = some (.ins (He.ga K "Memory") dx []) ∧ Thing H v ∧ match sizeV v with
  | some n => ∀ l H', H l = none → MemO K H' m dx l (List.replicate n (-1)) → (∀ b o, b ≠ m → H b = some o → H' b = some o) → Q .non H'
  | none => E (Ex K "BadCount") none H
section
variable {P : Program} {w : World} {K : PySem.W.Frag} {mg : Str → Option Value} {base : Heap}
theorem f_Memory_need (T : Tx K mg) : Mt P w K mg base 2 "Memory" "need" ["self", "at"] (sp_Memory_need K) := by
  have c_is_whole := f_is_whole (P := P) (w := w) (base := base) T
  refine T.mkMt 22 100 98 (d := d_Memory_need) (N := ["self", "at"]) (k := 1) rfl rfl rfl rfl rfl rfl sc_Memory_need (fun _ _ _ _ _ _ us hl => match us, hl with | [_, _], _ => rfl) (fun vs H Q E h => ?len) (fun cdv A outer s H vs Q E hr h => ⟨_,
      (pss_one (ps_if (PW.pt (pw_or (pt_not (pt_val (pe_fn (takes_of rfl rfl rfl rfl) c_is_whole (hr.mono (by decide)) (by rfl) (pa_cons (pv 1) pa_nil)))) (pw_or1 (pt_not (pt_chain op_le op_lt pe_int (pv 1) (pe_fldC (T.cls 98) (T.noat 105) (pv 0))))))) (pss_one (ps_raiseK (K := K) rfl rfl (takes_of rfl rfl rfl rfl) (T.says.fact 92 rfl) (T.glo 4) (by rfl))) pss_nil)), ?rd⟩)
  case len => obtain ⟨m, dx, l, ws, v, rfl, _⟩ := h; rfl
  case rd =>
    obtain ⟨m, dx, l, ws, v, rfl, M, th, h⟩ := h
    walk_at "w2"
    rcases th with ⟨n, rfl⟩ | o
    · walk_at "w2"
      rw [placeOf_int] at h
      split
      · refine ⟨_, fldIs M.ob, ?_⟩
        walk_at "w2"
        split
        · rw [if_neg (by omega)] at h
          exact h
        · rw [if_pos (by omega)] at h
          exact h
      · rw [if_neg (by omega)] at h
        exact h
    · rw [odd_whole o]
      rw [placeOf_odd o] at h
      walk_at "w2"
      exact h
theorem f_Memory_read (T : Tx K mg) : Mt P w K mg base 3 "Memory" "read" ["self", "at"] (sp_Memory_read K) := by
  have c_Memory_need := f_Memory_need (P := P) (w := w) (base := base) T
  refine T.mkMt 23 101 98 (d := d_Memory_read) (N := ["self", "at"]) (k := 2) rfl rfl rfl rfl rfl rfl sc_Memory_read (fun _ _ _ _ _ _ us hl => match us, hl with | [_, _], _ => rfl) (fun vs H Q E h => ?len) (fun cdv A outer s H vs Q E hr h => ⟨_,
      (pss_cons (ps_expr (pe_mt (K := K) rfl (takes_of rfl rfl rfl rfl) (pv 0) c_Memory_need (hr.mono (by decide)) (pa_cons (pv 1) pa_nil)))
        (pss_one (ps_ret (pe_ix (ix_seqK (K := K) rfl) (pe_fldC (T.cls 98) (T.noat 106) (pv 0)) (pv 1) (fun _ _ => rfl))))), ?rd⟩)
  case len => obtain ⟨m, dx, l, ws, v, rfl, _⟩ := h; rfl
  case rd =>
    obtain ⟨m, dx, l, ws, v, rfl, M, th, h⟩ := h
    walk_at "w2"
    refine ⟨recv M.ob, m, dx, l, ws, v, rfl, M, th, ?_⟩
    cases e : placeOf ws.length v with
    | none =>
      rw [e] at h
      exact h
    | some i =>
      rw [e] at h
      obtain ⟨rfl, hi⟩ := placeOf_some e
      refine ⟨_, fldIs M.ob, ?_⟩
      refine r_ixS (.of M.ls) (at_pos (by omega) (v := .int (ws.getD i 0)) ?_) h
      rw [List.getElem?_map, Int.toNat_natCast, List.getElem?_eq_getElem hi, List.getD_eq_getElem?_getD, List.getElem?_eq_getElem hi]
      rfl
theorem f_Memory_write (T : Tx K mg) : Mt P w K mg base 3 "Memory" "write" ["self", "at", "word"] (sp_Memory_write K) := by
  have c_Memory_need := f_Memory_need (P := P) (w := w) (base := base) T
  have c_kind := f_kind (P := P) (w := w) (base := base) T
  refine T.mkMt 24 102 98 (d := d_Memory_write) (N := ["self", "at", "word"]) (k := 2) rfl rfl rfl rfl rfl rfl sc_Memory_write (fun _ _ _ _ _ _ us hl => match us, hl with | [_, _, _], _ => rfl) (fun vs H Q E h => ?len) (fun cdv A outer s H vs Q E hr h => ⟨_,
      (pss_cons (ps_expr (pe_mt (K := K) rfl (takes_of rfl rfl rfl rfl) (pv 0) c_Memory_need (hr.mono (by decide)) (pa_cons (pv 1) pa_nil)))
        (pss_cons (ps_expr (pe_fn (takes_of rfl rfl rfl rfl) c_kind (hr.mono (by decide)) (by rfl) (pa_cons (pv 2) pa_nil)))
        (pss_one (ps_asg (pv 2) (pg_sub (pe_fldC (T.cls 98) (T.noat 106) (pv 0)) (pv 1) set_list))))), ?rd⟩)
  case len => obtain ⟨m, dx, l, ws, v, z, rfl, _⟩ := h; rfl
  case rd =>
    obtain ⟨m, dx, l, ws, v, z, rfl, M, th, tz, h⟩ := h
    walk_at "w2"
    refine ⟨recv M.ob, m, dx, l, ws, v, rfl, M, th, ?_⟩
    cases e : placeOf ws.length v with
    | none =>
      rw [e] at h
      exact h
    | some i =>
      rw [e] at h
      obtain ⟨rfl, hi⟩ := placeOf_some e
      walk_at "w2"
      rcases tz with ⟨n, rfl⟩ | o
      · rw [x_kind]
        cases ew : wordOf n with
        | none =>
          have e2 : wordV (.int n) = none := by rw [wordV_int, ew]; rfl
          rw [e2] at h
          exact h
        | some w =>
          have e2 : wordV (.int n) = some n := by rw [wordV_int, ew]; rfl
          rw [e2] at h
          refine ⟨_, fldIs M.ob, ?_⟩
          refine r_setL M.ls (by omega) (by rw [List.length_map]; omega) ?_
          rw [Int.toNat_natCast, ← List.map_set]
          exact h
      · rw [odd_kind o]
        rw [wordV_odd o] at h
        exact h
theorem f_Memory___init__ (T : Tx K mg) : Mi P w K mg base 2 "Memory" ["self", "size"] (sp_Memory___init__ K) := by
  have c_is_whole := f_is_whole (P := P) (w := w) (base := base) T
  refine T.mkMi 21 99 10 (d := d_Memory___init__) (N := ["self", "size", "at"]) (k := 1) rfl rfl rfl rfl rfl rfl sc_Memory___init__ (fun _ _ _ _ _ _ us hl => match us, hl with | [_, _], _ => rfl) (fun vs H Q E h => ?len) (fun cdv A outer s H vs Q E hr h => ⟨_,
      (pss_cons (ps_if (PW.pt (pw_or (pt_not (pt_val (pe_fn (takes_of rfl rfl rfl rfl) c_is_whole (hr.mono (by decide)) (by rfl) (pa_cons (pv 1) pa_nil)))) (pw_or1 (pt_not (pt_chain op_le op_le pe_int (pv 1) (pe_num (T.num 70) (by rfl))))))) (pss_one (ps_raiseK (K := K) rfl rfl (takes_of rfl rfl rfl rfl) (T.says.fact 91 rfl) (T.glo 3) (by rfl))) pss_nil)
        (pss_cons (ps_fldC (T.cls 98) (T.noat 105) (pv 0) (pv 1))
        (pss_one (ps_fldC (T.cls 98) (T.noat 106) (pv 0) (pe_lc (own := [("at", 2)]) (g := gName 2) rfl sc_Memory___init__.nd (pi_range1 rfl (T.free 79) (pa_cons (pv 1) pa_nil)) (blkOk_by (own := [("at", 2)]) (N := ["self", "size", "at"]) (sc := defScope s_Memory___init__) (by decide +kernel)) (fun _ _ _ _ _ => (pg_name (i := 2) sc_Memory___init__.nd rfl (Or.inl rfl))) (fun _ _ _ _ _ => pts_nil) (fun _ _ _ _ _ => (pe_num (T.num 67) (by rfl)))))))), ?rd⟩)
  case len => obtain ⟨m, dx, v, rfl, _⟩ := h; rfl
  case rd =>
    obtain ⟨m, dx, v, rfl, M, th, h⟩ := h
    walk_at "w2"
    rcases th with ⟨n, rfl⟩ | o
    · walk_at "w2"
      rw [sizeV_int] at h
      split
      · split
        · rw [if_neg (by omega)] at h
          exact h
        · rw [if_pos (by omega)] at h
          refine ⟨m, dx, _, rfl, M, by decide, ?_⟩
          rw [pi_Memory_size]
          walk_at "w2"
          refine ⟨by omega, by omega, fun D hD => lc_mapR (fun _ => .int (-1)) (fun _ => rfl) (by rw [sizeLine_eq]; omega) (fun i hi acc Q q => ?_) ?_⟩
          · walk_at "w2"
            exact q
          · have nD : m ≠ D := ne_of_none upd_same hD
            have hD0 : H D = none := by rw [upd_ne nD.symm] at hD; exact hD
            refine ⟨m, dx, _, rfl, by rw [upd_ne nD, upd_same], by show 1 < 1000; decide, ?_⟩
            rw [pi_Memory_words]
            have er : (List.range n.toNat).map (fun _ => V.int (-1)) = (List.replicate n.toNat (-1 : Int)).map V.int := by rw [List.map_replicate, List.map_const', List.length_range]
            rw [er]
            refine h D _ hD0 ⟨?_, ?_, by rw [List.length_replicate]; omega⟩ fun b o hb e => ?_
            · rw [upd_same, List.length_replicate, Int.toNat_of_nonneg (by omega)]
            · rw [upd_ne nD.symm, upd_same]
            · rw [upd_ne hb, upd_ne (ne_of_none e hD0), upd_ne hb]
              exact e
      · rw [if_neg (by omega)] at h
        exact h
    · rw [odd_whole o]
      rw [sizeV_odd o] at h
      walk_at "w2"
      exact h
end
def stretchOf (n : Nat) (k : Int) : V → Option Nat
  | .int i => if 0 ≤ i ∧ i + k ≤ n then some i.toNat else none
  | _ => none
theorem stretchOf_int {n : Nat} {k i : Int} : stretchOf n k (.int i) = if 0 ≤ i ∧ i + k ≤ n then some i.toNat else none := rfl
theorem stretchOf_odd {H : Hp} {n : Nat} {k : Int} {v : V} (h : Odd H v) : stretchOf n k v = none := by
  cases v with
  | int i => exact (odd_not h).elim
  | _ => rfl
theorem stretchOf_some {n : Nat} {k : Int} {v : V} {i : Nat} (h : stretchOf n k v = some i) : v = .int (i : Int) ∧ (i : Int) + k ≤ n := by
  cases v with
  | int j =>
    rw [stretchOf_int] at h
    split at h
    · rename_i c
      have e := Option.some.inj h
      exact ⟨by rw [← e]; congr 1; omega, by omega⟩
    · cases h
  | _ => cases h
inductive Cp where
  | count | place | ok (i j k : Nat)
def cpOf (n : Nat) (a b : V) : V → Cp
  | .int k => if 0 ≤ k then (match stretchOf n k a with
    | some i => (match stretchOf n k b with
      | some j => .ok i j k.toNat
      | none => .place)
    | none => .place) else .count
  | _ => .count
theorem cpOf_odd {H : Hp} {n : Nat} {a b v : V} (h : Odd H v) : cpOf n a b v = .count := by
  cases v with
  | int i => exact (odd_not h).elim
  | _ => rfl
theorem cpOf_int {n : Nat} {a b : V} {k : Int} : cpOf n a b (.int k) = if 0 ≤ k then (match stretchOf n k a with
    | some i => (match stretchOf n k b with
      | some j => .ok i j k.toNat
      | none => .place)
    | none => .place) else .count := rfl
/-- t words of ws from i on, laid from j on -/
def cpT (ws : List Int) (i j t : Nat) : List Int := (List.range t).foldl (fun a u => a.set (j + u) (ws.getD (i + u) 0)) ws
theorem cpT_zero {ws : List Int} {i j : Nat} : cpT ws i j 0 = ws := rfl
theorem cpT_succ {ws : List Int} {i j t : Nat} : cpT ws i j (t + 1) = (cpT ws i j t).set (j + t) (ws.getD (i + t) 0) := by
  unfold cpT
  rw [List.range_succ, List.foldl_append]
  rfl
theorem cpT_len {ws : List Int} {i j t : Nat} : (cpT ws i j t).length = ws.length := by
  induction t with
  | zero => rfl
  | succ t ih => rw [cpT_succ, List.length_set, ih]
theorem cut_get {ws : List Int} {i k t : Nat} (h : i + k ≤ ws.length) (ht : t < k) : (cutV (ws.map V.int) (some (i : Int)) (some ((i : Int) + (k : Int))))[t]? = some (.int (ws.getD (i + t) 0)) := by
  unfold cutV
  rw [sIx_pos (by omega), sIx_pos (by omega), List.getElem?_take, if_pos (by rw [List.length_map]; omega), List.getElem?_drop, List.getElem?_map, List.getD_eq_getElem?_getD]
  have e3 : min (i : Int).toNat (ws.map V.int).length + t = i + t := by rw [List.length_map]; omega
  rw [e3, List.getElem?_eq_getElem (by omega)]
  rfl
def sp_Memory_need_stretch (K : PySem.W.Frag) : Sp := fun vs H Q E => ∃ m dx l ws v k, vs = [.ref m, v, .int k] ∧ MemO K H m dx l ws ∧ Thing H v ∧ match stretchOf ws.length k v with
  | some _ => Q .non H
  | none => E (Ex K "NoPlace") none H
def sp_Memory_copy (K : PySem.W.Frag) : Sp := fun vs H Q E => ∃ m dx l ws v1 v2 z, vs = [.ref m, v1, v2, z] ∧ MemO K H m dx l ws ∧ Thing H v1 ∧ Thing H v2 ∧ Thing H z ∧ match cpOf ws.length v1 v2 z with
  | .count => E (Ex K "BadCount") none H
  | .place => E (Ex K "NoPlace") none H
  | .ok i j k => ∀ H', MemO K H' m dx l (cpT ws i j k) → (∀ b o, b ≠ l → H b = some o → H' b = some o) → (∀ v, Thing H v → Thing H' v) → Q .non H'
section
variable {P : Program} {w : World} {K : PySem.W.Frag} {mg : Str → Option Value} {base : Heap}
theorem f_Memory_need_stretch (T : Tx K mg) : Mt P w K mg base 2 "Memory" "need_stretch" ["self", "at", "many"] (sp_Memory_need_stretch K) := by
  have c_is_whole := f_is_whole (P := P) (w := w) (base := base) T
  refine T.mkMt 25 103 98 (d := d_Memory_need_stretch) (N := ["self", "at", "many"]) (k := 1) rfl rfl rfl rfl rfl rfl sc_Memory_need_stretch (fun _ _ _ _ _ _ us hl => match us, hl with | [_, _, _], _ => rfl) (fun vs H Q E h => ?len) (fun cdv A outer s H vs Q E hr h => ⟨_,
      (pss_one (ps_if (PW.pt (pw_or (pt_not (pt_val (pe_fn (takes_of rfl rfl rfl rfl) c_is_whole (hr.mono (by decide)) (by rfl) (pa_cons (pv 1) pa_nil)))) (pw_or (pt_cmpR op_lt (pv 1) pe_int (nomark _)) (pw_or1 (pt_cmpR op_gt (pe_op op_gAdd (pv 1) (pv 2)) (pe_fldC (T.cls 98) (T.noat 105) (pv 0)) (nomark _)))))) (pss_one (ps_raiseK (K := K) rfl rfl (takes_of rfl rfl rfl rfl) (T.says.fact 92 rfl) (T.glo 4) (by rfl))) pss_nil)), ?rd⟩)
  case len => obtain ⟨m, dx, l, ws, v, k, rfl, _⟩ := h; rfl
  case rd =>
    obtain ⟨m, dx, l, ws, v, k, rfl, M, th, h⟩ := h
    walk_at "w2"
    rcases th with ⟨n, rfl⟩ | o
    · walk_at "w2"
      rw [stretchOf_int] at h
      split
      · rw [if_neg (by omega)] at h
        exact h
      · refine ⟨_, fldIs M.ob, ?_⟩
        walk_at "w2"
        split
        · rw [if_neg (by omega)] at h
          exact h
        · rw [if_pos (by omega)] at h
          exact h
    · rw [odd_whole o]
      rw [stretchOf_odd o] at h
      walk_at "w2"
      exact h
theorem f_Memory_copy (T : Tx K mg) : Mt P w K mg base 3 "Memory" "copy" ["self", "start", "goal", "many"] (sp_Memory_copy K) := by
  have c_is_whole := f_is_whole (P := P) (w := w) (base := base) T
  have c_Memory_need_stretch := f_Memory_need_stretch (P := P) (w := w) (base := base) T
  refine T.mkMt 26 104 98 (d := d_Memory_copy) (N := ["self", "start", "goal", "many", "row", "turn"]) (k := 2) rfl rfl rfl rfl rfl rfl sc_Memory_copy (fun _ _ _ _ _ _ us hl => match us, hl with | [_, _, _, _], _ => rfl) (fun vs H Q E h => ?len) (fun cdv A outer s H vs Q E hr h => ⟨_,
      (pss_cons (ps_if (PW.pt (pw_or (pt_not (pt_val (pe_fn (takes_of rfl rfl rfl rfl) c_is_whole (hr.mono (by decide)) (by rfl) (pa_cons (pv 3) pa_nil)))) (pw_or1 (pt_cmpR op_lt (pv 3) pe_int (nomark _))))) (pss_one (ps_raiseK (K := K) rfl rfl (takes_of rfl rfl rfl rfl) (T.says.fact 91 rfl) (T.glo 3) (by rfl))) pss_nil)
        (pss_cons (ps_expr (pe_mt (K := K) rfl (takes_of rfl rfl rfl rfl) (pv 0) c_Memory_need_stretch (hr.mono (by decide)) (pa_cons (pv 1) (pa_cons (pv 3) pa_nil))))
        (pss_cons (ps_expr (pe_mt (K := K) rfl (takes_of rfl rfl rfl rfl) (pv 0) c_Memory_need_stretch (hr.mono (by decide)) (pa_cons (pv 2) (pa_cons (pv 3) pa_nil))))
        (pss_cons (ps_set (i := 4) sc_Memory_copy.nd rfl (Or.inl rfl) (pe_slice (sl_listK (K := K) rfl) (pe_fldC (T.cls 98) (T.noat 106) (pv 0)) (po_some (pv 1)) (po_some (pe_op op_gAdd (pv 1) (pv 3)))))
        (pss_one (ps_for (passes_of rfl) rfl (pi_range1 rfl (T.free 79) (pa_cons (pv 3) pa_nil)) (pg_name (i := 5) sc_Memory_copy.nd rfl (Or.inl rfl)) (pss_one (ps_asg (pe_ix (ix_seqK (K := K) rfl) (pv 4) (pv 5) (fun _ _ => rfl)) (pg_sub (pe_fldC (T.cls 98) (T.noat 106) (pv 0)) (pe_op op_gAdd (pv 2) (pv 5)) set_list))))))))), ?rd⟩)
  case len => obtain ⟨m, dx, l, ws, v1, v2, z, rfl, _⟩ := h; rfl
  case rd =>
    obtain ⟨m, dx, l, ws, v1, v2, z, rfl, M, t1, t2, tz, h⟩ := h
    walk_at "w2"
    rcases tz with ⟨k, rfl⟩ | o
    · walk_at "w2"
      rw [cpOf_int] at h
      split
      · rw [if_neg (by omega)] at h
        exact h
      · rw [if_pos (by omega)] at h
        refine ⟨recv M.ob, m, dx, l, ws, v1, k, rfl, M, t1, ?_⟩
        cases e1 : stretchOf ws.length k v1 with
        | none =>
          rw [e1] at h
          exact h
        | some i =>
          rw [e1] at h
          walk_at "w2"
          refine ⟨recv M.ob, m, dx, l, ws, v2, k, rfl, M, t2, ?_⟩
          cases e2 : stretchOf ws.length k v2 with
          | none =>
            rw [e2] at h
            exact h
          | some j =>
            rw [e2] at h
            obtain ⟨rfl, hi⟩ := stretchOf_some e1
            obtain ⟨rfl, hj⟩ := stretchOf_some e2
            walk_at "w2"
            obtain ⟨k, rfl⟩ := Int.eq_ofNat_of_zero_le (show 0 ≤ k by omega)
            have hz := M.sz
            have ki := cut_get (ws := ws) (i := i) (k := k) (by omega) (t := 0)
            rw [Int.toNat_natCast] at h
            refine ⟨_, fldIs M.ob, l, _, rfl, .of M.ls, fun p hp => ⟨by omega, by omega, ?_⟩⟩
            rw [Int.toNat_natCast]
            have s1 : Same H (upd H p (.lst (cutV (ws.map V.int) (some (i : Int)) (some ((i : Int) + (k : Int)))))) := same_new hp
            refine forW_range (fun t σ H' => ∃ o5, σ = [some (.ref m), some (.int i), some (.int j), some (.int k), some (.ref p), o5] ∧ MemO K H' m dx l (cpT ws i j t) ∧ H' p = some (.lst (cutV (ws.map V.int) (some (i : Int)) (some ((i : Int) + (k : Int))))) ∧
              (∀ b o, b ≠ l → H b = some o → H' b = some o) ∧ ∀ v, Thing H v → Thing H' v) ⟨_, rfl, M.same s1, upd_same, fun b o _ e => s1 b o e, fun v t => thing_same s1 t⟩ ?_ ?_
            · rintro t σ H' ht ⟨o5, rfl, M', hp', k1, k2⟩
              walk_at "w2"
              refine r_ixS (.of hp') (at_pos (by omega) (v := .int (ws.getD (i + t) 0)) ?_) ?_
              · have e0 : ((0 : Int) + (t : Int)).toNat = t := by omega
                rw [e0]
                exact cut_get (by omega) ht
              walk_at "w2"
              refine ⟨_, fldIs M'.ob, ?_⟩
              walk_at "w2"
              have pl : p ≠ l := fun e => by
                have z := M.ls
                rw [← e, hp] at z
                cases z
              refine r_setL M'.ls (by omega) (by rw [List.length_map, cpT_len]; omega) ?_
              have e1 : ((j : Int) + ((0 : Int) + (t : Int))).toNat = j + t := by omega
              rw [e1, ← List.map_set, ← cpT_succ]
              have M2 := M'.put (cpT ws i j (t + 1)) (by rw [cpT_len, cpT_len])
              exact ⟨_, rfl, M2, by rw [upd_ne pl]; exact hp', fun b o hb e => by rw [upd_ne hb]; exact k1 b o hb e, fun v tv => thing_upd M'.ls rfl (k2 v tv)⟩
            · rintro σ H' ⟨o5, rfl, M', hp', k1, k2⟩
              exact h H' M' k1 k2
    · rw [odd_whole o]
      rw [cpOf_odd o] at h
      walk_at "w2"
      exact h
end

local macro_rules | `(tactic| walk_at "w2") => `(tactic| try simp only [↓x_var0, ↓x_varS, ↓x_c, ↓x_op, ↓x_un, ↓x_cb, ↓x_nil, ↓x_cons, ↓x_test, ↓x_b, ↓x_ex, ↓x_and, ↓x_or, ↓x_not, ↓x_andV, ↓x_orV, ↓x_notV, ↓x_tif, ↓x_chain, ↓x_menu, ↓x_menuI, ↓x_lst, ↓x_tup, ↓x_dnew, ↓x_callW, ↓x_callN, ↓x_seq, ↓x_next, ↓x_ret, ↓x_retN, ↓x_drop, ↓x_ifS, ↓x_asg, ↓x_name, ↓x_raise, ↓x_fld, ↓x_setF, ↓x_meth, ↓x_make, ↓x_sub, ↓r_min, ↓r_max, ↓x_yes, ↓x_for, ↓x_lock, ↓x_keys, ↓x_cut, ↓x_lc, ↓x_rng1, ↓x_rng2, ↓x_lst1, ↓x_itup, ↓x_rng3, ↓x_three, ↓x_lstg, ↓x_tupg, ↓x_adrS, ↓x_one, ↓x_two, ↓x_adr, ↓x_sl, ↓x_np, ↓x_pt, ↓x_int, ↓x_bm, ↓x_bm0, ↓x_consg, ↓x_nilg, ↓x_dget2, ↓x_dget1, ↓x_dgetN, ↓x_dget, ↓x_din, ↓x_dni, ↓x_dput, ↓x_dpop2, ↓r_isB, ↓r_notB, ↓x_enum, ↓x_zip, ↓x_str, ↓x_strE, ↓r_inS, ↓r_ninS, wipe, List.map_cons, List.map_nil, ↓x_isT, ↓r_isiII, ↓r_isiBB, ↓r_isiIB, ↓r_isiSS, ↓r_neNS, ↓r_neSN, ↓r_neNN, ↓r_eqNS, ↓r_eqSN, ↓r_eqNN, ↓r_eqIS, ↓r_neIS, ↓r_neSI, ↓r_neBS, ↓r_eqBB, ↓r_neBB, ↓x_start, ↓x_K, ↓x_start0, ↓r_i0, ↓r_i, ↓r_u, ↓r_addI, ↓r_addS, ↓r_mulI, ↓r_mulS, ↓r_eqI, ↓r_neI, ↓r_eqS, ↓r_neS, ↓r_absI, ↓r_intI, ↓r_intB, List.length_cons, List.length_nil, List.replicate, List.set_cons_zero, List.set_cons_succ, decide_eq_true_eq, Bool.not_eq_true', decide_eq_false_iff_not, if_true, if_false, Bool.false_eq_true, Bool.true_eq_false, ite_true, ite_false, Bool.not_true, Bool.not_false, c_div, n_ten, c_pow, not_true_eq_false, not_false_eq_true, decide_true, decide_false, true_and, and_true, and_self, true_or, or_true, Int.reduceLT, Int.reduceLE, Int.reduceMul, Int.reduceAdd, Int.reduceSub, Int.reducePow, Int.reduceNeg, Int.reduceDiv, Int.reduceMod, Nat.reducePow, Int.reduceToNat, Int.reduceEq, Int.reduceNe, Nat.reduceLT, Nat.reduceLeDiff, Nat.reduceAdd, ↓x_whole, ↓x_kind])
/-! ## cells in a memory -/
/-- what head_of finds at a thing: no place, no cell, or the place and the head -/
inductive Hd where
  | noPlace | noCell | ok (i : Nat) (h : Nat)
def headAt (w : Int) : Option Nat := match wordOf w with
  | some (.num n) => if 0 ≤ n ∧ n ≤ 34 ∧ n % 4 ≤ 2 then some n.toNat else none
  | _ => none
def headW (ws : List Int) (v : V) : Hd := match placeOf ws.length v with
  | none => .noPlace
  | some i => match headAt (ws.getD i 0) with
    | none => .noCell
    | some h => .ok i h
theorem headAt_some {w : Int} {h : Nat} (e : headAt w = some h) : w = 2 * (h : Int) ∧ h ≤ 34 ∧ h % 4 ≤ 2 := by
  unfold headAt at e
  split at e
  · rename_i n en
    split at e
    · rename_i c
      have e := Option.some.inj e
      have hw : w = 2 * n := by
        unfold wordOf at en
        split at en
        · cases en
        · split at en
          · have := Wd.num.inj (Option.some.inj en)
            omega
          · split at en
            · cases en
            · cases en
      omega
    · cases e
  · cases e
theorem head_ok {ws : List Int} {v : V} {i h : Nat} (e : headW ws v = .ok i h) : v = .int (i : Int) ∧ i < ws.length ∧ headAt (ws.getD i 0) = some h := by
  unfold headW at e
  cases e1 : placeOf ws.length v with
  | none => rw [e1] at e; cases e
  | some j =>
    rw [e1] at e
    obtain ⟨a, b⟩ := placeOf_some e1
    have e : (match headAt (ws.getD j 0) with
      | none => Hd.noCell
      | some h => .ok j h) = .ok i h := e
    cases e2 : headAt (ws.getD j 0) with
    | none => rw [e2] at e; cases e
    | some h' =>
      rw [e2] at e
      cases e
      exact ⟨a, b, e2⟩
theorem ans_head' {ws : List Int} {i k : Nat} (hi : i < ws.length) (e : headAt (ws.getD i 0) = some k) : headW ws (.int (i : Int)) = .ok i k := by
  unfold headW
  rw [placeOf_int, if_pos ⟨by omega, by omega⟩, Int.toNat_natCast]
  dsimp only
  rw [e]
def slotsW : V → Option Nat
  | .int n => if 0 ≤ n ∧ n ≤ 8 then some n.toNat else none
  | _ => none
theorem slotsW_int {n : Int} : slotsW (.int n) = if 0 ≤ n ∧ n ≤ 8 then some n.toNat else none := rfl
theorem slotsW_odd {H : Hp} {v : V} (h : Odd H v) : slotsW v = none := by
  cases v with
  | int i => exact (odd_not h).elim
  | _ => rfl
theorem slotsW_some {v : V} {s : Nat} (h : slotsW v = some s) : v = .int (s : Int) ∧ s ≤ 8 := by
  cases v with
  | int j =>
    rw [slotsW_int] at h
    split at h
    · rename_i c
      have e := Option.some.inj h
      exact ⟨by rw [← e]; congr 1; omega, by omega⟩
    · cases h
  | _ => cases h
def ageW : V → Option Nat
  | .int n => if 0 ≤ n ∧ n ≤ 2 then some n.toNat else none
  | _ => none
theorem ageW_int {n : Int} : ageW (.int n) = if 0 ≤ n ∧ n ≤ 2 then some n.toNat else none := rfl
theorem ageW_odd {H : Hp} {v : V} (h : Odd H v) : ageW v = none := by
  cases v with
  | int i => exact (odd_not h).elim
  | _ => rfl
/-- t slots of a cell at i emptied -/
def layT (ws : List Int) (i s t : Nat) : List Int := (List.range t).foldl (fun a u => a.set (i + 1 + u) (-1)) (ws.set i (8 * (s : Int)))
theorem layT_succ {ws : List Int} {i s t : Nat} : layT ws i s (t + 1) = (layT ws i s t).set (i + 1 + t) (-1) := by
  unfold layT
  rw [List.range_succ, List.foldl_append]
  rfl
theorem layT_len {ws : List Int} {i s t : Nat} : (layT ws i s t).length = ws.length := by
  induction t with
  | zero => exact List.length_set ..
  | succ t ih => rw [layT_succ, List.length_set, ih]
theorem layT_vw {ws : List Int} (h : Vw ws) {i s t : Nat} (hs : s ≤ 8) : Vw (layT ws i s t) := by
  induction t with
  | zero =>
    have e : (8 * (s : Int)) = 2 * (4 * (s : Int)) := by omega
    exact h.set (by rw [e, word_num (by omega)]; rfl)
  | succ t ih =>
    rw [layT_succ]
    exact ih.set rfl
def Fit (ws : List Int) : Prop := ∀ i h : Nat, i < ws.length → headAt (ws.getD i 0) = some h → i + h / 4 < ws.length
theorem getD_set {ws : List Int} {i j : Nat} {n : Int} (hi : i < ws.length) : (ws.set i n).getD j 0 = if i = j then n else ws.getD j 0 := by
  rw [List.getD_eq_getElem?_getD, List.getElem?_set, List.getD_eq_getElem?_getD]
  split
  · rename_i e
    subst e
    first | rfl | (rw [if_pos hi]; rfl)
  · rfl
theorem Fit.set {ws : List Int} (f : Fit ws) {i : Nat} {n : Int} (hi : i < ws.length) (hn : ∀ h, headAt n = some h → i + h / 4 < ws.length) : Fit (ws.set i n) := fun j h hj e => by
  rw [List.length_set] at hj ⊢
  rw [getD_set hi] at e
  split at e
  · rename_i c
    subst c
    exact hn h e
  · exact f j h hj e
theorem head_none1 : headAt (-1) = none := rfl
theorem Fit.lay {ws : List Int} (f : Fit ws) {i s : Nat} (hi : i + s < ws.length) : ∀ t, t ≤ s → Fit (layT ws i s t)
  | 0, _ => f.set (by omega) fun h e => by
    have := (headAt_some e).1
    omega
  | t + 1, ht => by
    rw [layT_succ]
    have ll := layT_len (ws := ws) (i := i) (s := s) (t := t)
    refine (Fit.lay f hi t (by omega)).set (by omega) fun h e => ?_
    rw [head_none1] at e
    cases e
theorem Fit.rep {n : Nat} : Fit (List.replicate n (-1)) := fun i h hi e => by
  rw [List.length_replicate] at hi
  have : (List.replicate n (-1 : Int)).getD i 0 = -1 := by
    rw [List.getD_eq_getElem?_getD, List.getElem?_replicate, if_pos hi]
    rfl
  rw [this, head_none1] at e
  cases e
/-- the places in the slots of a cell at i -/
def kidsT (ws : List Int) (i t : Nat) : List Int := (List.range t).filterMap fun u => match wordOf (ws.getD (i + 1 + u) 0) with
  | some (.place p) => some p
  | _ => none
theorem kidsT_succ {ws : List Int} {i t : Nat} : kidsT ws i (t + 1) = kidsT ws i t ++ (match wordOf (ws.getD (i + 1 + t) 0) with
  | some (.place p) => [p]
  | _ => []) := by
  unfold kidsT
  rw [List.range_succ, List.filterMap_append]
  congr 1
  rw [List.filterMap_cons, List.filterMap_nil]
  cases e : wordOf (ws.getD (i + 1 + t) 0) with
  | none => rfl
  | some w => cases w <;> rfl
theorem kidsT_len {ws : List Int} {i t : Nat} : (kidsT ws i t).length ≤ t := by
  have := List.length_filterMap_le (fun u => match wordOf (ws.getD (i + 1 + u) 0) with
    | some (.place p) => some p
    | _ => none) (List.range t)
  rw [List.length_range] at this
  exact this
def sp_need_slots (K : PySem.W.Frag) : Sp := fun vs H Q E => ∃ v, vs = [v] ∧ Thing H v ∧ match slotsW v with
  | some _ => Q .non H
  | none => E (Ex K "BadCount") none H
def sp_head_of (K : PySem.W.Frag) : Sp := fun vs H Q E => ∃ m dx l ws v, vs = [.ref m, v] ∧ MemO K H m dx l ws ∧ Vw ws ∧ Thing H v ∧ match headW ws v with
  | .noPlace => E (Ex K "NoPlace") none H
  | .noCell => E (Ex K "NoCell") none H
  | .ok _ h => Q (.int h) H
def sp_slots_of (K : PySem.W.Frag) : Sp := fun vs H Q E => ∃ m dx l ws v, vs = [.ref m, v] ∧ MemO K H m dx l ws ∧ Vw ws ∧ Thing H v ∧ match headW ws v with
  | .noPlace => E (Ex K "NoPlace") none H
  | .noCell => E (Ex K "NoCell") none H
  | .ok _ h => Q (.int ((h / 4 : Nat) : Int)) H
def sp_age_of (K : PySem.W.Frag) : Sp := fun vs H Q E => ∃ m dx l ws v, vs = [.ref m, v] ∧ MemO K H m dx l ws ∧ Vw ws ∧ Thing H v ∧ match headW ws v with
  | .noPlace => E (Ex K "NoPlace") none H
  | .noCell => E (Ex K "NoCell") none H
  | .ok _ h => Q (.int ((h % 4 : Nat) : Int)) H
def sp_words_of (K : PySem.W.Frag) : Sp := fun vs H Q E => ∃ m dx l ws v, vs = [.ref m, v] ∧ MemO K H m dx l ws ∧ Vw ws ∧ Thing H v ∧ match headW ws v with
  | .noPlace => E (Ex K "NoPlace") none H
  | .noCell => E (Ex K "NoCell") none H
  | .ok _ h => Q (.int ((h / 4 + 1 : Nat) : Int)) H
def sp_aged (K : PySem.W.Frag) : Sp := fun vs H Q E => ∃ m dx l ws v z, vs = [.ref m, v, z] ∧ MemO K H m dx l ws ∧ Vw ws ∧ Thing H v ∧ Thing H z ∧ match headW ws v with
  | .noPlace => E (Ex K "NoPlace") none H
  | .noCell => E (Ex K "NoCell") none H
  | .ok i h => match ageW z with
    | none => E (Ex K "BadCount") none H
    | some a => Q .non (upd H l (.lst ((ws.set i (2 * ((4 * (h / 4) + a : Nat) : Int))).map V.int)))
def sp_slot_place (K : PySem.W.Frag) : Sp := fun vs H Q E => ∃ m dx l ws v z, vs = [.ref m, v, z] ∧ MemO K H m dx l ws ∧ Vw ws ∧ Thing H v ∧ Thing H z ∧ match headW ws v with
  | .noPlace => E (Ex K "NoPlace") none H
  | .noCell => E (Ex K "NoCell") none H
  | .ok i h => match placeOf (h / 4) z with
    | none => E (Ex K "NoSlot") none H
    | some s => Q (.int ((i + 1 + s : Nat) : Int)) H
def sp_children (K : PySem.W.Frag) : Sp := fun vs H Q E => ∃ m dx l ws v, vs = [.ref m, v] ∧ MemO K H m dx l ws ∧ Vw ws ∧ Thing H v ∧ match headW ws v with
  | .noPlace => ∀ H', Same H H' → E (Ex K "NoPlace") none H'
  | .noCell => ∀ H', Same H H' → E (Ex K "NoCell") none H'
  | .ok i h => i + h / 4 < ws.length ∧ ∀ p H', H p = none → Same H H' → H' p = some (.lst ((kidsT ws i (h / 4)).map V.int)) → Q (.ref p) H'
def sp_send (K : PySem.W.Frag) : Sp := fun vs H Q E => ∃ m dx l ws v z, vs = [.ref m, v, z] ∧ MemO K H m dx l ws ∧ Vw ws ∧ Thing H v ∧ Thing H z ∧ match headW ws v with
  | .noPlace => E (Ex K "NoPlace") none H
  | .noCell => E (Ex K "NoCell") none H
  | .ok i _ => match placeW z with
    | none => E (Ex K "NoPlace") none H
    | some g => Q .non (upd H l (.lst ((ws.set i (2 * g + 1)).map V.int)))
def sp_sent_to (K : PySem.W.Frag) : Sp := fun vs H Q E => ∃ m dx l ws v, vs = [.ref m, v] ∧ MemO K H m dx l ws ∧ Vw ws ∧ Thing H v ∧ match placeOf ws.length v with
  | none => E (Ex K "NoPlace") none H
  | some i => match wordOf (ws.getD i 0) with
    | some (.place p) => Q (.int p) H
    | _ => match headAt (ws.getD i 0) with
      | none => E (Ex K "NoCell") none H
      | some _ => Q .non H
def sp_lay (K : PySem.W.Frag) : Sp := fun vs H Q E => ∃ m dx l ws v z, vs = [.ref m, v, z] ∧ MemO K H m dx l ws ∧ Thing H v ∧ Thing H z ∧ match slotsW z with
  | none => E (Ex K "BadCount") none H
  | some s => match placeOf (ws.length - s) v with
    | none => E (Ex K "NoPlace") none H
    | some i => ∀ H', MemO K H' m dx l (layT ws i s s) → (∀ b o, b ≠ l → H b = some o → H' b = some o) → Q .non H'
section
variable {P : Program} {w : World} {K : PySem.W.Frag} {mg : Str → Option Value} {base : Heap}
theorem f_need_slots (T : Tx K mg) : Fn P w K mg base 2 "need_slots" ["slots"] (sp_need_slots K) := by
  have c_is_whole := f_is_whole (P := P) (w := w) (base := base) T
  refine T.mkFn 6 24 (d := d_need_slots) (N := ["slots"]) (k := 1) rfl rfl rfl rfl rfl sc_need_slots (fun _ _ _ _ _ _ us hl => match us, hl with | [_], _ => rfl) (fun vs H Q E h => ?len) (fun cdv A outer s H vs Q E hr h => ⟨_,
      (pss_one (ps_if (PW.pt (pw_or (pt_not (pt_val (pe_fn (takes_of rfl rfl rfl rfl) c_is_whole (hr.mono (by decide)) (by rfl) (pa_cons (pv 0) pa_nil)))) (pw_or1 (pt_not (pt_chain op_le op_le pe_int (pv 0) (pe_num (T.num 68) (by rfl))))))) (pss_one (ps_raiseK (K := K) rfl rfl (takes_of rfl rfl rfl rfl) (T.says.fact 91 rfl) (T.glo 3) (by rfl))) pss_nil)), ?rd⟩)
  case len => obtain ⟨v, rfl, _⟩ := h; rfl
  case rd =>
    obtain ⟨v, rfl, th, h⟩ := h
    walk_at "w2"
    rcases th with ⟨n, rfl⟩ | o
    · walk_at "w2"
      rw [slotsW_int] at h
      split
      · split
        · rw [if_neg (by omega)] at h
          exact h
        · rw [if_pos (by omega)] at h
          exact h
      · rw [if_neg (by omega)] at h
        exact h
    · rw [odd_whole o]
      rw [slotsW_odd o] at h
      walk_at "w2"
      exact h
theorem f_head_of (T : Tx K mg) : Fn P w K mg base 4 "head_of" ["memory", "at"] (sp_head_of K) := by
  have c_Memory_read := f_Memory_read (P := P) (w := w) (base := base) T
  have c_worth := f_worth (P := P) (w := w) (base := base) T
  have c_kind := f_kind (P := P) (w := w) (base := base) T
  refine T.mkFn 8 26 (d := d_head_of) (N := ["memory", "at", "word"]) (k := 3) rfl rfl rfl rfl rfl sc_head_of (fun _ _ _ _ _ _ us hl => match us, hl with | [_, _], _ => rfl) (fun vs H Q E h => ?len) (fun cdv A outer s H vs Q E hr h => ⟨_,
      (pss_cons (ps_set (i := 2) sc_head_of.nd rfl (Or.inl rfl) (pe_mt (K := K) rfl (takes_of rfl rfl rfl rfl) (pv 0) c_Memory_read (hr.mono (by decide)) (pa_cons (pv 1) pa_nil)))
        (pss_cons (ps_if (PW.pt (pw_or (pt_cmpR (op_neK (K := K) rfl hr.units) (pe_fn (takes_of rfl rfl rfl rfl) c_kind (hr.mono (by decide)) (by rfl) (pa_cons (pv 2) pa_nil)) pe_str (nomark _)) (pw_or (pt_not (pt_chain op_le op_le pe_int (pe_fn (takes_of rfl rfl rfl rfl) c_worth (hr.mono (by decide)) (by rfl) (pa_cons (pv 2) pa_nil)) (pe_op op_gAdd (pe_op op_gMul pe_int (pe_num (T.num 68) (by rfl))) (pe_num (T.num 69) (by rfl))))) (pw_or1 (pt_cmpR op_gt (pe_op op_mod (pe_fn (takes_of rfl rfl rfl rfl) c_worth (hr.mono (by decide)) (by rfl) (pa_cons (pv 2) pa_nil)) pe_int) (pe_num (T.num 69) (by rfl)) (nomark _)))))) (pss_one (ps_raiseK (K := K) rfl rfl (takes_of rfl rfl rfl rfl) (T.says.fact 95 rfl) (T.glo 7) (by rfl))) pss_nil)
        (pss_one (ps_ret (pe_fn (takes_of rfl rfl rfl rfl) c_worth (hr.mono (by decide)) (by rfl) (pa_cons (pv 2) pa_nil)))))), ?rd⟩)
  case len => obtain ⟨m, dx, l, ws, v, rfl, _⟩ := h; rfl
  case rd =>
    obtain ⟨m, dx, l, ws, v, rfl, M, vw, th, h⟩ := h
    walk_at "w2"
    refine ⟨recv M.ob, m, dx, l, ws, v, rfl, M, th, ?_⟩
    unfold headW at h
    cases e : placeOf ws.length v with
    | none =>
      rw [e] at h
      exact h
    | some i =>
      rw [e] at h
      obtain ⟨rfl, hi⟩ := placeOf_some e
      obtain ⟨w, ew⟩ := vw.get hi
      walk_at "w2"
      have h : (match headAt (ws.getD i 0) with
        | none => E (Ex K "NoCell") none H
        | some h => Q (.int (h : Int)) H) := by
        cases eh : headAt (ws.getD i 0) with
        | none =>
          have h : (match (match headAt (ws.getD i 0) with
            | none => Hd.noCell
            | some h => .ok i h) with
            | .noPlace => E (Ex K "NoPlace") none H
            | .noCell => E (Ex K "NoCell") none H
            | .ok _ h => Q (.int (h : Int)) H) := h
          rw [eh] at h
          exact h
        | some k =>
          have h : (match (match headAt (ws.getD i 0) with
            | none => Hd.noCell
            | some h => .ok i h) with
            | .noPlace => E (Ex K "NoPlace") none H
            | .noCell => E (Ex K "NoCell") none H
            | .ok _ h => Q (.int (h : Int)) H) := h
          rw [eh] at h
          exact h
      unfold headAt at h
      generalize ws.getD i 0 = z at ew h
      simp only [x_worth]
      rw [ew] at h ⊢
      dsimp only at h ⊢
      cases w with
      | nothing =>
        simp only [k_nn, k_pn, k_Nn, k_np, k_Np, k_pp, not_true_eq_false, not_false_eq_true, if_true, if_false, ite_true, ite_false, Wd.worth]
        exact h
      | place p =>
        simp only [k_nn, k_pn, k_Nn, k_np, k_Np, k_pp, not_true_eq_false, not_false_eq_true, if_true, if_false, ite_true, ite_false, Wd.worth]
        exact h
      | num n =>
        simp only [k_nn, k_pn, k_Nn, k_np, k_Np, k_pp, not_true_eq_false, not_false_eq_true, if_true, if_false, ite_true, ite_false, Wd.worth]
        have h : (match (if 0 ≤ n ∧ n ≤ 34 ∧ n % 4 ≤ 2 then some n.toNat else none) with
          | none => E (Ex K "NoCell") none H
          | some h => Q (.int (h : Int)) H) := h
        walk_at "w2"
        split
        · split
          · rw [if_neg (by omega)] at h
            exact h
          · split
            · rw [if_neg (by omega)] at h
              exact h
            · rw [if_pos (by omega)] at h
              have e : ((n.toNat : Nat) : Int) = n := Int.toNat_of_nonneg (by omega)
              have h : Q (.int ((n.toNat : Nat) : Int)) H := h
              rw [e] at h
              exact h
        · rw [if_neg (by omega)] at h
          exact h
theorem f_slots_of (T : Tx K mg) : Fn P w K mg base 5 "slots_of" ["memory", "at"] (sp_slots_of K) := by
  have c_head_of := f_head_of (P := P) (w := w) (base := base) T
  refine T.mkFn 9 27 (d := d_slots_of) (N := ["memory", "at"]) (k := 4) rfl rfl rfl rfl rfl sc_slots_of (fun _ _ _ _ _ _ us hl => match us, hl with | [_, _], _ => rfl) (fun vs H Q E h => ?len) (fun cdv A outer s H vs Q E hr h => ⟨_,
      (pss_one (ps_ret (pe_op op_fdiv (pe_fn (takes_of rfl rfl rfl rfl) c_head_of (hr.mono (by decide)) (by rfl) (pa_cons (pv 0) (pa_cons (pv 1) pa_nil))) pe_int))), ?rd⟩)
  case len => obtain ⟨m, dx, l, ws, v, rfl, _⟩ := h; rfl
  case rd =>
    obtain ⟨m, dx, l, ws, v, rfl, M, vw, th, h⟩ := h
    walk_at "w2"
    refine ⟨m, dx, l, ws, v, rfl, M, vw, th, ?_⟩
    cases e : headW ws v with
    | noPlace =>
      rw [e] at h
      exact h
    | noCell =>
      rw [e] at h
      exact h
    | ok i k =>
      rw [e] at h
      walk_at "w2"
      have e2 : (k : Int) / 4 = ((k / 4 : Nat) : Int) := by omega
      rw [e2]
      exact h
theorem f_age_of (T : Tx K mg) : Fn P w K mg base 5 "age_of" ["memory", "at"] (sp_age_of K) := by
  have c_head_of := f_head_of (P := P) (w := w) (base := base) T
  refine T.mkFn 10 28 (d := d_age_of) (N := ["memory", "at"]) (k := 4) rfl rfl rfl rfl rfl sc_age_of (fun _ _ _ _ _ _ us hl => match us, hl with | [_, _], _ => rfl) (fun vs H Q E h => ?len) (fun cdv A outer s H vs Q E hr h => ⟨_,
      (pss_one (ps_ret (pe_op op_mod (pe_fn (takes_of rfl rfl rfl rfl) c_head_of (hr.mono (by decide)) (by rfl) (pa_cons (pv 0) (pa_cons (pv 1) pa_nil))) pe_int))), ?rd⟩)
  case len => obtain ⟨m, dx, l, ws, v, rfl, _⟩ := h; rfl
  case rd =>
    obtain ⟨m, dx, l, ws, v, rfl, M, vw, th, h⟩ := h
    walk_at "w2"
    refine ⟨m, dx, l, ws, v, rfl, M, vw, th, ?_⟩
    cases e : headW ws v with
    | noPlace =>
      rw [e] at h
      exact h
    | noCell =>
      rw [e] at h
      exact h
    | ok i k =>
      rw [e] at h
      walk_at "w2"
      have e2 : (k : Int) % 4 = ((k % 4 : Nat) : Int) := by omega
      rw [e2]
      exact h
theorem f_words_of (T : Tx K mg) : Fn P w K mg base 6 "words_of" ["memory", "at"] (sp_words_of K) := by
  have c_slots_of := f_slots_of (P := P) (w := w) (base := base) T
  refine T.mkFn 11 29 (d := d_words_of) (N := ["memory", "at"]) (k := 5) rfl rfl rfl rfl rfl sc_words_of (fun _ _ _ _ _ _ us hl => match us, hl with | [_, _], _ => rfl) (fun vs H Q E h => ?len) (fun cdv A outer s H vs Q E hr h => ⟨_,
      (pss_one (ps_ret (pe_op op_gAdd (pe_fn (takes_of rfl rfl rfl rfl) c_slots_of (hr.mono (by decide)) (by rfl) (pa_cons (pv 0) (pa_cons (pv 1) pa_nil))) pe_int))), ?rd⟩)
  case len => obtain ⟨m, dx, l, ws, v, rfl, _⟩ := h; rfl
  case rd =>
    obtain ⟨m, dx, l, ws, v, rfl, M, vw, th, h⟩ := h
    walk_at "w2"
    refine ⟨m, dx, l, ws, v, rfl, M, vw, th, ?_⟩
    cases e : headW ws v with
    | noPlace =>
      rw [e] at h
      exact h
    | noCell =>
      rw [e] at h
      exact h
    | ok i k =>
      rw [e] at h
      walk_at "w2"
      have e2 : ((k / 4 : Nat) : Int) + 1 = ((k / 4 + 1 : Nat) : Int) := by omega
      rw [e2]
      exact h
theorem f_aged (T : Tx K mg) : Fn P w K mg base 6 "aged" ["memory", "at", "age"] (sp_aged K) := by
  have c_slots_of := f_slots_of (P := P) (w := w) (base := base) T
  have c_is_whole := f_is_whole (P := P) (w := w) (base := base) T
  have c_Memory_write := f_Memory_write (P := P) (w := w) (base := base) T
  have c_number_word := f_number_word (P := P) (w := w) (base := base) T
  refine T.mkFn 12 30 (d := d_aged) (N := ["memory", "at", "age", "slots"]) (k := 5) rfl rfl rfl rfl rfl sc_aged (fun _ _ _ _ _ _ us hl => match us, hl with | [_, _, _], _ => rfl) (fun vs H Q E h => ?len) (fun cdv A outer s H vs Q E hr h => ⟨_,
      (pss_cons (ps_set (i := 3) sc_aged.nd rfl (Or.inl rfl) (pe_fn (takes_of rfl rfl rfl rfl) c_slots_of (hr.mono (by decide)) (by rfl) (pa_cons (pv 0) (pa_cons (pv 1) pa_nil))))
        (pss_cons (ps_if (PW.pt (pw_or (pt_not (pt_val (pe_fn (takes_of rfl rfl rfl rfl) c_is_whole (hr.mono (by decide)) (by rfl) (pa_cons (pv 2) pa_nil)))) (pw_or1 (pt_not (pt_chain op_le op_le pe_int (pv 2) (pe_num (T.num 69) (by rfl))))))) (pss_one (ps_raiseK (K := K) rfl rfl (takes_of rfl rfl rfl rfl) (T.says.fact 91 rfl) (T.glo 3) (by rfl))) pss_nil)
        (pss_one (ps_expr (pe_mt (K := K) rfl (takes_of rfl rfl rfl rfl) (pv 0) c_Memory_write (hr.mono (by decide)) (pa_cons (pv 1) (pa_cons (pe_fn (takes_of rfl rfl rfl rfl) c_number_word (hr.mono (by decide)) (by rfl) (pa_cons (pe_op op_gAdd (pe_op op_gMul pe_int (pv 3)) (pv 2)) pa_nil)) pa_nil))))))), ?rd⟩)
  case len => obtain ⟨m, dx, l, ws, v, z, rfl, _⟩ := h; rfl
  case rd =>
    obtain ⟨m, dx, l, ws, v, z, rfl, M, vw, th, tz, h⟩ := h
    walk_at "w2"
    refine ⟨m, dx, l, ws, v, rfl, M, vw, th, ?_⟩
    cases e : headW ws v with
    | noPlace =>
      rw [e] at h
      exact h
    | noCell =>
      rw [e] at h
      exact h
    | ok i k =>
      rw [e] at h
      obtain ⟨rfl, hi, eh⟩ := head_ok e
      obtain ⟨-, h34, -⟩ := headAt_some eh
      walk_at "w2"
      rcases tz with ⟨n, rfl⟩ | o
      · walk_at "w2"
        rw [ageW_int] at h
        split
        · split
          · rw [if_neg (by omega)] at h
            exact h
          · rw [if_pos (by omega)] at h
            refine ⟨recv M.ob, ?_⟩
            rw [x_number_word, if_pos (by omega)]
            have e1 : (wordOf (2 * (4 * ((k / 4 : Nat) : Int) + n))).isSome = true := by rw [word_num (by omega)]; rfl
            refine ⟨m, dx, l, ws, _, _, rfl, M, .inl ⟨_, rfl⟩, .inl ⟨_, rfl⟩, ?_⟩
            rw [placeOf_int, if_pos ⟨by omega, by omega⟩, wordV_int, if_pos e1, Int.toNat_natCast]
            have e2 : 4 * ((k / 4 : Nat) : Int) + n = ((4 * (k / 4) + n.toNat : Nat) : Int) := by omega
            have e3 : 2 * (4 * ((k / 4 : Nat) : Int) + n) = 2 * ((4 * (k / 4) + n.toNat : Nat) : Int) := by omega
            show Q .non (upd H l (.lst ((ws.set i (2 * (4 * ((k / 4 : Nat) : Int) + n))).map V.int)))
            rw [e3]
            exact h
        · rw [if_neg (by omega)] at h
          exact h
      · rw [odd_whole o]
        rw [ageW_odd o] at h
        walk_at "w2"
        exact h
theorem f_slot_place (T : Tx K mg) : Fn P w K mg base 6 "slot_place" ["memory", "at", "slot"] (sp_slot_place K) := by
  have c_slots_of := f_slots_of (P := P) (w := w) (base := base) T
  have c_is_whole := f_is_whole (P := P) (w := w) (base := base) T
  refine T.mkFn 13 31 (d := d_slot_place) (N := ["memory", "at", "slot", "slots"]) (k := 5) rfl rfl rfl rfl rfl sc_slot_place (fun _ _ _ _ _ _ us hl => match us, hl with | [_, _, _], _ => rfl) (fun vs H Q E h => ?len) (fun cdv A outer s H vs Q E hr h => ⟨_,
      (pss_cons (ps_set (i := 3) sc_slot_place.nd rfl (Or.inl rfl) (pe_fn (takes_of rfl rfl rfl rfl) c_slots_of (hr.mono (by decide)) (by rfl) (pa_cons (pv 0) (pa_cons (pv 1) pa_nil))))
        (pss_cons (ps_if (PW.pt (pw_or (pt_not (pt_val (pe_fn (takes_of rfl rfl rfl rfl) c_is_whole (hr.mono (by decide)) (by rfl) (pa_cons (pv 2) pa_nil)))) (pw_or1 (pt_not (pt_chain op_le op_lt pe_int (pv 2) (pv 3)))))) (pss_one (ps_raiseK (K := K) rfl rfl (takes_of rfl rfl rfl rfl) (T.says.fact 94 rfl) (T.glo 6) (by rfl))) pss_nil)
        (pss_one (ps_ret (pe_op op_gAdd (pe_op op_gAdd (pv 1) pe_int) (pv 2)))))), ?rd⟩)
  case len => obtain ⟨m, dx, l, ws, v, z, rfl, _⟩ := h; rfl
  case rd =>
    obtain ⟨m, dx, l, ws, v, z, rfl, M, vw, th, tz, h⟩ := h
    walk_at "w2"
    refine ⟨m, dx, l, ws, v, rfl, M, vw, th, ?_⟩
    cases e : headW ws v with
    | noPlace =>
      rw [e] at h
      exact h
    | noCell =>
      rw [e] at h
      exact h
    | ok i k =>
      rw [e] at h
      obtain ⟨rfl, hi, eh⟩ := head_ok e
      walk_at "w2"
      have h : (match placeOf (k / 4) z with
        | none => E (Ex K "NoSlot") none H
        | some s => Q (.int ((i + 1 + s : Nat) : Int)) H) := h
      rcases tz with ⟨n, rfl⟩ | o
      · walk_at "w2"
        rw [placeOf_int] at h
        split
        · split
          · rw [if_neg (by omega)] at h
            exact h
          · rw [if_pos (by omega)] at h
            have e2 : (i : Int) + 1 + n = ((i + 1 + n.toNat : Nat) : Int) := by omega
            rw [e2]
            exact h
        · rw [if_neg (by omega)] at h
          exact h
      · rw [odd_whole o]
        rw [placeOf_odd o] at h
        walk_at "w2"
        exact h
theorem f_send (T : Tx K mg) : Fn P w K mg base 5 "send" ["memory", "at", "goal"] (sp_send K) := by
  have c_head_of := f_head_of (P := P) (w := w) (base := base) T
  have c_Memory_write := f_Memory_write (P := P) (w := w) (base := base) T
  have c_place_word := f_place_word (P := P) (w := w) (base := base) T
  refine T.mkFn 15 33 (d := d_send) (N := ["memory", "at", "goal"]) (k := 4) rfl rfl rfl rfl rfl sc_send (fun _ _ _ _ _ _ us hl => match us, hl with | [_, _, _], _ => rfl) (fun vs H Q E h => ?len) (fun cdv A outer s H vs Q E hr h => ⟨_,
      (pss_cons (ps_expr (pe_fn (takes_of rfl rfl rfl rfl) c_head_of (hr.mono (by decide)) (by rfl) (pa_cons (pv 0) (pa_cons (pv 1) pa_nil))))
        (pss_one (ps_expr (pe_mt (K := K) rfl (takes_of rfl rfl rfl rfl) (pv 0) c_Memory_write (hr.mono (by decide)) (pa_cons (pv 1) (pa_cons (pe_fn (takes_of rfl rfl rfl rfl) c_place_word (hr.mono (by decide)) (by rfl) (pa_cons (pv 2) pa_nil)) pa_nil)))))), ?rd⟩)
  case len => obtain ⟨m, dx, l, ws, v, z, rfl, _⟩ := h; rfl
  case rd =>
    obtain ⟨m, dx, l, ws, v, z, rfl, M, vw, th, tz, h⟩ := h
    walk_at "w2"
    refine ⟨m, dx, l, ws, v, rfl, M, vw, th, ?_⟩
    cases e : headW ws v with
    | noPlace =>
      rw [e] at h
      exact h
    | noCell =>
      rw [e] at h
      exact h
    | ok i k =>
      rw [e] at h
      obtain ⟨rfl, hi, eh⟩ := head_ok e
      walk_at "w2"
      refine ⟨recv M.ob, ?_⟩
      have h : (match placeW z with
        | none => E (Ex K "NoPlace") none H
        | some g => Q .non (upd H l (.lst ((ws.set i (2 * g + 1)).map V.int)))) := h
      rcases tz with ⟨n, rfl⟩ | o
      · rw [x_place_word]
        rw [placeW_int] at h
        split
        · rename_i c
          rw [if_pos c] at h
          have e1 : (wordOf (2 * n + 1)).isSome = true := by rw [word_place c.1 c.2]; rfl
          refine ⟨m, dx, l, ws, _, _, rfl, M, .inl ⟨_, rfl⟩, .inl ⟨_, rfl⟩, ?_⟩
          rw [placeOf_int, if_pos ⟨by omega, by omega⟩, wordV_int, if_pos e1, Int.toNat_natCast]
          exact h
        · rename_i c
          rw [if_neg c] at h
          exact h
      · rw [odd_place_word o]
        rw [placeW_odd o] at h
        exact h
theorem f_sent_to (T : Tx K mg) : Fn P w K mg base 5 "sent_to" ["memory", "at"] (sp_sent_to K) := by
  have c_Memory_read := f_Memory_read (P := P) (w := w) (base := base) T
  have c_kind := f_kind (P := P) (w := w) (base := base) T
  have c_worth := f_worth (P := P) (w := w) (base := base) T
  have c_head_of := f_head_of (P := P) (w := w) (base := base) T
  refine T.mkFn 16 34 (d := d_sent_to) (N := ["memory", "at", "word"]) (k := 4) rfl rfl rfl rfl rfl sc_sent_to (fun _ _ _ _ _ _ us hl => match us, hl with | [_, _], _ => rfl) (fun vs H Q E h => ?len) (fun cdv A outer s H vs Q E hr h => ⟨_,
      (pss_cons (ps_set (i := 2) sc_sent_to.nd rfl (Or.inl rfl) (pe_mt (K := K) rfl (takes_of rfl rfl rfl rfl) (pv 0) c_Memory_read (hr.mono (by decide)) (pa_cons (pv 1) pa_nil)))
        (pss_cons (ps_if (pt_cmpR (op_eqK (K := K) rfl hr.units) (pe_fn (takes_of rfl rfl rfl rfl) c_kind (hr.mono (by decide)) (by rfl) (pa_cons (pv 2) pa_nil)) pe_str (nomark _)) (pss_one (ps_ret (pe_fn (takes_of rfl rfl rfl rfl) c_worth (hr.mono (by decide)) (by rfl) (pa_cons (pv 2) pa_nil)))) pss_nil)
        (pss_cons (ps_expr (pe_fn (takes_of rfl rfl rfl rfl) c_head_of (hr.mono (by decide)) (by rfl) (pa_cons (pv 0) (pa_cons (pv 1) pa_nil))))
        (pss_one (ps_ret pe_non))))), ?rd⟩)
  case len => obtain ⟨m, dx, l, ws, v, rfl, _⟩ := h; rfl
  case rd =>
    obtain ⟨m, dx, l, ws, v, rfl, M, vw, th, h⟩ := h
    walk_at "w2"
    refine ⟨recv M.ob, m, dx, l, ws, v, rfl, M, th, ?_⟩
    cases e : placeOf ws.length v with
    | none =>
      rw [e] at h
      exact h
    | some i =>
      rw [e] at h
      obtain ⟨rfl, hi⟩ := placeOf_some e
      walk_at "w2"
      obtain ⟨w, ew⟩ := vw.get hi
      have eH : headW ws (.int (i : Int)) = (match headAt (ws.getD i 0) with
        | none => .noCell
        | some h => .ok i h) := by
        unfold headW
        rw [placeOf_int, if_pos ⟨by omega, by omega⟩, Int.toNat_natCast]
      have tail : (match headAt (ws.getD i 0) with
          | none => E (Ex K "NoCell") none H
          | some _ => Q .non H) → sp_head_of K [.ref m, .int (i : Int)] H (fun x H1 => Q .non H1) (fun c d H2 => E c d H2) := fun h => by
        refine ⟨m, dx, l, ws, _, rfl, M, vw, .inl ⟨_, rfl⟩, ?_⟩
        rw [eH]
        cases eh : headAt (ws.getD i 0) with
        | none =>
          rw [eh] at h
          exact h
        | some k =>
          rw [eh] at h
          exact h
      simp only [x_worth]
      have h : (match wordOf (ws.getD i 0) with
        | some (.place p) => Q (.int p) H
        | _ => match headAt (ws.getD i 0) with
          | none => E (Ex K "NoCell") none H
          | some _ => Q .non H) := h
      rw [ew] at h ⊢
      dsimp only at h ⊢
      cases w with
      | nothing =>
        simp only [k_nn, k_pn, k_Nn, k_np, k_Np, k_pp, not_true_eq_false, not_false_eq_true, if_true, if_false, ite_true, ite_false, Wd.worth]
        exact tail h
      | num n =>
        simp only [k_nn, k_pn, k_Nn, k_np, k_Np, k_pp, not_true_eq_false, not_false_eq_true, if_true, if_false, ite_true, ite_false, Wd.worth]
        exact tail h
      | place p =>
        simp only [k_nn, k_pn, k_Nn, k_np, k_Np, k_pp, not_true_eq_false, not_false_eq_true, if_true, if_false, ite_true, ite_false, Wd.worth]
        exact h
theorem f_children (T : Tx K mg) : Fn P w K mg base 6 "children" ["memory", "at"] (sp_children K) := by
  have c_slots_of := f_slots_of (P := P) (w := w) (base := base) T
  have c_Memory_read := f_Memory_read (P := P) (w := w) (base := base) T
  have c_kind := f_kind (P := P) (w := w) (base := base) T
  have c_worth := f_worth (P := P) (w := w) (base := base) T
  refine T.mkFn 14 32 (d := d_children) (N := ["memory", "at", "found", "slot", "word"]) (k := 5) rfl rfl rfl rfl rfl sc_children (fun _ _ _ _ _ _ us hl => match us, hl with | [_, _], _ => rfl) (fun vs H Q E h => ?len) (fun cdv A outer s H vs Q E hr h => ⟨_,
      (pss_cons (ps_set (i := 2) sc_children.nd rfl (Or.inl rfl) (pe_lst pa_nil))
        (pss_cons (ps_for (passes_of rfl) rfl (pi_range1 rfl (T.free 79) (pa_cons (pe_fn (takes_of rfl rfl rfl rfl) c_slots_of (hr.mono (by decide)) (by rfl) (pa_cons (pv 0) (pa_cons (pv 1) pa_nil))) pa_nil)) (pg_name (i := 3) sc_children.nd rfl (Or.inl rfl)) (pss_cons (ps_set (i := 4) sc_children.nd rfl (Or.inl rfl) (pe_mt (K := K) rfl (takes_of rfl rfl rfl rfl) (pv 0) c_Memory_read (hr.mono (by decide)) (pa_cons (pe_op op_gAdd (pe_op op_gAdd (pv 1) pe_int) (pv 3)) pa_nil)))
        (pss_one (ps_if (pt_cmpR (op_eqK (K := K) rfl hr.units) (pe_fn (takes_of rfl rfl rfl rfl) c_kind (hr.mono (by decide)) (by rfl) (pa_cons (pv 4) pa_nil)) pe_str (nomark _)) (pss_one (ps_expr (pe_bm PySem.F.plainAttrs_list PySem.F.slot_list_append PySem.F.type_list_append mt_append (pv 2) (pa_cons (pe_fn (takes_of rfl rfl rfl rfl) c_worth (hr.mono (by decide)) (by rfl) (pa_cons (pv 4) pa_nil)) pa_nil)))) pss_nil))))
        (pss_one (ps_ret (pv 2))))), ?rd⟩)
  case len => obtain ⟨m, dx, l, ws, v, rfl, _⟩ := h; rfl
  case rd =>
    obtain ⟨m, dx, l, ws, v, rfl, M, vw, th, h⟩ := h
    walk_at "w2"
    refine ⟨by rw [sizeLine_eq]; omega, fun p hp => ?_⟩
    have sp := same_new (o := .lst []) hp
    have M1 := M.same sp
    refine ⟨m, dx, l, ws, v, rfl, M1, vw, thing_same sp th, ?_⟩
    cases e : headW ws v with
    | noPlace =>
      rw [e] at h
      exact h _ sp
    | noCell =>
      rw [e] at h
      exact h _ sp
    | ok i k =>
      rw [e] at h
      obtain ⟨rfl, hi, eh⟩ := head_ok e
      obtain ⟨-, h34, -⟩ := headAt_some eh
      obtain ⟨fit, h⟩ := h
      dsimp only
      walk_at "w2"
      have ek : ((k / 4 : Nat) : Int).toNat = k / 4 := Int.toNat_natCast _
      rw [ek]
      refine ⟨by omega, by omega, forW_range (fun t σ H' => ∃ o3 o4, σ = [some (.ref m), some (.int (i : Int)), some (.ref p), o3, o4] ∧ Same H H' ∧ H' p = some (.lst ((kidsT ws i t).map V.int))) ⟨_, _, rfl, sp, upd_same⟩ ?_ ?_⟩
      · rintro t σ H' ht ⟨o3, o4, rfl, s, hp'⟩
        have M2 := M.same s
        have hj : i + 1 + t < ws.length := by omega
        obtain ⟨w, ew⟩ := vw.get hj
        walk_at "w2"
        have ej : (i : Int) + 1 + ((0 : Int) + (t : Int)) = ((i + 1 + t : Nat) : Int) := by omega
        rw [ej]
        refine ⟨recv M2.ob, m, dx, l, ws, _, rfl, M2, .inl ⟨_, rfl⟩, ?_⟩
        rw [placeOf_int, if_pos ⟨by omega, by omega⟩, Int.toNat_natCast]
        dsimp only
        walk_at "w2"
        simp only [x_worth]
        have kl := kidsT_len (ws := ws) (i := i) (t := t)
        rw [kidsT_succ, ew]
        dsimp only
        cases w with
        | nothing =>
          simp only [k_nn, k_pn, k_Nn, k_np, k_Np, k_pp, not_true_eq_false, not_false_eq_true, if_true, if_false, ite_true, ite_false, Wd.worth]
          rw [List.append_nil]
          exact ⟨_, _, rfl, s, hp'⟩
        | num n =>
          simp only [k_nn, k_pn, k_Nn, k_np, k_Np, k_pp, not_true_eq_false, not_false_eq_true, if_true, if_false, ite_true, ite_false, Wd.worth]
          rw [List.append_nil]
          exact ⟨_, _, rfl, s, hp'⟩
        | place g =>
          simp only [k_nn, k_pn, k_Nn, k_np, k_Np, k_pp, not_true_eq_false, not_false_eq_true, if_true, if_false, ite_true, ite_false, Wd.worth]
          refine r_app hp' (by rw [List.length_map, sizeLine_eq]; omega) ⟨_, _, rfl, fun c o e => ?_, ?_⟩
          · rw [upd_ne (ne_of_none e hp)]
            exact s _ _ e
          · rw [upd_same, List.map_append]
            rfl
      · rintro σ H' ⟨o3, o4, rfl, s, hp'⟩
        walk_at "w2"
        exact h p H' hp s hp'
theorem f_lay (T : Tx K mg) : Fn P w K mg base 4 "lay" ["memory", "at", "slots"] (sp_lay K) := by
  have c_need_slots := f_need_slots (P := P) (w := w) (base := base) T
  have c_is_whole := f_is_whole (P := P) (w := w) (base := base) T
  have c_Memory_write := f_Memory_write (P := P) (w := w) (base := base) T
  have c_number_word := f_number_word (P := P) (w := w) (base := base) T
  refine T.mkFn 7 25 (d := d_lay) (N := ["memory", "at", "slots", "slot"]) (k := 3) rfl rfl rfl rfl rfl sc_lay (fun _ _ _ _ _ _ us hl => match us, hl with | [_, _, _], _ => rfl) (fun vs H Q E h => ?len) (fun cdv A outer s H vs Q E hr h => ⟨_,
      (pss_cons (ps_expr (pe_fn (takes_of rfl rfl rfl rfl) c_need_slots (hr.mono (by decide)) (by rfl) (pa_cons (pv 2) pa_nil)))
        (pss_cons (ps_if (PW.pt (pw_or (pt_not (pt_val (pe_fn (takes_of rfl rfl rfl rfl) c_is_whole (hr.mono (by decide)) (by rfl) (pa_cons (pv 1) pa_nil)))) (pw_or (pt_cmpR op_lt (pv 1) pe_int (nomark _)) (pw_or1 (pt_cmpR op_ge (pe_op op_gAdd (pv 1) (pv 2)) (pe_fldC (T.cls 98) (T.noat 105) (pv 0)) (nomark _)))))) (pss_one (ps_raiseK (K := K) rfl rfl (takes_of rfl rfl rfl rfl) (T.says.fact 92 rfl) (T.glo 4) (by rfl))) pss_nil)
        (pss_cons (ps_expr (pe_mt (K := K) rfl (takes_of rfl rfl rfl rfl) (pv 0) c_Memory_write (hr.mono (by decide)) (pa_cons (pv 1) (pa_cons (pe_fn (takes_of rfl rfl rfl rfl) c_number_word (hr.mono (by decide)) (by rfl) (pa_cons (pe_op op_gMul pe_int (pv 2)) pa_nil)) pa_nil))))
        (pss_one (ps_for (passes_of rfl) rfl (pi_range1 rfl (T.free 79) (pa_cons (pv 2) pa_nil)) (pg_name (i := 3) sc_lay.nd rfl (Or.inl rfl)) (pss_one (ps_expr (pe_mt (K := K) rfl (takes_of rfl rfl rfl rfl) (pv 0) c_Memory_write (hr.mono (by decide)) (pa_cons (pe_op op_gAdd (pe_op op_gAdd (pv 1) pe_int) (pv 3)) (pa_cons (pe_num (T.num 67) (by rfl)) pa_nil)))))))))), ?rd⟩)
  case len => obtain ⟨m, dx, l, ws, v, z, rfl, _⟩ := h; rfl
  case rd =>
    obtain ⟨m, dx, l, ws, v, z, rfl, M, th, tz, h⟩ := h
    walk_at "w2"
    refine ⟨z, rfl, tz, ?_⟩
    have hz := M.sz
    cases es : slotsW z with
    | none =>
      rw [es] at h
      exact h
    | some s =>
      rw [es] at h
      obtain ⟨rfl, s8⟩ := slotsW_some es
      have h : (match placeOf (ws.length - s) v with
        | none => E (Ex K "NoPlace") none H
        | some i => ∀ H', MemO K H' m dx l (layT ws i s s) → (∀ b o, b ≠ l → H b = some o → H' b = some o) → Q .non H') := h
      dsimp only
      walk_at "w2"
      rcases th with ⟨n, rfl⟩ | o
      · walk_at "w2"
        rw [placeOf_int] at h
        split
        · rw [if_neg (by omega)] at h
          exact h
        · refine ⟨_, fldIs M.ob, ?_⟩
          walk_at "w2"
          split
          · rw [if_neg (by omega)] at h
            exact h
          · rw [if_pos (by omega)] at h
            obtain ⟨i, rfl⟩ := Int.eq_ofNat_of_zero_le (show 0 ≤ n by omega)
            rw [Int.toNat_natCast] at h
            dsimp only at h
            refine ⟨recv M.ob, ?_⟩
            walk_at "w2"
            rw [x_number_word, if_pos (by omega)]
            have e2 : 2 * (4 * (s : Int)) = 8 * (s : Int) := by omega
            rw [e2]
            have e1 : (wordOf (8 * (s : Int))).isSome = true := by rw [← e2, word_num (by omega)]; rfl
            refine ⟨m, dx, l, ws, _, _, rfl, M, .inl ⟨_, rfl⟩, .inl ⟨_, rfl⟩, ?_⟩
            rw [placeOf_int, if_pos ⟨by omega, by omega⟩, wordV_int, if_pos e1, Int.toNat_natCast]
            dsimp only
            walk_at "w2"
            rw [Int.toNat_natCast]
            have M0 : MemO K (upd H l (.lst ((ws.set i (8 * (s : Int))).map V.int))) m dx l (layT ws i s 0) := M.put _ (List.length_set ..)
            refine ⟨by omega, by omega, forW_range (fun t σ H' => ∃ o3, σ = [some (.ref m), some (.int (i : Int)), some (.int (s : Int)), o3] ∧ MemO K H' m dx l (layT ws i s t) ∧ ∀ b o, b ≠ l → H b = some o → H' b = some o) ⟨_, rfl, M0, fun b o hb e => by rw [upd_ne hb]; exact e⟩ ?_ ?_⟩
            · rintro t σ H' ht ⟨o3, rfl, M2, k⟩
              walk_at "w2"
              have ej : (i : Int) + 1 + ((0 : Int) + (t : Int)) = ((i + 1 + t : Nat) : Int) := by omega
              rw [ej]
              have ll := layT_len (ws := ws) (i := i) (s := s) (t := t)
              refine ⟨recv M2.ob, m, dx, l, _, _, _, rfl, M2, .inl ⟨_, rfl⟩, .inl ⟨_, rfl⟩, ?_⟩
              rw [placeOf_int, if_pos ⟨by omega, by omega⟩, wordV_int, if_pos (show (wordOf (-1)).isSome = true from rfl), Int.toNat_natCast]
              dsimp only
              walk_at "w2"
              have M3 := M2.put ((layT ws i s t).set (i + 1 + t) (-1)) (List.length_set ..)
              refine ⟨_, rfl, ?_, fun b o hb e => by rw [upd_ne hb]; exact k b o hb e⟩
              rw [layT_succ]
              exact M3
            · rintro σ H' ⟨o3, rfl, M2, k⟩
              exact h H' M2 k
      · rw [odd_whole o]
        rw [placeOf_odd o] at h
        walk_at "w2"
        exact h
end

local macro_rules | `(tactic| walk_at "w2") => `(tactic| try simp only [↓x_var0, ↓x_varS, ↓x_c, ↓x_op, ↓x_un, ↓x_cb, ↓x_nil, ↓x_cons, ↓x_test, ↓x_b, ↓x_ex, ↓x_and, ↓x_or, ↓x_not, ↓x_andV, ↓x_orV, ↓x_notV, ↓x_tif, ↓x_chain, ↓x_menu, ↓x_menuI, ↓x_lst, ↓x_tup, ↓x_dnew, ↓x_callW, ↓x_callN, ↓x_seq, ↓x_next, ↓x_ret, ↓x_retN, ↓x_drop, ↓x_ifS, ↓x_asg, ↓x_name, ↓x_raise, ↓x_fld, ↓x_setF, ↓x_meth, ↓x_make, ↓x_sub, ↓r_min, ↓r_max, ↓x_yes, ↓x_for, ↓x_lock, ↓x_keys, ↓x_cut, ↓x_lc, ↓x_rng1, ↓x_rng2, ↓x_lst1, ↓x_itup, ↓x_rng3, ↓x_three, ↓x_lstg, ↓x_tupg, ↓x_adrS, ↓x_one, ↓x_two, ↓x_adr, ↓x_sl, ↓x_np, ↓x_pt, ↓x_int, ↓x_bm, ↓x_bm0, ↓x_consg, ↓x_nilg, ↓x_dget2, ↓x_dget1, ↓x_dgetN, ↓x_dget, ↓x_din, ↓x_dni, ↓x_dput, ↓x_dpop2, ↓r_isB, ↓r_notB, ↓x_enum, ↓x_zip, ↓x_str, ↓x_strE, ↓r_inS, ↓r_ninS, wipe, List.map_cons, List.map_nil, ↓x_isT, ↓r_isiII, ↓r_isiBB, ↓r_isiIB, ↓r_isiSS, ↓r_neNS, ↓r_neSN, ↓r_neNN, ↓r_eqNS, ↓r_eqSN, ↓r_eqNN, ↓r_eqIS, ↓r_neIS, ↓r_neSI, ↓r_neBS, ↓r_eqBB, ↓r_neBB, ↓x_start, ↓x_K, ↓x_start0, ↓r_i0, ↓r_i, ↓r_u, ↓r_addI, ↓r_addS, ↓r_mulI, ↓r_mulS, ↓r_eqI, ↓r_neI, ↓r_eqS, ↓r_neS, ↓r_absI, ↓r_intI, ↓r_intB, List.length_cons, List.length_nil, List.replicate, List.set_cons_zero, List.set_cons_succ, decide_eq_true_eq, Bool.not_eq_true', decide_eq_false_iff_not, if_true, if_false, Bool.false_eq_true, Bool.true_eq_false, ite_true, ite_false, Bool.not_true, Bool.not_false, c_div, n_ten, c_pow, not_true_eq_false, not_false_eq_true, decide_true, decide_false, true_and, and_true, and_self, true_or, or_true, Int.reduceLT, Int.reduceLE, Int.reduceMul, Int.reduceAdd, Int.reduceSub, Int.reducePow, Int.reduceNeg, Int.reduceDiv, Int.reduceMod, Nat.reducePow, Int.reduceToNat, Int.reduceEq, Int.reduceNe, Nat.reduceLT, Nat.reduceLeDiff, Nat.reduceAdd, ↓x_whole, ↓x_kind])
/-! ## spaces -/
def SpV (K : PySem.W.Frag) (dx : Addr) (b e t : Nat) : HO := .ins (He.ga K "Space") dx (F_Space (.int (b : Int)) (.int (e : Int)) (.int (t : Int)))
abbrev SpO (K : PySem.W.Frag) (H : Hp) (s dx : Addr) (b e t : Nat) : Prop := H s = some (SpV K dx b e t)
theorem spv_lst {K dx b e t xs} : SpV K dx b e t ≠ .lst xs := fun z => by cases z
theorem F_len_Space {v0 v1 v2 : V} : (F_Space v0 v1 v2).length = 3 := rfl
theorem F_len_Memory {v0 v1 : V} : (F_Memory v0 v1).length = 2 := rfl
theorem spv_fs {K dx b e t C d fs} (h : fs.length ≠ 3) : SpV K dx b e t ≠ .ins C d fs := fun z => by
  cases z
  exact h rfl
theorem layT_at {ws : List Int} {i s t : Nat} (hi : i < ws.length) : (layT ws i s t).getD i 0 = 8 * (s : Int) := by
  induction t with
  | zero =>
    show (ws.set i (8 * (s : Int))).getD i 0 = _
    rw [List.getD_eq_getElem?_getD, List.getElem?_set_self hi]
    rfl
  | succ t ih =>
    rw [layT_succ, List.getD_eq_getElem?_getD, List.getElem?_set_ne (by omega), ← List.getD_eq_getElem?_getD, ih]
theorem head_8 {s : Nat} (h : s ≤ 8) : headAt (8 * (s : Int)) = some (4 * s) := by
  have e : 8 * (s : Int) = 2 * (4 * (s : Int)) := by omega
  unfold headAt
  rw [e, word_num (by omega)]
  dsimp only
  rw [if_pos (by omega)]
  congr 1
inductive Tk where
  | count | room | ok (n : Nat)
def takeW (b e t : Nat) : V → Tk
  | .int n => if n < 1 then .count else if n > (e : Int) - t then .room else .ok n.toNat
  | _ => .count
theorem takeW_int {b e t : Nat} {n : Int} : takeW b e t (.int n) = if n < 1 then .count else if n > (e : Int) - t then .room else .ok n.toNat := rfl
theorem takeW_odd {H : Hp} {b e t : Nat} {v : V} (h : Odd H v) : takeW b e t v = .count := by
  cases v with
  | int i => exact (odd_not h).elim
  | _ => rfl
def cutW (b e : Nat) : V → Option Nat
  | .int n => if (b : Int) ≤ n ∧ n ≤ e then some n.toNat else none
  | _ => none
theorem cutW_int {b e : Nat} {n : Int} : cutW b e (.int n) = if (b : Int) ≤ n ∧ n ≤ e then some n.toNat else none := rfl
theorem cutW_odd {H : Hp} {b e : Nat} {v : V} (h : Odd H v) : cutW b e v = none := by
  cases v with
  | int i => exact (odd_not h).elim
  | _ => rfl
/-- cells one behind the other from i to the top -/
inductive Chain (ws : List Int) (t : Nat) : Nat → List Int → Prop where
  | nil {i : Nat} (h : t ≤ i) : Chain ws t i []
  | cons {i k : Nat} {ps : List Int} (h : i < t) (hi : i < ws.length) (e : headAt (ws.getD i 0) = some k) (c : Chain ws t (i + (k / 4 + 1)) ps) : Chain ws t i ((i : Int) :: ps)
theorem Chain.len {ws : List Int} {t i : Nat} {ps : List Int} (h : Chain ws t i ps) : ps.length ≤ ws.length - i := by
  induction h with
  | nil h => exact Nat.zero_le _
  | cons h hi e c ih =>
    rw [List.length_cons]
    omega
theorem same_mk2 {H : Hp} {x dx : Addr} {o1 o2 : HO} (nx : H x = none) (ndx : H dx = none) : Same H (upd (upd (upd H dx (.own x)) x o1) x o2) := fun b o e => by
  rw [upd_upd, upd_ne (ne_of_none e nx), upd_ne (ne_of_none e ndx)]
  exact e
def sp_Space___init__ (K : PySem.W.Frag) : Sp := fun vs H Q _ => ∃ s dx, ∃ b e : Nat, vs = [.ref s, .int b, .int e] ∧ H s = some (.ins (He.ga K "Space") dx []) ∧ Q .non (upd H s (SpV K dx b e b))
def sp_Space_room (K : PySem.W.Frag) : Sp := fun vs H Q _ => ∃ s dx b e t, vs = [.ref s] ∧ SpO K H s dx b e t ∧ Q (.int ((e : Int) - t)) H
def sp_Space_used (K : PySem.W.Frag) : Sp := fun vs H Q _ => ∃ s dx b e t, vs = [.ref s] ∧ SpO K H s dx b e t ∧ Q (.int ((t : Int) - b)) H
def sp_Space_has (K : PySem.W.Frag) : Sp := fun vs H Q _ => ∃ s dx b e t n, vs = [.ref s, .int n] ∧ SpO K H s dx b e t ∧ Q (.bl (decide ((b : Int) ≤ n ∧ n < t))) H
def sp_Space_take (K : PySem.W.Frag) : Sp := fun vs H Q E => ∃ s dx b e t v, vs = [.ref s, v] ∧ SpO K H s dx b e t ∧ Thing H v ∧ match takeW b e t v with
  | .count => E (Ex K "BadCount") none H
  | .room => E (Ex K "NoRoom") none H
  | .ok n => Q (.int t) (upd H s (SpV K dx b e (t + n)))
def sp_Space_empty (K : PySem.W.Frag) : Sp := fun vs H Q _ => ∃ s dx b e t, vs = [.ref s] ∧ SpO K H s dx b e t ∧ Q .non (upd H s (SpV K dx b e b))
def sp_Space_cut (K : PySem.W.Frag) : Sp := fun vs H Q E => ∃ s dx b e t v, vs = [.ref s, v] ∧ SpO K H s dx b e t ∧ Thing H v ∧ match cutW b e v with
  | none => E (Ex K "BadCount") none H
  | some n => Q .non (upd H s (SpV K dx b e n))
def sp_Space_cells (K : PySem.W.Frag) : Sp := fun vs H Q _ => ∃ s dx b e t m mx l ws ps, vs = [.ref s, .ref m] ∧ SpO K H s dx b e t ∧ MemO K H m mx l ws ∧ Vw ws ∧ Chain ws t b ps ∧
  ∀ p H', H p = none → Same H H' → H' p = some (.lst (ps.map V.int)) → Q (.ref p) H'
section
variable {P : Program} {w : World} {K : PySem.W.Frag} {mg : Str → Option Value} {base : Heap}
theorem f_Space___init__ (T : Tx K mg) : Mi P w K mg base 1 "Space" ["self", "begin", "end"] (sp_Space___init__ K) := by
  refine T.mkMi 27 108 11 (d := d_Space___init__) (N := ["self", "begin", "end"]) (k := 0) rfl rfl rfl rfl rfl rfl sc_Space___init__ (fun _ _ _ _ _ _ us hl => match us, hl with | [_, _, _], _ => rfl) (fun vs H Q E h => ?len) (fun cdv A outer s H vs Q E hr h => ⟨_,
      (pss_cons (ps_fldC (T.cls 107) (T.noat 116) (pv 0) (pv 1))
        (pss_cons (ps_fldC (T.cls 107) (T.noat 117) (pv 0) (pv 2))
        (pss_one (ps_fldC (T.cls 107) (T.noat 118) (pv 0) (pv 1))))), ?rd⟩)
  case len => obtain ⟨s, dx, b, e, rfl, _⟩ := h; rfl
  case rd =>
    obtain ⟨s, dx, b, e, rfl, S, q⟩ := h
    walk_at "w2"
    refine ⟨s, dx, _, rfl, S, by decide, ?_⟩
    rw [pi_Space_begin]
    refine ⟨s, dx, _, rfl, upd_same, by show 1 < 1000; decide, ?_⟩
    rw [pi_Space_end, upd_upd]
    refine ⟨s, dx, _, rfl, upd_same, by show 2 < 1000; decide, ?_⟩
    rw [pi_Space_top, upd_upd]
    exact q
theorem f_Space_room (T : Tx K mg) : Mt P w K mg base 1 "Space" "room" ["self"] (sp_Space_room K) := by
  refine T.mkMt 28 109 107 (d := d_Space_room) (N := ["self"]) (k := 0) rfl rfl rfl rfl rfl rfl sc_Space_room (fun _ _ _ _ _ _ us hl => match us, hl with | [_], _ => rfl) (fun vs H Q E h => ?len) (fun cdv A outer s H vs Q E hr h => ⟨_,
      (pss_one (ps_ret (pe_op op_sub (pe_fldC (T.cls 107) (T.noat 117) (pv 0)) (pe_fldC (T.cls 107) (T.noat 118) (pv 0))))), ?rd⟩)
  case len => obtain ⟨s, dx, b, e, t, rfl, _⟩ := h; rfl
  case rd =>
    obtain ⟨s, dx, b, e, t, rfl, S, q⟩ := h
    walk_at "w2"
    refine ⟨_, fldIs S, _, fldIs S, ?_⟩
    walk_at "w2"
    exact q
theorem f_Space_used (T : Tx K mg) : Mt P w K mg base 1 "Space" "used" ["self"] (sp_Space_used K) := by
  refine T.mkMt 29 110 107 (d := d_Space_used) (N := ["self"]) (k := 0) rfl rfl rfl rfl rfl rfl sc_Space_used (fun _ _ _ _ _ _ us hl => match us, hl with | [_], _ => rfl) (fun vs H Q E h => ?len) (fun cdv A outer s H vs Q E hr h => ⟨_,
      (pss_one (ps_ret (pe_op op_sub (pe_fldC (T.cls 107) (T.noat 118) (pv 0)) (pe_fldC (T.cls 107) (T.noat 116) (pv 0))))), ?rd⟩)
  case len => obtain ⟨s, dx, b, e, t, rfl, _⟩ := h; rfl
  case rd =>
    obtain ⟨s, dx, b, e, t, rfl, S, q⟩ := h
    walk_at "w2"
    refine ⟨_, fldIs S, _, fldIs S, ?_⟩
    walk_at "w2"
    exact q
theorem f_Space_has (T : Tx K mg) : Mt P w K mg base 1 "Space" "has" ["self", "at"] (sp_Space_has K) := by
  refine T.mkMt 30 111 107 (d := d_Space_has) (N := ["self", "at"]) (k := 0) rfl rfl rfl rfl rfl rfl sc_Space_has (fun _ _ _ _ _ _ us hl => match us, hl with | [_, _], _ => rfl) (fun vs H Q E h => ?len) (fun cdv A outer s H vs Q E hr h => ⟨_,
      (pss_one (ps_ret (pe_chain op_le op_lt (pe_fldC (T.cls 107) (T.noat 116) (pv 0)) (pv 1) (pe_fldC (T.cls 107) (T.noat 118) (pv 0))))), ?rd⟩)
  case len => obtain ⟨s, dx, b, e, t, n, rfl, _⟩ := h; rfl
  case rd =>
    obtain ⟨s, dx, b, e, t, n, rfl, S, q⟩ := h
    walk_at "w2"
    refine ⟨_, fldIs S, ?_⟩
    walk_at "w2"
    split
    · refine ⟨_, fldIs S, ?_⟩
      walk_at "w2"
      have c : ((b : Int) ≤ n ∧ n < t) = (n < t) := propext ⟨fun z => z.2, fun z => ⟨‹_›, z⟩⟩
      simp only [c] at q
      exact q
    · rw [decide_eq_false (fun z => absurd z.1 ‹_›)] at q
      exact q
theorem f_Space_take (T : Tx K mg) : Mt P w K mg base 2 "Space" "take" ["self", "many"] (sp_Space_take K) := by
  have c_is_whole := f_is_whole (P := P) (w := w) (base := base) T
  have c_Space_room := f_Space_room (P := P) (w := w) (base := base) T
  refine T.mkMt 31 112 107 (d := d_Space_take) (N := ["self", "many", "at"]) (k := 1) rfl rfl rfl rfl rfl rfl sc_Space_take (fun _ _ _ _ _ _ us hl => match us, hl with | [_, _], _ => rfl) (fun vs H Q E h => ?len) (fun cdv A outer s H vs Q E hr h => ⟨_,
      (pss_cons (ps_if (PW.pt (pw_or (pt_not (pt_val (pe_fn (takes_of rfl rfl rfl rfl) c_is_whole (hr.mono (by decide)) (by rfl) (pa_cons (pv 1) pa_nil)))) (pw_or1 (pt_cmpR op_lt (pv 1) pe_int (nomark _))))) (pss_one (ps_raiseK (K := K) rfl rfl (takes_of rfl rfl rfl rfl) (T.says.fact 91 rfl) (T.glo 3) (by rfl))) pss_nil)
        (pss_cons (ps_if (pt_cmpR op_gt (pv 1) (pe_mt0 (K := K) rfl (takes_of rfl rfl rfl rfl) (pv 0) c_Space_room (hr.mono (by decide))) (nomark _)) (pss_one (ps_raiseK (K := K) rfl rfl (takes_of rfl rfl rfl rfl) (T.says.fact 93 rfl) (T.glo 5) (by rfl))) pss_nil)
        (pss_cons (ps_set (i := 2) sc_Space_take.nd rfl (Or.inl rfl) (pe_fldC (T.cls 107) (T.noat 118) (pv 0)))
        (pss_cons (ps_fldC (T.cls 107) (T.noat 118) (pv 0) (pe_op op_gAdd (pv 2) (pv 1)))
        (pss_one (ps_ret (pv 2))))))), ?rd⟩)
  case len => obtain ⟨s, dx, b, e, t, v, rfl, _⟩ := h; rfl
  case rd =>
    obtain ⟨s, dx, b, e, t, v, rfl, S, th, h⟩ := h
    walk_at "w2"
    rcases th with ⟨n, rfl⟩ | o
    · walk_at "w2"
      rw [takeW_int] at h
      split
      · rw [if_pos ‹_›] at h
        exact h
      · rw [if_neg ‹_›] at h
        refine ⟨recv S, s, dx, b, e, t, rfl, S, ?_⟩
        walk_at "w2"
        split
        · rw [if_pos ‹_›] at h
          exact h
        · rw [if_neg ‹_›] at h
          obtain ⟨j, rfl⟩ := Int.eq_ofNat_of_zero_le (show 0 ≤ n by omega)
          rw [Int.toNat_natCast] at h
          refine ⟨_, fldIs S, ?_⟩
          walk_at "w2"
          refine ⟨s, dx, _, rfl, S, by show 3 < 1000; decide, ?_⟩
          rw [pf_Space_top]
          exact h
    · rw [odd_whole o]
      rw [takeW_odd o] at h
      walk_at "w2"
      exact h
theorem f_Space_empty (T : Tx K mg) : Mt P w K mg base 1 "Space" "empty" ["self"] (sp_Space_empty K) := by
  refine T.mkMt 32 113 107 (d := d_Space_empty) (N := ["self"]) (k := 0) rfl rfl rfl rfl rfl rfl sc_Space_empty (fun _ _ _ _ _ _ us hl => match us, hl with | [_], _ => rfl) (fun vs H Q E h => ?len) (fun cdv A outer s H vs Q E hr h => ⟨_,
      (pss_one (ps_fldC (T.cls 107) (T.noat 118) (pv 0) (pe_fldC (T.cls 107) (T.noat 116) (pv 0)))), ?rd⟩)
  case len => obtain ⟨s, dx, b, e, t, rfl, _⟩ := h; rfl
  case rd =>
    obtain ⟨s, dx, b, e, t, rfl, S, q⟩ := h
    walk_at "w2"
    refine ⟨_, fldIs S, s, dx, _, rfl, S, by show 3 < 1000; decide, ?_⟩
    rw [pf_Space_top]
    exact q
theorem f_Space_cut (T : Tx K mg) : Mt P w K mg base 2 "Space" "cut" ["self", "top"] (sp_Space_cut K) := by
  have c_is_whole := f_is_whole (P := P) (w := w) (base := base) T
  refine T.mkMt 33 114 107 (d := d_Space_cut) (N := ["self", "top"]) (k := 1) rfl rfl rfl rfl rfl rfl sc_Space_cut (fun _ _ _ _ _ _ us hl => match us, hl with | [_, _], _ => rfl) (fun vs H Q E h => ?len) (fun cdv A outer s H vs Q E hr h => ⟨_,
      (pss_cons (ps_if (PW.pt (pw_or (pt_not (pt_val (pe_fn (takes_of rfl rfl rfl rfl) c_is_whole (hr.mono (by decide)) (by rfl) (pa_cons (pv 1) pa_nil)))) (pw_or1 (pt_not (pt_chain op_le op_le (pe_fldC (T.cls 107) (T.noat 116) (pv 0)) (pv 1) (pe_fldC (T.cls 107) (T.noat 117) (pv 0))))))) (pss_one (ps_raiseK (K := K) rfl rfl (takes_of rfl rfl rfl rfl) (T.says.fact 91 rfl) (T.glo 3) (by rfl))) pss_nil)
        (pss_one (ps_fldC (T.cls 107) (T.noat 118) (pv 0) (pv 1)))), ?rd⟩)
  case len => obtain ⟨s, dx, b, e, t, v, rfl, _⟩ := h; rfl
  case rd =>
    obtain ⟨s, dx, b, e, t, v, rfl, S, th, h⟩ := h
    walk_at "w2"
    rcases th with ⟨n, rfl⟩ | o
    · walk_at "w2"
      rw [cutW_int] at h
      refine ⟨_, fldIs S, ?_⟩
      walk_at "w2"
      split
      · refine ⟨_, fldIs S, ?_⟩
        walk_at "w2"
        split
        · rw [if_neg (by omega)] at h
          exact h
        · rw [if_pos (by omega)] at h
          obtain ⟨j, rfl⟩ := Int.eq_ofNat_of_zero_le (show 0 ≤ n by omega)
          rw [Int.toNat_natCast] at h
          refine ⟨s, dx, _, rfl, S, by show 3 < 1000; decide, ?_⟩
          rw [pf_Space_top]
          exact h
      · rw [if_neg (by omega)] at h
        exact h
    · rw [odd_whole o]
      rw [cutW_odd o] at h
      walk_at "w2"
      exact h
theorem f_Space_cells (T : Tx K mg) : Mt P w K mg base 7 "Space" "cells" ["self", "memory"] (sp_Space_cells K) := by
  have c_words_of := f_words_of (P := P) (w := w) (base := base) T
  refine T.mkMt 34 115 107 (d := d_Space_cells) (N := ["self", "memory", "found", "at"]) (k := 6) rfl rfl rfl rfl rfl rfl sc_Space_cells (fun _ _ _ _ _ _ us hl => match us, hl with | [_, _], _ => rfl) (fun vs H Q E h => ?len) (fun cdv A outer s H vs Q E hr h => ⟨_,
      (pss_cons (ps_set (i := 2) sc_Space_cells.nd rfl (Or.inl rfl) (pe_lst pa_nil))
        (pss_cons (ps_set (i := 3) sc_Space_cells.nd rfl (Or.inl rfl) (pe_fldC (T.cls 107) (T.noat 116) (pv 0)))
        (pss_cons (ps_while (passes_of rfl) (pt_cmpR op_lt (pv 3) (pe_fldC (T.cls 107) (T.noat 118) (pv 0)) (nomark _)) (pss_cons (ps_expr (pe_bm PySem.F.plainAttrs_list PySem.F.slot_list_append PySem.F.type_list_append mt_append (pv 2) (pa_cons (pv 3) pa_nil)))
        (pss_one (ps_set (i := 3) sc_Space_cells.nd rfl (Or.inl rfl) (pe_op op_gAdd (pv 3) (pe_fn (takes_of rfl rfl rfl rfl) c_words_of (hr.mono (by decide)) (by rfl) (pa_cons (pv 1) (pa_cons (pv 3) pa_nil))))))))
        (pss_one (ps_ret (pv 2)))))), ?rd⟩)
  case len => obtain ⟨s, dx, b, e, t, m, mx, l, ws, ps, rfl, _⟩ := h; rfl
  case rd =>
    obtain ⟨s, dx, b, e, t, m, mx, l, ws, ps, rfl, S, M, vw, ch, q⟩ := h
    have cl := ch.len
    have hz := M.sz
    walk_at "w2"
    refine ⟨by rw [sizeLine_eq]; omega, fun p hp => ?_⟩
    have sp := same_new (o := .lst []) hp
    refine ⟨_, fldIs (sp _ _ S), ?_⟩
    walk_at "w2"
    refine whW (fun k σ H' => ∃ (i : Nat) (dn rest : List Int), σ = [some (.ref s), some (.ref m), some (.ref p), some (.int (i : Int))] ∧ k = rest.length ∧ Chain ws t i rest ∧ dn ++ rest = ps ∧ Same H H' ∧ H' p = some (.lst (dn.map V.int))) ⟨_, b, [], ps, rfl, rfl, ch, rfl, sp, upd_same⟩ ?_
    rintro k σ H' ⟨i, dn, rest, rfl, rfl, ch, e1, s1, hp'⟩
    have el : dn.length + rest.length = ps.length := by rw [← e1, List.length_append]
    walk_at "w2"
    refine ⟨_, fldIs (s1 _ _ S), ?_⟩
    walk_at "w2"
    cases ch with
    | nil h =>
      rw [if_neg (by omega)]
      rw [List.append_nil] at e1
      subst e1
      exact q p H' hp s1 hp'
    | cons h hi eh ch =>
      rename_i kk rest
      rw [if_pos (by omega)]
      refine whB ?_
      walk_at "w2"
      rw [List.length_cons] at el
      refine r_app hp' (by rw [List.length_map, sizeLine_eq]; omega) ?_
      walk_at "w2"
      have s2 : Same H (upd H' p (.lst (dn.map V.int ++ [.int (i : Int)]))) := fun c o g => by
        rw [upd_ne (ne_of_none g hp)]
        exact s1 _ _ g
      refine ⟨m, mx, l, ws, _, rfl, M.same s2, vw, .inl ⟨_, rfl⟩, ?_⟩
      have eH : headW ws (.int (i : Int)) = .ok i kk := by
        unfold headW
        rw [placeOf_int, if_pos ⟨by omega, by omega⟩, Int.toNat_natCast]
        dsimp only
        rw [eh]
      rw [eH]
      walk_at "w2"
      have ei : (i : Int) + ((kk / 4 + 1 : Nat) : Int) = ((i + (kk / 4 + 1) : Nat) : Int) := by omega
      rw [ei]
      exact ⟨rest.length, Nat.lt_succ_self _, _, dn ++ [(i : Int)], rest, rfl, rfl, ch, by rw [List.append_assoc]; exact e1, s2, by rw [upd_same, List.map_append]; rfl⟩
end

local macro_rules | `(tactic| walk_at "w2") => `(tactic| try simp only [↓x_var0, ↓x_varS, ↓x_c, ↓x_op, ↓x_un, ↓x_cb, ↓x_nil, ↓x_cons, ↓x_test, ↓x_b, ↓x_ex, ↓x_and, ↓x_or, ↓x_not, ↓x_andV, ↓x_orV, ↓x_notV, ↓x_tif, ↓x_chain, ↓x_menu, ↓x_menuI, ↓x_lst, ↓x_tup, ↓x_dnew, ↓x_callW, ↓x_callN, ↓x_seq, ↓x_next, ↓x_ret, ↓x_retN, ↓x_drop, ↓x_ifS, ↓x_asg, ↓x_name, ↓x_raise, ↓x_fld, ↓x_setF, ↓x_meth, ↓x_make, ↓x_sub, ↓r_min, ↓r_max, ↓x_yes, ↓x_for, ↓x_lock, ↓x_keys, ↓x_cut, ↓x_lc, ↓x_rng1, ↓x_rng2, ↓x_lst1, ↓x_itup, ↓x_rng3, ↓x_three, ↓x_lstg, ↓x_tupg, ↓x_adrS, ↓x_one, ↓x_two, ↓x_adr, ↓x_sl, ↓x_np, ↓x_pt, ↓x_int, ↓x_bm, ↓x_bm0, ↓x_consg, ↓x_nilg, ↓x_dget2, ↓x_dget1, ↓x_dgetN, ↓x_dget, ↓x_din, ↓x_dni, ↓x_dput, ↓x_dpop2, ↓r_isB, ↓r_notB, ↓x_enum, ↓x_zip, ↓x_str, ↓x_strE, ↓r_inS, ↓r_ninS, wipe, List.map_cons, List.map_nil, ↓x_isT, ↓r_isiII, ↓r_isiBB, ↓r_isiIB, ↓r_isiSS, ↓r_neNS, ↓r_neSN, ↓r_neNN, ↓r_eqNS, ↓r_eqSN, ↓r_eqNN, ↓r_eqIS, ↓r_neIS, ↓r_neSI, ↓r_neBS, ↓r_eqBB, ↓r_neBB, ↓x_start, ↓x_K, ↓x_start0, ↓r_i0, ↓r_i, ↓r_u, ↓r_addI, ↓r_addS, ↓r_mulI, ↓r_mulS, ↓r_eqI, ↓r_neI, ↓r_eqS, ↓r_neS, ↓r_absI, ↓r_intI, ↓r_intB, List.length_cons, List.length_nil, List.replicate, List.set_cons_zero, List.set_cons_succ, decide_eq_true_eq, Bool.not_eq_true', decide_eq_false_iff_not, if_true, if_false, Bool.false_eq_true, Bool.true_eq_false, ite_true, ite_false, Bool.not_true, Bool.not_false, c_div, n_ten, c_pow, not_true_eq_false, not_false_eq_true, decide_true, decide_false, true_and, and_true, and_self, true_or, or_true, Int.reduceLT, Int.reduceLE, Int.reduceMul, Int.reduceAdd, Int.reduceSub, Int.reducePow, Int.reduceNeg, Int.reduceDiv, Int.reduceMod, Nat.reducePow, Int.reduceToNat, Int.reduceEq, Int.reduceNe, Nat.reduceLT, Nat.reduceLeDiff, Nat.reduceAdd, ↓x_whole, ↓x_kind])
/-! ## areas -/
/-- where the parts stand; what they hold: fl: the second half is young -/
structure ArA where
  (a dx m mx l o ox p px q qx : Addr)
structure ArS where
  (ws : List Int) (n k ot t1 t2 : Nat) (fl : Bool)
def ArA.y (A : ArA) (f : Bool) : Addr := if f then A.q else A.p
structure ArO (K : PySem.W.Frag) (H : Hp) (A : ArA) (S : ArS) : Prop where
  ob : H A.a = some (.ins (He.ga K "Areas") A.dx (F_Areas (.ref A.m) (.ref A.o) (.ref (A.y S.fl)) (.ref (A.y !S.fl))))
  me : MemO K H A.m A.mx A.l S.ws
  vw : Vw S.ws
  ln : S.ws.length = S.n + 2 * S.k
  so : SpO K H A.o A.ox 0 S.n S.ot
  sp : SpO K H A.p A.px S.n (S.n + S.k) S.t1
  sq : SpO K H A.q A.qx (S.n + S.k) (S.n + 2 * S.k) S.t2
  nop : A.o ≠ A.p
  noq : A.o ≠ A.q
  npq : A.p ≠ A.q
  lo : S.ot ≤ S.n
  l1 : S.n ≤ S.t1 ∧ S.t1 ≤ S.n + S.k
  l2 : S.n + S.k ≤ S.t2 ∧ S.t2 ≤ S.n + 2 * S.k
  gn : 4 ≤ S.n ∧ S.n ≤ 2000
  gk : 2 ≤ S.k ∧ S.k ≤ 500
theorem ArO.off {K H A S} (h : ArO K H A S) {c : Addr} {o : HO} (n : A.l ≠ c) (nc : ∀ C d fs, H c ≠ some (.ins C d fs)) : ArO K (upd H c o) A S := by
  have f : ∀ {b C d fs}, H b = some (.ins C d fs) → upd H c o b = some (.ins C d fs) := fun {b C d fs} g => (upd_ne (fun e => nc C d fs (by rw [← e]; exact g))).trans g
  exact { h with ob := f h.ob, me := ⟨f h.me.ob, (upd_ne n).trans h.me.ls, h.me.sz⟩, so := f h.so, sp := f h.sp, sq := f h.sq }
def ArA.mem (A : ArA) (c : Addr) : Prop := c = A.a ∨ c = A.l ∨ c = A.o ∨ c = A.p ∨ c = A.q
theorem ArO.same {K H H' A S} (h : ArO K H A S) (s : Same H H') : ArO K H' A S := { h with ob := s _ _ h.ob, me := h.me.same s, so := s _ _ h.so, sp := s _ _ h.sp, sq := s _ _ h.sq }
/-- begin, end, top of a half -/
def ArS.b (S : ArS) (f : Bool) : Nat := if f then S.n + S.k else S.n
def ArS.t (S : ArS) (f : Bool) : Nat := if f then S.t2 else S.t1
def ArS.put (S : ArS) (f : Bool) (t : Nat) : ArS := if f then { S with t2 := t } else { S with t1 := t }
def ArA.yx (A : ArA) (f : Bool) : Addr := if f then A.qx else A.px
theorem ArO.half {K H A S} (h : ArO K H A S) (f : Bool) : SpO K H (A.y f) (A.yx f) (S.b f) (S.b f + S.k) (S.t f) := by
  cases f
  · exact h.sp
  · have e : S.n + 2 * S.k = S.n + S.k + S.k := by omega
    have := h.sq
    rw [e] at this
    exact this
theorem ArO.lt {K H A S} (h : ArO K H A S) (f : Bool) : S.b f ≤ S.t f ∧ S.t f ≤ S.b f + S.k := by
  have := h.l1
  have := h.l2
  cases f
  · exact h.l1
  · show S.n + S.k ≤ S.t2 ∧ S.t2 ≤ S.n + S.k + S.k
    omega
theorem spv_ne {K dx b e t C d fs} (hc : C ≠ He.ga K "Space") : SpV K dx b e t ≠ .ins C d fs := fun z => by
  cases z
  exact hc rfl
theorem F_len_Areas {v0 v1 v2 v3 : V} : (F_Areas v0 v1 v2 v3).length = 4 := rfl
theorem ArO.na {K H A S} (h : ArO K H A S) {c cx : Addr} {b e t : Nat} (s : SpO K H c cx b e t) : A.a ≠ c ∧ A.m ≠ c ∧ A.l ≠ c :=
  ⟨ne_of h.ob s fun z => spv_fs (by rw [F_len_Areas]; decide) z.symm, ne_of h.me.ob s fun z => spv_fs (by rw [F_len_Memory]; decide) z.symm, ne_of h.me.ls s fun z => spv_lst z.symm⟩
theorem ArO.mput {K H A S} (h : ArO K H A S) {c cx : Addr} {b e t : Nat} {o : HO} (s : SpO K H c cx b e t) : MemO K (upd H c o) A.m A.mx A.l S.ws := by
  obtain ⟨-, n2, n3⟩ := h.na s
  exact ⟨by rw [upd_ne n2]; exact h.me.ob, by rw [upd_ne n3]; exact h.me.ls, h.me.sz⟩
theorem ArO.topOld {K H A S} (h : ArO K H A S) {t : Nat} (ht : t ≤ S.n) : ArO K (upd H A.o (SpV K A.ox 0 S.n t)) A { S with ot := t } :=
  { h with ob := by rw [upd_ne (h.na h.so).1]; exact h.ob, me := h.mput h.so, so := upd_same, sp := (upd_ne h.nop.symm).trans h.sp, sq := (upd_ne h.noq.symm).trans h.sq, lo := ht }
theorem ArO.topHalf {K H A S} (h : ArO K H A S) {f : Bool} {t : Nat} (h0 : S.b f ≤ t) (h1 : t ≤ S.b f + S.k) : ArO K (upd H (A.y f) (SpV K (A.yx f) (S.b f) (S.b f + S.k) t)) A (S.put f t) := by
  cases f
  · exact { h with ob := by rw [show A.y false = A.p from rfl, upd_ne (h.na h.sp).1]; exact h.ob, me := h.mput h.sp, so := (upd_ne h.nop).trans h.so, sp := upd_same, sq := (upd_ne h.npq.symm).trans h.sq, l1 := ⟨h0, h1⟩ }
  · have e : S.n + S.k + S.k = S.n + 2 * S.k := by omega
    have h0 : S.n + S.k ≤ t := h0
    have h1 : t ≤ S.n + S.k + S.k := h1
    exact { h with ob := by rw [show A.y true = A.q from rfl, upd_ne (h.na h.sq).1]; exact h.ob, me := h.mput h.sq, so := (upd_ne h.noq).trans h.so, sp := (upd_ne h.npq).trans h.sp, sq := by show SpO K _ A.q A.qx (S.n + S.k) (S.n + 2 * S.k) t; rw [← e]; exact upd_same, l2 := ⟨h0, by show t ≤ S.n + 2 * S.k; omega⟩ }
/-- the memory's words change -/
theorem ArO.words {K H H' A S} (h : ArO K H A S) {ws : List Int} (M : MemO K H' A.m A.mx A.l ws) (k : ∀ b o, b ≠ A.l → H b = some o → H' b = some o) (vw : Vw ws) (e : ws.length = S.ws.length) : ArO K H' A { S with ws := ws } :=
  { h with ob := k _ _ (ne_of h.ob h.me.ls (by intro z; cases z)) h.ob, me := M, vw := vw, ln := e.trans h.ln, so := k _ _ (h.na h.so).2.2.symm h.so, sp := k _ _ (h.na h.sp).2.2.symm h.sp, sq := k _ _ (h.na h.sq).2.2.symm h.sq }
theorem ArO.flip {K H A S} (h : ArO K H A S) : ArO K (upd H A.a (.ins (He.ga K "Areas") A.dx (F_Areas (.ref A.m) (.ref A.o) (.ref (A.y !S.fl)) (.ref (A.y S.fl))))) A { S with fl := !S.fl } := by
  have n : ∀ {c cx b e t}, SpO K H c cx b e t → c ≠ A.a := fun s => (h.na s).1.symm
  have nm : A.m ≠ A.a := ne_of h.me.ob h.ob fun z => by
    have e := congrArg List.length (HO.ins.inj z).2.2
    rw [F_len_Areas, F_len_Memory] at e
    cases e
  have nl : A.l ≠ A.a := ne_of h.me.ls h.ob (by intro z; cases z)
  exact { h with ob := by rw [upd_same]; simp, me := ⟨(upd_ne nm).trans h.me.ob, (upd_ne nl).trans h.me.ls, h.me.sz⟩, so := (upd_ne (n h.so)).trans h.so, sp := (upd_ne (n h.sp)).trans h.sp, sq := (upd_ne (n h.sq)).trans h.sq }
theorem ArO.put {K H A S} (h : ArO K H A S) {c : Addr} {xs : List V} {o : HO} (e : H c = some (.lst xs)) (n : A.l ≠ c) : ArO K (upd H c o) A S := by
  have f : ∀ {b o' C d fs}, H b = some o' → o' = .ins C d fs → upd H c o b = some o' := fun g g2 => (upd_ne (ne_of g e (by rw [g2]; intro z; cases z))).trans g
  exact { h with ob := f h.ob rfl, me := ⟨f h.me.ob rfl, (upd_ne n).trans h.me.ls, h.me.sz⟩, so := f h.so rfl, sp := f h.sp rfl, sq := f h.sq rfl }
/-- words of a cell that was laid -/
theorem layT_slot {ws : List Int} {i s t u : Nat} (hu : u < t) (hi : i + t < ws.length) : (layT ws i s t).getD (i + 1 + u) 0 = -1 := by
  induction t with
  | zero => omega
  | succ t ih =>
    rw [layT_succ, List.getD_eq_getElem?_getD]
    by_cases c : u = t
    · subst c
      rw [List.getElem?_set_self (by rw [layT_len]; omega)]
      rfl
    · rw [List.getElem?_set_ne (by omega), ← List.getD_eq_getElem?_getD, ih (by omega) (by omega)]
theorem kids_none {ws : List Int} {i : Nat} : ∀ {t : Nat}, (∀ u, u < t → ws.getD (i + 1 + u) 0 = -1) → kidsT ws i t = []
  | 0, _ => rfl
  | t + 1, h => by
    rw [kidsT_succ, kids_none (t := t) fun u hu => h u (by omega), h t (by omega)]
    rfl
def oldV : V → Option Nat
  | .int n => if 4 ≤ n ∧ n ≤ 2000 then some n.toNat else none
  | _ => none
def youngV : V → Option Nat
  | .int n => if 2 ≤ n ∧ n ≤ 500 then some n.toNat else none
  | _ => none
theorem oldV_int {n : Int} : oldV (.int n) = if 4 ≤ n ∧ n ≤ 2000 then some n.toNat else none := rfl
theorem youngV_int {n : Int} : youngV (.int n) = if 2 ≤ n ∧ n ≤ 500 then some n.toNat else none := rfl
theorem oldV_odd {H : Hp} {v : V} (h : Odd H v) : oldV v = none := by
  cases v with
  | int i => exact (odd_not h).elim
  | _ => rfl
theorem youngV_odd {H : Hp} {v : V} (h : Odd H v) : youngV v = none := by
  cases v with
  | int i => exact (odd_not h).elim
  | _ => rfl
/-- areas as they are made -/
def arS (n k : Nat) : ArS := ⟨List.replicate (n + 2 * k) (-1), n, k, 0, n, n + k, false⟩
def areaW (S : ArS) (n : Int) : V := if 0 ≤ n ∧ n < S.ot then .str "old" else if (S.b S.fl : Int) ≤ n ∧ n < S.t S.fl then .str "young" else .non
theorem areaW_is {S : ArS} {n : Int} : areaW S n = .str "old" ∨ areaW S n = .str "young" ∨ areaW S n = .non := by
  unfold areaW
  split
  · exact .inl rfl
  · split
    · exact .inr (.inl rfl)
    · exact .inr (.inr rfl)
def sp_Areas___init__ (K : PySem.W.Frag) : Sp := fun vs H Q E => ∃ a dx v z, vs = [.ref a, v, z] ∧ H a = some (.ins (He.ga K "Areas") dx []) ∧ Thing H v ∧ Thing H z ∧ match oldV v with
  | none => E (Ex K "BadCount") none H
  | some n => match youngV z with
    | none => E (Ex K "BadCount") none H
    | some k => ∀ A H', A.a = a → ArO K H' A (arS n k) → H A.l = none → H A.o = none → H A.p = none → H A.q = none → H A.m = none → (∀ b o, b ≠ a → H b = some o → H' b = some o) → Q .non H'
def sp_Areas_flip (K : PySem.W.Frag) : Sp := fun vs H Q _ => ∃ A S, vs = [.ref A.a] ∧ ArO K H A S ∧ ∀ H', ArO K H' A { S with fl := !S.fl } → (∀ b o, b ≠ A.a → H b = some o → H' b = some o) → Q .non H'
def sp_Areas_area_of (K : PySem.W.Frag) : Sp := fun vs H Q _ => ∃ A S n, vs = [.ref A.a, .int n] ∧ ArO K H A S ∧ Q (areaW S n) H
def endA (S : ArS) (old : Bool) : Nat := if old then S.n else S.b S.fl + S.k
def topA (S : ArS) (old : Bool) : Nat := if old then S.ot else S.t S.fl
def laidW (S : ArS) (old : Bool) (v : V) : Tk := match slotsW v with
  | none => .count
  | some s => if s + 1 ≤ endA S old - topA S old then .ok s else .room
/-- behind a cell that was laid -/
def laidY (S : ArS) (s : Nat) : ArS := { S.put S.fl (S.t S.fl + (s + 1)) with ws := layT S.ws (S.t S.fl) s s }
def laidS (S : ArS) (old : Bool) (s : Nat) : ArS := if old then { S with ot := S.ot + (s + 1), ws := (layT S.ws S.ot s s).set S.ot (2 * ((4 * s + 2 : Nat) : Int)) } else { S.put S.fl (S.t S.fl + (s + 1)) with ws := layT S.ws (S.t S.fl) s s }
def laidO (S : ArS) (s : Nat) : ArS := { S with ot := S.ot + (s + 1), ws := (layT S.ws S.ot s s).set S.ot (2 * ((4 * s + 2 : Nat) : Int)) }
def sp_Areas_lay_young (K : PySem.W.Frag) : Sp := fun vs H Q E => ∃ A S v, vs = [.ref A.a, v] ∧ ArO K H A S ∧ Thing H v ∧ match laidW S false v with
  | .count => E (Ex K "BadCount") none H
  | .room => E (Ex K "NoRoom") none H
  | .ok s => ∀ H', ArO K H' A (laidY S s) → (∀ b o, b ≠ A.l → b ≠ A.y S.fl → H b = some o → H' b = some o) → Q (.int (S.t S.fl)) H'
def sp_Areas_lay_old (K : PySem.W.Frag) : Sp := fun vs H Q E => ∃ A S v, vs = [.ref A.a, v] ∧ ArO K H A S ∧ Thing H v ∧ match laidW S true v with
  | .count => E (Ex K "BadCount") none H
  | .room => E (Ex K "NoRoom") none H
  | .ok s => ∀ H', ArO K H' A (laidO S s) → (∀ b o, b ≠ A.l → b ≠ A.o → H b = some o → H' b = some o) → Q (.int S.ot) H'
theorem laidS_head {S : ArS} {old : Bool} {s : Nat} (h : s ≤ 8) (hl : topA S old + s < S.ws.length) : headAt ((laidS S old s).ws.getD (topA S old) 0) = some (4 * s + if old then 2 else 0) := by
  cases old
  · show headAt ((layT S.ws (S.t S.fl) s s).getD (S.t S.fl) 0) = _
    have hl : S.t S.fl + s < S.ws.length := hl
    rw [layT_at (by omega), head_8 h]
    rfl
  · show headAt (((layT S.ws S.ot s s).set S.ot _).getD S.ot 0) = _
    have hl : S.ot + s < S.ws.length := hl
    rw [List.getD_eq_getElem?_getD, List.getElem?_set_self (by rw [layT_len]; omega)]
    show headAt (2 * ((4 * s + 2 : Nat) : Int)) = some (4 * s + 2)
    unfold headAt
    rw [word_num (by omega)]
    dsimp only
    rw [if_pos (by omega), Int.toNat_natCast]
theorem laidS_slot {S : ArS} {old : Bool} {s u : Nat} (hu : u < s) (hl : topA S old + s < S.ws.length) : (laidS S old s).ws.getD (topA S old + 1 + u) 0 = -1 := by
  cases old
  · exact layT_slot hu hl
  · show ((layT S.ws S.ot s s).set S.ot _).getD (S.ot + 1 + u) 0 = _
    rw [List.getD_eq_getElem?_getD, List.getElem?_set_ne (by omega), ← List.getD_eq_getElem?_getD]
    exact layT_slot hu hl
theorem laidS_len {S : ArS} {old : Bool} {s : Nat} : (laidS S old s).ws.length = S.ws.length := by
  cases old
  · exact layT_len
  · show ((layT S.ws S.ot s s).set S.ot _).length = _
    rw [List.length_set, layT_len]
section
variable {P : Program} {w : World} {K : PySem.W.Frag} {mg : Str → Option Value} {base : Heap}
theorem f_Areas___init__ (T : Tx K mg) : Mi P w K mg base 4 "Areas" ["self", "old_words", "young_words"] (sp_Areas___init__ K) := by
  have c_is_whole := f_is_whole (P := P) (w := w) (base := base) T
  have c_Memory___init__ := f_Memory___init__ (P := P) (w := w) (base := base) T
  have c_Space___init__ := f_Space___init__ (P := P) (w := w) (base := base) T
  refine T.mkMi 35 120 12 (d := d_Areas___init__) (N := ["self", "old_words", "young_words"]) (k := 3) rfl rfl rfl rfl rfl rfl sc_Areas___init__ (fun _ _ _ _ _ _ us hl => match us, hl with | [_, _, _], _ => rfl) (fun vs H Q E h => ?len) (fun cdv A outer s H vs Q E hr h => ⟨_,
      (pss_cons (ps_if (PW.pt (pw_or (pt_not (pt_val (pe_fn (takes_of rfl rfl rfl rfl) c_is_whole (hr.mono (by decide)) (by rfl) (pa_cons (pv 1) pa_nil)))) (pw_or1 (pt_not (pt_chain op_le op_le (pe_num (T.num 71) (by rfl)) (pv 1) (pe_num (T.num 72) (by rfl))))))) (pss_one (ps_raiseK (K := K) rfl rfl (takes_of rfl rfl rfl rfl) (T.says.fact 91 rfl) (T.glo 3) (by rfl))) pss_nil)
        (pss_cons (ps_if (PW.pt (pw_or (pt_not (pt_val (pe_fn (takes_of rfl rfl rfl rfl) c_is_whole (hr.mono (by decide)) (by rfl) (pa_cons (pv 2) pa_nil)))) (pw_or1 (pt_not (pt_chain op_le op_le (pe_num (T.num 73) (by rfl)) (pv 2) (pe_num (T.num 74) (by rfl))))))) (pss_one (ps_raiseK (K := K) rfl rfl (takes_of rfl rfl rfl rfl) (T.says.fact 91 rfl) (T.glo 3) (by rfl))) pss_nil)
        (pss_cons (ps_fldC (T.cls 119) (T.noat 125) (pv 0) (pe_mk (K := K) rfl (takes_of rfl rfl rfl rfl) c_Memory___init__ (hr.mono (by decide)) (by rfl) (pa_cons (pe_op op_gAdd (pv 1) (pe_op op_gMul pe_int (pv 2))) pa_nil)))
        (pss_cons (ps_fldC (T.cls 119) (T.noat 126) (pv 0) (pe_mk (K := K) rfl (takes_of rfl rfl rfl rfl) c_Space___init__ (hr.mono (by decide)) (by rfl) (pa_cons pe_int (pa_cons (pv 1) pa_nil))))
        (pss_cons (ps_fldC (T.cls 119) (T.noat 127) (pv 0) (pe_mk (K := K) rfl (takes_of rfl rfl rfl rfl) c_Space___init__ (hr.mono (by decide)) (by rfl) (pa_cons (pv 1) (pa_cons (pe_op op_gAdd (pv 1) (pv 2)) pa_nil))))
        (pss_one (ps_fldC (T.cls 119) (T.noat 128) (pv 0) (pe_mk (K := K) rfl (takes_of rfl rfl rfl rfl) c_Space___init__ (hr.mono (by decide)) (by rfl) (pa_cons (pe_op op_gAdd (pv 1) (pv 2)) (pa_cons (pe_op op_gAdd (pv 1) (pe_op op_gMul pe_int (pv 2))) pa_nil)))))))))), ?rd⟩)
  case len => first | exact len_Areas___init__ h | (repeat (first | (obtain ⟨rfl, _⟩ := h; rfl; done) | obtain ⟨_, h⟩ := h))
  case rd =>
    obtain ⟨a, dx, v, z, rfl, HA, tv, tz, h⟩ := h
    walk_at "w2"
    rcases tv with ⟨n, rfl⟩ | o
    · walk_at "w2"
      rw [oldV_int] at h
      split
      · split
        · rw [if_neg (by omega)] at h
          exact h
        · rw [if_pos (by omega)] at h
          dsimp only at h
          rcases tz with ⟨k, rfl⟩ | o
          · walk_at "w2"
            rw [youngV_int] at h
            split
            · split
              · rw [if_neg (by omega)] at h
                exact h
              · rw [if_pos (by omega)] at h
                obtain ⟨n, rfl⟩ := Int.eq_ofNat_of_zero_le (show 0 ≤ n by omega)
                obtain ⟨k, rfl⟩ := Int.eq_ofNat_of_zero_le (show 0 ≤ k by omega)
                rw [Int.toNat_natCast, Int.toNat_natCast] at h
                simp only [show (n : Int) + 2 * (k : Int) = ((n + 2 * k : Nat) : Int) from by omega, show (n : Int) + (k : Int) = ((n + k : Nat) : Int) from by omega]
                intro m mx nm nmx nem
                refine ⟨m, mx, _, rfl, upd_same, .inl ⟨_, rfl⟩, ?_⟩
                rw [sizeV_int, if_pos ⟨by omega, by omega⟩, Int.toNat_natCast]
                intro l H2 nl M1 k1
                have s1 := same_init nm nmx nem k1
                have ma : m ≠ a := (ne_of_none HA nm).symm
                have la : l ≠ a := ne_of M1.ls (s1 _ _ HA) (by intro z; cases z)
                refine ⟨rfl, a, dx, _, rfl, s1 _ _ HA, by decide, ?_⟩
                rw [pi_Areas_memory]
                have k3 : ∀ {o : HO} {c x}, c ≠ a → H2 c = some x → upd H2 a o c = some x := fun h g => by rw [upd_ne h]; exact g
                have a3 : upd H2 a (.ins (He.ga K "Areas") dx [(("memory" : Str), V.ref m)]) a = some (.ins (He.ga K "Areas") dx [(("memory" : Str), V.ref m)]) := upd_same
                have k3 := @k3 (.ins (He.ga K "Areas") dx [(("memory" : Str), V.ref m)])
                generalize upd H2 a (.ins (He.ga K "Areas") dx [(("memory" : Str), V.ref m)]) = H3 at a3 k3 ⊢
                intro o ox no nox noe
                have s4 := same_mk2 (o1 := .ins (He.ga K "Space") ox []) (o2 := SpV K ox 0 n 0) no nox
                have so : upd (upd (upd H3 ox (.own o)) o (.ins (He.ga K "Space") ox [])) o (SpV K ox 0 n 0) o = some (SpV K ox 0 n 0) := upd_same
                have oa : o ≠ a := (ne_of_none a3 no).symm
                refine ⟨o, ox, 0, n, rfl, upd_same, rfl, a, dx, _, rfl, s4 _ _ a3, by show 1 < 1000; decide, ?_⟩
                generalize upd (upd (upd H3 ox (.own o)) o (.ins (He.ga K "Space") ox [])) o (SpV K ox 0 n 0) = H4 at s4 so ⊢
                rw [pi_Areas_old]
                have k5 : ∀ {c x}, c ≠ a → H4 c = some x → upd H4 a (.ins (He.ga K "Areas") dx [(("memory" : Str), V.ref m), ("old", V.ref o)]) c = some x := fun h g => by rw [upd_ne h]; exact g
                have a5 : upd H4 a (.ins (He.ga K "Areas") dx [(("memory" : Str), V.ref m), ("old", V.ref o)]) a = some (.ins (He.ga K "Areas") dx [(("memory" : Str), V.ref m), ("old", V.ref o)]) := upd_same
                generalize upd H4 a (.ins (He.ga K "Areas") dx [(("memory" : Str), V.ref m), ("old", V.ref o)]) = H5 at k5 a5 ⊢
                intro p px np npx npe
                have s6 := same_mk2 (o1 := .ins (He.ga K "Space") px []) (o2 := SpV K px n (n + k) n) np npx
                have sp : upd (upd (upd H5 px (.own p)) p (.ins (He.ga K "Space") px [])) p (SpV K px n (n + k) n) p = some (SpV K px n (n + k) n) := upd_same
                have pa : p ≠ a := (ne_of_none a5 np).symm
                refine ⟨p, px, n, n + k, rfl, upd_same, rfl, ?_⟩
                first | refine ⟨.inl ⟨by decide, by decide⟩, ?_⟩ | skip
                refine ⟨a, dx, _, rfl, s6 _ _ a5, by show 2 < 1000; decide, ?_⟩
                generalize upd (upd (upd H5 px (.own p)) p (.ins (He.ga K "Space") px [])) p (SpV K px n (n + k) n) = H6 at s6 sp ⊢
                rw [pi_Areas_young]
                have k7 : ∀ {c x}, c ≠ a → H6 c = some x → upd H6 a (.ins (He.ga K "Areas") dx [(("memory" : Str), V.ref m), ("old", V.ref o), ("young", V.ref p)]) c = some x := fun h g => by rw [upd_ne h]; exact g
                have a7 : upd H6 a (.ins (He.ga K "Areas") dx [(("memory" : Str), V.ref m), ("old", V.ref o), ("young", V.ref p)]) a = some (.ins (He.ga K "Areas") dx [(("memory" : Str), V.ref m), ("old", V.ref o), ("young", V.ref p)]) := upd_same
                generalize upd H6 a (.ins (He.ga K "Areas") dx [(("memory" : Str), V.ref m), ("old", V.ref o), ("young", V.ref p)]) = H7 at k7 a7 ⊢
                walk_at "w2"
                first | refine ⟨.inl ⟨by decide, by decide⟩, ?_⟩ | skip
                intro q qx nq nqx nqe
                have s8 := same_mk2 (o1 := .ins (He.ga K "Space") qx []) (o2 := SpV K qx (n + k) (n + 2 * k) (n + k)) nq nqx
                have sq : upd (upd (upd H7 qx (.own q)) q (.ins (He.ga K "Space") qx [])) q (SpV K qx (n + k) (n + 2 * k) (n + k)) q = some (SpV K qx (n + k) (n + 2 * k) (n + k)) := upd_same
                have qa : q ≠ a := (ne_of_none a7 nq).symm
                refine ⟨q, qx, n + k, n + 2 * k, rfl, upd_same, rfl, a, dx, _, rfl, s8 _ _ a7, by show 3 < 1000; decide, ?_⟩
                generalize upd (upd (upd H7 qx (.own q)) q (.ins (He.ga K "Space") qx [])) q (SpV K qx (n + k) (n + 2 * k) (n + k)) = H8 at s8 sq ⊢
                rw [pi_Areas_spare]
                have k9 : ∀ {c x}, c ≠ a → H8 c = some x → upd H8 a (.ins (He.ga K "Areas") dx (F_Areas (.ref m) (.ref o) (.ref p) (.ref q))) c = some x := fun h g => by rw [upd_ne h]; exact g
                have k69 : ∀ {c x}, c ≠ a → H6 c = some x → upd H8 a (.ins (He.ga K "Areas") dx (F_Areas (.ref m) (.ref o) (.ref p) (.ref q))) c = some x := fun h g => k9 h (s8 _ _ (k7 h g))
                have k49 : ∀ {c x}, c ≠ a → H4 c = some x → upd H8 a (.ins (He.ga K "Areas") dx (F_Areas (.ref m) (.ref o) (.ref p) (.ref q))) c = some x := fun h g => k69 h (s6 _ _ (k5 h g))
                have k29 : ∀ {c x}, c ≠ a → H2 c = some x → upd H8 a (.ins (He.ga K "Areas") dx (F_Areas (.ref m) (.ref o) (.ref p) (.ref q))) c = some x := fun h g => k49 h (s4 _ _ (k3 h g))
                have nn : ∀ {Hi : Hp} {c : Addr}, (∀ {c x}, c ≠ a → H c = some x → Hi c = some x) → c ≠ a → Hi c = none → H c = none := fun {Hi c} k h g => by
                  cases e : H c with
                  | none => rfl
                  | some x =>
                    rw [k h e] at g
                    cases g
                refine h ⟨a, dx, m, mx, l, o, ox, p, px, q, qx⟩ _ rfl { ob := upd_same, me := ⟨k29 ma M1.ob, k29 la M1.ls, M1.sz⟩, vw := Vw.rep, ln := List.length_replicate, so := k49 oa so, sp := k69 pa sp, sq := k9 qa sq, nop := ?_, noq := ?_, npq := ?_, lo := Nat.zero_le _, l1 := ⟨Nat.le_refl _, Nat.le_add_right _ _⟩, l2 := ⟨Nat.le_refl _, by show n + k ≤ n + 2 * k; omega⟩, gn := ⟨by show 4 ≤ n; omega, by show n ≤ 2000; omega⟩, gk := ⟨by show 2 ≤ k; omega, by show k ≤ 500; omega⟩ } (none_of (same_mk nm nmx nem) nl) (nn (fun h g => k3 h (s1 _ _ g)) oa no) (nn (fun h g => k5 h (s4 _ _ (k3 h (s1 _ _ g)))) pa np) (nn (fun h g => k7 h (s6 _ _ (k5 h (s4 _ _ (k3 h (s1 _ _ g)))))) qa nq) nm fun c x h g => k29 h (s1 _ _ g)
                · exact ne_of_none (k5 oa so) np
                · exact ne_of_none (k7 oa (s6 _ _ (k5 oa so))) nq
                · exact ne_of_none (k7 pa sp) nq
            · rw [if_neg (by omega)] at h
              exact h
          · rw [odd_whole o]
            rw [youngV_odd o] at h
            walk_at "w2"
            exact h
      · rw [if_neg (by omega)] at h
        exact h
    · rw [odd_whole o]
      rw [oldV_odd o] at h
      walk_at "w2"
      exact h
theorem f_Areas_flip (T : Tx K mg) : Mt P w K mg base 1 "Areas" "flip" ["self"] (sp_Areas_flip K) := by
  refine T.mkMt 36 121 119 (d := d_Areas_flip) (N := ["self", "kept"]) (k := 0) rfl rfl rfl rfl rfl rfl sc_Areas_flip (fun _ _ _ _ _ _ us hl => match us, hl with | [_], _ => rfl) (fun vs H Q E h => ?len) (fun cdv A outer s H vs Q E hr h => ⟨_,
      (pss_cons (ps_set (i := 1) sc_Areas_flip.nd rfl (Or.inl rfl) (pe_fldC (T.cls 119) (T.noat 127) (pv 0)))
        (pss_cons (ps_fldC (T.cls 119) (T.noat 127) (pv 0) (pe_fldC (T.cls 119) (T.noat 128) (pv 0)))
        (pss_one (ps_fldC (T.cls 119) (T.noat 128) (pv 0) (pv 1))))), ?rd⟩)
  case len => first | exact len_Areas_flip h | (repeat (first | (obtain ⟨rfl, _⟩ := h; rfl; done) | obtain ⟨_, h⟩ := h))
  case rd =>
    obtain ⟨A, S, rfl, I, q⟩ := h
    walk_at "w2"
    refine ⟨_, fldIs I.ob, _, fldIs I.ob, A.a, A.dx, _, rfl, I.ob, by show 4 < 1000; decide, ?_⟩
    rw [pf_Areas_young]
    refine ⟨A.a, A.dx, _, rfl, upd_same, by show 4 < 1000; decide, ?_⟩
    rw [pf_Areas_spare, upd_upd]
    exact q _ I.flip fun b o h g => by rw [upd_ne h]; exact g
theorem f_Areas_area_of (T : Tx K mg) : Mt P w K mg base 2 "Areas" "area_of" ["self", "at"] (sp_Areas_area_of K) := by
  have c_Space_has := f_Space_has (P := P) (w := w) (base := base) T
  refine T.mkMt 37 122 119 (d := d_Areas_area_of) (N := ["self", "at"]) (k := 1) rfl rfl rfl rfl rfl rfl sc_Areas_area_of (fun _ _ _ _ _ _ us hl => match us, hl with | [_, _], _ => rfl) (fun vs H Q E h => ?len) (fun cdv A outer s H vs Q E hr h => ⟨_,
      (pss_cons (ps_if (pt_val (pe_mt (K := K) rfl (takes_of rfl rfl rfl rfl) (pe_fldC (T.cls 119) (T.noat 126) (pv 0)) c_Space_has (hr.mono (by decide)) (pa_cons (pv 1) pa_nil))) (pss_one (ps_ret pe_str)) pss_nil)
        (pss_cons (ps_if (pt_val (pe_mt (K := K) rfl (takes_of rfl rfl rfl rfl) (pe_fldC (T.cls 119) (T.noat 127) (pv 0)) c_Space_has (hr.mono (by decide)) (pa_cons (pv 1) pa_nil))) (pss_one (ps_ret pe_str)) pss_nil)
        (pss_one (ps_ret pe_non)))), ?rd⟩)
  case len => first | exact len_Areas_area_of h | (repeat (first | (obtain ⟨rfl, _⟩ := h; rfl; done) | obtain ⟨_, h⟩ := h))
  case rd =>
    obtain ⟨A, S, n, rfl, I, h⟩ := h
    unfold areaW at h
    walk_at "w2"
    refine ⟨_, fldIs I.ob, recv I.so, A.o, A.ox, _, _, _, n, rfl, I.so, ?_⟩
    walk_at "w2"
    split
    · rw [if_pos (by assumption)] at h
      exact h
    · rw [if_neg (by assumption)] at h
      have hf := I.half S.fl
      refine ⟨_, fldIs I.ob, recv hf, _, _, _, _, _, n, rfl, hf, ?_⟩
      walk_at "w2"
      ((repeat' split) <;> (repeat' split at h) <;> first | exact h | (exfalso; omega))
theorem f_Areas_lay_young (T : Tx K mg) : Mt P w K mg base 5 "Areas" "lay_young" ["self", "slots"] (sp_Areas_lay_young K) := by
  have c_need_slots := f_need_slots (P := P) (w := w) (base := base) T
  have c_Space_take := f_Space_take (P := P) (w := w) (base := base) T
  have c_lay := f_lay (P := P) (w := w) (base := base) T
  refine T.mkMt 38 123 119 (d := d_Areas_lay_young) (N := ["self", "slots", "at"]) (k := 4) rfl rfl rfl rfl rfl rfl sc_Areas_lay_young (fun _ _ _ _ _ _ us hl => match us, hl with | [_, _], _ => rfl) (fun vs H Q E h => ?len) (fun cdv A outer s H vs Q E hr h => ⟨_,
      (pss_cons (ps_expr (pe_fn (takes_of rfl rfl rfl rfl) c_need_slots (hr.mono (by decide)) (by rfl) (pa_cons (pv 1) pa_nil)))
        (pss_cons (ps_set (i := 2) sc_Areas_lay_young.nd rfl (Or.inl rfl) (pe_mt (K := K) rfl (takes_of rfl rfl rfl rfl) (pe_fldC (T.cls 119) (T.noat 127) (pv 0)) c_Space_take (hr.mono (by decide)) (pa_cons (pe_op op_gAdd (pv 1) pe_int) pa_nil)))
        (pss_cons (ps_expr (pe_fn (takes_of rfl rfl rfl rfl) c_lay (hr.mono (by decide)) (by rfl) (pa_cons (pe_fldC (T.cls 119) (T.noat 125) (pv 0)) (pa_cons (pv 2) (pa_cons (pv 1) pa_nil)))))
        (pss_one (ps_ret (pv 2)))))), ?rd⟩)
  case len => first | exact len_Areas_lay_young h | (repeat (first | (obtain ⟨rfl, _⟩ := h; rfl; done) | obtain ⟨_, h⟩ := h))
  case rd =>
    obtain ⟨A, S, v, rfl, I, th, h⟩ := h
    have hf := I.half S.fl
    have hl := I.lt S.fl
    walk_at "w2"
    refine ⟨v, rfl, th, ?_⟩
    unfold laidW at h
    cases es : slotsW v with
    | none =>
      rw [es] at h
      exact h
    | some s =>
      rw [es] at h
      obtain ⟨rfl, s8⟩ := slotsW_some es
      dsimp only at h ⊢
      refine ⟨_, fldIs I.ob, recv hf, _, _, _, _, _, _, rfl, hf, .inl ⟨_, rfl⟩, ?_⟩
      rw [takeW_int, if_neg (by omega)]
      by_cases c' : s + 1 ≤ endA S false - topA S false
      · have c : s + 1 ≤ S.b S.fl + S.k - S.t S.fl := c'
        rw [if_pos c'] at h
        have et : ((s : Int) + 1).toNat = s + 1 := by omega
        rw [if_neg (by omega), et]
        have I2 := I.topHalf (f := S.fl) (t := S.t S.fl + (s + 1)) (by omega) (by omega)
        dsimp only
        refine ⟨_, fldIs I2.ob, A.m, A.mx, A.l, _, _, _, rfl, I2.me, .inl ⟨_, rfl⟩, .inl ⟨_, rfl⟩, ?_⟩
        have ew : (S.put S.fl (S.t S.fl + (s + 1))).ws = S.ws := by unfold ArS.put; split <;> rfl
        have hlen := I.ln
        have hb : S.b S.fl + S.k ≤ S.n + 2 * S.k := by unfold ArS.b; split <;> omega
        rw [slotsW_int, if_pos ⟨by omega, by omega⟩, Int.toNat_natCast]
        dsimp only
        rw [ew, placeOf_int, if_pos ⟨by omega, by omega⟩, Int.toNat_natCast]
        dsimp only
        intro H' M k
        refine h H' (I2.words M k (layT_vw I.vw s8) (by rw [layT_len, ew])) fun b o h1 h2 g => k b o h1 (by rw [upd_ne h2]; exact g)
      · have c : ¬ s + 1 ≤ S.b S.fl + S.k - S.t S.fl := c'
        rw [if_neg c'] at h
        rw [if_pos (by omega)]
        exact h
theorem f_Areas_lay_old (T : Tx K mg) : Mt P w K mg base 7 "Areas" "lay_old" ["self", "slots"] (sp_Areas_lay_old K) := by
  have c_need_slots := f_need_slots (P := P) (w := w) (base := base) T
  have c_Space_take := f_Space_take (P := P) (w := w) (base := base) T
  have c_lay := f_lay (P := P) (w := w) (base := base) T
  have c_aged := f_aged (P := P) (w := w) (base := base) T
  refine T.mkMt 39 124 119 (d := d_Areas_lay_old) (N := ["self", "slots", "at"]) (k := 6) rfl rfl rfl rfl rfl rfl sc_Areas_lay_old (fun _ _ _ _ _ _ us hl => match us, hl with | [_, _], _ => rfl) (fun vs H Q E h => ?len) (fun cdv A outer s H vs Q E hr h => ⟨_,
      (pss_cons (ps_expr (pe_fn (takes_of rfl rfl rfl rfl) c_need_slots (hr.mono (by decide)) (by rfl) (pa_cons (pv 1) pa_nil)))
        (pss_cons (ps_set (i := 2) sc_Areas_lay_old.nd rfl (Or.inl rfl) (pe_mt (K := K) rfl (takes_of rfl rfl rfl rfl) (pe_fldC (T.cls 119) (T.noat 126) (pv 0)) c_Space_take (hr.mono (by decide)) (pa_cons (pe_op op_gAdd (pv 1) pe_int) pa_nil)))
        (pss_cons (ps_expr (pe_fn (takes_of rfl rfl rfl rfl) c_lay (hr.mono (by decide)) (by rfl) (pa_cons (pe_fldC (T.cls 119) (T.noat 125) (pv 0)) (pa_cons (pv 2) (pa_cons (pv 1) pa_nil)))))
        (pss_cons (ps_expr (pe_fn (takes_of rfl rfl rfl rfl) c_aged (hr.mono (by decide)) (by rfl) (pa_cons (pe_fldC (T.cls 119) (T.noat 125) (pv 0)) (pa_cons (pv 2) (pa_cons (pe_num (T.num 69) (by rfl)) pa_nil)))))
        (pss_one (ps_ret (pv 2))))))), ?rd⟩)
  case len => first | exact len_Areas_lay_old h | (repeat (first | (obtain ⟨rfl, _⟩ := h; rfl; done) | obtain ⟨_, h⟩ := h))
  case rd =>
    obtain ⟨A, S, v, rfl, I, th, h⟩ := h
    have hl := I.lo
    walk_at "w2"
    refine ⟨v, rfl, th, ?_⟩
    unfold laidW at h
    cases es : slotsW v with
    | none =>
      rw [es] at h
      exact h
    | some s =>
      rw [es] at h
      obtain ⟨rfl, s8⟩ := slotsW_some es
      dsimp only at h ⊢
      refine ⟨_, fldIs I.ob, recv I.so, _, _, _, _, _, _, rfl, I.so, .inl ⟨_, rfl⟩, ?_⟩
      rw [takeW_int, if_neg (by omega)]
      by_cases c' : s + 1 ≤ endA S true - topA S true
      · have c : s + 1 ≤ S.n - S.ot := c'
        rw [if_pos c'] at h
        have et : ((s : Int) + 1).toNat = s + 1 := by omega
        rw [if_neg (by omega), et]
        have I2 := I.topOld (t := S.ot + (s + 1)) (by omega)
        have hlen := I.ln
        have hz := I.me.sz
        dsimp only
        refine ⟨_, fldIs I2.ob, A.m, A.mx, A.l, _, _, _, rfl, I2.me, .inl ⟨_, rfl⟩, .inl ⟨_, rfl⟩, ?_⟩
        rw [slotsW_int, if_pos ⟨by omega, by omega⟩, Int.toNat_natCast]
        dsimp only
        rw [placeOf_int, if_pos ⟨by omega, by omega⟩, Int.toNat_natCast]
        dsimp only
        intro H' M k
        have I3 := I2.words M k (layT_vw I.vw s8) layT_len
        walk_at "w2"
        refine ⟨_, fldIs I3.ob, A.m, A.mx, A.l, _, _, _, rfl, I3.me, I3.vw, .inl ⟨_, rfl⟩, .inl ⟨_, rfl⟩, ?_⟩
        have eH : headW (layT S.ws S.ot s s) (.int (S.ot : Int)) = .ok S.ot (4 * s) := by
          unfold headW
          rw [layT_len, placeOf_int, if_pos ⟨by omega, by omega⟩, Int.toNat_natCast]
          dsimp only
          rw [layT_at (by omega), head_8 s8]
        rw [eH, ageW_int, if_pos (by decide)]
        dsimp only
        have e4 : 4 * (4 * s / 4) + (2 : Int).toNat = 4 * s + 2 := by
          show 4 * (4 * s / 4) + 2 = 4 * s + 2
          omega
        rw [e4]
        have M3 := I3.me.put ((layT S.ws S.ot s s).set S.ot (2 * ((4 * s + 2 : Nat) : Int))) (List.length_set ..)
        walk_at "w2"
        refine h _ (I3.words M3 (fun b o h g => by rw [upd_ne h]; exact g) (I3.vw.set (by rw [word_num (by omega)]; rfl)) (List.length_set ..)) fun b o h1 h2 g => by rw [upd_ne h1]; exact k b o h1 (by rw [upd_ne h2]; exact g)
      · have c : ¬ s + 1 ≤ S.n - S.ot := c'
        rw [if_neg c'] at h
        rw [if_pos (by omega)]
        exact h
end

/-! ## books -/
def bk (ps : List Int) : List (Key × V) := ps.map fun i => (.inl i, .bl true)
def addP (ps : List Int) (i : Int) : List Int := if i ∈ ps then ps else ps ++ [i]
def delP (ps : List Int) (i : Int) : List Int := ps.filter fun j => decide (j ≠ i)
theorem val_bk {ps : List Int} {i : Int} : valV (bk ps) (.inl i : Key) = if i ∈ ps then some (.bl true) else none := by
  induction ps with
  | nil => rfl
  | cons j r ih =>
    by_cases e : j = i
    · subst e
      rw [if_pos (List.mem_cons_self)]
      exact valV_pos rfl
    · have e2 : ¬ ((.inl j : Key) = .inl i) := fun z => e (Sum.inl.inj z)
      refine (valV_neg (p := ((.inl j : Key), V.bl true)) (r := bk r) e2).trans (ih.trans ?_)
      by_cases c : i ∈ r
      · rw [if_pos c, if_pos (List.mem_cons_of_mem _ c)]
      · rw [if_neg c, if_neg fun z => (List.mem_cons.mp z).elim (fun q => e q.symm) c]
theorem put_bk {ps : List Int} {i : Int} : putK (bk ps) (.inl i : Key) (.bl true) = bk (addP ps i) := by
  unfold putK addP
  rw [valV_any, val_bk]
  by_cases c : i ∈ ps
  · rw [if_pos c, if_pos c, if_pos (show (some (V.bl true)).isSome = true from rfl)]
    unfold bk
    rw [List.map_map]
    refine List.map_congr_left fun j _ => ?_
    show (if (.inl j : Key) = .inl i then ((.inl j : Key), V.bl true) else ((.inl j : Key), V.bl true)) = _
    rw [ite_self]
  · rw [if_neg c, if_neg c, if_neg (by decide)]
    unfold bk
    rw [List.map_append]
    rfl
theorem drop_bk {ps : List Int} {i : Int} : dropK (bk ps) (.inl i : Key) = bk (delP ps i) := by
  unfold dropK delP bk
  rw [List.filter_map]
  congr 1
  refine List.filter_congr fun j _ => ?_
  show decide ((.inl j : Key) ≠ .inl i) = decide (j ≠ i)
  by_cases e : j = i
  · subst e
    rw [decide_eq_false (by simp), decide_eq_false (by simp)]
  · have e2 : (.inl j : Key) ≠ .inl i := fun z => e (Sum.inl.inj z)
    rw [decide_eq_true e2, decide_eq_true e]
theorem key_bk {ps : List Int} : (bk ps).map (fun kv => kV kv.1) = ps.map V.int := by
  unfold bk
  rw [List.map_map]
  rfl
theorem mem_addP {ps : List Int} {i j : Int} : j ∈ addP ps i ↔ j ∈ ps ∨ j = i := by
  unfold addP
  split
  · rename_i c
    exact ⟨.inl, fun h => h.elim id fun e => e ▸ c⟩
  · rw [List.mem_append, List.mem_singleton]
theorem nd_addP {ps : List Int} {i : Int} (h : ps.Nodup) : (addP ps i).Nodup := by
  unfold addP
  split
  · exact h
  · rename_i c
    refine List.nodup_append.mpr ⟨h, by simp, fun a ha b hb => ?_⟩
    rw [List.mem_singleton] at hb
    subst hb
    exact fun e => c (e ▸ ha)
theorem len_addP {ps : List Int} {i : Int} : (addP ps i).length ≤ ps.length + 1 := by
  unfold addP
  split
  · omega
  · rw [List.length_append]
    show ps.length + 1 ≤ ps.length + 1
    omega
theorem mem_delP {ps : List Int} {i j : Int} : j ∈ delP ps i ↔ j ∈ ps ∧ j ≠ i := by
  unfold delP
  rw [List.mem_filter, decide_eq_true_eq]
theorem nd_delP {ps : List Int} {i : Int} (h : ps.Nodup) : (delP ps i).Nodup := List.Pairwise.filter _ h
theorem len_delP {ps : List Int} {i : Int} : (delP ps i).length ≤ ps.length := List.length_filter_le ..
theorem sort_one {a b c d : List Int} (na : a.Nodup) (nb : b.Nodup) (m : ∀ i, i ∈ a ↔ i ∈ b) (ca : c.Perm a) (db : d.Perm b) (pc : c.Pairwise (· ≤ ·)) (pd : d.Pairwise (· ≤ ·)) : c = d :=
  List.Perm.eq_of_pairwise (fun _ _ _ _ h1 h2 => Int.le_antisymm h1 h2) pc pd (ca.trans (((List.perm_ext_iff_of_nodup na nb).mpr m).trans db.symm))
structure BookO (K : PySem.W.Frag) (H : Hp) (b dx d : Addr) (ps : List Int) : Prop where
  ob : H b = some (.ins (He.ga K "Book") dx (F_Book (.ref d)))
  ds : H d = some (.dK (bk ps))
  nd : ps.Nodup
theorem BookO.same {K H H' b dx d ps} (h : BookO K H b dx d ps) (s : Same H H') : BookO K H' b dx d ps := ⟨s _ _ h.ob, s _ _ h.ds, h.nd⟩
theorem BookO.ne {K H b dx d ps} (h : BookO K H b dx d ps) : b ≠ d := ne_of h.ob h.ds (by intro z; cases z)
theorem BookO.put {K H b dx d ps} (h : BookO K H b dx d ps) {qs : List Int} (n : qs.Nodup) : BookO K (upd H d (.dK (bk qs))) b dx d qs := ⟨by rw [upd_ne h.ne]; exact h.ob, upd_same, n⟩
def sp_Book___init__ (K : PySem.W.Frag) : Sp := fun vs H Q _ => ∃ b dx, vs = [.ref b] ∧ H b = some (.ins (He.ga K "Book") dx []) ∧ ∀ d H', H d = none → BookO K H' b dx d [] → (∀ c o, c ≠ b → H c = some o → H' c = some o) → Q .non H'
def sp_Book_write (K : PySem.W.Frag) : Sp := fun vs H Q E => ∃ b dx d ps v, vs = [.ref b, v] ∧ BookO K H b dx d ps ∧ ps.length < 1000000 ∧ Thing H v ∧ match placeW v with
  | some n => Q .non (upd H d (.dK (bk (addP ps n))))
  | none => E (Ex K "NoPlace") none H
def sp_Book_rub (K : PySem.W.Frag) : Sp := fun vs H Q E => ∃ b dx d ps v, vs = [.ref b, v] ∧ BookO K H b dx d ps ∧ Thing H v ∧ match placeW v with
  | some n => Q .non (upd H d (.dK (bk (delP ps n)))) ∧ (delP ps n = ps → Q .non H)
  | none => E (Ex K "NoPlace") none H
def sp_Book_has (K : PySem.W.Frag) : Sp := fun vs H Q E => ∃ b dx d ps v, vs = [.ref b, v] ∧ BookO K H b dx d ps ∧ Thing H v ∧ match placeW v with
  | some n => Q (.bl (decide (n ∈ ps))) H
  | none => E (Ex K "NoPlace") none H
def sp_Book_places (K : PySem.W.Frag) : Sp := fun vs H Q _ => ∃ b dx d ps, vs = [.ref b] ∧ BookO K H b dx d ps ∧ ps.length < 1000000 ∧ ∀ (ns : List Int) p H', ns.Perm ps → ns.Pairwise (· ≤ ·) → H p = none → Same H H' → H' p = some (.lst (ns.map V.int)) → Q (.ref p) H'
def sp_Book_clear (K : PySem.W.Frag) : Sp := fun vs H Q _ => ∃ b dx d ps, vs = [.ref b] ∧ BookO K H b dx d ps ∧ ∀ d' H', H d' = none → BookO K H' b dx d' [] → (∀ c o, c ≠ b → H c = some o → H' c = some o) → Q .non H'
section
variable {P : Program} {w : World} {K : PySem.W.Frag} {mg : Str → Option Value} {base : Heap}
theorem f_Book___init__ (T : Tx K mg) : Mi P w K mg base 1 "Book" ["self"] (sp_Book___init__ K) := by
  refine T.mkMi 40 130 13 (d := d_Book___init__) (N := ["self"]) (k := 0) rfl rfl rfl rfl rfl rfl sc_Book___init__ (fun _ _ _ _ _ _ us hl => match us, hl with | [_], _ => rfl) (fun vs H Q E h => ?len) (fun cdv A outer s H vs Q E hr h => ⟨_,
      (pss_one (ps_fldC (T.cls 129) (T.noat 136) (pv 0) pe_dnewK)), ?rd⟩)
  case len => obtain ⟨b, dx, rfl, _⟩ := h; rfl
  case rd =>
    obtain ⟨b, dx, rfl, M, q⟩ := h
    walk_at "w2"
    intro d hd
    have nb : b ≠ d := ne_of_none M hd
    refine ⟨b, dx, _, rfl, by rw [upd_ne nb]; exact M, by decide, ?_⟩
    rw [pi_Book_marks]
    exact q d _ hd ⟨upd_same, by rw [upd_ne nb.symm]; exact upd_same, List.nodup_nil⟩ fun c o hc e => by rw [upd_ne hc, upd_ne (ne_of_none e hd)]; exact e
theorem f_Book_write (T : Tx K mg) : Mt P w K mg base 3 "Book" "write" ["self", "place"] (sp_Book_write K) := by
  have c_place_word := f_place_word (P := P) (w := w) (base := base) T
  refine T.mkMt 41 131 129 (d := d_Book_write) (N := ["self", "place"]) (k := 2) rfl rfl rfl rfl rfl rfl sc_Book_write (fun _ _ _ _ _ _ us hl => match us, hl with | [_, _], _ => rfl) (fun vs H Q E h => ?len) (fun cdv A outer s H vs Q E hr h => ⟨_,
      (pss_cons (ps_expr (pe_fn (takes_of rfl rfl rfl rfl) c_place_word (hr.mono (by decide)) (by rfl) (pa_cons (pv 1) pa_nil)))
        (pss_one (ps_dput (hu_of hr) (pe_fldC (T.cls 129) (T.noat 136) (pv 0)) (pv 1) pe_bl rfl))), ?rd⟩)
  case len => obtain ⟨b, dx, d, ps, v, rfl, _⟩ := h; rfl
  case rd =>
    obtain ⟨b, dx, d, ps, v, rfl, B, hl, th, h⟩ := h
    walk_at "w2"
    rcases th with ⟨n, rfl⟩ | o
    · rw [x_place_word]
      rw [placeW_int] at h
      split
      · rename_i c
        rw [if_pos c] at h
        walk_at "w2"
        refine ⟨_, fldIs B.ob, ?_⟩
        walk_at "w2"
        refine ⟨_, dput_i B.ds (by unfold bk; rw [List.length_map, sizeLine_eq]; omega), ?_⟩
        rw [put_bk]
        exact h
      · rename_i c
        rw [if_neg c] at h
        exact h
    · rw [odd_place_word o]
      rw [placeW_odd o] at h
      exact h
theorem f_Book_rub (T : Tx K mg) : Mt P w K mg base 3 "Book" "rub" ["self", "place"] (sp_Book_rub K) := by
  have c_place_word := f_place_word (P := P) (w := w) (base := base) T
  refine T.mkMt 42 132 129 (d := d_Book_rub) (N := ["self", "place"]) (k := 2) rfl rfl rfl rfl rfl rfl sc_Book_rub (fun _ _ _ _ _ _ us hl => match us, hl with | [_, _], _ => rfl) (fun vs H Q E h => ?len) (fun cdv A outer s H vs Q E hr h => ⟨_,
      (pss_cons (ps_expr (pe_fn (takes_of rfl rfl rfl rfl) c_place_word (hr.mono (by decide)) (by rfl) (pa_cons (pv 1) pa_nil)))
        (pss_one (ps_expr (pe_dpop2 (pe_fldC (T.cls 129) (T.noat 136) (pv 0)) (pv 1) pe_non ⟨rfl, rfl, rfl, rfl⟩)))), ?rd⟩)
  case len => obtain ⟨b, dx, d, ps, v, rfl, _⟩ := h; rfl
  case rd =>
    obtain ⟨b, dx, d, ps, v, rfl, B, th, h⟩ := h
    walk_at "w2"
    rcases th with ⟨n, rfl⟩ | o
    · rw [x_place_word]
      rw [placeW_int] at h
      split
      · rename_i c
        rw [if_pos c] at h
        walk_at "w2"
        refine ⟨_, fldIs B.ob, ?_⟩
        walk_at "w2"
        refine ⟨isD_k B.ds, _, .inl n, B.ds, rfl, fun v e => ?_, fun e => ?_⟩
        · rw [drop_bk]
          exact h.1
        · refine h.2 ?_
          rw [val_bk] at e
          have ni : n ∉ ps := fun z => by rw [if_pos z] at e; cases e
          unfold delP
          rw [List.filter_eq_self]
          exact fun a ha => decide_eq_true fun z => ni (z ▸ ha)
      · rename_i c
        rw [if_neg c] at h
        exact h
    · rw [odd_place_word o]
      rw [placeW_odd o] at h
      exact h
theorem f_Book_has (T : Tx K mg) : Mt P w K mg base 3 "Book" "has" ["self", "place"] (sp_Book_has K) := by
  have c_place_word := f_place_word (P := P) (w := w) (base := base) T
  refine T.mkMt 43 133 129 (d := d_Book_has) (N := ["self", "place"]) (k := 2) rfl rfl rfl rfl rfl rfl sc_Book_has (fun _ _ _ _ _ _ us hl => match us, hl with | [_, _], _ => rfl) (fun vs H Q E h => ?len) (fun cdv A outer s H vs Q E hr h => ⟨_,
      (pss_cons (ps_expr (pe_fn (takes_of rfl rfl rfl rfl) c_place_word (hr.mono (by decide)) (by rfl) (pa_cons (pv 1) pa_nil)))
        (pss_one (ps_ret (pe_cmp (pc_din (hu_of hr) (pv 1) (pe_fldC (T.cls 129) (T.noat 136) (pv 0))))))), ?rd⟩)
  case len => obtain ⟨b, dx, d, ps, v, rfl, _⟩ := h; rfl
  case rd =>
    obtain ⟨b, dx, d, ps, v, rfl, B, th, h⟩ := h
    walk_at "w2"
    rcases th with ⟨n, rfl⟩ | o
    · rw [x_place_word]
      rw [placeW_int] at h
      split
      · rename_i c
        rw [if_pos c] at h
        walk_at "w2"
        refine ⟨_, fldIs B.ob, ?_⟩
        walk_at "w2"
        refine ⟨_, dget_i B.ds, ?_⟩
        rw [val_bk]
        have h : Q (V.bl (decide (n ∈ ps))) H := h
        by_cases m : n ∈ ps
        · rw [decide_eq_true m] at h
          rw [if_pos m]
          exact h
        · rw [decide_eq_false m] at h
          rw [if_neg m]
          exact h
      · rename_i c
        rw [if_neg c] at h
        exact h
    · rw [odd_place_word o]
      rw [placeW_odd o] at h
      exact h
theorem f_Book_places (T : Tx K mg) : Mt P w K mg base 1 "Book" "places" ["self"] (sp_Book_places K) := by
  refine T.mkMt 44 134 129 (d := d_Book_places) (N := ["self"]) (k := 0) rfl rfl rfl rfl rfl rfl sc_Book_places (fun _ _ _ _ _ _ us hl => match us, hl with | [_], _ => rfl) (fun vs H Q E h => ?len) (fun cdv A outer s H vs Q E hr h => ⟨_,
      (pss_one (ps_ret (pe_callB (call_sortedK (K := K) rfl) (by rfl) (T.free 80) (by decide +kernel) (pa_cons (pe_callTy (call_listD rfl) (by rfl) (T.free 85) (by decide +kernel) (pa_cons (pe_fldC (T.cls 129) (T.noat 136) (pv 0)) pa_nil)) pa_nil)))), ?rd⟩)
  case len => obtain ⟨b, dx, d, ps, rfl, _⟩ := h; rfl
  case rd =>
    obtain ⟨b, dx, d, ps, rfl, B, hl, q⟩ := h
    walk_at "w2"
    refine ⟨_, fldIs B.ob, d, _, rfl, .inl B.ds, fun p hp => ?_⟩
    rw [key_bk]
    have s1 := same_new (o := .lst (ps.map V.int)) hp
    refine ⟨p, ps, rfl, .of upd_same, fun ns r hp' hs hr => ?_⟩
    have s2 := same_new (o := .lst (ns.map V.int)) hr
    exact q ns r _ hp' hs (none_of s1 hr) (s1.trans s2) upd_same
theorem f_Book_clear (T : Tx K mg) : Mt P w K mg base 1 "Book" "clear" ["self"] (sp_Book_clear K) := by
  refine T.mkMt 45 135 129 (d := d_Book_clear) (N := ["self"]) (k := 0) rfl rfl rfl rfl rfl rfl sc_Book_clear (fun _ _ _ _ _ _ us hl => match us, hl with | [_], _ => rfl) (fun vs H Q E h => ?len) (fun cdv A outer s H vs Q E hr h => ⟨_,
      (pss_one (ps_fldC (T.cls 129) (T.noat 136) (pv 0) pe_dnewK)), ?rd⟩)
  case len => obtain ⟨b, dx, d, ps, rfl, _⟩ := h; rfl
  case rd =>
    obtain ⟨b, dx, d, ps, rfl, B, q⟩ := h
    walk_at "w2"
    intro d' hd
    have nb : b ≠ d' := ne_of_none B.ob hd
    refine ⟨b, dx, _, rfl, by rw [upd_ne nb]; exact B.ob, by show 1 < 1000; decide, ?_⟩
    rw [pf_Book_marks]
    exact q d' _ hd ⟨upd_same, by rw [upd_ne nb.symm]; exact upd_same, List.nodup_nil⟩ fun c o hc e => by rw [upd_ne hc, upd_ne (ne_of_none e hd)]; exact e
end

local macro_rules | `(tactic| walk_at "w2") => `(tactic| try simp only [↓x_var0, ↓x_varS, ↓x_c, ↓x_op, ↓x_un, ↓x_cb, ↓x_nil, ↓x_cons, ↓x_test, ↓x_b, ↓x_ex, ↓x_and, ↓x_or, ↓x_not, ↓x_andV, ↓x_orV, ↓x_notV, ↓x_tif, ↓x_chain, ↓x_menu, ↓x_menuI, ↓x_lst, ↓x_tup, ↓x_dnew, ↓x_callW, ↓x_callN, ↓x_seq, ↓x_next, ↓x_ret, ↓x_retN, ↓x_drop, ↓x_ifS, ↓x_asg, ↓x_name, ↓x_raise, ↓x_fld, ↓x_setF, ↓x_meth, ↓x_make, ↓x_sub, ↓r_min, ↓r_max, ↓x_yes, ↓x_for, ↓x_lock, ↓x_keys, ↓x_cut, ↓x_lc, ↓x_rng1, ↓x_rng2, ↓x_lst1, ↓x_itup, ↓x_rng3, ↓x_three, ↓x_lstg, ↓x_tupg, ↓x_adrS, ↓x_one, ↓x_two, ↓x_adr, ↓x_sl, ↓x_np, ↓x_pt, ↓x_int, ↓x_bm, ↓x_bm0, ↓x_consg, ↓x_nilg, ↓x_dget2, ↓x_dget1, ↓x_dgetN, ↓x_dget, ↓x_din, ↓x_dni, ↓x_dput, ↓x_dpop2, ↓r_isB, ↓r_notB, ↓x_enum, ↓x_zip, ↓x_str, ↓x_strE, ↓r_inS, ↓r_ninS, wipe, List.map_cons, List.map_nil, ↓x_isT, ↓r_isiII, ↓r_isiBB, ↓r_isiIB, ↓r_isiSS, ↓r_neNS, ↓r_neSN, ↓r_neNN, ↓r_eqNS, ↓r_eqSN, ↓r_eqNN, ↓r_eqIS, ↓r_neIS, ↓r_neSI, ↓r_neBS, ↓r_eqBB, ↓r_neBB, ↓x_start, ↓x_K, ↓x_start0, ↓r_i0, ↓r_i, ↓r_u, ↓r_addI, ↓r_addS, ↓r_mulI, ↓r_mulS, ↓r_eqI, ↓r_neI, ↓r_eqS, ↓r_neS, ↓r_absI, ↓r_intI, ↓r_intB, List.length_cons, List.length_nil, List.replicate, List.set_cons_zero, List.set_cons_succ, decide_eq_true_eq, Bool.not_eq_true', decide_eq_false_iff_not, if_true, if_false, Bool.false_eq_true, Bool.true_eq_false, ite_true, ite_false, Bool.not_true, Bool.not_false, c_div, n_ten, c_pow, not_true_eq_false, not_false_eq_true, decide_true, decide_false, true_and, and_true, and_self, true_or, or_true, Int.reduceLT, Int.reduceLE, Int.reduceMul, Int.reduceAdd, Int.reduceSub, Int.reducePow, Int.reduceNeg, Int.reduceDiv, Int.reduceMod, Nat.reducePow, Int.reduceToNat, Int.reduceEq, Int.reduceNe, Nat.reduceLT, Nat.reduceLeDiff, Nat.reduceAdd, ↓x_whole, ↓x_kind])
/-! ## weak names -/
def flatN : V → Bool
  | .non => true
  | .int _ => true
  | _ => false
theorem flatN_I {v : V} (h : flatN v = true) : flatI v = true := by cases v <;> first | rfl | cases h
structure WeakO (K : PySem.W.Frag) (H : Hp) (w dx l : Addr) (ts : List V) : Prop where
  ob : H w = some (.ins (He.ga K "Weak") dx (F_Weak (.ref l)))
  ls : H l = some (.lst ts)
theorem WeakO.same {K H H' w dx l ts} (h : WeakO K H w dx l ts) (s : Same H H') : WeakO K H' w dx l ts := ⟨s _ _ h.ob, s _ _ h.ls⟩
theorem WeakO.ne {K H w dx l ts} (h : WeakO K H w dx l ts) : w ≠ l := ne_of h.ob h.ls (by intro z; cases z)
theorem WeakO.put {K H w dx l ts} (h : WeakO K H w dx l ts) {us : List V} : WeakO K (upd H l (.lst us)) w dx l us := ⟨by rw [upd_ne h.ne]; exact h.ob, upd_same⟩
/-- the names that are there, with their places -/
def pairsOf : Nat → List V → List (List V)
  | _, [] => []
  | k, v :: r => if v = .non then pairsOf (k + 1) r else [.int (k : Int), v] :: pairsOf (k + 1) r
theorem pairsOf_snoc {ts : List V} {v : V} : ∀ k, pairsOf k (ts ++ [v]) = pairsOf k ts ++ (if v = .non then [] else [[.int ((k + ts.length : Nat) : Int), v]]) := by
  induction ts with
  | nil =>
    intro k
    show (if v = .non then pairsOf (k + 1) [] else [.int (k : Int), v] :: pairsOf (k + 1) []) = _
    split <;> rfl
  | cons t r ih =>
    intro k
    show (if t = .non then pairsOf (k + 1) (r ++ [v]) else [.int (k : Int), t] :: pairsOf (k + 1) (r ++ [v])) = (if t = .non then pairsOf (k + 1) r else [.int (k : Int), t] :: pairsOf (k + 1) r) ++ _
    rw [ih (k + 1)]
    have e : k + 1 + r.length = k + (t :: r).length := by rw [List.length_cons]; omega
    rw [e]
    split <;> rfl
theorem pairsOf_len {ts : List V} : ∀ k, (pairsOf k ts).length ≤ ts.length := by
  induction ts with
  | nil => exact fun _ => Nat.le_refl _
  | cons t r ih =>
    intro k
    show (if t = .non then pairsOf (k + 1) r else [.int (k : Int), t] :: pairsOf (k + 1) r).length ≤ r.length + 1
    have := ih (k + 1)
    split
    · omega
    · show (pairsOf (k + 1) r).length + 1 ≤ r.length + 1
      omega
theorem pairsOf_mem {ts : List V} (fl : ∀ t ∈ ts, flatN t = true) : ∀ k, ∀ xs ∈ pairsOf k ts, ∃ i n : Int, xs = [.int i, .int n] := by
  induction ts with
  | nil => exact fun k xs h => (List.not_mem_nil h).elim
  | cons t r ih =>
    intro k xs h
    have h : xs ∈ (if t = .non then pairsOf (k + 1) r else [.int (k : Int), t] :: pairsOf (k + 1) r) := h
    have ih := ih (fun t h => fl t (List.mem_cons_of_mem _ h)) (k + 1) xs
    split at h
    · exact ih h
    · rename_i c
      rcases List.mem_cons.mp h with rfl | h
      · have f := fl t (List.mem_cons_self)
        cases t with
        | int n => exact ⟨_, _, rfl⟩
        | non => exact absurd rfl c
        | _ => cases f
      · exact ih h
def sp_Weak___init__ (K : PySem.W.Frag) : Sp := fun vs H Q _ => ∃ w dx, vs = [.ref w] ∧ H w = some (.ins (He.ga K "Weak") dx []) ∧ ∀ l H', H l = none → WeakO K H' w dx l [] → (∀ c o, c ≠ w → H c = some o → H' c = some o) → Q .non H'
def sp_Weak_name (K : PySem.W.Frag) : Sp := fun vs H Q E => ∃ w dx l ts v, vs = [.ref w, v] ∧ WeakO K H w dx l ts ∧ ts.length < 1000000 ∧ Thing H v ∧ match placeW v with
  | some n => Q (.int ts.length) (upd H l (.lst (ts ++ [.int n])))
  | none => E (Ex K "NoPlace") none H
def sp_Weak_need (K : PySem.W.Frag) : Sp := fun vs H Q E => ∃ w dx l ts v, vs = [.ref w, v] ∧ WeakO K H w dx l ts ∧ Thing H v ∧ match placeOf ts.length v with
  | some _ => Q .non H
  | none => E (Ex K "NoName") none H
def sp_Weak_at (K : PySem.W.Frag) : Sp := fun vs H Q E => ∃ w dx l ts v, vs = [.ref w, v] ∧ WeakO K H w dx l ts ∧ Thing H v ∧ match placeOf ts.length v with
  | some i => Q (ts.getD i .non) H
  | none => E (Ex K "NoName") none H
def sp_Weak_need_there (K : PySem.W.Frag) : Sp := fun vs H Q E => ∃ w dx l ts v, vs = [.ref w, v] ∧ WeakO K H w dx l ts ∧ Thing H v ∧ match placeOf ts.length v with
  | some i => if ts.getD i .non = .non then E (Ex K "NoName") none H else Q .non H
  | none => E (Ex K "NoName") none H
def sp_Weak_move (K : PySem.W.Frag) : Sp := fun vs H Q E => ∃ w dx l ts v z, vs = [.ref w, v, z] ∧ WeakO K H w dx l ts ∧ Thing H v ∧ Thing H z ∧ match placeOf ts.length v with
  | some i => if ts.getD i .non = .non then E (Ex K "NoName") none H else match placeW z with
    | some n => Q .non (upd H l (.lst (ts.set i (.int n))))
    | none => E (Ex K "NoPlace") none H
  | none => E (Ex K "NoName") none H
def sp_Weak_gone (K : PySem.W.Frag) : Sp := fun vs H Q E => ∃ w dx l ts v, vs = [.ref w, v] ∧ WeakO K H w dx l ts ∧ Thing H v ∧ match placeOf ts.length v with
  | some i => if ts.getD i .non = .non then E (Ex K "NoName") none H else Q .non (upd H l (.lst (ts.set i .non)))
  | none => E (Ex K "NoName") none H
def sp_Weak_names (K : PySem.W.Frag) : Sp := fun vs H Q _ => ∃ w dx l ts, vs = [.ref w] ∧ WeakO K H w dx l ts ∧ ts.length < 1000000 ∧ (∀ t ∈ ts, flatN t = true) ∧ ∀ p rs H', H p = none → Same H H' → H' p = some (.lst rs) → TupAll H' rs (pairsOf 0 ts) → Q (.ref p) H'
section
variable {P : Program} {w : World} {K : PySem.W.Frag} {mg : Str → Option Value} {base : Heap}
theorem f_Weak___init__ (T : Tx K mg) : Mi P w K mg base 1 "Weak" ["self"] (sp_Weak___init__ K) := by
  refine T.mkMi 58 155 16 (d := d_Weak___init__) (N := ["self"]) (k := 0) rfl rfl rfl rfl rfl rfl sc_Weak___init__ (fun _ _ _ _ _ _ us hl => match us, hl with | [_], _ => rfl) (fun vs H Q E h => ?len) (fun cdv A outer s H vs Q E hr h => ⟨_,
      (pss_one (ps_fldC (T.cls 154) (T.noat 163) (pv 0) (pe_lst pa_nil))), ?rd⟩)
  case len => obtain ⟨w', dx, rfl, _⟩ := h; rfl
  case rd =>
    obtain ⟨b, dx, rfl, M, q⟩ := h
    walk_at "w2"
    refine ⟨by omega, fun d hd => ?_⟩
    have nb : b ≠ d := ne_of_none M hd
    refine ⟨b, dx, _, rfl, by rw [upd_ne nb]; exact M, by decide, ?_⟩
    rw [pi_Weak_told]
    exact q d _ hd ⟨upd_same, by rw [upd_ne nb.symm]; exact upd_same⟩ fun c o hc e => by rw [upd_ne hc, upd_ne (ne_of_none e hd)]; exact e
theorem f_Weak_name (T : Tx K mg) : Mt P w K mg base 3 "Weak" "name" ["self", "at"] (sp_Weak_name K) := by
  have c_place_word := f_place_word (P := P) (w := w) (base := base) T
  refine T.mkMt 59 156 154 (d := d_Weak_name) (N := ["self", "at"]) (k := 2) rfl rfl rfl rfl rfl rfl sc_Weak_name (fun _ _ _ _ _ _ us hl => match us, hl with | [_, _], _ => rfl) (fun vs H Q E h => ?len) (fun cdv A outer s H vs Q E hr h => ⟨_,
      (pss_cons (ps_expr (pe_fn (takes_of rfl rfl rfl rfl) c_place_word (hr.mono (by decide)) (by rfl) (pa_cons (pv 1) pa_nil)))
        (pss_cons (ps_expr (pe_bm PySem.F.plainAttrs_list PySem.F.slot_list_append PySem.F.type_list_append mt_append (pe_fldC (T.cls 154) (T.noat 163) (pv 0)) (pa_cons (pv 1) pa_nil)))
        (pss_one (ps_ret (pe_op op_sub (pe_callB (call_lenK (K := K) rfl) (by rfl) (T.free 77) PySem.boot_len (pa_cons (pe_fldC (T.cls 154) (T.noat 163) (pv 0)) pa_nil)) pe_int))))), ?rd⟩)
  case len => obtain ⟨w', dx, l, ts, v, rfl, _⟩ := h; rfl
  case rd =>
    obtain ⟨b, dx, l, ts, v, rfl, B, hl, th, h⟩ := h
    walk_at "w2"
    rcases th with ⟨n, rfl⟩ | o
    · rw [x_place_word]
      rw [placeW_int] at h
      split
      · rename_i c
        rw [if_pos c] at h
        walk_at "w2"
        refine ⟨_, fldIs B.ob, r_app B.ls (by rw [sizeLine_eq]; omega) ?_⟩
        walk_at "w2"
        have B2 := B.put (us := ts ++ [.int n])
        refine ⟨_, fldIs B2.ob, r_lenL B2.ls ?_⟩
        walk_at "w2"
        have e : (((ts ++ [V.int n]).length : Nat) : Int) - 1 = (ts.length : Int) := by rw [List.length_append]; show ((ts.length + 1 : Nat) : Int) - 1 = _; omega
        rw [e]
        exact h
      · rename_i c
        rw [if_neg c] at h
        exact h
    · rw [odd_place_word o]
      rw [placeW_odd o] at h
      exact h
theorem f_Weak_need (T : Tx K mg) : Mt P w K mg base 2 "Weak" "need" ["self", "name"] (sp_Weak_need K) := by
  have c_is_whole := f_is_whole (P := P) (w := w) (base := base) T
  refine T.mkMt 60 157 154 (d := d_Weak_need) (N := ["self", "name"]) (k := 1) rfl rfl rfl rfl rfl rfl sc_Weak_need (fun _ _ _ _ _ _ us hl => match us, hl with | [_, _], _ => rfl) (fun vs H Q E h => ?len) (fun cdv A outer s H vs Q E hr h => ⟨_,
      (pss_one (ps_if (PW.pt (pw_or (pt_not (pt_val (pe_fn (takes_of rfl rfl rfl rfl) c_is_whole (hr.mono (by decide)) (by rfl) (pa_cons (pv 1) pa_nil)))) (pw_or1 (pt_not (pt_chain op_le op_lt pe_int (pv 1) (pe_callB (call_lenK (K := K) rfl) (by rfl) (T.free 77) PySem.boot_len (pa_cons (pe_fldC (T.cls 154) (T.noat 163) (pv 0)) pa_nil))))))) (pss_one (ps_raiseK (K := K) rfl rfl (takes_of rfl rfl rfl rfl) (T.says.fact 97 rfl) (T.glo 9) (by rfl))) pss_nil)), ?rd⟩)
  case len => obtain ⟨w', dx, l, ts, v, rfl, _⟩ := h; rfl
  case rd =>
    obtain ⟨b, dx, l, ts, v, rfl, B, th, h⟩ := h
    walk_at "w2"
    rcases th with ⟨n, rfl⟩ | o
    · walk_at "w2"
      rw [placeOf_int] at h
      split
      · refine ⟨_, fldIs B.ob, r_lenL B.ls ?_⟩
        walk_at "w2"
        split
        · rw [if_neg (by omega)] at h
          exact h
        · rw [if_pos (by omega)] at h
          exact h
      · rw [if_neg (by omega)] at h
        exact h
    · rw [odd_whole o]
      rw [placeOf_odd o] at h
      walk_at "w2"
      exact h
theorem f_Weak_at (T : Tx K mg) : Mt P w K mg base 3 "Weak" "at" ["self", "name"] (sp_Weak_at K) := by
  have c_Weak_need := f_Weak_need (P := P) (w := w) (base := base) T
  refine T.mkMt 61 158 154 (d := d_Weak_at) (N := ["self", "name"]) (k := 2) rfl rfl rfl rfl rfl rfl sc_Weak_at (fun _ _ _ _ _ _ us hl => match us, hl with | [_, _], _ => rfl) (fun vs H Q E h => ?len) (fun cdv A outer s H vs Q E hr h => ⟨_,
      (pss_cons (ps_expr (pe_mt (K := K) rfl (takes_of rfl rfl rfl rfl) (pv 0) c_Weak_need (hr.mono (by decide)) (pa_cons (pv 1) pa_nil)))
        (pss_one (ps_ret (pe_ix (ix_seqK (K := K) rfl) (pe_fldC (T.cls 154) (T.noat 163) (pv 0)) (pv 1) (fun _ _ => rfl))))), ?rd⟩)
  case len => obtain ⟨w', dx, l, ts, v, rfl, _⟩ := h; rfl
  case rd =>
    obtain ⟨b, dx, l, ts, v, rfl, B, th, h⟩ := h
    walk_at "w2"
    refine ⟨recv B.ob, b, dx, l, ts, v, rfl, B, th, ?_⟩
    cases e : placeOf ts.length v with
    | none =>
      rw [e] at h
      exact h
    | some i =>
      rw [e] at h
      obtain ⟨rfl, hi⟩ := placeOf_some e
      refine ⟨_, fldIs B.ob, ?_⟩
      exact r_ixL B.ls (by rw [List.getElem?_eq_getElem hi, List.getD_eq_getElem?_getD, List.getElem?_eq_getElem hi]; rfl) h
theorem f_Weak_need_there (T : Tx K mg) : Mt P w K mg base 3 "Weak" "need_there" ["self", "name"] (sp_Weak_need_there K) := by
  have c_Weak_need := f_Weak_need (P := P) (w := w) (base := base) T
  refine T.mkMt 62 159 154 (d := d_Weak_need_there) (N := ["self", "name"]) (k := 2) rfl rfl rfl rfl rfl rfl sc_Weak_need_there (fun _ _ _ _ _ _ us hl => match us, hl with | [_, _], _ => rfl) (fun vs H Q E h => ?len) (fun cdv A outer s H vs Q E hr h => ⟨_,
      (pss_cons (ps_expr (pe_mt (K := K) rfl (takes_of rfl rfl rfl rfl) (pv 0) c_Weak_need (hr.mono (by decide)) (pa_cons (pv 1) pa_nil)))
        (pss_one (ps_if (pt_cmpR op_isN (pe_ix (ix_seqK (K := K) rfl) (pe_fldC (T.cls 154) (T.noat 163) (pv 0)) (pv 1) (fun _ _ => rfl)) pe_non (nomark _)) (pss_one (ps_raiseK (K := K) rfl rfl (takes_of rfl rfl rfl rfl) (T.says.fact 97 rfl) (T.glo 9) (by rfl))) pss_nil))), ?rd⟩)
  case len => obtain ⟨w', dx, l, ts, v, rfl, _⟩ := h; rfl
  case rd =>
    obtain ⟨b, dx, l, ts, v, rfl, B, th, h⟩ := h
    walk_at "w2"
    refine ⟨recv B.ob, b, dx, l, ts, v, rfl, B, th, ?_⟩
    cases e : placeOf ts.length v with
    | none =>
      rw [e] at h
      exact h
    | some i =>
      rw [e] at h
      obtain ⟨rfl, hi⟩ := placeOf_some e
      have h : if ts.getD i .non = .non then E (Ex K "NoName") none H else Q .non H := h
      walk_at "w2"
      refine ⟨_, fldIs B.ob, ?_⟩
      refine r_ixL B.ls (v := ts.getD i .non) (by rw [List.getElem?_eq_getElem hi, List.getD_eq_getElem?_getD, List.getElem?_eq_getElem hi]; rfl) ?_
      walk_at "w2"
      exact h
theorem f_Weak_move (T : Tx K mg) : Mt P w K mg base 4 "Weak" "move" ["self", "name", "at"] (sp_Weak_move K) := by
  have c_Weak_need_there := f_Weak_need_there (P := P) (w := w) (base := base) T
  have c_place_word := f_place_word (P := P) (w := w) (base := base) T
  refine T.mkMt 63 160 154 (d := d_Weak_move) (N := ["self", "name", "at"]) (k := 3) rfl rfl rfl rfl rfl rfl sc_Weak_move (fun _ _ _ _ _ _ us hl => match us, hl with | [_, _, _], _ => rfl) (fun vs H Q E h => ?len) (fun cdv A outer s H vs Q E hr h => ⟨_,
      (pss_cons (ps_expr (pe_mt (K := K) rfl (takes_of rfl rfl rfl rfl) (pv 0) c_Weak_need_there (hr.mono (by decide)) (pa_cons (pv 1) pa_nil)))
        (pss_cons (ps_expr (pe_fn (takes_of rfl rfl rfl rfl) c_place_word (hr.mono (by decide)) (by rfl) (pa_cons (pv 2) pa_nil)))
        (pss_one (ps_asg (pv 2) (pg_sub (pe_fldC (T.cls 154) (T.noat 163) (pv 0)) (pv 1) set_list))))), ?rd⟩)
  case len => obtain ⟨w', dx, l, ts, v, z, rfl, _⟩ := h; rfl
  case rd =>
    obtain ⟨b, dx, l, ts, v, z, rfl, B, th, tz, h⟩ := h
    walk_at "w2"
    refine ⟨recv B.ob, b, dx, l, ts, v, rfl, B, th, ?_⟩
    cases e : placeOf ts.length v with
    | none =>
      rw [e] at h
      exact h
    | some i =>
      rw [e] at h
      obtain ⟨rfl, hi⟩ := placeOf_some e
      have h : if ts.getD i .non = .non then E (Ex K "NoName") none H else match placeW z with
        | some n => Q .non (upd H l (.lst (ts.set i (.int n))))
        | none => E (Ex K "NoPlace") none H := h
      show if ts.getD i .non = .non then _ else _
      split
      · rename_i c
        rw [if_pos c] at h
        exact h
      · rename_i c
        rw [if_neg c] at h
        walk_at "w2"
        rcases tz with ⟨n, rfl⟩ | o
        · rw [x_place_word]
          rw [placeW_int] at h
          split
          · rename_i c
            rw [if_pos c] at h
            walk_at "w2"
            refine ⟨_, fldIs B.ob, r_setL B.ls (by omega) (by omega) ?_⟩
            rw [Int.toNat_natCast]
            exact h
          · rename_i c
            rw [if_neg c] at h
            exact h
        · rw [odd_place_word o]
          rw [placeW_odd o] at h
          exact h
theorem f_Weak_gone (T : Tx K mg) : Mt P w K mg base 4 "Weak" "gone" ["self", "name"] (sp_Weak_gone K) := by
  have c_Weak_need_there := f_Weak_need_there (P := P) (w := w) (base := base) T
  refine T.mkMt 64 161 154 (d := d_Weak_gone) (N := ["self", "name"]) (k := 3) rfl rfl rfl rfl rfl rfl sc_Weak_gone (fun _ _ _ _ _ _ us hl => match us, hl with | [_, _], _ => rfl) (fun vs H Q E h => ?len) (fun cdv A outer s H vs Q E hr h => ⟨_,
      (pss_cons (ps_expr (pe_mt (K := K) rfl (takes_of rfl rfl rfl rfl) (pv 0) c_Weak_need_there (hr.mono (by decide)) (pa_cons (pv 1) pa_nil)))
        (pss_one (ps_asg pe_non (pg_sub (pe_fldC (T.cls 154) (T.noat 163) (pv 0)) (pv 1) set_list)))), ?rd⟩)
  case len => obtain ⟨w', dx, l, ts, v, rfl, _⟩ := h; rfl
  case rd =>
    obtain ⟨b, dx, l, ts, v, rfl, B, th, h⟩ := h
    walk_at "w2"
    refine ⟨recv B.ob, b, dx, l, ts, v, rfl, B, th, ?_⟩
    cases e : placeOf ts.length v with
    | none =>
      rw [e] at h
      exact h
    | some i =>
      rw [e] at h
      obtain ⟨rfl, hi⟩ := placeOf_some e
      have h : if ts.getD i .non = .non then E (Ex K "NoName") none H else Q .non (upd H l (.lst (ts.set i .non))) := h
      show if ts.getD i .non = .non then _ else _
      split
      · rename_i c
        rw [if_pos c] at h
        exact h
      · rename_i c
        rw [if_neg c] at h
        walk_at "w2"
        refine ⟨_, fldIs B.ob, r_setL B.ls (by omega) (by omega) ?_⟩
        rw [Int.toNat_natCast]
        exact h
theorem f_Weak_names (T : Tx K mg) : Mt P w K mg base 1 "Weak" "names" ["self"] (sp_Weak_names K) := by
  refine T.mkMt 65 162 154 (d := d_Weak_names) (N := ["self", "name", "at"]) (k := 0) rfl rfl rfl rfl rfl rfl sc_Weak_names (fun _ _ _ _ _ _ us hl => match us, hl with | [_], _ => rfl) (fun vs H Q E h => ?len) (fun cdv A outer s H vs Q E hr h => ⟨_,
      (pss_one (ps_ret (pe_lc (own := [("name", 1), ("at", 2)]) (g := gTup K 2 (gCons (gName 1) (gCons (gName 2) gNil))) rfl sc_Weak_names.nd (pi_enum (by rfl) (T.free 81) (pa_cons (pe_fldC (T.cls 154) (T.noat 163) (pv 0)) pa_nil)) (blkOk_by (own := [("name", 1), ("at", 2)]) (N := ["self", "name", "at"]) (sc := defScope s_Weak_names) (by decide +kernel)) (fun _ _ _ _ _ => (pg_tup (n := 2) rfl (pgs_cons (pg_name (i := 1) sc_Weak_names.nd rfl (Or.inl rfl)) (pgs_cons (pg_name (i := 2) sc_Weak_names.nd rfl (Or.inl rfl)) pgs_nil)))) (fun _ _ _ _ _ => pts_one (pt_cmpR op_notN (pv 2) pe_non (nomark _))) (fun _ _ _ _ _ => (pe_tup (pa_cons (pv 1) (pa_cons (pv 2) pa_nil))))))), ?rd⟩)
  case len => obtain ⟨w', dx, l, ts, rfl, _⟩ := h; rfl
  case rd =>
    obtain ⟨b, dx, l, ts, rfl, B, hl, fl, q⟩ := h
    walk_at "w2"
    refine ⟨_, fldIs B.ob, l, ts, rfl, .of B.ls, fun D hD => lc_it (walk_enum (xs := ts)) (Qd := fun H' => Q (.ref D) H') (fun i H' => ∃ rs, Same H H' ∧ H' D = some (.lst rs) ∧ TupAll H' rs (pairsOf 0 (ts.take i))) ⟨[], same_new hD, upd_same, .nil⟩ (fun i H' _ ⟨rs, s, _⟩ => .of (s _ _ B.ls)) ?_ ?_⟩
    · rintro i x H1 H' hi ⟨rs, s, hd, t⟩ ⟨T, y, z, rfl, hT, rfl, e1, e2⟩
      cases Option.some.inj e1
      have e2 : ts[i]? = some z := e2
      have sT := same_new (o := .tup [.int (i : Nat), z]) hT
      walk_at "w2"
      refine ⟨_, .inl (.inl upd_same), rfl, ?_⟩
      walk_at "w2"
      have ez : ts.take (i + 1) = ts.take i ++ [z] := by rw [List.take_add_one, e2]; rfl
      have el : (ts.take i).length = i := by rw [List.length_take]; omega
      have zm : z ∈ ts := List.mem_of_getElem? e2
      rw [ez, pairsOf_snoc, Nat.zero_add, el]
      by_cases c : z = .non
      · subst c
        rw [if_neg (fun z => z rfl), if_pos rfl, List.append_nil]
        exact ⟨rs, s.trans sT, sT _ _ hd, t.same sT⟩
      · rw [if_pos c, if_neg c]
        refine ⟨by rw [sizeLine_eq]; omega, fun p hp => ?_⟩
        have sp := same_new (o := .tup [.int (i : Nat), z]) hp
        have tl := t.len
        have pl := pairsOf_len (ts := ts.take i) 0
        have hd2 := (sT.trans sp) _ _ hd
        have nD : p ≠ D := (ne_of_none (sT _ _ hd) hp).symm
        refine ⟨rs, hd2, by rw [sizeLine_eq]; omega, _, ?_, upd_same, ?_⟩
        · exact fun c o e => by rw [upd_ne (ne_of_none e hD)]; exact (s.trans (sT.trans sp)) _ _ e
        · refine ((t.same (sT.trans sp)).put hd2 (by intro xs z; cases z)).snoc (by rw [upd_ne nD]; exact upd_same) fun x hx => ?_
          rcases List.mem_cons.mp hx with rfl | hx
          · rfl
          · rw [List.mem_singleton] at hx
            subst hx
            exact flatN_I (fl _ zm)
    · rintro H' ⟨rs, s, hd, t⟩
      rw [List.take_length] at t
      exact q D rs H' hD s hd t
end

local macro_rules | `(tactic| walk_at "w2") => `(tactic| try simp only [↓x_var0, ↓x_varS, ↓x_c, ↓x_op, ↓x_un, ↓x_cb, ↓x_nil, ↓x_cons, ↓x_test, ↓x_b, ↓x_ex, ↓x_and, ↓x_or, ↓x_not, ↓x_andV, ↓x_orV, ↓x_notV, ↓x_tif, ↓x_chain, ↓x_menu, ↓x_menuI, ↓x_lst, ↓x_tup, ↓x_dnew, ↓x_callW, ↓x_callN, ↓x_seq, ↓x_next, ↓x_ret, ↓x_retN, ↓x_drop, ↓x_ifS, ↓x_asg, ↓x_name, ↓x_raise, ↓x_fld, ↓x_setF, ↓x_meth, ↓x_make, ↓x_sub, ↓r_min, ↓r_max, ↓x_yes, ↓x_for, ↓x_lock, ↓x_keys, ↓x_cut, ↓x_lc, ↓x_rng1, ↓x_rng2, ↓x_lst1, ↓x_itup, ↓x_rng3, ↓x_three, ↓x_lstg, ↓x_tupg, ↓x_adrS, ↓x_one, ↓x_two, ↓x_adr, ↓x_sl, ↓x_np, ↓x_pt, ↓x_int, ↓x_bm, ↓x_bm0, ↓x_consg, ↓x_nilg, ↓x_dget2, ↓x_dget1, ↓x_dgetN, ↓x_dget, ↓x_din, ↓x_dni, ↓x_dput, ↓x_dpop2, ↓r_isB, ↓r_notB, ↓x_enum, ↓x_zip, ↓x_str, ↓x_strE, ↓r_inS, ↓r_ninS, wipe, List.map_cons, List.map_nil, ↓x_isT, ↓r_isiII, ↓r_isiBB, ↓r_isiIB, ↓r_isiSS, ↓r_neNS, ↓r_neSN, ↓r_neNN, ↓r_eqNS, ↓r_eqSN, ↓r_eqNN, ↓r_eqIS, ↓r_neIS, ↓r_neSI, ↓r_neBS, ↓r_eqBB, ↓r_neBB, ↓x_start, ↓x_K, ↓x_start0, ↓r_i0, ↓r_i, ↓r_u, ↓r_addI, ↓r_addS, ↓r_mulI, ↓r_mulS, ↓r_eqI, ↓r_neI, ↓r_eqS, ↓r_neS, ↓r_absI, ↓r_intI, ↓r_intB, List.length_cons, List.length_nil, List.replicate, List.set_cons_zero, List.set_cons_succ, decide_eq_true_eq, Bool.not_eq_true', decide_eq_false_iff_not, if_true, if_false, Bool.false_eq_true, Bool.true_eq_false, ite_true, ite_false, Bool.not_true, Bool.not_false, c_div, n_ten, c_pow, not_true_eq_false, not_false_eq_true, decide_true, decide_false, true_and, and_true, and_self, true_or, or_true, Int.reduceLT, Int.reduceLE, Int.reduceMul, Int.reduceAdd, Int.reduceSub, Int.reducePow, Int.reduceNeg, Int.reduceDiv, Int.reduceMod, Nat.reducePow, Int.reduceToNat, Int.reduceEq, Int.reduceNe, Nat.reduceLT, Nat.reduceLeDiff, Nat.reduceAdd, ↓x_whole, ↓x_kind])
/-! ## last words -/
/-- what waits: nothing, or a place and a number -/
structure WtAll (H : Hp) (rs : List V) (ws : List (Option (Int × Int))) : Prop where
  len : rs.length = ws.length
  non : ∀ i : Nat, ws[i]? = some none → rs[i]? = some V.non
  pair : ∀ (i : Nat) a n, ws[i]? = some (some (a, n)) → ∃ tp, rs[i]? = some (V.ref tp) ∧ H tp = some (.tup [.int a, .int n])
theorem WtAll.nil {H : Hp} : WtAll H [] [] := ⟨rfl, fun i e => (by cases e), fun i a n e => by cases e⟩
theorem WtAll.fr {H H' : Hp} {rs ws} (h : WtAll H rs ws) (s : ∀ c xs, H c = some (.tup xs) → H' c = some (.tup xs)) : WtAll H' rs ws := ⟨h.len, h.non, fun i a n e => let ⟨tp, e1, e2⟩ := h.pair i a n e; ⟨tp, e1, s _ _ e2⟩⟩
theorem WtAll.same {H H' : Hp} {rs ws} (h : WtAll H rs ws) (s : Same H H') : WtAll H' rs ws := h.fr fun c xs e => s _ _ e
theorem WtAll.put {H : Hp} {rs ws} {D : Addr} {o o' : HO} (h : WtAll H rs ws) (e : H D = some o) (n : ∀ xs, o ≠ .tup xs) : WtAll (upd H D o') rs ws := h.fr fun c xs e' => by rw [upd_ne (ne_of e' e fun z => n _ z.symm)]; exact e'
theorem WtAll.snoc {H : Hp} {rs ws} {tp : Addr} {a n : Int} (h : WtAll H rs ws) (e : H tp = some (.tup [.int a, .int n])) : WtAll H (rs ++ [.ref tp]) (ws ++ [some (a, n)]) := by
  have l := h.len
  refine ⟨by rw [List.length_append, List.length_append, l]; rfl, fun i q => ?_, fun i b m q => ?_⟩
  · rw [List.getElem?_append] at q ⊢
    rw [l]
    split at q
    · rw [if_pos ‹_›]
      exact h.non i q
    · cases h2 : i - ws.length with
      | zero => rw [h2] at q; cases q
      | succ k => rw [h2] at q; cases q
  · rw [List.getElem?_append] at q ⊢
    rw [l]
    split at q
    · rw [if_pos ‹_›]
      exact h.pair i b m q
    · rw [if_neg ‹_›]
      cases h2 : i - ws.length with
      | zero =>
        rw [h2] at q
        cases q
        exact ⟨tp, rfl, e⟩
      | succ k => rw [h2] at q; cases q
theorem WtAll.set {H : Hp} {rs ws} {j : Nat} {tp : Addr} {a n : Int} (h : WtAll H rs ws) (e : H tp = some (.tup [.int a, .int n])) : WtAll H (rs.set j (.ref tp)) (ws.set j (some (a, n))) := by
  have l := h.len
  refine ⟨by rw [List.length_set, List.length_set, l], fun i q => ?_, fun i b m q => ?_⟩
  · rw [List.getElem?_set] at q ⊢
    rw [l]
    split at q
    · split at q
      · cases q
      · cases q
    · rw [if_neg ‹_›]
      exact h.non i q
  · rw [List.getElem?_set] at q ⊢
    rw [l]
    split at q
    · rename_i c
      rw [if_pos c]
      split at q
      · cases q
        rw [if_pos ‹_›]
        exact ⟨tp, rfl, e⟩
      · cases q
    · rw [if_neg ‹_›]
      exact h.pair i b m q
theorem WtAll.rub {H : Hp} {rs ws} {j : Nat} (h : WtAll H rs ws) : WtAll H (rs.set j .non) (ws.set j none) := by
  have l := h.len
  refine ⟨by rw [List.length_set, List.length_set, l], fun i q => ?_, fun i b m q => ?_⟩
  · rw [List.getElem?_set] at q ⊢
    rw [l]
    split at q
    · rename_i c
      rw [if_pos c]
      split at q
      · rw [if_pos ‹_›]
      · cases q
    · rw [if_neg ‹_›]
      exact h.non i q
  · rw [List.getElem?_set] at q ⊢
    rw [l]
    split at q
    · split at q
      · cases q
      · cases q
    · rw [if_neg ‹_›]
      exact h.pair i b m q
def pendOf : Nat → List (Option (Int × Int)) → List (List V)
  | _, [] => []
  | k, none :: r => pendOf (k + 1) r
  | k, some (a, n) :: r => [.int (k : Int), .int a, .int n] :: pendOf (k + 1) r
def pendAt (k : Nat) : Option (Int × Int) → List (List V)
  | none => []
  | some (a, n) => [[.int (k : Int), .int a, .int n]]
theorem pendOf_snoc {ws : List (Option (Int × Int))} {w : Option (Int × Int)} : ∀ k, pendOf k (ws ++ [w]) = pendOf k ws ++ pendAt (k + ws.length) w := by
  induction ws with
  | nil =>
    intro k
    cases w <;> rfl
  | cons t r ih =>
    intro k
    have e : k + (t :: r).length = k + 1 + r.length := by rw [List.length_cons]; omega
    rw [e]
    cases t with
    | none => exact ih (k + 1)
    | some p => exact congrArg (_ :: ·) (ih (k + 1))
theorem pendOf_len {ws : List (Option (Int × Int))} : ∀ k, (pendOf k ws).length ≤ ws.length := by
  induction ws with
  | nil => exact fun _ => Nat.le_refl _
  | cons t r ih =>
    intro k
    have := ih (k + 1)
    cases t with
    | none =>
      show (pendOf (k + 1) r).length ≤ r.length + 1
      omega
    | some p =>
      show (pendOf (k + 1) r).length + 1 ≤ r.length + 1
      omega
theorem pendOf_mem {ws : List (Option (Int × Int))} : ∀ k, ∀ xs ∈ pendOf k ws, ∃ i a n : Int, xs = [.int i, .int a, .int n] := by
  induction ws with
  | nil => exact fun k xs h => (List.not_mem_nil h).elim
  | cons t r ih =>
    intro k xs h
    cases t with
    | none => exact ih (k + 1) xs h
    | some p =>
      rcases List.mem_cons.mp h with rfl | h
      · exact ⟨_, _, _, rfl⟩
      · exact ih (k + 1) xs h
def numW : V → Option Int
  | .int n => if (n.natAbs : Int) ≤ 1000000000000 then some n else none
  | _ => none
theorem numW_int {n : Int} : numW (.int n) = if (n.natAbs : Int) ≤ 1000000000000 then some n else none := rfl
theorem numW_odd {H : Hp} {v : V} (h : Odd H v) : numW v = none := by
  cases v with
  | int i => exact (odd_not h).elim
  | _ => rfl
theorem numW_some {v : V} {n : Int} (h : numW v = some n) : v = .int n ∧ (n.natAbs : Int) ≤ 1000000000000 := by
  cases v with
  | int j =>
    rw [numW_int] at h
    split at h
    · cases h
      exact ⟨rfl, ‹_›⟩
    · cases h
  | _ => cases h
structure LastO (K : PySem.W.Frag) (H : Hp) (b dx d e : Addr) (rs : List V) (ws : List (Option (Int × Int))) (ss : List Int) : Prop where
  ob : H b = some (.ins (He.ga K "Lasts") dx (F_Lasts (.ref d) (.ref e)))
  wa : H d = some (.lst rs)
  wt : WtAll H rs ws
  sk : H e = some (.lst (ss.map V.int))
  de : d ≠ e
theorem LastO.same {K H H' b dx d e rs ws ss} (h : LastO K H b dx d e rs ws ss) (s : Same H H') : LastO K H' b dx d e rs ws ss := ⟨s _ _ h.ob, s _ _ h.wa, h.wt.same s, s _ _ h.sk, h.de⟩
theorem LastO.putD {K H b dx d e rs ws ss rs' ws'} (h : LastO K H b dx d e rs ws ss) (t : WtAll H rs' ws') : LastO K (upd H d (.lst rs')) b dx d e rs' ws' ss :=
  ⟨by rw [upd_ne (ne_of h.ob h.wa (by intro z; cases z))]; exact h.ob, upd_same, t.put h.wa (by intro xs z; cases z), by rw [upd_ne h.de.symm]; exact h.sk, h.de⟩
theorem LastO.putE {K H b dx d e rs ws ss ss'} (h : LastO K H b dx d e rs ws ss) : LastO K (upd H e (.lst (ss'.map V.int))) b dx d e rs ws ss' :=
  ⟨by rw [upd_ne (ne_of h.ob h.sk (by intro z; cases z))]; exact h.ob, by rw [upd_ne h.de]; exact h.wa, h.wt.put h.sk (by intro xs z; cases z), upd_same, h.de⟩
/-- the pair that waits at a ticket -/
def tickOf (ws : List (Option (Int × Int))) (v : V) : Option (Nat × Int × Int) := match placeOf ws.length v with
  | none => none
  | some i => match ws.getD i none with
    | none => none
    | some (a, n) => some (i, a, n)
theorem tick_some {ws v i a n} (h : tickOf ws v = some (i, a, n)) : v = .int (i : Int) ∧ i < ws.length ∧ ws[i]? = some (some (a, n)) := by
  unfold tickOf at h
  cases e : placeOf ws.length v with
  | none => rw [e] at h; cases h
  | some j =>
    rw [e] at h
    obtain ⟨e1, e2⟩ := placeOf_some e
    have ej := getD_at (d := none) e2
    have h : (match ws.getD j none with
      | none => none
      | some (a, n) => some (j, a, n)) = some (i, a, n) := h
    cases e3 : ws.getD j none with
    | none => rw [e3] at h; cases h
    | some p =>
      rw [e3] at h ej
      cases h
      exact ⟨e1, e2, ej⟩
def sp_Lasts___init__ (K : PySem.W.Frag) : Sp := fun vs H Q _ => ∃ b dx, vs = [.ref b] ∧ H b = some (.ins (He.ga K "Lasts") dx []) ∧ ∀ d e H', H d = none → H e = none → LastO K H' b dx d e [] [] [] → (∀ c o, c ≠ b → H c = some o → H' c = some o) → Q .non H'
def sp_Lasts_give (K : PySem.W.Frag) : Sp := fun vs H Q E => ∃ b dx d e rs ws ss v z, vs = [.ref b, v, z] ∧ LastO K H b dx d e rs ws ss ∧ ws.length < 1000000 ∧ Thing H v ∧ Thing H z ∧ match placeW v with
  | some a => (match numW z with
    | some n => ∀ H' rs', LastO K H' b dx d e rs' (ws ++ [some (a, n)]) ss → (∀ c o, c ≠ d → H c = some o → H' c = some o) → Q (.int ws.length) H'
    | none => E (Ex K "BadNumber") none H)
  | none => E (Ex K "NoPlace") none H
def sp_Lasts_need (K : PySem.W.Frag) : Sp := fun vs H Q E => ∃ b dx d e rs ws ss v, vs = [.ref b, v] ∧ LastO K H b dx d e rs ws ss ∧ Thing H v ∧ match tickOf ws v with
  | some _ => Q .non H
  | none => E (Ex K "NoName") none H
def sp_Lasts_move (K : PySem.W.Frag) : Sp := fun vs H Q E => ∃ b dx d e rs ws ss v z, vs = [.ref b, v, z] ∧ LastO K H b dx d e rs ws ss ∧ Thing H v ∧ Thing H z ∧ match tickOf ws v with
  | some (i, a, n) => (match placeW z with
    | some a' => ∀ H' rs', LastO K H' b dx d e rs' (ws.set i (some (a', n))) ss → (∀ c o, c ≠ d → H c = some o → H' c = some o) → Q .non H'
    | none => E (Ex K "NoPlace") none H)
  | none => E (Ex K "NoName") none H
def sp_Lasts_say (K : PySem.W.Frag) : Sp := fun vs H Q E => ∃ b dx d e rs ws ss v, vs = [.ref b, v] ∧ LastO K H b dx d e rs ws ss ∧ ss.length < 1000000 ∧ Thing H v ∧ match tickOf ws v with
  | some (i, a, n) => ∀ H' rs', LastO K H' b dx d e rs' (ws.set i none) (ss ++ [n]) → (∀ c o, c ≠ d → c ≠ e → H c = some o → H' c = some o) → Q .non H'
  | none => E (Ex K "NoName") none H
def sp_Lasts_pending (K : PySem.W.Frag) : Sp := fun vs H Q _ => ∃ b dx d e rs ws ss, vs = [.ref b] ∧ LastO K H b dx d e rs ws ss ∧ ws.length < 1000000 ∧ ∀ p ps H', H p = none → Same H H' → H' p = some (.lst ps) → TupAll H' ps (pendOf 0 ws) → Q (.ref p) H'
def sp_Lasts_said (K : PySem.W.Frag) : Sp := fun vs H Q _ => ∃ b dx d e rs ws ss, vs = [.ref b] ∧ LastO K H b dx d e rs ws ss ∧ ∀ p, H p = none → Q (.ref p) (upd H p (.lst (ss.map V.int)))
section
variable {P : Program} {w : World} {K : PySem.W.Frag} {mg : Str → Option Value} {base : Heap}
theorem f_Lasts___init__ (T : Tx K mg) : Mi P w K mg base 1 "Lasts" ["self"] (sp_Lasts___init__ K) := by
  refine T.mkMi 51 145 15 (d := d_Lasts___init__) (N := ["self"]) (k := 0) rfl rfl rfl rfl rfl rfl sc_Lasts___init__ (fun _ _ _ _ _ _ us hl => match us, hl with | [_], _ => rfl) (fun vs H Q E h => ?len) (fun cdv A outer s H vs Q E hr h => ⟨_,
      (pss_cons (ps_fldC (T.cls 144) (T.noat 152) (pv 0) (pe_lst pa_nil))
        (pss_one (ps_fldC (T.cls 144) (T.noat 153) (pv 0) (pe_lst pa_nil)))), ?rd⟩)
  case len => obtain ⟨b, dx, rfl, _⟩ := h; rfl
  case rd =>
    obtain ⟨b, dx, rfl, M, q⟩ := h
    walk_at "w2"
    refine ⟨by omega, fun d hd => ?_⟩
    have nb : b ≠ d := ne_of_none M hd
    refine ⟨b, dx, _, rfl, by rw [upd_ne nb]; exact M, by decide, by omega, fun e he => ?_⟩
    rw [pi_Lasts_waiting] at he ⊢
    have ed : e ≠ d := by
      intro z
      rw [z, upd_ne nb.symm, upd_same] at he
      cases he
    have eb : b ≠ e := by
      intro z
      rw [← z, upd_same] at he
      cases he
    have he0 : H e = none := by
      rw [upd_ne eb.symm, upd_ne ed] at he
      exact he
    refine ⟨b, dx, _, rfl, by rw [upd_ne eb, upd_same], by show 1 < 1000; decide, ?_⟩
    rw [pi_Lasts_spoken]
    refine q d e _ hd he0 ⟨upd_same, ?_, .nil, ?_, ed.symm⟩ fun c o hc g => ?_
    · rw [upd_ne nb.symm, upd_ne ed.symm, upd_ne nb.symm, upd_same]
    · rw [upd_ne eb.symm, upd_same]
      rfl
    · rw [upd_ne hc, upd_ne (ne_of_none g he0), upd_ne hc, upd_ne (ne_of_none g hd)]
      exact g
theorem f_Lasts_need (T : Tx K mg) : Mt P w K mg base 2 "Lasts" "need" ["self", "ticket"] (sp_Lasts_need K) := by
  have c_is_whole := f_is_whole (P := P) (w := w) (base := base) T
  refine T.mkMt 53 147 144 (d := d_Lasts_need) (N := ["self", "ticket"]) (k := 1) rfl rfl rfl rfl rfl rfl sc_Lasts_need (fun _ _ _ _ _ _ us hl => match us, hl with | [_, _], _ => rfl) (fun vs H Q E h => ?len) (fun cdv A outer s H vs Q E hr h => ⟨_,
      (pss_one (ps_if (PW.pt (pw_or (pt_not (pt_val (pe_fn (takes_of rfl rfl rfl rfl) c_is_whole (hr.mono (by decide)) (by rfl) (pa_cons (pv 1) pa_nil)))) (pw_or (pt_not (pt_chain op_le op_lt pe_int (pv 1) (pe_callB (call_lenK (K := K) rfl) (by rfl) (T.free 77) PySem.boot_len (pa_cons (pe_fldC (T.cls 144) (T.noat 152) (pv 0)) pa_nil)))) (pw_or1 (pt_cmpR op_isN (pe_ix (ix_seqK (K := K) rfl) (pe_fldC (T.cls 144) (T.noat 152) (pv 0)) (pv 1) (fun _ _ => rfl)) pe_non (nomark _)))))) (pss_one (ps_raiseK (K := K) rfl rfl (takes_of rfl rfl rfl rfl) (T.says.fact 97 rfl) (T.glo 9) (by rfl))) pss_nil)), ?rd⟩)
  case len => obtain ⟨b, dx, d, e, rs, ws, ss, v, rfl, _⟩ := h; rfl
  case rd =>
    obtain ⟨b, dx, d, e, rs, ws, ss, v, rfl, B, th, h⟩ := h
    walk_at "w2"
    have ll := B.wt.len
    rcases th with ⟨n, rfl⟩ | o
    · walk_at "w2"
      unfold tickOf at h
      rw [placeOf_int] at h
      split
      · refine ⟨_, fldIs B.ob, r_lenL B.wa ?_⟩
        walk_at "w2"
        split
        · rw [if_neg (by omega)] at h
          exact h
        · rename_i c0 c1
          rw [if_pos (by omega)] at h
          obtain ⟨i, rfl⟩ := Int.eq_ofNat_of_zero_le c0
          rw [Int.toNat_natCast] at h
          have hi : i < ws.length := by omega
          have ei := getD_at (d := none) hi
          refine ⟨_, fldIs B.ob, ?_⟩
          cases ew : ws.getD i none with
          | none =>
            rw [ew] at ei
            refine r_ixL B.wa (B.wt.non i ei) ?_
            walk_at "w2"
            have h : (match (match ws.getD i none with
              | none => none
              | some (a, n) => some (i, a, n)) with
              | some _ => Q .non H
              | none => E (Ex K "NoName") none H) := h
            rw [ew] at h
            exact h
          | some p =>
            rw [ew] at ei
            obtain ⟨tp, e1, e2⟩ := B.wt.pair i p.1 p.2 ei
            refine r_ixL B.wa e1 ?_
            walk_at "w2"
            have h : (match (match ws.getD i none with
              | none => none
              | some (a, n) => some (i, a, n)) with
              | some _ => Q .non H
              | none => E (Ex K "NoName") none H) := h
            rw [ew] at h
            first | exact h | (rw [if_neg (by intro z; cases z)]; exact h)
      · rw [if_neg (by omega)] at h
        exact h
    · rw [odd_whole o]
      unfold tickOf at h
      rw [placeOf_odd o] at h
      walk_at "w2"
      exact h
theorem f_Lasts_move (T : Tx K mg) : Mt P w K mg base 3 "Lasts" "move" ["self", "ticket", "at"] (sp_Lasts_move K) := by
  have c_Lasts_need := f_Lasts_need (P := P) (w := w) (base := base) T
  have c_place_word := f_place_word (P := P) (w := w) (base := base) T
  refine T.mkMt 54 148 144 (d := d_Lasts_move) (N := ["self", "ticket", "at"]) (k := 2) rfl rfl rfl rfl rfl rfl sc_Lasts_move (fun _ _ _ _ _ _ us hl => match us, hl with | [_, _, _], _ => rfl) (fun vs H Q E h => ?len) (fun cdv A outer s H vs Q E hr h => ⟨_,
      (pss_cons (ps_expr (pe_mt (K := K) rfl (takes_of rfl rfl rfl rfl) (pv 0) c_Lasts_need (hr.mono (by decide)) (pa_cons (pv 1) pa_nil)))
        (pss_cons (ps_expr (pe_fn (takes_of rfl rfl rfl rfl) c_place_word (hr.mono (by decide)) (by rfl) (pa_cons (pv 2) pa_nil)))
        (pss_one (ps_asg (pe_tup (pa_cons (pv 2) (pa_cons (pe_ix (ix_seqK (K := K) rfl) (pe_ix (ix_seqK (K := K) rfl) (pe_fldC (T.cls 144) (T.noat 152) (pv 0)) (pv 1) (fun _ _ => rfl)) pe_int (fun _ _ => rfl)) pa_nil))) (pg_sub (pe_fldC (T.cls 144) (T.noat 152) (pv 0)) (pv 1) set_list))))), ?rd⟩)
  case len => obtain ⟨b, dx, d, e, rs, ws, ss, v, z, rfl, _⟩ := h; rfl
  case rd =>
    obtain ⟨b, dx, d, e, rs, ws, ss, v, z, rfl, B, th, tz, h⟩ := h
    walk_at "w2"
    refine ⟨recv B.ob, _, _, _, _, _, _, _, _, rfl, B, th, ?_⟩
    cases et : tickOf ws v with
    | none =>
      rw [et] at h
      exact h
    | some t =>
      obtain ⟨i, a, n⟩ := t
      rw [et] at h
      obtain ⟨rfl, hi, ew⟩ := tick_some et
      obtain ⟨tp, e1, e2⟩ := B.wt.pair i a n ew
      have ll := B.wt.len
      walk_at "w2"
      rcases tz with ⟨a', rfl⟩ | o
      · rw [x_place_word]
        rw [placeW_int] at h
        split
        · rename_i c
          rw [if_pos c] at h
          walk_at "w2"
          refine ⟨_, fldIs B.ob, r_ixL B.wa e1 (r_ixT (i := 1) e2 rfl ⟨by rw [sizeLine_eq]; omega, fun p hp => ?_⟩)⟩
          have sp := same_new (o := .tup [.int a', .int n]) hp
          have B1 := B.same sp
          refine ⟨_, fldIs B1.ob, r_setL B1.wa (by omega) (by omega) ?_⟩
          rw [Int.toNat_natCast]
          exact h _ _ (B1.putD (B1.wt.set (tp := p) upd_same)) fun c o hc g => by rw [upd_ne hc]; exact sp _ _ g
        · rename_i c
          rw [if_neg c] at h
          exact h
      · rw [odd_place_word o]
        rw [placeW_odd o] at h
        exact h
theorem f_Lasts_say (T : Tx K mg) : Mt P w K mg base 3 "Lasts" "say" ["self", "ticket"] (sp_Lasts_say K) := by
  have c_Lasts_need := f_Lasts_need (P := P) (w := w) (base := base) T
  refine T.mkMt 55 149 144 (d := d_Lasts_say) (N := ["self", "ticket"]) (k := 2) rfl rfl rfl rfl rfl rfl sc_Lasts_say (fun _ _ _ _ _ _ us hl => match us, hl with | [_, _], _ => rfl) (fun vs H Q E h => ?len) (fun cdv A outer s H vs Q E hr h => ⟨_,
      (pss_cons (ps_expr (pe_mt (K := K) rfl (takes_of rfl rfl rfl rfl) (pv 0) c_Lasts_need (hr.mono (by decide)) (pa_cons (pv 1) pa_nil)))
        (pss_cons (ps_expr (pe_bm PySem.F.plainAttrs_list PySem.F.slot_list_append PySem.F.type_list_append mt_append (pe_fldC (T.cls 144) (T.noat 153) (pv 0)) (pa_cons (pe_ix (ix_seqK (K := K) rfl) (pe_ix (ix_seqK (K := K) rfl) (pe_fldC (T.cls 144) (T.noat 152) (pv 0)) (pv 1) (fun _ _ => rfl)) pe_int (fun _ _ => rfl)) pa_nil)))
        (pss_one (ps_asg pe_non (pg_sub (pe_fldC (T.cls 144) (T.noat 152) (pv 0)) (pv 1) set_list))))), ?rd⟩)
  case len => obtain ⟨b, dx, d, e, rs, ws, ss, v, rfl, _⟩ := h; rfl
  case rd =>
    obtain ⟨b, dx, d, e, rs, ws, ss, v, rfl, B, hl, th, h⟩ := h
    walk_at "w2"
    refine ⟨recv B.ob, _, _, _, _, _, _, _, _, rfl, B, th, ?_⟩
    cases et : tickOf ws v with
    | none =>
      rw [et] at h
      exact h
    | some t =>
      obtain ⟨i, a, n⟩ := t
      rw [et] at h
      obtain ⟨rfl, hi, ew⟩ := tick_some et
      obtain ⟨tp, e1, e2⟩ := B.wt.pair i a n ew
      have ll := B.wt.len
      walk_at "w2"
      refine ⟨_, fldIs B.ob, ty_lst B.sk, _, fldIs B.ob, r_ixL B.wa e1 (r_ixT (i := 1) e2 rfl ⟨e, _, _, rfl, rfl, B.sk, by rw [List.length_map, sizeLine_eq]; omega, ?_⟩)⟩
      have es : ss.map V.int ++ [V.int n] = (ss ++ [n]).map V.int := by rw [List.map_append]; rfl
      rw [es]
      have B1 := B.putE (ss' := ss ++ [n])
      refine ⟨_, fldIs B1.ob, r_setL B1.wa (by omega) (by omega) ?_⟩
      rw [Int.toNat_natCast]
      exact h _ _ (B1.putD B1.wt.rub) fun c o hc hc' g => by rw [upd_ne hc, upd_ne hc']; exact g
theorem f_Lasts_pending (T : Tx K mg) : Mt P w K mg base 1 "Lasts" "pending" ["self"] (sp_Lasts_pending K) := by
  refine T.mkMt 56 150 144 (d := d_Lasts_pending) (N := ["self", "found", "ticket", "pair"]) (k := 0) rfl rfl rfl rfl rfl rfl sc_Lasts_pending (fun _ _ _ _ _ _ us hl => match us, hl with | [_], _ => rfl) (fun vs H Q E h => ?len) (fun cdv A outer s H vs Q E hr h => ⟨_,
      (pss_cons (ps_set (i := 1) sc_Lasts_pending.nd rfl (Or.inl rfl) (pe_lst pa_nil))
        (pss_cons (ps_for (passes_of rfl) rfl (pi_enum (by rfl) (T.free 81) (pa_cons (pe_fldC (T.cls 144) (T.noat 152) (pv 0)) pa_nil)) (pg_tup (n := 2) rfl (pgs_cons (pg_name (i := 2) sc_Lasts_pending.nd rfl (Or.inl rfl)) (pgs_cons (pg_name (i := 3) sc_Lasts_pending.nd rfl (Or.inl rfl)) pgs_nil))) (pss_one (ps_if (pt_cmpR op_notN (pv 3) pe_non (nomark _)) (pss_one (ps_expr (pe_bm PySem.F.plainAttrs_list PySem.F.slot_list_append PySem.F.type_list_append mt_append (pv 1) (pa_cons (pe_tup (pa_cons (pv 2) (pa_cons (pe_ix (ix_seqK (K := K) rfl) (pv 3) pe_int (fun _ _ => rfl)) (pa_cons (pe_ix (ix_seqK (K := K) rfl) (pv 3) pe_int (fun _ _ => rfl)) pa_nil)))) pa_nil)))) pss_nil)))
        (pss_one (ps_ret (pv 1))))), ?rd⟩)
  case len => obtain ⟨b, dx, d, e, rs, ws, ss, rfl, _⟩ := h; rfl
  case rd =>
    obtain ⟨b, dx, d, e, rs, ws, ss, rfl, B, hl, q⟩ := h
    walk_at "w2"
    have ll := B.wt.len
    refine ⟨by omega, fun D hD => ?_⟩
    have sD := same_new (o := .lst []) hD
    have B1 := B.same sD
    refine ⟨_, fldIs B1.ob, d, rs, rfl, .of B1.wa, for_it (walk_enum (xs := rs)) (fun i σ H' => ∃ o2 o3 ps, σ = [some (.ref b), some (.ref D), o2, o3] ∧ Same H H' ∧ H' D = some (.lst ps) ∧ TupAll H' ps (pendOf 0 (ws.take i))) ⟨_, _, [], rfl, sD, upd_same, .nil⟩ ?_ ?_ ?_⟩
    · rintro i σ H' _ ⟨o2, o3, ps, rfl, s, _⟩
      exact .of (s _ _ B.wa)
    · rintro i x σ H1 H' hi ⟨o2, o3, ps, rfl, s, hd, t⟩ ⟨T, y, z, rfl, hT, rfl, e1, e2⟩
      cases Option.some.inj e1
      have e2 : rs[i]? = some z := e2
      have sT := same_new (o := .tup [.int (i : Nat), z]) hT
      have hi' : i < ws.length := by omega
      have ei := getD_at (d := none) hi'
      have ez : ws.take (i + 1) = ws.take i ++ [ws.getD i none] := by rw [List.take_add_one, ei]; rfl
      have el : (ws.take i).length = i := by rw [List.length_take]; omega
      have pl := pendOf_len (ws := ws.take i) 0
      walk_at "w2"
      refine ⟨_, .inl (.inl upd_same), rfl, ?_⟩
      walk_at "w2"
      cases ew : ws.getD i none with
      | none =>
        rw [ew] at ei ez
        have ezn : z = .non := Option.some.inj (e2.symm.trans (B.wt.non i ei))
        subst ezn
        rw [if_neg (fun z => z rfl)]
        refine ⟨_, _, ps, rfl, s.trans sT, sT _ _ hd, ?_⟩
        rw [ez, pendOf_snoc]
        show TupAll _ ps (pendOf 0 (ws.take i) ++ [])
        rw [List.append_nil]
        exact t.same sT
      | some p =>
        obtain ⟨a, n⟩ := p
        rw [ew] at ei ez
        obtain ⟨tp, e3, e4⟩ := B.wt.pair i a n ei
        cases Option.some.inj (e2.symm.trans e3)
        rw [if_pos (by intro z; cases z)]
        have e5 := (s.trans sT) _ _ e4
        have hdT := sT _ _ hd
        refine ⟨ty_lst hdT, r_ixT (i := 0) e5 rfl (r_ixT (i := 1) e5 rfl ⟨by rw [sizeLine_eq]; omega, fun p hp => ?_⟩)⟩
        have sp := same_new (o := .tup [.int (i : Nat), .int a, .int n]) hp
        have tl := t.len
        have hd2 := sp _ _ hdT
        have nD : p ≠ D := (ne_of_none hdT hp).symm
        refine ⟨D, ps, _, rfl, rfl, hd2, by rw [sizeLine_eq]; omega, _, _, _, rfl, ?_, upd_same, ?_⟩
        · exact fun c o g => by rw [upd_ne (ne_of_none g hD)]; exact (s.trans (sT.trans sp)) _ _ g
        · rw [ez, pendOf_snoc, Nat.zero_add, el]
          refine ((t.same (sT.trans sp)).put hd2 (by intro xs z; cases z)).snoc (by rw [upd_ne nD]; exact upd_same) fun x hx => ?_
          rcases List.mem_cons.mp hx with rfl | hx
          · rfl
          rcases List.mem_cons.mp hx with rfl | hx
          · rfl
          · rw [List.mem_singleton] at hx
            subst hx
            rfl
    · rintro σ H' ⟨o2, o3, ps, rfl, s, hd, t⟩
      rw [ll, List.take_length] at t
      walk_at "w2"
      exact q D ps H' hD s hd t
theorem f_Lasts_said (T : Tx K mg) : Mt P w K mg base 1 "Lasts" "said" ["self"] (sp_Lasts_said K) := by
  refine T.mkMt 57 151 144 (d := d_Lasts_said) (N := ["self"]) (k := 0) rfl rfl rfl rfl rfl rfl sc_Lasts_said (fun _ _ _ _ _ _ us hl => match us, hl with | [_], _ => rfl) (fun vs H Q E h => ?len) (fun cdv A outer s H vs Q E hr h => ⟨_,
      (pss_one (ps_ret (pe_callTy (call_listK (K := K) rfl) (by rfl) (T.free 85) (by decide +kernel) (pa_cons (pe_fldC (T.cls 144) (T.noat 153) (pv 0)) pa_nil)))), ?rd⟩)
  case len => obtain ⟨b, dx, d, e, rs, ws, ss, rfl, _⟩ := h; rfl
  case rd =>
    obtain ⟨b, dx, d, e, rs, ws, ss, rfl, B, q⟩ := h
    walk_at "w2"
    refine ⟨_, fldIs B.ob, e, _, rfl, .inl (.of B.sk), fun p hp => q p hp⟩
end

local macro_rules | `(tactic| walk_at "w2") => `(tactic| try simp only [↓x_var0, ↓x_varS, ↓x_c, ↓x_op, ↓x_un, ↓x_cb, ↓x_nil, ↓x_cons, ↓x_test, ↓x_b, ↓x_ex, ↓x_and, ↓x_or, ↓x_not, ↓x_andV, ↓x_orV, ↓x_notV, ↓x_tif, ↓x_chain, ↓x_menu, ↓x_menuI, ↓x_lst, ↓x_tup, ↓x_dnew, ↓x_callW, ↓x_callN, ↓x_seq, ↓x_next, ↓x_ret, ↓x_retN, ↓x_drop, ↓x_ifS, ↓x_asg, ↓x_name, ↓x_raise, ↓x_fld, ↓x_setF, ↓x_meth, ↓x_make, ↓x_sub, ↓r_min, ↓r_max, ↓x_yes, ↓x_for, ↓x_lock, ↓x_keys, ↓x_cut, ↓x_lc, ↓x_rng1, ↓x_rng2, ↓x_lst1, ↓x_itup, ↓x_rng3, ↓x_three, ↓x_lstg, ↓x_tupg, ↓x_adrS, ↓x_one, ↓x_two, ↓x_adr, ↓x_sl, ↓x_np, ↓x_pt, ↓x_int, ↓x_bm, ↓x_bm0, ↓x_consg, ↓x_nilg, ↓x_dget2, ↓x_dget1, ↓x_dgetN, ↓x_dget, ↓x_din, ↓x_dni, ↓x_dput, ↓x_dpop2, ↓r_isB, ↓r_notB, ↓x_enum, ↓x_zip, ↓x_str, ↓x_strE, ↓r_inS, ↓r_ninS, wipe, List.map_cons, List.map_nil, ↓x_isT, ↓r_isiII, ↓r_isiBB, ↓r_isiIB, ↓r_isiSS, ↓r_neNS, ↓r_neSN, ↓r_neNN, ↓r_eqNS, ↓r_eqSN, ↓r_eqNN, ↓r_eqIS, ↓r_neIS, ↓r_neSI, ↓r_neBS, ↓r_eqBB, ↓r_neBB, ↓x_start, ↓x_K, ↓x_start0, ↓r_i0, ↓r_i, ↓r_u, ↓r_addI, ↓r_addS, ↓r_mulI, ↓r_mulS, ↓r_eqI, ↓r_neI, ↓r_eqS, ↓r_neS, ↓r_absI, ↓r_intI, ↓r_intB, List.length_cons, List.length_nil, List.replicate, List.set_cons_zero, List.set_cons_succ, decide_eq_true_eq, Bool.not_eq_true', decide_eq_false_iff_not, if_true, if_false, Bool.false_eq_true, Bool.true_eq_false, ite_true, ite_false, Bool.not_true, Bool.not_false, c_div, n_ten, c_pow, not_true_eq_false, not_false_eq_true, decide_true, decide_false, true_and, and_true, and_self, true_or, or_true, Int.reduceLT, Int.reduceLE, Int.reduceMul, Int.reduceAdd, Int.reduceSub, Int.reducePow, Int.reduceNeg, Int.reduceDiv, Int.reduceMod, Nat.reducePow, Int.reduceToNat, Int.reduceEq, Int.reduceNe, Nat.reduceLT, Nat.reduceLeDiff, Nat.reduceAdd, ↓x_whole, ↓x_kind])
/-! ## hands -/
structure HandO (K : PySem.W.Frag) (H : Hp) (h hx l : Addr) (ws : List Int) : Prop where
  ob : H h = some (.ins (He.ga K "Hands") hx (F_Hands (.ref l)))
  ls : H l = some (.lst (ws.map V.int))
  vw : Vw ws
  sz : ws.length ≤ 6
theorem HandO.same {K H H' h hx l ws} (o : HandO K H h hx l ws) (s : Same H H') : HandO K H' h hx l ws := ⟨s _ _ o.ob, s _ _ o.ls, o.vw, o.sz⟩
theorem HandO.ne {K H h hx l ws} (o : HandO K H h hx l ws) : h ≠ l := ne_of o.ob o.ls (by intro z; cases z)
theorem HandO.put {K H h hx l ws} (o : HandO K H h hx l ws) {i : Nat} {n : Int} (hn : (wordOf n).isSome = true) : HandO K (upd H l (.lst ((ws.set i n).map V.int))) h hx l (ws.set i n) :=
  ⟨by rw [upd_ne o.ne]; exact o.ob, upd_same, o.vw.set hn, by rw [List.length_set]; exact o.sz⟩
def handsV : V → Option Nat
  | .int n => if 1 ≤ n ∧ n ≤ 6 then some n.toNat else none
  | _ => none
theorem handsV_int {n : Int} : handsV (.int n) = if 1 ≤ n ∧ n ≤ 6 then some n.toNat else none := rfl
theorem handsV_odd {H : Hp} {v : V} (h : Odd H v) : handsV v = none := by
  cases v with
  | int i => exact (odd_not h).elim
  | _ => rfl
theorem handsV_some {v : V} {n : Nat} (h : handsV v = some n) : v = .int (n : Int) ∧ 1 ≤ n ∧ n ≤ 6 := by
  cases v with
  | int j =>
    rw [handsV_int] at h
    split at h
    · have e := Option.some.inj h
      exact ⟨by rw [← e]; congr 1; omega, by omega⟩
    · cases h
  | _ => cases h
def placesW (ws : List Int) : List Int := ws.filterMap fun w => match wordOf w with
  | some (.place p) => some p
  | _ => none
def sp_Hands___init__ (K : PySem.W.Frag) : Sp := fun vs H Q E => ∃ h dx v, vs = [.ref h, v] ∧ H h = some (.ins (He.ga K "Hands") dx []) ∧ Thing H v ∧ match handsV v with
  | some n => ∀ l H', H l = none → HandO K H' h dx l (List.replicate n (-1)) → (∀ b o, b ≠ h → H b = some o → H' b = some o) → Q .non H'
  | none => E (Ex K "BadCount") none H
def sp_Hands_need (K : PySem.W.Frag) : Sp := fun vs H Q E => ∃ h dx l ws v, vs = [.ref h, v] ∧ HandO K H h dx l ws ∧ Thing H v ∧ match placeOf ws.length v with
  | some _ => Q .non H
  | none => E (Ex K "NoHand") none H
def sp_Hands_get (K : PySem.W.Frag) : Sp := fun vs H Q E => ∃ h dx l ws v, vs = [.ref h, v] ∧ HandO K H h dx l ws ∧ Thing H v ∧ match placeOf ws.length v with
  | some i => Q (.int (ws.getD i 0)) H
  | none => E (Ex K "NoHand") none H
def sp_Hands_put (K : PySem.W.Frag) : Sp := fun vs H Q E => ∃ h dx l ws v z, vs = [.ref h, v, z] ∧ HandO K H h dx l ws ∧ Thing H v ∧ Thing H z ∧ match placeOf ws.length v with
  | some i => (match wordV z with
    | some n => Q .non (upd H l (.lst ((ws.set i n).map V.int)))
    | none => E (Ex K "BadWord") none H)
  | none => E (Ex K "NoHand") none H
def sp_Hands_row (K : PySem.W.Frag) : Sp := fun vs H Q _ => ∃ h dx l ws, vs = [.ref h] ∧ HandO K H h dx l ws ∧ ∀ p, H p = none → Q (.ref p) (upd H p (.lst (ws.map V.int)))
section
variable {P : Program} {w : World} {K : PySem.W.Frag} {mg : Str → Option Value} {base : Heap}
theorem f_Hands___init__ (T : Tx K mg) : Mi P w K mg base 2 "Hands" ["self", "many"] (sp_Hands___init__ K) := by
  have c_is_whole := f_is_whole (P := P) (w := w) (base := base) T
  refine T.mkMi 46 138 14 (d := d_Hands___init__) (N := ["self", "many", "hand"]) (k := 1) rfl rfl rfl rfl rfl rfl sc_Hands___init__ (fun _ _ _ _ _ _ us hl => match us, hl with | [_, _], _ => rfl) (fun vs H Q E h => ?len) (fun cdv A outer s H vs Q E hr h => ⟨_,
      (pss_cons (ps_if (PW.pt (pw_or (pt_not (pt_val (pe_fn (takes_of rfl rfl rfl rfl) c_is_whole (hr.mono (by decide)) (by rfl) (pa_cons (pv 1) pa_nil)))) (pw_or1 (pt_not (pt_chain op_le op_le pe_int (pv 1) (pe_num (T.num 75) (by rfl))))))) (pss_one (ps_raiseK (K := K) rfl rfl (takes_of rfl rfl rfl rfl) (T.says.fact 91 rfl) (T.glo 3) (by rfl))) pss_nil)
        (pss_one (ps_fldC (T.cls 137) (T.noat 143) (pv 0) (pe_lc (own := [("hand", 2)]) (g := gName 2) rfl sc_Hands___init__.nd (pi_range1 rfl (T.free 79) (pa_cons (pv 1) pa_nil)) (blkOk_by (own := [("hand", 2)]) (N := ["self", "many", "hand"]) (sc := defScope s_Hands___init__) (by decide +kernel)) (fun _ _ _ _ _ => (pg_name (i := 2) sc_Hands___init__.nd rfl (Or.inl rfl))) (fun _ _ _ _ _ => pts_nil) (fun _ _ _ _ _ => (pe_num (T.num 67) (by rfl))))))), ?rd⟩)
  case len => first | exact len_Hands___init__ h | (repeat (first | (obtain ⟨rfl, _⟩ := h; rfl; done) | obtain ⟨_, h⟩ := h))
  case rd =>
    obtain ⟨m, dx, v, rfl, M, th, h⟩ := h
    walk_at "w2"
    rcases th with ⟨n, rfl⟩ | o
    · walk_at "w2"
      rw [handsV_int] at h
      split
      · split
        · rw [if_neg (by omega)] at h
          exact h
        · rw [if_pos (by omega)] at h
          refine ⟨by omega, by omega, fun D hD => lc_mapR (fun _ => .int (-1)) (fun _ => rfl) (by rw [sizeLine_eq]; omega) (fun i hi acc Q q => ?_) ?_⟩
          · walk_at "w2"
            exact q
          · have nD : m ≠ D := ne_of_none M hD
            refine ⟨m, dx, _, rfl, by rw [upd_ne nD]; exact M, by show 0 < 1000; decide, ?_⟩
            rw [pi_Hands_kept]
            have er : (List.range n.toNat).map (fun _ => V.int (-1)) = (List.replicate n.toNat (-1 : Int)).map V.int := by rw [List.map_replicate, List.map_const', List.length_range]
            rw [er]
            refine h D _ hD ⟨upd_same, ?_, Vw.rep, by rw [List.length_replicate]; omega⟩ fun b o hb e => ?_
            · rw [upd_ne nD.symm, upd_same]
            · rw [upd_ne hb, upd_ne (ne_of_none e hD)]
              exact e
      · rw [if_neg (by omega)] at h
        exact h
    · rw [odd_whole o]
      rw [handsV_odd o] at h
      walk_at "w2"
      exact h
theorem f_Hands_need (T : Tx K mg) : Mt P w K mg base 2 "Hands" "need" ["self", "hand"] (sp_Hands_need K) := by
  have c_is_whole := f_is_whole (P := P) (w := w) (base := base) T
  refine T.mkMt 47 139 137 (d := d_Hands_need) (N := ["self", "hand"]) (k := 1) rfl rfl rfl rfl rfl rfl sc_Hands_need (fun _ _ _ _ _ _ us hl => match us, hl with | [_, _], _ => rfl) (fun vs H Q E h => ?len) (fun cdv A outer s H vs Q E hr h => ⟨_,
      (pss_one (ps_if (PW.pt (pw_or (pt_not (pt_val (pe_fn (takes_of rfl rfl rfl rfl) c_is_whole (hr.mono (by decide)) (by rfl) (pa_cons (pv 1) pa_nil)))) (pw_or1 (pt_not (pt_chain op_le op_lt pe_int (pv 1) (pe_callB (call_lenK (K := K) rfl) (by rfl) (T.free 77) PySem.boot_len (pa_cons (pe_fldC (T.cls 137) (T.noat 143) (pv 0)) pa_nil))))))) (pss_one (ps_raiseK (K := K) rfl rfl (takes_of rfl rfl rfl rfl) (T.says.fact 96 rfl) (T.glo 8) (by rfl))) pss_nil)), ?rd⟩)
  case len => first | exact len_Hands_need h | (repeat (first | (obtain ⟨rfl, _⟩ := h; rfl; done) | obtain ⟨_, h⟩ := h))
  case rd =>
    obtain ⟨m, dx, l, ws, v, rfl, M, th, h⟩ := h
    walk_at "w2"
    rcases th with ⟨n, rfl⟩ | o
    · walk_at "w2"
      rw [placeOf_int] at h
      split
      · refine ⟨_, fldIs M.ob, r_lenL M.ls ?_⟩
        walk_at "w2"
        rw [List.length_map]
        split
        · rw [if_neg (by omega)] at h
          exact h
        · rw [if_pos (by omega)] at h
          exact h
      · rw [if_neg (by omega)] at h
        exact h
    · rw [odd_whole o]
      rw [placeOf_odd o] at h
      walk_at "w2"
      exact h
theorem f_Hands_get (T : Tx K mg) : Mt P w K mg base 3 "Hands" "get" ["self", "hand"] (sp_Hands_get K) := by
  have c_Hands_need := f_Hands_need (P := P) (w := w) (base := base) T
  refine T.mkMt 48 140 137 (d := d_Hands_get) (N := ["self", "hand"]) (k := 2) rfl rfl rfl rfl rfl rfl sc_Hands_get (fun _ _ _ _ _ _ us hl => match us, hl with | [_, _], _ => rfl) (fun vs H Q E h => ?len) (fun cdv A outer s H vs Q E hr h => ⟨_,
      (pss_cons (ps_expr (pe_mt (K := K) rfl (takes_of rfl rfl rfl rfl) (pv 0) c_Hands_need (hr.mono (by decide)) (pa_cons (pv 1) pa_nil)))
        (pss_one (ps_ret (pe_ix (ix_seqK (K := K) rfl) (pe_fldC (T.cls 137) (T.noat 143) (pv 0)) (pv 1) (fun _ _ => rfl))))), ?rd⟩)
  case len => first | exact len_Hands_get h | (repeat (first | (obtain ⟨rfl, _⟩ := h; rfl; done) | obtain ⟨_, h⟩ := h))
  case rd =>
    obtain ⟨m, dx, l, ws, v, rfl, M, th, h⟩ := h
    walk_at "w2"
    refine ⟨recv M.ob, m, dx, l, ws, v, rfl, M, th, ?_⟩
    cases e : placeOf ws.length v with
    | none =>
      rw [e] at h
      exact h
    | some i =>
      rw [e] at h
      obtain ⟨rfl, hi⟩ := placeOf_some e
      refine ⟨_, fldIs M.ob, ?_⟩
      refine r_ixL M.ls ?_ h
      rw [List.getElem?_map, getD_at (d := 0) hi]
      rfl
theorem f_Hands_put (T : Tx K mg) : Mt P w K mg base 3 "Hands" "put" ["self", "hand", "word"] (sp_Hands_put K) := by
  have c_Hands_need := f_Hands_need (P := P) (w := w) (base := base) T
  have c_kind := f_kind (P := P) (w := w) (base := base) T
  refine T.mkMt 49 141 137 (d := d_Hands_put) (N := ["self", "hand", "word"]) (k := 2) rfl rfl rfl rfl rfl rfl sc_Hands_put (fun _ _ _ _ _ _ us hl => match us, hl with | [_, _, _], _ => rfl) (fun vs H Q E h => ?len) (fun cdv A outer s H vs Q E hr h => ⟨_,
      (pss_cons (ps_expr (pe_mt (K := K) rfl (takes_of rfl rfl rfl rfl) (pv 0) c_Hands_need (hr.mono (by decide)) (pa_cons (pv 1) pa_nil)))
        (pss_cons (ps_expr (pe_fn (takes_of rfl rfl rfl rfl) c_kind (hr.mono (by decide)) (by rfl) (pa_cons (pv 2) pa_nil)))
        (pss_one (ps_asg (pv 2) (pg_sub (pe_fldC (T.cls 137) (T.noat 143) (pv 0)) (pv 1) set_list))))), ?rd⟩)
  case len => first | exact len_Hands_put h | (repeat (first | (obtain ⟨rfl, _⟩ := h; rfl; done) | obtain ⟨_, h⟩ := h))
  case rd =>
    obtain ⟨m, dx, l, ws, v, z, rfl, M, th, tz, h⟩ := h
    walk_at "w2"
    refine ⟨recv M.ob, m, dx, l, ws, v, rfl, M, th, ?_⟩
    cases e : placeOf ws.length v with
    | none =>
      rw [e] at h
      exact h
    | some i =>
      rw [e] at h
      obtain ⟨rfl, hi⟩ := placeOf_some e
      walk_at "w2"
      rcases tz with ⟨n, rfl⟩ | o
      · rw [x_kind]
        rw [wordV_int] at h
        cases ew : wordOf n with
        | none =>
          rw [ew] at h
          exact h
        | some w =>
          rw [ew] at h
          refine ⟨_, fldIs M.ob, ?_⟩
          refine r_setL M.ls (by omega) (by rw [List.length_map]; omega) ?_
          rw [Int.toNat_natCast, ← List.map_set]
          exact h
      · rw [odd_kind o]
        rw [wordV_odd o] at h
        exact h
theorem f_Hands_row (T : Tx K mg) : Mt P w K mg base 1 "Hands" "row" ["self"] (sp_Hands_row K) := by
  refine T.mkMt 50 142 137 (d := d_Hands_row) (N := ["self"]) (k := 0) rfl rfl rfl rfl rfl rfl sc_Hands_row (fun _ _ _ _ _ _ us hl => match us, hl with | [_], _ => rfl) (fun vs H Q E h => ?len) (fun cdv A outer s H vs Q E hr h => ⟨_,
      (pss_one (ps_ret (pe_callTy (call_listK (K := K) rfl) (by rfl) (T.free 85) (by decide +kernel) (pa_cons (pe_fldC (T.cls 137) (T.noat 143) (pv 0)) pa_nil)))), ?rd⟩)
  case len => first | exact len_Hands_row h | (repeat (first | (obtain ⟨rfl, _⟩ := h; rfl; done) | obtain ⟨_, h⟩ := h))
  case rd =>
    obtain ⟨m, dx, l, ws, rfl, M, q⟩ := h
    walk_at "w2"
    exact ⟨_, fldIs M.ob, l, _, rfl, .inl (.of M.ls), q⟩
end
structure RoA where
  (r rx h hx hl b bx w wx wl la lax d e : Addr)
structure RoS where
  (hs : List Int) (bd : Addr) (bs : List Int) (ts : List V) (rs : List V) (ws : List (Option (Int × Int))) (ss : List Int)
/-- roots: where the parts stand, what they hold -/
structure RootO (K : PySem.W.Frag) (H : Hp) (A : RoA) (S : RoS) : Prop where
  ob : H A.r = some (.ins (He.ga K "Roots") A.rx (F_Roots (.ref A.h) (.ref A.b) (.ref A.w) (.ref A.la)))
  ho : HandO K H A.h A.hx A.hl S.hs
  bo : BookO K H A.b A.bx S.bd S.bs
  wo : WeakO K H A.w A.wx A.wl S.ts
  lo : LastO K H A.la A.lax A.d A.e S.rs S.ws S.ss
  n1 : A.hl ≠ A.wl
  n2 : A.hl ≠ A.d
  n3 : A.hl ≠ A.e
  n4 : A.wl ≠ A.d
  n5 : A.wl ≠ A.e
theorem RootO.same {K H H' A S} (h : RootO K H A S) (s : Same H H') : RootO K H' A S := { h with ob := s _ _ h.ob, ho := h.ho.same s, bo := h.bo.same s, wo := h.wo.same s, lo := h.lo.same s }
def sp_Roots_starts (K : PySem.W.Frag) : Sp := fun vs H Q _ => ∃ r rx h hx l ws, ∃ f2 f3 f4 : V, vs = [.ref r] ∧ H r = some (.ins (He.ga K "Roots") rx (F_Roots (.ref h) f2 f3 f4)) ∧ HandO K H h hx l ws ∧
  ∀ p H', H p = none → Same H H' → H' p = some (.lst ((placesW ws).map V.int)) → Q (.ref p) H'
def sp_Roots___init__ (K : PySem.W.Frag) : Sp := fun vs H Q E => ∃ r dx v, vs = [.ref r, v] ∧ H r = some (.ins (He.ga K "Roots") dx []) ∧ Thing H v ∧ match handsV v with
  | some n => ∀ A S H', A.r = r → S = ⟨List.replicate n (-1), S.bd, [], [], [], [], []⟩ → RootO K H' A S → (∀ c, c = A.h ∨ c = A.hl ∨ c = A.b ∨ c = S.bd ∨ c = A.w ∨ c = A.wl ∨ c = A.la ∨ c = A.d ∨ c = A.e → H c = none) → (∀ b o, b ≠ r → H b = some o → H' b = some o) → Q .non H'
  | none => ∀ H', (∀ b o, b ≠ r → H b = some o → H' b = some o) → E (Ex K "BadCount") none H'
def gPlace : V → Option V
  | .int x => match wordOf x with
    | some (.place p) => some (.int p)
    | _ => none
  | _ => none
def kidV : Wd → Option V
  | .place p => some (.int p)
  | _ => none
theorem gPlace_word {x : Int} {w : Wd} (e : wordOf x = some w) : gPlace (.int x) = kidV w := by
  unfold gPlace
  dsimp only
  rw [e]
  cases w <;> rfl
theorem places_map {ws : List Int} : (ws.map V.int).filterMap gPlace = (placesW ws).map V.int := by
  unfold placesW
  rw [List.filterMap_map, List.map_filterMap]
  congr 1
  funext x
  show gPlace (.int x) = _
  unfold gPlace
  dsimp only
  cases wordOf x with
  | none => rfl
  | some w => cases w <;> rfl
section
variable {P : Program} {w : World} {K : PySem.W.Frag} {mg : Str → Option Value} {base : Heap}
theorem f_Roots_starts (T : Tx K mg) : Mt P w K mg base 4 "Roots" "starts" ["self"] (sp_Roots_starts K) := by
  have c_Hands_row := f_Hands_row (P := P) (w := w) (base := base) T
  have c_kind := f_kind (P := P) (w := w) (base := base) T
  have c_worth := f_worth (P := P) (w := w) (base := base) T
  refine T.mkMt 67 166 164 (d := d_Roots_starts) (N := ["self", "word"]) (k := 3) rfl rfl rfl rfl rfl rfl sc_Roots_starts (fun _ _ _ _ _ _ us hl => match us, hl with | [_], _ => rfl) (fun vs H Q E h => ?len) (fun cdv A outer s H vs Q E hr h => ⟨_,
      (pss_one (ps_ret (pe_lc (own := [("word", 1)]) (g := gName 1) rfl sc_Roots_starts.nd (pi_listK (K := K) rfl (pe_mt0 (K := K) rfl (takes_of rfl rfl rfl rfl) (pe_fldC (T.cls 164) (T.noat 167) (pv 0)) c_Hands_row (hr.mono (by decide)))) (blkOk_by (own := [("word", 1)]) (N := ["self", "word"]) (sc := defScope s_Roots_starts) (by decide +kernel)) (fun _ _ _ _ _ => (pg_name (i := 1) sc_Roots_starts.nd rfl (Or.inl rfl))) (fun _ _ _ _ _ => pts_one (pt_cmpR (op_eqK (K := K) rfl hr.units) (pe_fn takes0 c_kind (hr.mono (by decide)) (by rfl) (pa_cons (pv 1) pa_nil)) pe_str (nomark _))) (fun _ _ _ _ _ => (pe_fn takes0 c_worth (hr.mono (by decide)) (by rfl) (pa_cons (pv 1) pa_nil)))))), ?rd⟩)
  case len => first | exact len_Roots_starts h | (repeat (first | (obtain ⟨rfl, _⟩ := h; rfl; done) | obtain ⟨_, h⟩ := h))
  case rd =>
    obtain ⟨r, rx, hh, hx, l, ws, f2, f3, f4, rfl, R, M, q⟩ := h
    walk_at "w2"
    refine ⟨_, fldIs R, recv M.ob, hh, hx, l, ws, rfl, M, fun p1 np1 => ?_⟩
    walk_at "w2"
    have s1 := same_new (o := .lst (ws.map V.int)) np1
    refine ⟨⟨_, .of upd_same⟩, fun D hD => lc_iffL (xs := ws.map V.int) (g := gPlace) (fun _ => rfl) (fun acc => .of ((same_new hD) _ _ upd_same)) (by have := M.sz; rw [List.length_map, sizeLine_eq]; omega) (fun i x hx acc N n1 n2 => ?_) (fun i x y hx hy acc Q2 q2 => ?_) ?_⟩
    · obtain ⟨n, rfl, hn⟩ := ints_mem hx
      obtain ⟨w, ew⟩ := Option.isSome_iff_exists.mp (M.vw n hn)
      rw [gPlace_word ew] at n1 n2
      walk_at "w2"
      rw [ew]
      dsimp only
      cases w with
      | nothing => simp only [k_nn, k_pn, k_Nn, k_np, k_Np, k_pp, not_true_eq_false, not_false_eq_true, if_true, if_false, ite_true, ite_false, Wd.worth]; first | exact n2 rfl | (rw [decide_eq_false (fun z => z)]; exact n2 rfl)
      | num n => simp only [k_nn, k_pn, k_Nn, k_np, k_Np, k_pp, not_true_eq_false, not_false_eq_true, if_true, if_false, ite_true, ite_false, Wd.worth]; first | exact n2 rfl | (rw [decide_eq_false (fun z => z)]; exact n2 rfl)
      | place p => simp only [k_nn, k_pn, k_Nn, k_np, k_Np, k_pp, not_true_eq_false, not_false_eq_true, if_true, if_false, ite_true, ite_false, Wd.worth]; first | exact n1 rfl | (rw [decide_eq_true trivial]; exact n1 rfl)
    · obtain ⟨n, rfl, hn⟩ := ints_mem hx
      obtain ⟨w, ew⟩ := Option.isSome_iff_exists.mp (M.vw n hn)
      rw [gPlace_word ew] at hy
      walk_at "w2"
      rw [x_worth, ew]
      cases w with
      | place p =>
        cases hy
        exact q2
      | _ => cases hy
    · rw [places_map]
      exact q D _ (none_of s1 hD) (s1.trans (same_new hD)) upd_same
theorem f_Roots___init__ (T : Tx K mg) : Mi P w K mg base 4 "Roots" ["self", "many"] (sp_Roots___init__ K) := by
  have c_Hands___init__ := f_Hands___init__ (P := P) (w := w) (base := base) T
  have c_Book___init__ := f_Book___init__ (P := P) (w := w) (base := base) T
  have c_Weak___init__ := f_Weak___init__ (P := P) (w := w) (base := base) T
  have c_Lasts___init__ := f_Lasts___init__ (P := P) (w := w) (base := base) T
  refine T.mkMi 66 165 17 (d := d_Roots___init__) (N := ["self", "many"]) (k := 3) rfl rfl rfl rfl rfl rfl sc_Roots___init__ (fun _ _ _ _ _ _ us hl => match us, hl with | [_, _], _ => rfl) (fun vs H Q E h => ?len) (fun cdv A outer s H vs Q E hr h => ⟨_,
      (pss_cons (ps_fldC (T.cls 164) (T.noat 167) (pv 0) (pe_mk (K := K) rfl (takes_of rfl rfl rfl rfl) c_Hands___init__ (hr.mono (by decide)) (by rfl) (pa_cons (pv 1) pa_nil)))
        (pss_cons (ps_fldC (T.cls 164) (T.noat 168) (pv 0) (pe_mk0 (K := K) rfl (takes_of rfl rfl rfl rfl) c_Book___init__ (hr.mono (by decide)) (by rfl)))
        (pss_cons (ps_fldC (T.cls 164) (T.noat 169) (pv 0) (pe_mk0 (K := K) rfl (takes_of rfl rfl rfl rfl) c_Weak___init__ (hr.mono (by decide)) (by rfl)))
        (pss_one (ps_fldC (T.cls 164) (T.noat 170) (pv 0) (pe_mk0 (K := K) rfl (takes_of rfl rfl rfl rfl) c_Lasts___init__ (hr.mono (by decide)) (by rfl))))))), ?rd⟩)
  case len => first | exact len_Roots___init__ h | (repeat (first | (obtain ⟨rfl, _⟩ := h; rfl; done) | obtain ⟨_, h⟩ := h))
  case rd =>
    obtain ⟨r, dx, v, rfl, HR, th, h⟩ := h
    walk_at "w2"
    intro hh hx nh nhx nhe
    have sm := same_mk (C := He.ga K "Hands") nh nhx nhe
    refine ⟨hh, hx, v, rfl, upd_same, thing_same sm th, ?_⟩
    cases ev : handsV v with
    | none =>
      rw [ev] at h
      exact h _ fun b o _ g => sm _ _ g
    | some n =>
      rw [ev] at h
      dsimp only
      intro l H2 nl M1 k1
      have s1 := same_init nh nhx nhe k1
      have ra : hh ≠ r := (ne_of_none HR nh).symm
      walk_at "w2"
      refine ⟨r, dx, _, rfl, s1 _ _ HR, by decide, ?_⟩
      rw [pi_Roots_hands]
      have k3 : ∀ {c x}, c ≠ r → H2 c = some x → upd H2 r (.ins (He.ga K "Roots") dx [(("hands" : Str), V.ref hh)]) c = some x := fun h g => by rw [upd_ne h]; exact g
      have a3 : upd H2 r (.ins (He.ga K "Roots") dx [(("hands" : Str), V.ref hh)]) r = some (.ins (He.ga K "Roots") dx [(("hands" : Str), V.ref hh)]) := upd_same
      generalize upd H2 r (.ins (He.ga K "Roots") dx [(("hands" : Str), V.ref hh)]) = H3 at k3 a3 ⊢
      intro b bx nb nbx nbe
      refine ⟨b, bx, rfl, upd_same, fun bd H4 nbd B4 k4 => ?_⟩
      have s4 := same_init nb nbx nbe k4
      have ba : b ≠ r := (ne_of_none a3 nb).symm
      walk_at "w2"
      refine ⟨r, dx, _, rfl, s4 _ _ a3, by show 1 < 1000; decide, ?_⟩
      rw [pi_Roots_book]
      have k5 : ∀ {c x}, c ≠ r → H4 c = some x → upd H4 r (.ins (He.ga K "Roots") dx [(("hands" : Str), V.ref hh), ("book", V.ref b)]) c = some x := fun h g => by rw [upd_ne h]; exact g
      have a5 : upd H4 r (.ins (He.ga K "Roots") dx [(("hands" : Str), V.ref hh), ("book", V.ref b)]) r = some (.ins (He.ga K "Roots") dx [(("hands" : Str), V.ref hh), ("book", V.ref b)]) := upd_same
      generalize upd H4 r (.ins (He.ga K "Roots") dx [(("hands" : Str), V.ref hh), ("book", V.ref b)]) = H5 at k5 a5 ⊢
      intro w wx nw nwx nwe
      refine ⟨w, wx, rfl, upd_same, fun wl H6 nwl W6 k6 => ?_⟩
      have s6 := same_init nw nwx nwe k6
      have wa : w ≠ r := (ne_of_none a5 nw).symm
      walk_at "w2"
      refine ⟨r, dx, _, rfl, s6 _ _ a5, by show 2 < 1000; decide, ?_⟩
      rw [pi_Roots_weaks]
      have k7 : ∀ {c x}, c ≠ r → H6 c = some x → upd H6 r (.ins (He.ga K "Roots") dx [(("hands" : Str), V.ref hh), ("book", V.ref b), ("weaks", V.ref w)]) c = some x := fun h g => by rw [upd_ne h]; exact g
      have a7 : upd H6 r (.ins (He.ga K "Roots") dx [(("hands" : Str), V.ref hh), ("book", V.ref b), ("weaks", V.ref w)]) r = some (.ins (He.ga K "Roots") dx [(("hands" : Str), V.ref hh), ("book", V.ref b), ("weaks", V.ref w)]) := upd_same
      generalize upd H6 r (.ins (He.ga K "Roots") dx [(("hands" : Str), V.ref hh), ("book", V.ref b), ("weaks", V.ref w)]) = H7 at k7 a7 ⊢
      intro la lx nla nlx nle
      refine ⟨la, lx, rfl, upd_same, fun d e H8 nd ne L8 k8 => ?_⟩
      have s8 := same_init nla nlx nle k8
      have laa : la ≠ r := (ne_of_none a7 nla).symm
      walk_at "w2"
      refine ⟨r, dx, _, rfl, s8 _ _ a7, by show 3 < 1000; decide, ?_⟩
      rw [pi_Roots_lasts]
      have k9 : ∀ {c x}, c ≠ r → H8 c = some x → upd H8 r (.ins (He.ga K "Roots") dx (F_Roots (.ref hh) (.ref b) (.ref w) (.ref la))) c = some x := fun h g => by rw [upd_ne h]; exact g
      have k69 : ∀ {c x}, c ≠ r → H6 c = some x → upd H8 r (.ins (He.ga K "Roots") dx (F_Roots (.ref hh) (.ref b) (.ref w) (.ref la))) c = some x := fun h g => k9 h (s8 _ _ (k7 h g))
      have k49 : ∀ {c x}, c ≠ r → H4 c = some x → upd H8 r (.ins (He.ga K "Roots") dx (F_Roots (.ref hh) (.ref b) (.ref w) (.ref la))) c = some x := fun h g => k69 h (s6 _ _ (k5 h g))
      have k29 : ∀ {c x}, c ≠ r → H2 c = some x → upd H8 r (.ins (He.ga K "Roots") dx (F_Roots (.ref hh) (.ref b) (.ref w) (.ref la))) c = some x := fun h g => k49 h (s4 _ _ (k3 h g))
      have nn : ∀ {Hi : Hp} {c : Addr}, (∀ {c x}, c ≠ r → H c = some x → Hi c = some x) → c ≠ r → Hi c = none → H c = none := fun {Hi c} k h g => by
        cases e : H c with
        | none => rfl
        | some x =>
          rw [k h e] at g
          cases g
      have lr : ∀ {Hi : Hp} {c : Addr} {o : HO} {xs : List V}, Hi r = some o → (∃ C d fs, o = .ins C d fs) → Hi c = some (.lst xs) → c ≠ r := fun g ⟨C, d, fs, e⟩ g2 => ne_of g2 g (by rw [e]; intro z; cases z)
      have l2 := lr (s1 _ _ HR) ⟨_, _, _, rfl⟩ M1.ls
      have l6 := lr (s6 _ _ a5) ⟨_, _, _, rfl⟩ W6.ls
      have l8 := lr (s8 _ _ a7) ⟨_, _, _, rfl⟩ L8.wa
      have l8' := lr (s8 _ _ a7) ⟨_, _, _, rfl⟩ L8.sk
      have l4 : bd ≠ r := ne_of B4.ds (s4 _ _ a3) (by intro z; cases z)
      have g1 : ∀ {c x}, c ≠ r → H c = some x → H3 c = some x := fun h g => k3 h (s1 _ _ g)
      have g3 : ∀ {c x}, c ≠ r → H c = some x → H5 c = some x := fun h g => k5 h (s4 _ _ (g1 h g))
      have g5 : ∀ {c x}, c ≠ r → H c = some x → H7 c = some x := fun h g => k7 h (s6 _ _ (g3 h g))
      refine h ⟨r, dx, hh, hx, l, b, bx, w, wx, wl, la, lx, d, e⟩ ⟨List.replicate n (-1), bd, [], [], [], [], []⟩ _ rfl rfl ⟨upd_same, ⟨k29 ra M1.ob, k29 l2 M1.ls, M1.vw, M1.sz⟩, ⟨k49 ba B4.ob, k49 l4 B4.ds, B4.nd⟩, ⟨k69 wa W6.ob, k69 l6 W6.ls⟩, ⟨k9 laa L8.ob, k9 l8 L8.wa, WtAll.nil, k9 l8' L8.sk, L8.de⟩, ?_, ?_, ?_, ?_, ?_⟩ ?_ fun b o h g => k9 h (s8 _ _ (g5 h g))
      · exact ne_of_none ((same_mk nw nwx nwe) _ _ (k5 l2 (s4 _ _ (k3 l2 M1.ls)))) nwl
      · exact ne_of_none ((same_mk nla nlx nle) _ _ (k7 l2 (s6 _ _ (k5 l2 (s4 _ _ (k3 l2 M1.ls)))))) nd
      · exact ne_of_none ((same_mk nla nlx nle) _ _ (k7 l2 (s6 _ _ (k5 l2 (s4 _ _ (k3 l2 M1.ls)))))) ne
      · exact ne_of_none ((same_mk nla nlx nle) _ _ (k7 l6 W6.ls)) nd
      · exact ne_of_none ((same_mk nla nlx nle) _ _ (k7 l6 W6.ls)) ne
      · rintro c (rfl | rfl | rfl | rfl | rfl | rfl | rfl | rfl | rfl)
        · exact nh
        · exact none_of sm nl
        · exact nn g1 ba nb
        · exact nn g1 l4 (none_of (same_mk nb nbx nbe) nbd)
        · exact nn g3 wa nw
        · exact nn g3 l6 (none_of (same_mk nw nwx nwe) nwl)
        · exact nn g5 laa nla
        · exact nn g5 l8 (none_of (same_mk nla nlx nle) nd)
        · exact nn g5 l8' (none_of (same_mk nla nlx nle) ne)
end

/-! ## cells of a law's own: by places, rows of words -/
structure CeL where
  (p : Nat) (r : Addr) (ws : List Int)
def kvsOf (f : Nat → Int) (C : List CeL) : List (Key × V) := C.map fun c => (.inl (f c.p), .ref c.r)
theorem kvs_none {f : Nat → Int} {C : List CeL} {n : Int} (h : ∀ c ∈ C, f c.p ≠ n) : valV (kvsOf f C) (.inl n : Key) = none := by
  induction C with
  | nil => rfl
  | cons c r ih =>
    have e2 : ¬ ((.inl (f c.p) : Key) = .inl n) := fun z => h c (List.mem_cons_self) (Sum.inl.inj z)
    exact (valV_neg (p := ((.inl (f c.p) : Key), V.ref c.r)) (r := kvsOf f r) e2).trans (ih fun c m => h c (List.mem_cons_of_mem _ m))
theorem kvs_some {f : Nat → Int} {C : List CeL} {c : CeL} (nd : C.Pairwise fun a b => f a.p ≠ f b.p) (h : c ∈ C) : valV (kvsOf f C) (.inl (f c.p) : Key) = some (.ref c.r) := by
  induction C with
  | nil => exact (List.not_mem_nil h).elim
  | cons a r ih =>
    obtain ⟨n1, n2⟩ := List.pairwise_cons.mp nd
    rcases List.mem_cons.mp h with rfl | h
    · exact valV_pos rfl
    · have e2 : ¬ ((.inl (f a.p) : Key) = .inl (f c.p)) := fun z => n1 c h (Sum.inl.inj z)
      exact (valV_neg (p := ((.inl (f a.p) : Key), V.ref a.r)) (r := kvsOf f r) e2).trans (ih n2 h)
theorem kvs_put {f : Nat → Int} {C : List CeL} {c : CeL} (h : ∀ a ∈ C, f a.p ≠ f c.p) : putK (kvsOf f C) (.inl (f c.p) : Key) (.ref c.r) = kvsOf f (C ++ [c]) := by
  unfold putK
  rw [valV_any, kvs_none h]
  show kvsOf f C ++ [(.inl (f c.p), .ref c.r)] = _
  unfold kvsOf
  rw [List.map_append]
  rfl
/-- which cells are laid, where their rows are, what they hold -/
structure CellsO (f : Nat → Int) (H : Hp) (S : ArS) (d : Addr) (C : List CeL) : Prop where
  dd : H d = some (.dK (kvsOf f C))
  rw_ : ∀ c ∈ C, H c.r = some (.lst (c.ws.map V.int))
  hd : ∀ c ∈ C, ∃ a, a ≤ 2 ∧ headAt (S.ws.getD c.p 0) = some (4 * c.ws.length + a)
  sl : ∀ c ∈ C, ∀ j, j < c.ws.length → S.ws.getD (c.p + 1 + j) 0 = c.ws.getD j 0
  ar : ∀ c ∈ C, c.p + c.ws.length < S.ot ∨ (S.b S.fl ≤ c.p ∧ c.p + c.ws.length < S.t S.fl)
  dj : C.Pairwise fun a b => a.p + a.ws.length < b.p ∨ b.p + b.ws.length < a.p
  rd : C.Pairwise fun a b => a.r ≠ b.r
theorem CellsO.same {f H H' S d C} (h : CellsO f H S d C) (s : Same H H') : CellsO f H' S d C := { h with dd := s _ _ h.dd, rw_ := fun c m => s _ _ (h.rw_ c m) }
theorem CellsO.keys {f H S d C} (h : CellsO f H S d C) (inj : ∀ a b, f a = f b → a = b) : C.Pairwise fun a b => f a.p ≠ f b.p := h.dj.imp fun {a b} q e => by
  have := inj _ _ e
  omega
/-- another heap, in which dict and rows are as they were -/
theorem CellsO.keep {f H H' S d C} (h : CellsO f H S d C) (k : ∀ b o, (b = d ∨ ∃ c ∈ C, b = c.r) → H b = some o → H' b = some o) : CellsO f H' S d C := { h with dd := k _ _ (.inl rfl) h.dd, rw_ := fun c m => k _ _ (.inr ⟨c, m, rfl⟩) (h.rw_ c m) }
theorem CellsO.lt {f H S d C} (h : CellsO f H S d C) (e : S.ws.length = S.n + 2 * S.k) (lo : S.ot ≤ S.n) (l1 : S.t S.fl ≤ S.b S.fl + S.k) : ∀ c ∈ C, c.p + c.ws.length < S.ws.length := fun c m => by
  have hb : S.b S.fl + S.k ≤ S.n + 2 * S.k := by unfold ArS.b; split <;> omega
  rcases h.ar c m with q | q <;> omega
theorem layT_high {ws : List Int} {i s t j : Nat} (h : i + t < j) : (layT ws i s t).getD j 0 = ws.getD j 0 := by
  induction t with
  | zero =>
    show (ws.set i (8 * (s : Int))).getD j 0 = _
    rw [List.getD_eq_getElem?_getD, List.getElem?_set_ne (by omega), ← List.getD_eq_getElem?_getD]
  | succ t ih =>
    rw [layT_succ, List.getD_eq_getElem?_getD, List.getElem?_set_ne (by omega), ← List.getD_eq_getElem?_getD, ih (by omega)]
theorem layT_low' {ws : List Int} {i s t j : Nat} (h : j < i) : (layT ws i s t).getD j 0 = ws.getD j 0 := by
  induction t with
  | zero =>
    show (ws.set i (8 * (s : Int))).getD j 0 = _
    rw [List.getD_eq_getElem?_getD, List.getElem?_set_ne (by omega), ← List.getD_eq_getElem?_getD]
  | succ t ih =>
    rw [layT_succ, List.getD_eq_getElem?_getD, List.getElem?_set_ne (by omega), ← List.getD_eq_getElem?_getD, ih]
theorem laidS_off {S : ArS} {old : Bool} {s j : Nat} (h : j < topA S old ∨ topA S old + s < j) : (laidS S old s).ws.getD j 0 = S.ws.getD j 0 := by
  cases old
  · show (layT S.ws (S.t S.fl) s s).getD j 0 = _
    have h : j < S.t S.fl ∨ S.t S.fl + s < j := h
    rcases h with h | h
    · exact layT_low' h
    · exact layT_high h
  · show ((layT S.ws S.ot s s).set S.ot _).getD j 0 = _
    have h : j < S.ot ∨ S.ot + s < j := h
    rw [List.getD_eq_getElem?_getD, List.getElem?_set_ne (by omega), ← List.getD_eq_getElem?_getD]
    rcases h with h | h
    · exact layT_low' h
    · exact layT_high h
theorem laidS_ot {S : ArS} {old : Bool} {s : Nat} : (laidS S old s).ot = if old then S.ot + (s + 1) else S.ot := by
  cases old
  · show (S.put S.fl _).ot = _
    unfold ArS.put
    cases S.fl <;> rfl
  · rfl
theorem laidS_same {S : ArS} {old : Bool} {s : Nat} : (laidS S old s).fl = S.fl ∧ (laidS S old s).n = S.n ∧ (laidS S old s).k = S.k ∧ ∀ f, (laidS S old s).b f = S.b f := by
  cases old
  · show (S.put S.fl _).fl = _ ∧ (S.put S.fl _).n = _ ∧ (S.put S.fl _).k = _ ∧ ∀ f, (S.put S.fl _).b f = S.b f
    unfold ArS.put ArS.b
    cases S.fl <;> exact ⟨rfl, rfl, rfl, fun f => rfl⟩
  · exact ⟨rfl, rfl, rfl, fun f => rfl⟩
theorem laidS_t {S : ArS} {old : Bool} {s : Nat} : (laidS S old s).t S.fl = if old then S.t S.fl else S.t S.fl + (s + 1) := by
  cases old
  · show (S.put S.fl _).t S.fl = _
    unfold ArS.put ArS.t
    cases S.fl <;> rfl
  · rfl
theorem laidS_t' {S : ArS} {old : Bool} {s : Nat} : (laidS S old s).t (!S.fl) = S.t (!S.fl) := by
  cases old
  · show (S.put S.fl _).t (!S.fl) = _
    unfold ArS.put ArS.t
    cases S.fl <;> rfl
  · rfl
theorem CellsO.fresh {f H S d C s old} (h : CellsO f H S d C) (lo : S.ot ≤ S.n) (lbt : S.b S.fl ≤ S.t S.fl) (fit : topA S old + (s + 1) ≤ endA S old) : ∀ c ∈ C, c.p + c.ws.length < topA S old ∨ topA S old + s < c.p := fun c m => by
  have nb : S.n ≤ S.b S.fl := by unfold ArS.b; split <;> omega
  have lb : S.n ≤ S.b S.fl := nb
  cases old
  · show c.p + c.ws.length < S.t S.fl ∨ _
    have fit : S.t S.fl + (s + 1) ≤ S.b S.fl + S.k := fit
    rcases h.ar c m with q | q <;> omega
  · have : S.ot + (s + 1) ≤ S.n := fit
    show c.p + c.ws.length < S.ot ∨ S.ot + s < c.p
    rcases h.ar c m with q | q <;> omega
/-- a cell more -/
theorem CellsO.lay {f H H' S d C s old r} (h : CellsO f H S d C) (s8 : s ≤ 8) (ln : S.ws.length = S.n + 2 * S.k) (lo : S.ot ≤ S.n) (lb : S.b S.fl ≤ S.t S.fl) (fit : topA S old + (s + 1) ≤ endA S old)
    (hd : H' d = some (.dK (kvsOf f (C ++ [⟨topA S old, r, List.replicate s (-1)⟩])))) (hr : H' r = some (.lst ((List.replicate s (-1 : Int)).map V.int))) (k : ∀ c ∈ C, H' c.r = H c.r) (nr : ∀ c ∈ C, c.r ≠ r) :
    CellsO f H' (laidS S old s) d (C ++ [⟨topA S old, r, List.replicate s (-1)⟩]) := by
  have nb : S.n ≤ S.b S.fl := by unfold ArS.b; split <;> omega
  have hbk : S.b S.fl + S.k ≤ S.n + 2 * S.k := by unfold ArS.b; split <;> omega
  have hl : topA S old + s < S.ws.length := by
    cases old
    · have : S.t S.fl + (s + 1) ≤ S.b S.fl + S.k := fit
      show S.t S.fl + s < _
      omega
    · have : S.ot + (s + 1) ≤ S.n := fit
      show S.ot + s < _
      omega
  have off : ∀ c ∈ C, c.p + c.ws.length < topA S old ∨ topA S old + s < c.p := fun c m => by
    cases old
    · show c.p + c.ws.length < S.t S.fl ∨ _
      rcases h.ar c m with q | q <;> omega
    · have : S.ot + (s + 1) ≤ S.n := fit
      show c.p + c.ws.length < S.ot ∨ S.ot + s < c.p
      rcases h.ar c m with q | q <;> omega
  obtain ⟨e1, e2, e3, e4⟩ := laidS_same (S := S) (old := old) (s := s)
  have rl : (List.replicate s (-1 : Int)).length = s := List.length_replicate
  refine ⟨hd, fun c m => ?_, fun c m => ?_, fun c m j hj => ?_, fun c m => ?_, ?_, ?_⟩
  · rcases List.mem_append.mp m with m | m
    · rw [k c m]
      exact h.rw_ c m
    · rw [List.mem_singleton.mp m]
      exact hr
  · rcases List.mem_append.mp m with m | m
    · rw [laidS_off (by rcases off c m with q | q <;> omega)]
      exact h.hd c m
    · rw [List.mem_singleton.mp m]
      refine ⟨if old then 2 else 0, by split <;> omega, ?_⟩
      rw [laidS_head s8 hl]
      show _ = some (4 * (List.replicate s (-1 : Int)).length + _)
      rw [rl]
  · rcases List.mem_append.mp m with m | m
    · rw [laidS_off (by rcases off c m with q | q <;> omega)]
      exact h.sl c m j hj
    · rw [List.mem_singleton.mp m] at hj ⊢
      have hj : j < s := by rw [← rl]; exact hj
      rw [laidS_slot hj hl]
      show _ = (List.replicate s (-1 : Int)).getD j 0
      rw [List.getD_eq_getElem?_getD, List.getElem?_replicate, if_pos hj]
      rfl
  · rw [e1, e4, laidS_ot, laidS_t]
    rcases List.mem_append.mp m with m | m
    · rcases h.ar c m with q | q
      · refine .inl ?_
        split <;> omega
      · refine .inr ⟨q.1, ?_⟩
        split <;> omega
    · rw [List.mem_singleton.mp m]
      show topA S old + (List.replicate s (-1 : Int)).length < _ ∨ S.b S.fl ≤ topA S old ∧ topA S old + (List.replicate s (-1 : Int)).length < _
      rw [rl]
      cases old
      · refine .inr ⟨lb, ?_⟩
        show S.t S.fl + s < S.t S.fl + (s + 1)
        omega
      · refine .inl ?_
        show S.ot + s < S.ot + (s + 1)
        omega
  · refine List.pairwise_append.mpr ⟨h.dj, List.pairwise_singleton _ _, fun a ha b hb => ?_⟩
    rw [List.mem_singleton.mp hb]
    show _ ∨ topA S old + (List.replicate s (-1 : Int)).length < _
    rw [rl]
    exact off a ha
  · refine List.pairwise_append.mpr ⟨h.rd, List.pairwise_singleton _ _, fun a ha b hb => ?_⟩
    rw [List.mem_singleton.mp hb]
    exact nr a ha
theorem pair_mem {α : Type} {R : α → α → Prop} (sy : ∀ a b, R a b → R b a) : ∀ {C : List α}, C.Pairwise R → ∀ {a b : α}, a ∈ C → b ∈ C → a ≠ b → R a b
  | [], _, _, _, h, _, _ => (List.not_mem_nil h).elim
  | x :: r, p, a, b, ha, hb, ne => by
    obtain ⟨p1, p2⟩ := List.pairwise_cons.mp p
    rcases List.mem_cons.mp ha with ea | ha'
    · rcases List.mem_cons.mp hb with eb | hb'
      · exact absurd (ea.trans eb.symm) ne
      · rw [ea]
        exact p1 b hb'
    · rcases List.mem_cons.mp hb with eb | hb'
      · rw [eb]
        exact sy _ _ (p1 a ha')
      · exact pair_mem sy p2 ha' hb' ne
theorem CellsO.apart {f H S d C} (h : CellsO f H S d C) {a b : CeL} (ha : a ∈ C) (hb : b ∈ C) (ne : a ≠ b) : (a.p + a.ws.length < b.p ∨ b.p + b.ws.length < a.p) ∧ a.r ≠ b.r :=
  ⟨pair_mem (fun _ _ q => q.symm) h.dj ha hb ne, pair_mem (fun _ _ q => q.symm) h.rd ha hb ne⟩
theorem CellsO.same_p {f H S d C} (h : CellsO f H S d C) {a b : CeL} (ha : a ∈ C) (hb : b ∈ C) (e : a.p = b.p) : a = b := by
  by_cases e2 : a = b
  · exact e2
  · have := (h.apart ha hb e2).1
    omega
/-- one slot of a cell is written -/
def setC (C : List CeL) (p j : Nat) (n : Int) : List CeL := C.map fun c => if c.p = p then { c with ws := c.ws.set j n } else c
theorem setC_kvs {f : Nat → Int} {C : List CeL} {p j : Nat} {n : Int} : kvsOf f (setC C p j n) = kvsOf f C := by
  unfold kvsOf setC
  rw [List.map_map]
  congr 1
  funext c
  show ((.inl (f (if c.p = p then _ else c).p), .ref (if c.p = p then _ else c).r) : Key × V) = _
  split <;> rfl
theorem CellsO.put {f H H' S d C} {c : CeL} {j : Nat} {n : Int} (h : CellsO f H S d C) (m : c ∈ C) (hj : j < c.ws.length) (hl : c.p + c.ws.length < S.ws.length) (hd : H' d = H d) (hr : H' c.r = some (.lst ((c.ws.set j n).map V.int))) (k : ∀ a ∈ C, a.r ≠ c.r → H' a.r = H a.r) :
    CellsO f H' { S with ws := S.ws.set (c.p + 1 + j) n } d (setC C c.p j n) := by
  have el : ∀ b ∈ setC C c.p j n, ∃ a ∈ C, b.p = a.p ∧ b.r = a.r ∧ b.ws.length = a.ws.length ∧ ((a = c ∧ b.ws = c.ws.set j n) ∨ (a ≠ c ∧ b = a)) := fun b mb => by
    obtain ⟨a, ma, rfl⟩ := List.mem_map.mp mb
    by_cases e : a.p = c.p
    · have ea := h.same_p ma m e
      subst ea
      rw [if_pos rfl]
      exact ⟨a, ma, rfl, rfl, List.length_set .., .inl ⟨rfl, rfl⟩⟩
    · rw [if_neg e]
      exact ⟨a, ma, rfl, rfl, rfl, .inr ⟨fun z => e (by rw [z]), rfl⟩⟩
  have pw : ∀ {R : CeL → CeL → Prop}, (∀ a b a' b' : CeL, a'.p = a.p → a'.r = a.r → a'.ws.length = a.ws.length → b'.p = b.p → b'.r = b.r → b'.ws.length = b.ws.length → R a b → R a' b') → C.Pairwise R → (setC C c.p j n).Pairwise R := fun {R} tr q => by
    refine List.pairwise_map.mpr (q.imp fun {a b} r => tr _ _ _ _ ?_ ?_ ?_ ?_ ?_ ?_ r) <;> split <;> first | rfl | exact List.length_set ..
  refine ⟨by rw [hd, setC_kvs]; exact h.dd, fun b mb => ?_, fun b mb => ?_, fun b mb i hi => ?_, fun b mb => ?_, pw (fun a b a' b' e1 e2 e3 e4 e5 e6 q => by rw [e1, e3, e4, e6]; exact q) h.dj, pw (fun a b a' b' e1 e2 e3 e4 e5 e6 q => by rw [e2, e5]; exact q) h.rd⟩
  · obtain ⟨a, ma, e1, e2, e3, ⟨rfl, e4⟩ | ⟨ne, rfl⟩⟩ := el b mb
    · rw [e2, e4]
      exact hr
    · rw [k b ma (h.apart ma m ne).2]
      exact h.rw_ b ma
  · obtain ⟨a, ma, e1, e2, e3, e4⟩ := el b mb
    obtain ⟨ag, h1, h2⟩ := h.hd a ma
    refine ⟨ag, h1, ?_⟩
    rw [e1, e3, getD_set (by omega), if_neg ?_]
    · exact h2
    · rcases e4 with ⟨rfl, -⟩ | ⟨ne, -⟩
      · omega
      · have := (h.apart ma m ne).1
        omega
  · obtain ⟨a, ma, e1, e2, e3, ⟨rfl, e4⟩ | ⟨ne, rfl⟩⟩ := el b mb
    · rw [e3] at hi
      rw [e1, e4, getD_set (by omega), getD_set hj]
      by_cases e : j = i
      · subst e
        rw [if_pos rfl, if_pos rfl]
      · rw [if_neg (by omega), if_neg e]
        exact h.sl a ma i hi
    · have := (h.apart ma m ne).1
      rw [getD_set (by omega), if_neg (by omega)]
      exact h.sl b ma i hi
  · obtain ⟨a, ma, e1, e2, e3, -⟩ := el b mb
    show b.p + b.ws.length < S.ot ∨ S.b S.fl ≤ b.p ∧ b.p + b.ws.length < S.t S.fl
    rw [e1, e3]
    exact h.ar a ma
/-- the head that a cell has -/
theorem CellsO.head {f H S d C} (h : CellsO f H S d C) {c : CeL} (m : c ∈ C) (hl : c.p + c.ws.length < S.ws.length) : ∃ k, headW S.ws (.int (c.p : Int)) = .ok c.p k ∧ k / 4 = c.ws.length ∧ k ≤ 34 := by
  obtain ⟨a, h1, h2⟩ := h.hd c m
  obtain ⟨-, h3, -⟩ := headAt_some h2
  exact ⟨_, ans_head' (by omega) h2, by omega, h3⟩
theorem getD_rangeI {ts : List Int} : (List.range ts.length).map (fun i => ts.getD i 0) = ts := by
  refine List.ext_getElem (by rw [List.length_map, List.length_range]) fun i h1 h2 => ?_
  rw [List.getElem_map, List.getElem_range, List.getD_eq_getElem?_getD, List.getElem?_eq_getElem h2]
  rfl
theorem PlAll_ints {ns : List Int} : PlAll (ns.map V.int) (ns.map PyData.int) := by
  induction ns with
  | nil => exact .nil
  | cons n r ih => exact .cons (.int n) ih
theorem eqv_nil {ns : List Int} : PyData.eqv (.list (ns.map PyData.int)) (.list []) = decide (ns = []) := by
  cases ns with
  | nil => rfl
  | cons n r => rfl
theorem r_neNil {K : PySem.W.Frag} {H : Hp} {Q : VK} {a b : Addr} {ns : List Int} (h1 : H a = some (.lst (ns.map V.int))) (h2 : H b = some (.lst [])) (q : Q (.bl (!decide (ns = []))) H) : gNe K (.ref a) (.ref b) H Q :=
  r_nePl h1 h2 PlAll_ints .nil (by rw [eqv_nil]; exact q)
theorem r_eqNil {K : PySem.W.Frag} {H : Hp} {Q : VK} {a b : Addr} {ns : List Int} (h1 : H a = some (.lst (ns.map V.int))) (h2 : H b = some (.lst [])) (q : Q (.bl (decide (ns = []))) H) : gEq K (.ref a) (.ref b) H Q :=
  r_eqPl h1 h2 PlAll_ints .nil (by rw [eqv_nil]; exact q)
/-- a word tells a number, nothing, or one of these cells -/
def ClW (C : List CeL) (w : Int) : Prop := (wordOf w).isSome = true ∧ ∀ p, wordOf w = some (.place p) → ∃ c ∈ C, p = (c.p : Int)
theorem ClW.mono {C D : List CeL} {w : Int} (h : ClW C w) (s : ∀ c ∈ C, ∃ d ∈ D, d.p = c.p) : ClW D w := ⟨h.1, fun p e => let ⟨c, m, q⟩ := h.2 p e; let ⟨d, m2, q2⟩ := s c m; ⟨d, m2, by rw [q2]; exact q⟩⟩
theorem ClW.num {C : List CeL} {n : Int} (h : (n.natAbs : Int) ≤ 1000000000000) : ClW C (2 * n) := ⟨by rw [word_num h]; rfl, fun p e => by rw [word_num h] at e; cases e⟩
theorem ClW.non {C : List CeL} : ClW C (-1) := ⟨rfl, fun p e => by cases e⟩
theorem ClW.cell {C : List CeL} {c : CeL} (m : c ∈ C) (h : c.p ≤ 9999) : ClW C (2 * (c.p : Int) + 1) := ⟨by rw [word_place (by omega) (by omega)]; rfl, fun p e => by rw [word_place (by omega) (by omega)] at e; cases e; exact ⟨c, m, rfl⟩⟩
theorem cl_word {w p : Int} (h : wordOf w = some (.place p)) : w = 2 * p + 1 := by
  unfold wordOf at h
  repeat' split at h
  all_goals first
    | (cases h; done)
    | (cases h; omega)
/-- how a row is looked up by a word -/
theorem row_of {C : List CeL} (nd : C.Pairwise fun a b => 2 * (a.p : Int) + 1 ≠ 2 * (b.p : Int) + 1) {w : Int} (h : ClW C w) : (∃ c ∈ C, w = 2 * (c.p : Int) + 1 ∧ wordOf w = some (.place c.p) ∧ valV (kvsOf (fun p => 2 * (p : Int) + 1) C) (.inl w : Key) = some (.ref c.r)) ∨ ((∀ p, wordOf w ≠ some (.place p)) ∧ valV (kvsOf (fun p => 2 * (p : Int) + 1) C) (.inl w : Key) = none) := by
  cases e : wordOf w with
  | none =>
    have h1 := h.1
    rw [e] at h1
    cases h1
  | some x =>
    have other : (∀ p, x ≠ .place p) → valV (kvsOf (fun p => 2 * (p : Int) + 1) C) (.inl w : Key) = none := fun ne => kvs_none fun c m z => by
      have : wordOf w = some (.place c.p) ∨ ∃ y, wordOf w = some y := .inr ⟨x, e⟩
      unfold wordOf at e
      repeat' split at e
      all_goals first
        | (cases e; done)
        | (cases e; omega)
        | (cases e; exact ne _ rfl)
    cases x with
    | place p =>
      obtain ⟨c, m, rfl⟩ := h.2 p e
      have := cl_word e
      exact .inl ⟨c, m, this, rfl, by rw [this]; exact kvs_some (f := fun p => 2 * (p : Int) + 1) nd m⟩
    | nothing => exact .inr ⟨(fun p z => by cases z), other (fun p z => by cases z)⟩
    | num n => exact .inr ⟨(fun p z => by cases z), other (fun p z => by cases z)⟩

/-! ## cells without a heap -/
structure CelP (S : ArS) (C : List CeL) : Prop where
  hd : ∀ c ∈ C, ∃ a, a ≤ 2 ∧ headAt (S.ws.getD c.p 0) = some (4 * c.ws.length + a)
  sl : ∀ c ∈ C, ∀ j, j < c.ws.length → S.ws.getD (c.p + 1 + j) 0 = c.ws.getD j 0
  ar : ∀ c ∈ C, c.p + c.ws.length < S.ot ∨ (S.b S.fl ≤ c.p ∧ c.p + c.ws.length < S.t S.fl)
  dj : C.Pairwise fun a b => a.p + a.ws.length < b.p ∨ b.p + b.ws.length < a.p
theorem CellsO.cp {f H S d C} (h : CellsO f H S d C) : CelP S C := ⟨h.hd, h.sl, h.ar, h.dj⟩
theorem CelP.nil {S : ArS} : CelP S [] := ⟨(fun c m => (List.not_mem_nil m).elim), (fun c m => (List.not_mem_nil m).elim), (fun c m => (List.not_mem_nil m).elim), .nil⟩
theorem CelP.lt {S C} (h : CelP S C) (e : S.ws.length = S.n + 2 * S.k) (lo : S.ot ≤ S.n) (l1 : S.t S.fl ≤ S.b S.fl + S.k) : ∀ c ∈ C, c.p + c.ws.length < S.ws.length := fun c m => by
  have hb : S.b S.fl + S.k ≤ S.n + 2 * S.k := by unfold ArS.b; split <;> omega
  rcases h.ar c m with q | q <;> omega
theorem CelP.apart {S C} (h : CelP S C) {a b : CeL} (ha : a ∈ C) (hb : b ∈ C) (ne : a ≠ b) : a.p + a.ws.length < b.p ∨ b.p + b.ws.length < a.p := pair_mem (fun _ _ q => q.symm) h.dj ha hb ne
theorem CelP.same_p {S C} (h : CelP S C) {a b : CeL} (ha : a ∈ C) (hb : b ∈ C) (e : a.p = b.p) : a = b := by
  by_cases e2 : a = b
  · exact e2
  · have := h.apart ha hb e2
    omega
theorem CelP.head {S C} (h : CelP S C) {c : CeL} (m : c ∈ C) (hl : c.p + c.ws.length < S.ws.length) : ∃ k, headW S.ws (.int (c.p : Int)) = .ok c.p k ∧ k / 4 = c.ws.length ∧ k ≤ 34 := by
  obtain ⟨a, h1, h2⟩ := h.hd c m
  obtain ⟨-, h3, -⟩ := headAt_some h2
  exact ⟨_, ans_head' (by omega) h2, by omega, h3⟩
theorem CelP.fresh {S C s old} (h : CelP S C) (lo : S.ot ≤ S.n) (lbt : S.b S.fl ≤ S.t S.fl) (fit : topA S old + (s + 1) ≤ endA S old) : ∀ c ∈ C, c.p + c.ws.length < topA S old ∨ topA S old + s < c.p := fun c m => by
  have nb : S.n ≤ S.b S.fl := by unfold ArS.b; split <;> omega
  cases old
  · show c.p + c.ws.length < S.t S.fl ∨ _
    have fit : S.t S.fl + (s + 1) ≤ S.b S.fl + S.k := fit
    rcases h.ar c m with q | q <;> omega
  · have : S.ot + (s + 1) ≤ S.n := fit
    show c.p + c.ws.length < S.ot ∨ S.ot + s < c.p
    rcases h.ar c m with q | q <;> omega
/-- a cell more -/
theorem CelP.lay {S C s old} {r : Addr} (h : CelP S C) (s8 : s ≤ 8) (ln : S.ws.length = S.n + 2 * S.k) (lo : S.ot ≤ S.n) (lb : S.b S.fl ≤ S.t S.fl) (fit : topA S old + (s + 1) ≤ endA S old) :
    CelP (laidS S old s) (C ++ [⟨topA S old, r, List.replicate s (-1)⟩]) := by
  have nb : S.n ≤ S.b S.fl := by unfold ArS.b; split <;> omega
  have hbk : S.b S.fl + S.k ≤ S.n + 2 * S.k := by unfold ArS.b; split <;> omega
  have hl : topA S old + s < S.ws.length := by
    cases old
    · have : S.t S.fl + (s + 1) ≤ S.b S.fl + S.k := fit
      show S.t S.fl + s < _
      omega
    · have : S.ot + (s + 1) ≤ S.n := fit
      show S.ot + s < _
      omega
  have off := h.fresh lo lb fit
  obtain ⟨e1, e2, e3, e4⟩ := laidS_same (S := S) (old := old) (s := s)
  have rl : (List.replicate s (-1 : Int)).length = s := List.length_replicate
  refine ⟨fun c m => ?_, fun c m j hj => ?_, fun c m => ?_, ?_⟩
  · rcases List.mem_append.mp m with m | m
    · rw [laidS_off (by rcases off c m with q | q <;> omega)]
      exact h.hd c m
    · rw [List.mem_singleton.mp m]
      refine ⟨if old then 2 else 0, by split <;> omega, ?_⟩
      rw [laidS_head s8 hl]
      show _ = some (4 * (List.replicate s (-1 : Int)).length + _)
      rw [rl]
  · rcases List.mem_append.mp m with m | m
    · rw [laidS_off (by rcases off c m with q | q <;> omega)]
      exact h.sl c m j hj
    · rw [List.mem_singleton.mp m] at hj ⊢
      have hj : j < s := by rw [← rl]; exact hj
      rw [laidS_slot hj hl]
      show _ = (List.replicate s (-1 : Int)).getD j 0
      rw [List.getD_eq_getElem?_getD, List.getElem?_replicate, if_pos hj]
      rfl
  · rw [e1, e4, laidS_ot, laidS_t]
    rcases List.mem_append.mp m with m | m
    · rcases h.ar c m with q | q
      · refine .inl ?_
        split <;> omega
      · refine .inr ⟨q.1, ?_⟩
        split <;> omega
    · rw [List.mem_singleton.mp m]
      show topA S old + (List.replicate s (-1 : Int)).length < _ ∨ S.b S.fl ≤ topA S old ∧ topA S old + (List.replicate s (-1 : Int)).length < _
      rw [rl]
      cases old
      · refine .inr ⟨lb, ?_⟩
        show S.t S.fl + s < S.t S.fl + (s + 1)
        omega
      · refine .inl ?_
        show S.ot + s < S.ot + (s + 1)
        omega
  · refine List.pairwise_append.mpr ⟨h.dj, List.pairwise_singleton _ _, fun a ha b hb => ?_⟩
    rw [List.mem_singleton.mp hb]
    show _ ∨ topA S old + (List.replicate s (-1 : Int)).length < _
    rw [rl]
    exact off a ha
/-- the words that cells take -/
def sumW (C : List CeL) : Nat := (C.map fun c => c.ws.length + 1).sum
theorem sumW_app {C : List CeL} {c : CeL} : sumW (C ++ [c]) = sumW C + (c.ws.length + 1) := by
  unfold sumW
  rw [List.map_append, List.sum_append]
  rfl
/-- the words of the cell at a place -/
def wC (C : List CeL) (x : Int) : Int := match C.find? fun c => decide ((c.p : Int) = x) with
  | some c => (c.ws.length : Int) + 1
  | none => 0
theorem wC_mem {S C} (h : CelP S C) {c : CeL} (m : c ∈ C) : wC C c.p = (c.ws.length : Int) + 1 := by
  unfold wC
  cases e : C.find? fun a => decide ((a.p : Int) = c.p) with
  | none =>
    have := List.find?_eq_none.mp e c m
    exact absurd (decide_eq_true rfl) this
  | some a =>
    have h1 := List.find?_some e
    have h2 := List.mem_of_find?_eq_some e
    rw [decide_eq_true_eq] at h1
    rw [h.same_p h2 m (by omega)]
theorem wC_ge {C : List CeL} {x : Int} : 0 ≤ wC C x := by
  unfold wC
  split <;> omega
theorem wC_sum {S C} (h : CelP S C) : (((C.map fun c => (c.p : Int))).map (wC C)).sum = (sumW C : Int) := by
  have : ∀ D : List CeL, (∀ c ∈ D, c ∈ C) → ((D.map fun c => (c.p : Int)).map (wC C)).sum = (sumW D : Int) := by
    intro D
    induction D with
    | nil => intro _; rfl
    | cons c r ih =>
      intro hm
      have e : sumW (c :: r) = (c.ws.length + 1) + sumW r := rfl
      rw [List.map_cons, List.map_cons, List.sum_cons, ih (fun c m => hm c (List.mem_cons_of_mem _ m)), wC_mem h (hm c List.mem_cons_self), e]
      omega
  exact this C fun c m => m
theorem sum_ge {w : Int → Int} (h : ∀ x, 0 ≤ w x) : ∀ xs : List Int, 0 ≤ (xs.map w).sum
  | [] => Int.le_refl _
  | x :: r => by
    rw [List.map_cons, List.sum_cons]
    have := sum_ge h r
    have := h x
    omega
theorem sum_perm {xs ys : List Int} (h : xs.Perm ys) : xs.sum = ys.sum := by
  induction h with
  | nil => rfl
  | cons x _ ih => rw [List.sum_cons, List.sum_cons, ih]
  | swap x y l => rw [List.sum_cons, List.sum_cons, List.sum_cons, List.sum_cons]; omega
  | trans _ _ h1 h2 => exact h1.trans h2
/-! ## dicts of numbers -/
def kvI (ps : List (Int × Int)) : List (Key × V) := ps.map fun p => (.inl p.1, .int p.2)
theorem kvI_none {ps : List (Int × Int)} {n : Int} (h : ∀ p ∈ ps, p.1 ≠ n) : valV (kvI ps) (.inl n : Key) = none := by
  induction ps with
  | nil => rfl
  | cons p r ih =>
    have e2 : ¬ ((.inl p.1 : Key) = .inl n) := fun z => h p (List.mem_cons_self) (Sum.inl.inj z)
    exact (valV_neg (p := ((.inl p.1 : Key), V.int p.2)) (r := kvI r) e2).trans (ih fun c m => h c (List.mem_cons_of_mem _ m))
theorem kvI_some {ps : List (Int × Int)} {p : Int × Int} (nd : ps.Pairwise fun a b => a.1 ≠ b.1) (h : p ∈ ps) : valV (kvI ps) (.inl p.1 : Key) = some (.int p.2) := by
  induction ps with
  | nil => exact (List.not_mem_nil h).elim
  | cons a r ih =>
    obtain ⟨n1, n2⟩ := List.pairwise_cons.mp nd
    rcases List.mem_cons.mp h with rfl | h
    · exact valV_pos rfl
    · have e2 : ¬ ((.inl a.1 : Key) = .inl p.1) := fun z => n1 p h (Sum.inl.inj z)
      exact (valV_neg (p := ((.inl a.1 : Key), V.int a.2)) (r := kvI r) e2).trans (ih n2 h)
theorem kvI_put {ps : List (Int × Int)} {p : Int × Int} (h : ∀ a ∈ ps, a.1 ≠ p.1) : putK (kvI ps) (.inl p.1 : Key) (.int p.2) = kvI (ps ++ [p]) := by
  unfold putK
  rw [valV_any, kvI_none h]
  show kvI ps ++ [(.inl p.1, .int p.2)] = _
  unfold kvI
  rw [List.map_append]
  rfl
theorem kvI_len {ps : List (Int × Int)} : (kvI ps).length = ps.length := List.length_map ..
theorem kvI_flat {ps : List (Int × Int)} : ∀ p ∈ kvI ps, flatB p.2 = true := fun p m => by
  obtain ⟨q, -, rfl⟩ := List.mem_map.mp m
  rfl
theorem kvI_nd {ps : List (Int × Int)} (nd : (ps.map (·.1)).Nodup) : ((kvI ps).map (·.1)).Nodup := by
  have e : (kvI ps).map (·.1) = (ps.map (·.1)).map (fun n => (.inl n : Key)) := by
    unfold kvI
    rw [List.map_map, List.map_map]
    rfl
  rw [e]
  exact List.Pairwise.map _ (fun a b h z => h (Sum.inl.inj z)) nd
theorem kvI_pw {ps : List (Int × Int)} (nd : (ps.map (·.1)).Nodup) : ps.Pairwise fun a b => a.1 ≠ b.1 := List.pairwise_map.mp nd
/-! ## where cells go -/
def goL (w : Int → Int) : Int → List Int → List (Int × Int)
  | _, [] => []
  | t, a :: r => (a, t) :: goL w (t + w a) r
theorem goL_fst {w : Int → Int} : ∀ {xs : List Int} {t : Int}, (goL w t xs).map (·.1) = xs
  | [], _ => rfl
  | a :: r, t => by
    show a :: (goL w (t + w a) r).map (·.1) = _
    rw [goL_fst]
theorem goL_app {w : Int → Int} {a : Int} : ∀ {xs : List Int} {t : Int}, goL w t (xs ++ [a]) = goL w t xs ++ [(a, t + (xs.map w).sum)]
  | [], t => by
    show [(a, t)] = [(a, t + 0)]
    rw [Int.add_zero]
  | b :: r, t => by
    show (b, t) :: goL w (t + w b) (r ++ [a]) = (b, t) :: (goL w (t + w b) r ++ [_])
    rw [goL_app, List.map_cons, List.sum_cons, Int.add_assoc]
theorem goL_len {w : Int → Int} {xs : List Int} {t : Int} : (goL w t xs).length = xs.length := by
  have := congrArg List.length (goL_fst (w := w) (xs := xs) (t := t))
  rwa [List.length_map] at this
theorem goL_at {w : Int → Int} : ∀ {xs : List Int} {t : Int} {i : Nat} {a : Int}, xs[i]? = some a → (a, t + ((xs.take i).map w).sum) ∈ goL w t xs
  | [], _, _, _, e => by cases e
  | b :: r, t, 0, a, e => by
    cases e
    rw [List.take_zero]
    show (b, t + 0) ∈ (b, t) :: _
    rw [Int.add_zero]
    exact List.mem_cons_self
  | b :: r, t, i + 1, a, e => by
    have e : r[i]? = some a := e
    have := goL_at (w := w) (t := t + w b) e
    rw [List.take_succ_cons, List.map_cons, List.sum_cons, ← Int.add_assoc]
    exact List.mem_cons_of_mem _ this
theorem go_le {w : Int → Int} : ∀ {xs : List Int} {t : Int} {i : Nat} {a : Int}, (xs.Pairwise fun a b => a + w a ≤ b) → (∀ x ∈ xs, t ≤ x) → xs[i]? = some a → t + ((xs.take i).map w).sum ≤ a
  | [], _, _, _, _, _, e => by cases e
  | b :: r, t, 0, a, _, h, e => by
    cases e
    rw [List.take_zero]
    show t + 0 ≤ b
    have := h b List.mem_cons_self
    omega
  | b :: r, t, i + 1, a, pw, h, e => by
    have e : r[i]? = some a := e
    obtain ⟨p1, p2⟩ := List.pairwise_cons.mp pw
    rw [List.take_succ_cons, List.map_cons, List.sum_cons, ← Int.add_assoc]
    refine go_le p2 (fun x m => ?_) e
    have := p1 x m
    have := h b List.mem_cons_self
    omega
/-- places of cells, rising -/
theorem CelP.rise {S C} (h : CelP S C) {xs : List Int} (so : xs.Pairwise (· ≤ ·)) (nd : xs.Nodup) (hm : ∀ x ∈ xs, ∃ c ∈ C, x = (c.p : Int)) : xs.Pairwise fun a b => a + wC C a ≤ b := by
  have pq : xs.Pairwise fun a b => a ≤ b ∧ a ≠ b := List.pairwise_and_iff.mpr ⟨so, nd⟩
  refine List.Pairwise.imp_of_mem (fun {a b} ma mb q => ?_) pq
  obtain ⟨c, mc, rfl⟩ := hm a ma
  obtain ⟨d, md, rfl⟩ := hm b mb
  rw [wC_mem h mc]
  have ne : c ≠ d := fun z => q.2 (by rw [z])
  have := h.apart mc md ne
  omega

local macro_rules | `(tactic| walk_at "w3") => `(tactic| try simp only [↓x_var0, ↓x_varS, ↓x_c, ↓x_op, ↓x_un, ↓x_cb, ↓x_nil, ↓x_cons, ↓x_test, ↓x_b, ↓x_ex, ↓x_and, ↓x_or, ↓x_not, ↓x_andV, ↓x_orV, ↓x_notV, ↓x_tif, ↓x_chain, ↓x_menu, ↓x_menuI, ↓x_lst, ↓x_tup, ↓x_dnew, ↓x_callW, ↓x_callN, ↓x_seq, ↓x_next, ↓x_ret, ↓x_retN, ↓x_drop, ↓x_ifS, ↓x_asg, ↓x_name, ↓x_raise, ↓x_fld, ↓x_setF, ↓x_meth, ↓x_make, ↓x_sub, ↓r_min, ↓r_max, ↓x_yes, ↓x_for, ↓x_lock, ↓x_keys, ↓x_cut, ↓x_lc, ↓x_rng1, ↓x_rng2, ↓x_lst1, ↓x_itup, ↓x_rng3, ↓x_three, ↓x_lstg, ↓x_tupg, ↓x_adrS, ↓x_one, ↓x_two, ↓x_adr, ↓x_sl, ↓x_np, ↓x_pt, ↓x_int, ↓x_bm, ↓x_bm0, ↓x_consg, ↓x_nilg, ↓x_dget2, ↓x_dget1, ↓x_dgetN, ↓x_dget, ↓x_din, ↓x_dni, ↓x_dput, ↓x_dpop2, ↓r_isB, ↓r_notB, ↓x_enum, ↓x_zip, ↓x_str, ↓x_strE, ↓r_inS, ↓r_ninS, wipe, List.map_cons, List.map_nil, ↓x_isT, ↓r_isiII, ↓r_isiBB, ↓r_isiIB, ↓r_isiSS, ↓r_neNS, ↓r_neSN, ↓r_neNN, ↓r_eqNS, ↓r_eqSN, ↓r_eqNN, ↓r_eqIS, ↓r_neIS, ↓r_neSI, ↓r_neBS, ↓r_eqBB, ↓r_neBB, ↓x_start, ↓x_K, ↓x_start0, ↓r_i0, ↓r_i, ↓r_u, ↓r_addI, ↓r_addS, ↓r_mulI, ↓r_mulS, ↓r_eqI, ↓r_neI, ↓r_eqS, ↓r_neS, ↓r_absI, ↓r_intI, ↓r_intB, List.length_cons, List.length_nil, List.replicate, List.set_cons_zero, List.set_cons_succ, decide_eq_true_eq, Bool.not_eq_true', decide_eq_false_iff_not, if_true, if_false, Bool.false_eq_true, Bool.true_eq_false, ite_true, ite_false, Bool.not_true, Bool.not_false, c_div, n_ten, c_pow, not_true_eq_false, not_false_eq_true, decide_true, decide_false, true_and, and_true, and_self, true_or, or_true, Int.reduceLT, Int.reduceLE, Int.reduceMul, Int.reduceAdd, Int.reduceSub, Int.reducePow, Int.reduceNeg, Int.reduceDiv, Int.reduceMod, Nat.reducePow, Int.reduceToNat, Int.reduceEq, Int.reduceNe, Nat.reduceLT, Nat.reduceLeDiff, Nat.reduceAdd, ↓x_whole, ↓x_kind, Int.natCast_one])
theorem CelP.age {S C} (h : CelP S C) {c : CeL} {a : Nat} (m : c ∈ C) (hl : c.p < S.ws.length) (ha : a ≤ 2) (h8 : c.ws.length ≤ 8) : CelP { S with ws := S.ws.set c.p (2 * ((4 * c.ws.length + a : Nat) : Int)) } C := by
  refine ⟨fun d md => ?_, fun d md j hj => ?_, h.ar, h.dj⟩
  · show ∃ a', a' ≤ 2 ∧ headAt ((S.ws.set c.p _).getD d.p 0) = _
    rw [getD_set hl]
    by_cases e : c.p = d.p
    · have := h.same_p m md e
      subst this
      rw [if_pos rfl]
      refine ⟨a, ha, ?_⟩
      unfold headAt
      rw [word_num (by omega)]
      dsimp only
      rw [if_pos (by omega), Int.toNat_natCast]
    · rw [if_neg e]
      exact h.hd d md
  · show (S.ws.set c.p _).getD (d.p + 1 + j) 0 = _
    rw [getD_set hl, if_neg ?_]
    · exact h.sl d md j hj
    · intro e
      by_cases e2 : c = d
      · subst e2
        omega
      · have := h.apart m md e2
        omega
theorem setC_mem {C : List CeL} {p j : Nat} {n : Int} {b : CeL} (m : b ∈ setC C p j n) : ∃ a ∈ C, b.p = a.p ∧ b.r = a.r ∧ b.ws.length = a.ws.length ∧ ((a.p = p ∧ b.ws = a.ws.set j n) ∨ (a.p ≠ p ∧ b = a)) := by
  obtain ⟨a, ma, rfl⟩ := List.mem_map.mp m
  by_cases e : a.p = p
  · rw [if_pos e]
    exact ⟨a, ma, rfl, rfl, List.length_set .., .inl ⟨e, rfl⟩⟩
  · rw [if_neg e]
    exact ⟨a, ma, rfl, rfl, rfl, .inr ⟨e, rfl⟩⟩
theorem setC_p {C : List CeL} {p j : Nat} {n : Int} : (setC C p j n).map (fun c => (c.p : Int)) = C.map fun c => (c.p : Int) := by
  unfold setC
  rw [List.map_map]
  congr 1
  funext c
  show ((if c.p = p then { c with ws := c.ws.set j n } else c).p : Int) = c.p
  split <;> rfl
theorem setC_len {C : List CeL} {p j : Nat} {n : Int} : (setC C p j n).length = C.length := List.length_map ..
theorem setC_at {C : List CeL} {p j i : Nat} {n : Int} {c : CeL} (h : C[i]? = some c) : ∃ d, (setC C p j n)[i]? = some d ∧ d.p = c.p ∧ d.ws.length = c.ws.length := by
  unfold setC
  rw [List.getElem?_map, h]
  refine ⟨_, rfl, ?_, ?_⟩
  · show (if c.p = p then { c with ws := c.ws.set j n } else c).p = c.p
    split <;> rfl
  · show (if c.p = p then { c with ws := c.ws.set j n } else c).ws.length = c.ws.length
    split
    · exact List.length_set ..
    · rfl
theorem CelP.put {S C} {c : CeL} {j : Nat} {n : Int} (h : CelP S C) (m : c ∈ C) (hj : j < c.ws.length) (hl : c.p + c.ws.length < S.ws.length) : CelP { S with ws := S.ws.set (c.p + 1 + j) n } (setC C c.p j n) := by
  have ap : ∀ a ∈ C, a.p ≠ c.p → a.p + a.ws.length < c.p ∨ c.p + c.ws.length < a.p := fun a ma ne => h.apart ma m fun z => ne (by rw [z])
  refine ⟨fun b mb => ?_, fun b mb i hi => ?_, fun b mb => ?_, ?_⟩
  · obtain ⟨a, ma, e1, e2, e3, e4⟩ := setC_mem mb
    show ∃ a', a' ≤ 2 ∧ headAt ((S.ws.set _ n).getD b.p 0) = _
    rw [e1, e3, getD_set (by omega), if_neg ?_]
    · exact h.hd a ma
    · rcases e4 with ⟨e4, -⟩ | ⟨ne, -⟩
      · omega
      · have := ap a ma ne
        omega
  · obtain ⟨a, ma, e1, e2, e3, e4⟩ := setC_mem mb
    show (S.ws.set _ n).getD (b.p + 1 + i) 0 = _
    rcases e4 with ⟨e4, e5⟩ | ⟨ne, rfl⟩
    · have := h.same_p ma m e4
      subst this
      rw [e3] at hi
      rw [e1, e5, getD_set (by omega), getD_set hj]
      by_cases e : j = i
      · subst e
        rw [if_pos rfl, if_pos rfl]
      · rw [if_neg (by omega), if_neg e]
        exact h.sl a ma i hi
    · have := ap b ma ne
      rw [getD_set (by omega), if_neg (by omega)]
      exact h.sl b ma i hi
  · obtain ⟨a, ma, e1, e2, e3, e4⟩ := setC_mem mb
    show b.p + b.ws.length < S.ot ∨ S.b S.fl ≤ b.p ∧ b.p + b.ws.length < S.t S.fl
    rw [e1, e3]
    exact h.ar a ma
  · unfold setC
    refine List.pairwise_map.mpr (h.dj.imp fun {a b} q => ?_)
    have f : ∀ x : CeL, (if x.p = c.p then { x with ws := x.ws.set j n } else x).p = x.p ∧ (if x.p = c.p then { x with ws := x.ws.set j n } else x).ws.length = x.ws.length := fun x => by
      split
      · exact ⟨rfl, List.length_set ..⟩
      · exact ⟨rfl, rfl⟩
    rw [(f a).1, (f a).2, (f b).1, (f b).2]
    exact q
/-- slots of a cell, the first t of them, that are due in the book -/
def dueC (n : Nat) (c : CeL) (t : Nat) : List Int := (List.range t).filterMap fun s => if 2 * (c.p : Int) + 1 < 2 * (n : Int) ∧ c.ws.getD s 0 % 2 = 1 ∧ 2 * (n : Int) < c.ws.getD s 0 then some ((c.p + 1 + s : Nat) : Int) else none
theorem dueC_succ {n : Nat} {c : CeL} {t : Nat} : dueC n c (t + 1) = dueC n c t ++ (if 2 * (c.p : Int) + 1 < 2 * (n : Int) ∧ c.ws.getD t 0 % 2 = 1 ∧ 2 * (n : Int) < c.ws.getD t 0 then [((c.p + 1 + t : Nat) : Int)] else []) := by
  unfold dueC
  rw [List.range_succ, List.filterMap_append]
  congr 1
  rw [List.filterMap_cons, List.filterMap_nil]
  by_cases h : 2 * (c.p : Int) + 1 < 2 * (n : Int) ∧ c.ws.getD t 0 % 2 = 1 ∧ 2 * (n : Int) < c.ws.getD t 0
  · rw [if_pos h, if_pos h]
  · rw [if_neg h, if_neg h]
def dueL (n : Nat) (C : List CeL) : List Int := C.flatMap fun c => dueC n c c.ws.length
theorem mem_dueC {n : Nat} {c : CeL} {t : Nat} {x : Int} : x ∈ dueC n c t ↔ ∃ s, s < t ∧ x = ((c.p + 1 + s : Nat) : Int) ∧ 2 * (c.p : Int) + 1 < 2 * (n : Int) ∧ c.ws.getD s 0 % 2 = 1 ∧ 2 * (n : Int) < c.ws.getD s 0 := by
  unfold dueC
  rw [List.mem_filterMap]
  constructor
  · rintro ⟨s, hs, e⟩
    split at e
    · cases e
      exact ⟨s, List.mem_range.mp hs, rfl, by assumption⟩
    · cases e
  · rintro ⟨s, hs, rfl, h⟩
    exact ⟨s, List.mem_range.mpr hs, by rw [if_pos h]⟩
theorem dueC_nd {n : Nat} {c : CeL} : ∀ {t : Nat}, (dueC n c t).Nodup
  | 0 => List.nodup_nil
  | t + 1 => by
    rw [dueC_succ]
    refine List.nodup_append.mpr ⟨dueC_nd, by split <;> simp, fun a ha b hb e => ?_⟩
    obtain ⟨s, hs, rfl, -⟩ := mem_dueC.mp ha
    split at hb
    · rw [List.mem_singleton.mp hb] at e
      omega
    · exact (List.not_mem_nil hb).elim
theorem dueC_len {n : Nat} {c : CeL} {t : Nat} : (dueC n c t).length ≤ t := by
  have := List.length_filterMap_le (fun s => if 2 * (c.p : Int) + 1 < 2 * (n : Int) ∧ c.ws.getD s 0 % 2 = 1 ∧ 2 * (n : Int) < c.ws.getD s 0 then some ((c.p + 1 + s : Nat) : Int) else none) (List.range t)
  rw [List.length_range] at this
  exact this
theorem mem_dueL {n : Nat} {C : List CeL} {x : Int} : x ∈ dueL n C ↔ ∃ c ∈ C, ∃ s, s < c.ws.length ∧ x = ((c.p + 1 + s : Nat) : Int) ∧ 2 * (c.p : Int) + 1 < 2 * (n : Int) ∧ c.ws.getD s 0 % 2 = 1 ∧ 2 * (n : Int) < c.ws.getD s 0 := by
  unfold dueL
  rw [List.mem_flatMap]
  exact ⟨fun ⟨c, m, h⟩ => ⟨c, m, mem_dueC.mp h⟩, fun ⟨c, m, h⟩ => ⟨c, m, mem_dueC.mpr h⟩⟩
theorem dueL_nd {n : Nat} {C : List CeL} (h : C.Pairwise fun a b => a.p + a.ws.length < b.p ∨ b.p + b.ws.length < a.p) : (dueL n C).Nodup := by
  induction C with
  | nil => exact List.nodup_nil
  | cons c r ih =>
    obtain ⟨h1, h2⟩ := List.pairwise_cons.mp h
    show (dueC n c c.ws.length ++ dueL n r).Nodup
    refine List.nodup_append.mpr ⟨dueC_nd, ih h2, fun a ha b hb e => ?_⟩
    obtain ⟨s, hs, rfl, -⟩ := mem_dueC.mp ha
    obtain ⟨d, md, s', hs', rfl, -⟩ := mem_dueL.mp hb
    have := h1 d md
    omega
theorem dueL_take {n : Nat} {C : List CeL} {i : Nat} {c : CeL} (h : C[i]? = some c) : dueL n (C.take (i + 1)) = dueL n (C.take i) ++ dueC n c c.ws.length := by
  have hi := (List.getElem?_eq_some_iff.mp h)
  obtain ⟨hl, he⟩ := hi
  rw [List.take_succ_eq_append_getElem hl]
  unfold dueL
  rw [List.flatMap_append, he]
  simp
theorem dueL_len {n : Nat} {C : List CeL} (h : ∀ c ∈ C, c.ws.length ≤ 8) : (dueL n C).length ≤ 8 * C.length := by
  induction C with
  | nil => exact Nat.le_refl _
  | cons c r ih =>
    show (dueC n c c.ws.length ++ dueL n r).length ≤ _
    rw [List.length_append, List.length_cons]
    have := dueC_len (n := n) (c := c) (t := c.ws.length)
    have := h c (List.mem_cons_self)
    have := ih fun c m => h c (List.mem_cons_of_mem _ m)
    omega
theorem rep_flat {n : Nat} : (List.replicate n [V.int (-1)]).flatten = (List.replicate n (-1 : Int)).map V.int := by
  induction n with
  | zero => rfl
  | succ n ih => rw [List.replicate_succ, List.flatten_cons, ih, List.replicate_succ]; rfl
theorem due_set {S C} (h : CelP S C) {c : CeL} {s : Nat} {w : Int} {n : Nat} (m : c ∈ C) (hs : s < c.ws.length) {x : Int} : x ∈ dueL n (setC C c.p s w) ↔ (x ∈ dueL n C ∧ x ≠ ((c.p + 1 + s : Nat) : Int)) ∨ (x = ((c.p + 1 + s : Nat) : Int) ∧ 2 * (c.p : Int) + 1 < 2 * (n : Int) ∧ w % 2 = 1 ∧ 2 * (n : Int) < w) := by
  constructor
  · intro hx
    obtain ⟨b, mb, s', hs', rfl, h1, h2, h3⟩ := mem_dueL.mp hx
    obtain ⟨a, ma, rfl⟩ := List.mem_map.mp mb
    by_cases e : a.p = c.p
    · have ea := h.same_p ma m e
      subst ea
      rw [if_pos rfl] at hs' h1 h2 h3 ⊢
      dsimp only at hs' h1 h2 h3 ⊢
      rw [List.length_set] at hs'
      rw [getD_set hs] at h2 h3
      by_cases e2 : s = s'
      · subst e2
        rw [if_pos rfl] at h2 h3
        exact .inr ⟨rfl, h1, h2, h3⟩
      · rw [if_neg e2] at h2 h3
        exact .inl ⟨mem_dueL.mpr ⟨a, ma, s', hs', rfl, h1, h2, h3⟩, by omega⟩
    · rw [if_neg e] at hs' h1 h2 h3 ⊢
      have := h.apart ma m (fun z => e (by rw [z]))
      exact .inl ⟨mem_dueL.mpr ⟨a, ma, s', hs', rfl, h1, h2, h3⟩, by omega⟩
  · rintro (⟨hx, ne⟩ | ⟨rfl, h1, h2, h3⟩)
    · obtain ⟨a, ma, s', hs', rfl, h1, h2, h3⟩ := mem_dueL.mp hx
      refine mem_dueL.mpr ⟨_, List.mem_map.mpr ⟨a, ma, rfl⟩, s', ?_⟩
      by_cases e : a.p = c.p
      · have ea := h.same_p ma m e
        subst ea
        rw [if_pos rfl]
        dsimp only
        rw [List.length_set, getD_set hs, if_neg (by omega)]
        exact ⟨hs', rfl, h1, h2, h3⟩
      · rw [if_neg e]
        exact ⟨hs', rfl, h1, h2, h3⟩
    · refine mem_dueL.mpr ⟨_, List.mem_map.mpr ⟨c, m, rfl⟩, s, ?_⟩
      rw [if_pos rfl]
      dsimp only
      rw [List.length_set, getD_set hs, if_pos rfl]
      exact ⟨hs, rfl, h1, h2, h3⟩
theorem due_lay {n : Nat} {C : List CeL} {p s : Nat} {r : Addr} {x : Int} : x ∈ dueL n (C ++ [⟨p, r, List.replicate s (-1)⟩]) ↔ x ∈ dueL n C := by
  constructor
  · intro hx
    obtain ⟨c, m, s', hs', rfl, h1, h2, h3⟩ := mem_dueL.mp hx
    rcases List.mem_append.mp m with m | m
    · exact mem_dueL.mpr ⟨c, m, s', hs', rfl, h1, h2, h3⟩
    · rw [List.mem_singleton.mp m] at hs' h3
      dsimp only at hs' h3
      rw [List.length_replicate] at hs'
      rw [List.getD_eq_getElem?_getD, List.getElem?_replicate, if_pos hs'] at h3
      have h3 : 2 * (n : Int) < -1 := h3
      omega
  · intro hx
    obtain ⟨c, m, h⟩ := mem_dueL.mp hx
    exact mem_dueL.mpr ⟨c, List.mem_append_left _ m, h⟩
theorem wd_odd {w : Int} {x : Wd} (h : wordOf w = some x) (n : ∀ p, x ≠ .place p) : ¬ (w % 2 = 1 ∧ 0 < w) := by
  unfold wordOf at h
  repeat' split at h
  all_goals first
    | (cases h; done)
    | (cases h; omega)
    | (cases h; exact absurd rfl (n _))
theorem old_is {S : ArS} {C : List CeL} (h : CelP S C) (fl : S.fl = false) (lo : S.ot ≤ S.n) {c : CeL} (m : c ∈ C) : areaW S c.p = .str "old" ↔ c.p < S.n := by
  have a := h.ar c m
  have eb : S.b S.fl = S.n := by unfold ArS.b; rw [fl]; rfl
  unfold areaW
  constructor
  · intro e
    split at e
    · omega
    · split at e <;> cases e
  · intro l
    rw [if_pos (by omega)]

/-! ## going over places -/
def addN (acc xs : List Int) : List Int := xs.foldl (fun a x => if x ∈ a then a else a ++ [x]) acc
theorem addN_nil {a : List Int} : addN a [] = a := rfl
theorem addN_cons {a xs : List Int} {x : Int} : addN a (x :: xs) = addN (if x ∈ a then a else a ++ [x]) xs := rfl
theorem addN_app {a xs ys : List Int} : addN a (xs ++ ys) = addN (addN a xs) ys := List.foldl_append ..
theorem addN_snoc {a xs : List Int} {x : Int} : addN a (xs ++ [x]) = if x ∈ addN a xs then addN a xs else addN a xs ++ [x] := by
  rw [addN_app]
  rfl
theorem addN_pre : ∀ {xs a : List Int}, ∃ t, addN a xs = a ++ t
  | [], a => ⟨[], (List.append_nil a).symm⟩
  | x :: r, a => by
    rw [addN_cons]
    split
    · exact addN_pre
    · obtain ⟨t, e⟩ := addN_pre (xs := r) (a := a ++ [x])
      exact ⟨x :: t, by rw [e, List.append_assoc]; rfl⟩
theorem addN_nd : ∀ {xs a : List Int}, a.Nodup → (addN a xs).Nodup
  | [], _, h => h
  | x :: r, a, h => by
    rw [addN_cons]
    split
    · exact addN_nd h
    · rename_i n
      refine addN_nd (List.nodup_append.mpr ⟨h, List.nodup_cons.mpr ⟨List.not_mem_nil, List.nodup_nil⟩, fun u hu v hv e => ?_⟩)
      rw [List.mem_singleton.mp hv] at e
      exact n (e ▸ hu)
theorem addN_mem : ∀ {xs a : List Int} {y : Int}, y ∈ addN a xs → y ∈ a ∨ y ∈ xs
  | [], _, _, h => .inl h
  | x :: r, a, y, h => by
    rw [addN_cons] at h
    split at h
    · rcases addN_mem h with h | h
      · exact .inl h
      · exact .inr (List.mem_cons_of_mem _ h)
    · rcases addN_mem h with h | h
      · rcases List.mem_append.mp h with h | h
        · exact .inl h
        · exact .inr (by rw [List.mem_singleton.mp h]; exact List.mem_cons_self)
      · exact .inr (List.mem_cons_of_mem _ h)
def reachR (kids : Int → List Int) : Nat → List Int → Nat → List Int
  | 0, f, _ => f
  | k + 1, f, t => if t < f.length then reachR kids k (addN f (kids (f.getD t 0))) (t + 1) else f
theorem reachR_end {kids : Int → List Int} {k : Nat} {f : List Int} {t : Nat} (h : f.length ≤ t) : reachR kids k f t = f := by
  cases k with
  | zero => rfl
  | succ k => exact if_neg (by omega)
theorem reachR_step {kids : Int → List Int} {k : Nat} {f : List Int} {t : Nat} (h : t < f.length) : reachR kids (k + 1) f t = reachR kids k (addN f (kids (f.getD t 0))) (t + 1) := if_pos h
/-- how many places can be come to -/
theorem nd_len {f U : List Int} (nd : f.Nodup) (h : ∀ x ∈ f, x ∈ U) : f.length ≤ U.length := by
  induction f generalizing U with
  | nil => exact Nat.zero_le _
  | cons x r ih =>
    obtain ⟨n1, n2⟩ := List.nodup_cons.mp nd
    have hx := h x List.mem_cons_self
    have := ih (U := U.erase x) n2 fun y m => (List.mem_erase_of_ne (fun (z : y = x) => n1 (by rw [← z]; exact m))).mpr (h y (List.mem_cons_of_mem _ m))
    rw [List.length_erase_of_mem hx] at this
    have := List.length_pos_of_mem hx
    rw [List.length_cons]
    omega
theorem reach_in {kids : Int → List Int} {U : List Int} (hk : ∀ x ∈ U, ∀ y ∈ kids x, y ∈ U) : ∀ {k : Nat} {f : List Int} {t : Nat}, (∀ x ∈ f, x ∈ U) → ∀ x ∈ reachR kids k f t, x ∈ U
  | 0, _, _, h => h
  | k + 1, f, t, h => by
    unfold reachR
    split
    · rename_i ht
      refine reach_in hk fun x m => ?_
      rcases addN_mem m with m | m
      · exact h x m
      · refine hk _ (h _ (List.mem_of_getElem? (i := t) ?_)) x m
        rw [List.getD_eq_getElem?_getD, List.getElem?_eq_getElem ht]
        rfl
    · exact h
theorem reach_nd {kids : Int → List Int} : ∀ {k : Nat} {f : List Int} {t : Nat}, f.Nodup → (reachR kids k f t).Nodup
  | 0, _, _, h => h
  | k + 1, f, t, h => by
    unfold reachR
    split
    · exact reach_nd (addN_nd h)
    · exact h
/-- the places in a row of words -/
def placeIn (w : Int) : Option Int := if 0 < w ∧ w % 2 = 1 then some (w / 2) else none
def kidsL (ws : List Int) : List Int := ws.filterMap placeIn
theorem wd_place {w : Int} {x : Wd} (h : wordOf w = some x) : placeIn w = match x with | .place p => some p | _ => none := by
  unfold wordOf at h
  unfold placeIn
  repeat' split at h
  all_goals first
    | (cases h; done)
    | (cases h; rw [if_neg (by omega)]; done)
    | (cases h; rw [if_pos (by omega)]; done)
theorem kidsT_row {ws row : List Int} {i : Nat} (hv : ∀ w ∈ row, (wordOf w).isSome = true) (h : ∀ j, j < row.length → ws.getD (i + 1 + j) 0 = row.getD j 0) : ∀ {t : Nat}, t ≤ row.length → kidsT ws i t = kidsL (row.take t)
  | 0, _ => by rw [List.take_zero]; rfl
  | t + 1, ht => by
    have ht' : t < row.length := ht
    have eg : row.getD t 0 = row[t] := by rw [List.getD_eq_getElem?_getD, List.getElem?_eq_getElem ht']; rfl
    rw [kidsT_succ, kidsT_row hv h (Nat.le_of_lt ht'), h t ht', List.take_succ_eq_append_getElem ht', eg]
    unfold kidsL
    rw [List.filterMap_append]
    congr 1
    have := hv row[t] (List.getElem_mem ht')
    cases e : wordOf row[t] with
    | none => rw [e] at this; cases this
    | some x =>
      rw [List.filterMap_cons, List.filterMap_nil, wd_place e]
      cases x <;> rfl
/-- the places in the cell at a place -/
def kC (C : List CeL) (x : Int) : List Int := match C.find? fun c => decide ((c.p : Int) = x) with
  | some c => kidsL c.ws
  | none => []
theorem kC_mem {S C} (h : CelP S C) {c : CeL} (m : c ∈ C) : kC C c.p = kidsL c.ws := by
  unfold kC
  cases e : C.find? fun a => decide ((a.p : Int) = c.p) with
  | none =>
    have := List.find?_eq_none.mp e c m
    exact absurd (decide_eq_true rfl) this
  | some a =>
    have h1 := List.find?_some e
    have h2 := List.mem_of_find?_eq_some e
    rw [decide_eq_true_eq] at h1
    rw [h.same_p h2 m (by omega)]
def plcC (C : List CeL) : List Int := C.map fun c => (c.p : Int)
theorem kC_in {S C} (h : CelP S C) (hw : ∀ c ∈ C, ∀ w ∈ c.ws, ClW C w) : ∀ x ∈ plcC C, ∀ y ∈ kC C x, y ∈ plcC C := by
  intro x hx y hy
  obtain ⟨c, m, rfl⟩ := List.mem_map.mp hx
  rw [kC_mem h m] at hy
  obtain ⟨w, mw, e⟩ := List.mem_filterMap.mp hy
  obtain ⟨h1, h2⟩ := hw c m w mw
  cases e2 : wordOf w with
  | none => rw [e2] at h1; cases h1
  | some x =>
    rw [wd_place e2] at e
    cases x with
    | place p =>
      obtain ⟨d, md, ed⟩ := h2 p e2
      cases e
      exact List.mem_map.mpr ⟨d, md, ed.symm⟩
    | _ => cases e
def reachC (C : List CeL) (ks : List Int) : List Int := reachR (kC C) C.length (addN [] ks) 0
/-- a dict of places met -/
def kvT (ps : List Int) : List (Key × V) := ps.map fun i => (.inl i, .bl true)
theorem kvT_val {ps : List Int} {i : Int} : valV (kvT ps) (.inl i : Key) = if i ∈ ps then some (.bl true) else none := by
  induction ps with
  | nil => rfl
  | cons j r ih =>
    by_cases e : j = i
    · subst e
      rw [if_pos List.mem_cons_self]
      exact valV_pos rfl
    · have e2 : ¬ ((.inl j : Key) = .inl i) := fun z => e (Sum.inl.inj z)
      refine (valV_neg (p := ((.inl j : Key), V.bl true)) (r := kvT r) e2).trans (ih.trans ?_)
      simp only [List.mem_cons, show ¬ i = j from fun z => e z.symm, false_or]
theorem kvT_put {ps : List Int} {i : Int} (h : ¬ i ∈ ps) : putK (kvT ps) (.inl i : Key) (.bl true) = kvT (ps ++ [i]) := by
  unfold putK
  rw [valV_any, kvT_val, if_neg h]
  show kvT ps ++ [(.inl i, .bl true)] = _
  unfold kvT
  rw [List.map_append]
  rfl

local macro_rules | `(tactic| walk_at "w3") => `(tactic| try simp only [↓x_var0, ↓x_varS, ↓x_c, ↓x_op, ↓x_un, ↓x_cb, ↓x_nil, ↓x_cons, ↓x_test, ↓x_b, ↓x_ex, ↓x_and, ↓x_or, ↓x_not, ↓x_andV, ↓x_orV, ↓x_notV, ↓x_tif, ↓x_chain, ↓x_menu, ↓x_menuI, ↓x_lst, ↓x_tup, ↓x_dnew, ↓x_callW, ↓x_callN, ↓x_seq, ↓x_next, ↓x_ret, ↓x_retN, ↓x_drop, ↓x_ifS, ↓x_asg, ↓x_name, ↓x_raise, ↓x_fld, ↓x_setF, ↓x_meth, ↓x_make, ↓x_sub, ↓r_min, ↓r_max, ↓x_yes, ↓x_for, ↓x_lock, ↓x_keys, ↓x_cut, ↓x_lc, ↓x_rng1, ↓x_rng2, ↓x_lst1, ↓x_itup, ↓x_rng3, ↓x_three, ↓x_lstg, ↓x_tupg, ↓x_adrS, ↓x_one, ↓x_two, ↓x_adr, ↓x_sl, ↓x_np, ↓x_pt, ↓x_int, ↓x_bm, ↓x_bm0, ↓x_consg, ↓x_nilg, ↓x_dget2, ↓x_dget1, ↓x_dgetN, ↓x_dget, ↓x_din, ↓x_dni, ↓x_dput, ↓x_dpop2, ↓r_isB, ↓r_notB, ↓x_enum, ↓x_zip, ↓x_str, ↓x_strE, ↓r_inS, ↓r_ninS, wipe, List.map_cons, List.map_nil, ↓x_isT, ↓r_isiII, ↓r_isiBB, ↓r_isiIB, ↓r_isiSS, ↓r_neNS, ↓r_neSN, ↓r_neNN, ↓r_eqNS, ↓r_eqSN, ↓r_eqNN, ↓r_eqIS, ↓r_neIS, ↓r_neSI, ↓r_neBS, ↓r_eqBB, ↓r_neBB, ↓x_start, ↓x_K, ↓x_start0, ↓r_i0, ↓r_i, ↓r_u, ↓r_addI, ↓r_addS, ↓r_mulI, ↓r_mulS, ↓r_eqI, ↓r_neI, ↓r_eqS, ↓r_neS, ↓r_absI, ↓r_intI, ↓r_intB, List.length_cons, List.length_nil, List.replicate, List.set_cons_zero, List.set_cons_succ, decide_eq_true_eq, Bool.not_eq_true', decide_eq_false_iff_not, if_true, if_false, Bool.false_eq_true, Bool.true_eq_false, ite_true, ite_false, Bool.not_true, Bool.not_false, c_div, n_ten, c_pow, not_true_eq_false, not_false_eq_true, decide_true, decide_false, true_and, and_true, and_self, true_or, or_true, Int.reduceLT, Int.reduceLE, Int.reduceMul, Int.reduceAdd, Int.reduceSub, Int.reducePow, Int.reduceNeg, Int.reduceDiv, Int.reduceMod, Nat.reducePow, Int.reduceToNat, Int.reduceEq, Int.reduceNe, Nat.reduceLT, Nat.reduceLeDiff, Nat.reduceAdd, ↓x_whole, ↓x_kind, Int.natCast_one])
/-! ## what a copy does -/
theorem cpT_at {ws : List Int} {i j : Nat} : ∀ {t u : Nat}, j + t ≤ ws.length → (cpT ws i j t).getD u 0 = if j ≤ u ∧ u < j + t then ws.getD (i + (u - j)) 0 else ws.getD u 0
  | 0, u, _ => by rw [if_neg (by omega)]; rfl
  | t + 1, u, h => by
    rw [cpT_succ, getD_set (by rw [cpT_len]; omega), cpT_at (t := t) (by omega)]
    by_cases e : j + t = u
    · rw [if_pos e, if_pos (by omega)]
      congr 1
      omega
    · rw [if_neg e]
      by_cases e2 : j ≤ u ∧ u < j + t
      · rw [if_pos e2, if_pos (by omega)]
      · rw [if_neg e2, if_neg (by omega)]
theorem cpT_vw {ws : List Int} (h : Vw ws) {i j : Nat} : ∀ {t : Nat}, i + t ≤ ws.length → Vw (cpT ws i j t)
  | 0, _ => h
  | t + 1, ht => by
    rw [cpT_succ]
    obtain ⟨w, e⟩ := h.get (show i + t < ws.length by omega)
    exact (cpT_vw h (by omega)).set (by rw [e]; rfl)

local macro_rules | `(tactic| walk_at "w3") => `(tactic| try simp only [↓x_var0, ↓x_varS, ↓x_c, ↓x_op, ↓x_un, ↓x_cb, ↓x_nil, ↓x_cons, ↓x_test, ↓x_b, ↓x_ex, ↓x_and, ↓x_or, ↓x_not, ↓x_andV, ↓x_orV, ↓x_notV, ↓x_tif, ↓x_chain, ↓x_menu, ↓x_menuI, ↓x_lst, ↓x_tup, ↓x_dnew, ↓x_callW, ↓x_callN, ↓x_seq, ↓x_next, ↓x_ret, ↓x_retN, ↓x_drop, ↓x_ifS, ↓x_asg, ↓x_name, ↓x_raise, ↓x_fld, ↓x_setF, ↓x_meth, ↓x_make, ↓x_sub, ↓r_min, ↓r_max, ↓x_yes, ↓x_for, ↓x_lock, ↓x_keys, ↓x_cut, ↓x_lc, ↓x_rng1, ↓x_rng2, ↓x_lst1, ↓x_itup, ↓x_rng3, ↓x_three, ↓x_lstg, ↓x_tupg, ↓x_adrS, ↓x_one, ↓x_two, ↓x_adr, ↓x_sl, ↓x_np, ↓x_pt, ↓x_int, ↓x_bm, ↓x_bm0, ↓x_consg, ↓x_nilg, ↓x_dget2, ↓x_dget1, ↓x_dgetN, ↓x_dget, ↓x_din, ↓x_dni, ↓x_dput, ↓x_dpop2, ↓r_isB, ↓r_notB, ↓x_enum, ↓x_zip, ↓x_str, ↓x_strE, ↓r_inS, ↓r_ninS, wipe, List.map_cons, List.map_nil, ↓x_isT, ↓r_isiII, ↓r_isiBB, ↓r_isiIB, ↓r_isiSS, ↓r_neNS, ↓r_neSN, ↓r_neNN, ↓r_eqNS, ↓r_eqSN, ↓r_eqNN, ↓r_eqIS, ↓r_neIS, ↓r_neSI, ↓r_neBS, ↓r_eqBB, ↓r_neBB, ↓x_start, ↓x_K, ↓x_start0, ↓r_i0, ↓r_i, ↓r_u, ↓r_addI, ↓r_addS, ↓r_mulI, ↓r_mulS, ↓r_eqI, ↓r_neI, ↓r_eqS, ↓r_neS, ↓r_absI, ↓r_intI, ↓r_intB, List.length_cons, List.length_nil, List.replicate, List.set_cons_zero, List.set_cons_succ, decide_eq_true_eq, Bool.not_eq_true', decide_eq_false_iff_not, if_true, if_false, Bool.false_eq_true, Bool.true_eq_false, ite_true, ite_false, Bool.not_true, Bool.not_false, c_div, n_ten, c_pow, not_true_eq_false, not_false_eq_true, decide_true, decide_false, true_and, and_true, and_self, true_or, or_true, Int.reduceLT, Int.reduceLE, Int.reduceMul, Int.reduceAdd, Int.reduceSub, Int.reducePow, Int.reduceNeg, Int.reduceDiv, Int.reduceMod, Nat.reducePow, Int.reduceToNat, Int.reduceEq, Int.reduceNe, Nat.reduceLT, Nat.reduceLeDiff, Nat.reduceAdd, ↓x_whole, ↓x_kind, Int.natCast_one, Int.natCast_one])
def sp_goals (K : PySem.W.Frag) : Sp := fun vs H Q _ => ∃ A S C a ks, vs = [.ref A.a, .ref a] ∧ ArO K H A S ∧ SqL K H a (ks.map V.int) ∧ CelP S C ∧ (∀ x ∈ ks, ∃ c ∈ C, x = (c.p : Int)) ∧ ks.Nodup ∧ ks.length ≤ 1000 ∧
  ∀ ss d H', ss.Perm ks → ss.Pairwise (· ≤ ·) → H d = none → Same H H' → H' d = some (.dK (kvI (goL (wC C) 0 ss))) → Q (.ref d) H'
section
variable {P : Program} {w : World} {K : PySem.W.Frag} {mg : Str → Option Value} {base : Heap}
theorem f_goals (T : Tx K mg) : Fn P w K mg base 7 "goals" ["areas", "kept"] (sp_goals K) := by
  have c_words_of := f_words_of (P := P) (w := w) (base := base) T
  refine T.mkFn 68 39 (d := d_goals) (N := ["areas", "kept", "found", "top", "at"]) (k := 6) rfl rfl rfl rfl rfl sc_goals (fun _ _ _ _ _ _ us hl => match us, hl with | [_, _], _ => rfl) (fun vs H Q E h => ?len) (fun cdv A outer s H vs Q E hr h => ⟨_,
      (pss_cons (ps_set (i := 2) sc_goals.nd rfl (Or.inl rfl) pe_dnewK)
        (pss_cons (ps_set (i := 3) sc_goals.nd rfl (Or.inl rfl) (pe_fldC (T.cls 107) (T.noat 116) (pe_fldC (T.cls 119) (T.noat 126) (pv 0))))
        (pss_cons (ps_for (passes_of rfl) rfl (pi_listK (K := K) rfl (pe_callB (call_sortedK (K := K) rfl) (by rfl) (T.free 80) (by decide +kernel) (pa_cons (pv 1) pa_nil))) (pg_name (i := 4) sc_goals.nd rfl (Or.inl rfl)) (pss_cons (ps_dput (hu_of hr) (pv 2) (pv 4) (pv 3) rfl)
        (pss_one (ps_set (i := 3) sc_goals.nd rfl (Or.inl rfl) (pe_op op_gAdd (pv 3) (pe_fn (takes_of rfl rfl rfl rfl) c_words_of (hr.mono (by decide)) (by rfl) (pa_cons (pe_fldC (T.cls 119) (T.noat 125) (pv 0)) (pa_cons (pv 4) pa_nil))))))))
        (pss_one (ps_ret (pv 2)))))), ?rd⟩)
  case len => obtain ⟨_, _, _, _, _, rfl, _⟩ := h; rfl
  case rd =>
    obtain ⟨A, S, C, a, ks, rfl, I, hS, cp, hm, nd, hl, q⟩ := h
    have sz : 10000 ≤ sizeLine := by rw [sizeLine_eq]; omega
    walk_at "w3"
    intro p np
    have sp := same_new (o := .dK []) np
    have I0 := I.same sp
    refine ⟨_, fldIs I0.ob, _, fldIs I0.so, a, ks, rfl, sp.seq hS, fun ss r pm so nr => ?_⟩
    have s2 := same_new (o := .lst (ss.map V.int)) nr
    have ps : upd H p (.dK []) p = some (.dK []) := upd_same
    have rs : upd (upd H p (.dK [])) r (.lst (ss.map V.int)) r = some (.lst (ss.map V.int)) := upd_same
    have ps2 := s2 _ _ ps
    have s02 := sp.trans s2
    have pr : p ≠ r := ne_of_none ps nr
    generalize upd (upd H p (.dK [])) r (.lst (ss.map V.int)) = H2 at rs ps2 s02 ⊢
    have hm' : ∀ x ∈ ss, ∃ c ∈ C, x = (c.p : Int) := fun x m => hm x (pm.mem_iff.mp m)
    have nd' : ss.Nodup := pm.nodup_iff.mpr nd
    have hl' : ss.length ≤ 1000 := by rw [pm.length_eq]; exact hl
    walk_at "w3"
    refine ⟨⟨_, .of rs⟩, forW_list (xs := ss.map V.int) (fun i σ H' => ∃ o4, σ = [some (.ref A.a), some (.ref a), some (.ref p), some (.int ((ss.take i).map (wC C)).sum), o4] ∧ H' p = some (.dK (kvI (goL (wC C) 0 (ss.take i)))) ∧ ∀ b o, b ≠ p → H2 b = some o → H' b = some o) ⟨_, rfl, ps2, fun b o _ g => g⟩ ?_ ?_ ?_⟩
    · rintro i σ H' hi ⟨o4, rfl, hp, k⟩
      exact .of (k _ _ pr.symm rs)
    · rintro i x σ H' hx ⟨o4, rfl, hp, k⟩
      obtain ⟨y, hy, rfl⟩ : ∃ y, ss[i]? = some y ∧ x = .int y := by
        rw [List.getElem?_map] at hx
        cases e : ss[i]? with
        | none => rw [e] at hx; cases hx
        | some y => rw [e] at hx; cases hx; exact ⟨y, rfl, rfl⟩
      have my := List.mem_of_getElem? hy
      obtain ⟨c, mc, ey⟩ := hm' y my
      have hi : i < ss.length := (List.getElem?_eq_some_iff.mp hy).1
      have tk : ss.take (i + 1) = ss.take i ++ [y] := by
        rw [List.take_add_one, hy]
        rfl
      have ne : ∀ q ∈ goL (wC C) 0 (ss.take i), q.1 ≠ y := fun q mq e => by
        have m1 : q.1 ∈ ss.take i := by
          have := List.mem_map_of_mem (f := (·.1)) mq
          rwa [goL_fst] at this
        have nd2 : (ss.take (i + 1)).Nodup := List.Nodup.sublist (List.take_sublist ..) nd'
        rw [tk] at nd2
        exact (List.nodup_append.mp nd2).2.2 q.1 m1 y (List.mem_singleton.mpr rfl) e
      have pk := kvI_put (p := (y, ((ss.take i).map (wC C)).sum)) ne
      rw [← Int.zero_add ((ss.take i).map (wC C)).sum, ← goL_app, ← tk] at pk
      rw [Int.zero_add] at pk
      walk_at "w3"
      have dp := dput_i (i := y) (v := .int ((ss.take i).map (wC C)).sum) hp (by rw [kvI_len, goL_len, List.length_take]; omega)
      rw [pk] at dp
      refine ⟨_, dp, ?_⟩
      have k' : ∀ b o, b ≠ p → H2 b = some o → upd H' p (.dK (kvI (goL (wC C) 0 (ss.take (i + 1))))) b = some o := fun b o h g => (upd_ne h).trans (k b o h g)
      have I3 : ArO K (upd H' p (.dK (kvI (goL (wC C) 0 (ss.take (i + 1)))))) A S := I.same fun b o g => k' b o (ne_of_none g np) (s02 _ _ g)
      have hlt := cp.lt I.ln I.lo (I.lt _).2 c mc
      obtain ⟨h, e1, e2, -⟩ := cp.head mc hlt
      refine ⟨_, fldIs I3.ob, A.m, A.mx, A.l, S.ws, _, rfl, I3.me, I3.vw, .inl ⟨_, rfl⟩, ?_⟩
      rw [ey, e1]
      dsimp only
      walk_at "w3"
      have es : ((ss.take i).map (wC C)).sum + ((h / 4 + 1 : Nat) : Int) = ((ss.take (i + 1)).map (wC C)).sum := by
        rw [tk, List.map_append, List.sum_append, e2]
        show _ = _ + (wC C y + 0)
        rw [ey, wC_mem cp mc, Int.add_zero]
        rfl
      rw [es]
      exact ⟨_, rfl, upd_same, k'⟩
    · rintro σ H' ⟨o4, rfl, hp, k⟩
      walk_at "w3"
      rw [List.length_map, List.take_length] at hp
      exact q ss p H' pm so np (fun b o g => k b o (ne_of_none g np) (s02 _ _ g)) hp
end
theorem ints_at {ns : List Int} {i : Nat} {x : V} (h : (ns.map V.int)[i]? = some x) : ∃ y, ns[i]? = some y ∧ x = .int y := by
  rw [List.getElem?_map] at h
  cases e : ns[i]? with
  | none => rw [e] at h; cases h
  | some y => rw [e] at h; cases h; exact ⟨y, rfl, rfl⟩
def sp_reached (K : PySem.W.Frag) : Sp := fun vs H Q _ => ∃ m mx l S C a ks, vs = [.ref m, .ref a] ∧ MemO K H m mx l S.ws ∧ Vw S.ws ∧ SqL K H a (ks.map V.int) ∧ CelP S C ∧ (∀ c ∈ C, c.p + c.ws.length < S.ws.length) ∧ (∀ c ∈ C, ∀ w ∈ c.ws, ClW C w) ∧ (∀ x ∈ ks, x ∈ plcC C) ∧ C.length ≤ 1000 ∧
  ∀ p H', H p = none → Same H H' → H' p = some (.lst ((reachC C ks).map V.int)) → Q (.ref p) H'
theorem plc_len {C : List CeL} : (plcC C).length = C.length := List.length_map ..
section
variable {P : Program} {w : World} {K : PySem.W.Frag} {mg : Str → Option Value} {base : Heap}
theorem f_reached (T : Tx K mg) : Fn P w K mg base 7 "reached" ["memory", "starts"] (sp_reached K) := by
  have c_children := f_children (P := P) (w := w) (base := base) T
  refine T.mkFn 17 35 (d := d_reached) (N := ["memory", "starts", "found", "met", "at", "turn"]) (k := 6) rfl rfl rfl rfl rfl sc_reached (fun _ _ _ _ _ _ us hl => match us, hl with | [_, _], _ => rfl) (fun vs H Q E h => ?len) (fun cdv A outer s H vs Q E hr h => ⟨_,
      (pss_cons (ps_set (i := 2) sc_reached.nd rfl (Or.inl rfl) (pe_lst pa_nil))
        (pss_cons (ps_set (i := 3) sc_reached.nd rfl (Or.inl rfl) pe_dnewK)
        (pss_cons (ps_for (passes_of rfl) rfl (pi_listK (K := K) rfl (pv 1)) (pg_name (i := 4) sc_reached.nd rfl (Or.inl rfl)) (pss_one (ps_if (pt_cmp (pc_dnotin (hu_of hr) (pv 4) (pv 3))) (pss_cons (ps_dput (hu_of hr) (pv 3) (pv 4) pe_bl rfl)
        (pss_one (ps_expr (pe_bm PySem.F.plainAttrs_list PySem.F.slot_list_append PySem.F.type_list_append mt_append (pv 2) (pa_cons (pv 4) pa_nil))))) pss_nil)))
        (pss_cons (ps_set (i := 5) sc_reached.nd rfl (Or.inl rfl) pe_int)
        (pss_cons (ps_while (passes_of rfl) (pt_cmpR op_lt (pv 5) (pe_callB (call_lenK (K := K) rfl) (by rfl) (T.free 77) PySem.boot_len (pa_cons (pv 2) pa_nil)) (nomark _)) (pss_cons (ps_for (passes_of rfl) rfl (pi_listK (K := K) rfl (pe_fn (takes_of rfl rfl rfl rfl) c_children (hr.mono (by decide)) (by rfl) (pa_cons (pv 0) (pa_cons (pe_ix (ix_seqK (K := K) rfl) (pv 2) (pv 5) (fun _ _ => rfl)) pa_nil)))) (pg_name (i := 4) sc_reached.nd rfl (Or.inl rfl)) (pss_one (ps_if (pt_cmp (pc_dnotin (hu_of hr) (pv 4) (pv 3))) (pss_cons (ps_dput (hu_of hr) (pv 3) (pv 4) pe_bl rfl)
        (pss_one (ps_expr (pe_bm PySem.F.plainAttrs_list PySem.F.slot_list_append PySem.F.type_list_append mt_append (pv 2) (pa_cons (pv 4) pa_nil))))) pss_nil)))
        (pss_one (ps_set (i := 5) sc_reached.nd rfl (Or.inl rfl) (pe_op op_gAdd (pv 5) pe_int)))))
        (pss_one (ps_ret (pv 2)))))))), ?rd⟩)
  case len => obtain ⟨_, _, _, _, _, _, _, rfl, _⟩ := h; rfl
  case rd =>
    obtain ⟨m, mx, l, S, C, a, ks, rfl, M, vw, hS, cp, hlt, hw, hm, hl, q⟩ := h
    have sz : 10000 ≤ sizeLine := by rw [sizeLine_eq]; omega
    walk_at "w3"
    refine ⟨by omega, fun p np e ne => ?_⟩
    have sp := same_new (o := .lst []) np
    have se := same_new (o := .dK []) ne
    have pe : p ≠ e := ne_of_none upd_same ne
    have hp0 : upd (upd H p (.lst [])) e (.dK []) p = some (.lst []) := se _ _ upd_same
    have he0 : upd (upd H p (.lst [])) e (.dK []) e = some (.dK []) := upd_same
    have neH := none_of sp ne
    have s0 := sp.trans se
    generalize upd (upd H p (.lst [])) e (.dK []) = H0 at hp0 he0 s0 ⊢
    refine ⟨⟨_, s0.seq hS⟩, ?_⟩
    have fl : ∀ {f : List Int}, f.Nodup → (∀ x ∈ f, x ∈ plcC C) → f.length ≤ C.length := fun h1 h2 => by
      have := nd_len h1 h2
      rwa [plc_len] at this
    have stepL : ∀ {o5 : Option V} {D : Ends} {f : List Int} {x : Int} {H1 : Hp}, H1 p = some (.lst (f.map V.int)) → H1 e = some (.dK (kvT f)) → f.length ≤ 1000 →
        (∀ H2, H2 p = some (.lst ((addN f [x]).map V.int)) → H2 e = some (.dK (kvT (addN f [x]))) → (∀ b o, b ≠ p → b ≠ e → H1 b = some o → H2 b = some o) → D.nx [some (.ref m), some (.ref a), some (.ref p), some (.ref e), some (.int x), o5] H2) →
        (tIfS (tB (tDNotIn (tVar 4) (tVar 3))) (tSeq (sDPut (tVar 3) (tVar 4) (tC (V.bl true))) (tDrop (tBM K "list" rAppend (tVar 2) (tCons (tVar 4) tNil)))) tNext) D [some (.ref m), some (.ref a), some (.ref p), some (.ref e), some (.int x), o5] H1 := by
      intro o5 D f x H1 h1 h2 hl qq
      walk_at "w3"
      have dg := dget_i (i := x) h2
      rw [kvT_val] at dg
      have ea : addN f [x] = if x ∈ f then f else f ++ [x] := by rw [addN_cons, addN_nil]
      rw [ea] at qq
      by_cases c : x ∈ f
      · rw [if_pos c] at dg qq
        refine ⟨_, dg, ?_⟩
        walk_at "w3"
        exact qq H1 h1 h2 fun b o _ _ g => g
      · rw [if_neg c] at dg qq
        refine ⟨_, dg, ?_⟩
        walk_at "w3"
        have dp := dput_i (i := x) (v := .bl true) h2 (by unfold kvT; rw [List.length_map]; omega)
        rw [kvT_put c] at dp
        have h1' : upd H1 e (.dK (kvT (f ++ [x]))) p = some (.lst (f.map V.int)) := (upd_ne pe).trans h1
        refine ⟨_, dp, .inl ⟨rfl, _, .of h1'⟩, p, _, _, rfl, rfl, h1', by rw [List.length_map]; omega, ?_⟩
        refine qq _ ?_ ((upd_ne pe.symm).trans upd_same) fun b o n1 n2 g => (upd_ne n1).trans ((upd_ne n2).trans g)
        rw [upd_same, List.map_append]
        rfl
    refine forW_list (xs := ks.map V.int) (fun i σ H' => ∃ o4, σ = [some (.ref m), some (.ref a), some (.ref p), some (.ref e), o4, none] ∧ H' p = some (.lst ((addN [] (ks.take i)).map V.int)) ∧ H' e = some (.dK (kvT (addN [] (ks.take i)))) ∧ Same H H') ⟨_, rfl, hp0, he0, s0⟩ ?_ ?_ ?_
    · rintro i σ H' hi ⟨o4, rfl, hp, he, s⟩
      exact s.seq hS
    · rintro i x σ H' hx ⟨o4, rfl, hp, he, s⟩
      obtain ⟨y, hy, rfl⟩ := ints_at hx
      have hmi : ∀ x ∈ addN [] (ks.take i), x ∈ plcC C := fun x mx => (addN_mem mx).elim (fun z => (List.not_mem_nil z).elim) fun z => hm x (List.mem_of_mem_take z)
      have := fl (addN_nd (xs := ks.take i) List.nodup_nil) hmi
      have tk : ks.take (i + 1) = ks.take i ++ [y] := by
        rw [List.take_add_one, hy]
        rfl
      rw [tk, addN_app]
      rw [x_name]
      refine stepL hp he (by omega) fun H2 h1 h2 k => ⟨_, rfl, h1, h2, fun b o g => k b o (ne_of_none g np) (ne_of_none g neH) (s _ _ g)⟩
    · rintro σ H' ⟨o4, rfl, hp, he, s⟩
      rw [List.length_map, List.take_length] at hp he
      walk_at "w3"
      have ndi : (addN [] ks).Nodup := addN_nd List.nodup_nil
      have hmi : ∀ x ∈ addN [] ks, x ∈ plcC C := fun x mx => (addN_mem mx).elim (fun z => (List.not_mem_nil z).elim) fun z => hm x z
      refine whW (fun k σ H' => ∃ f t o4, σ = [some (.ref m), some (.ref a), some (.ref p), some (.ref e), o4, some (.int (t : Nat))] ∧ k + t = C.length ∧ H' p = some (.lst (f.map V.int)) ∧ H' e = some (.dK (kvT f)) ∧ f.Nodup ∧ (∀ x ∈ f, x ∈ plcC C) ∧ t ≤ f.length ∧ reachR (kC C) k f t = reachC C ks ∧ Same H H') ⟨C.length, addN [] ks, 0, _, rfl, rfl, hp, he, ndi, hmi, Nat.zero_le _, rfl, s⟩ ?_
      rintro k σ H' ⟨f, t, o4, rfl, kt, hp, he, nd, hf, tl, er, s⟩
      have lf := fl nd hf
      walk_at "w3"
      refine r_lenL hp ?_
      rw [List.length_map]
      walk_at "w3"
      by_cases c : t < f.length
      · rw [if_pos (by omega)]
        refine whB ?_
        walk_at "w3"
        refine r_ixL hp (by rw [List.getElem?_map, getD_at (d := 0) c]; rfl) ?_
        have hfx : f.getD t 0 ∈ plcC C := hf _ (List.mem_of_getElem? (getD_at (d := 0) c))
        obtain ⟨ce, mc, ex⟩ := List.mem_map.mp hfx
        have er' := er
        obtain ⟨k, rfl⟩ : ∃ k', k = k' + 1 := ⟨k - 1, by omega⟩
        rw [reachR_step c] at er
        rw [← ex] at er ⊢
        obtain ⟨h, e1, e2, -⟩ := cp.head mc (hlt ce mc)
        refine ⟨m, mx, l, S.ws, _, rfl, M.same s, vw, .inl ⟨_, rfl⟩, ?_⟩
        rw [e1]
        dsimp only
        refine ⟨by have := hlt ce mc; omega, fun g H2 ng s2 hg => ?_⟩
        have ek : kidsT S.ws ce.p (h / 4) = kC C ce.p := by
          rw [kC_mem cp mc, e2, kidsT_row (row := ce.ws) (fun w mw => (hw ce mc w mw).1) (cp.sl ce mc) (Nat.le_refl _), List.take_length]
        rw [ek] at hg
        have gp : g ≠ p := (ne_of_none hp ng).symm
        have ge : g ≠ e := (ne_of_none he ng).symm
        have kin : ∀ x ∈ kC C ce.p, x ∈ plcC C := kC_in cp hw _ (List.mem_map.mpr ⟨ce, mc, rfl⟩)
        have hin : ∀ i, ∀ x ∈ addN f ((kC C ce.p).take i), x ∈ plcC C := fun i x mx => (addN_mem mx).elim (hf x) fun z => kin x (List.mem_of_mem_take z)
        walk_at "w3"
        refine ⟨⟨_, .of hg⟩, forW_list (xs := (kC C ce.p).map V.int) (fun i σ H' => ∃ o4, σ = [some (.ref m), some (.ref a), some (.ref p), some (.ref e), o4, some (.int (t : Nat))] ∧ H' p = some (.lst ((addN f ((kC C ce.p).take i)).map V.int)) ∧ H' e = some (.dK (kvT (addN f ((kC C ce.p).take i)))) ∧ Same H H' ∧ H' g = some (.lst ((kC C ce.p).map V.int))) ⟨_, rfl, s2 _ _ hp, s2 _ _ he, s.trans s2, hg⟩ ?_ ?_ ?_⟩
        · rintro i σ H3 hi ⟨o4', rfl, hp3, he3, s3, hg3⟩
          exact .of hg3
        · rintro i x σ H3 hx ⟨o4', rfl, hp3, he3, s3, hg3⟩
          obtain ⟨y, hy, rfl⟩ := ints_at hx
          have lf3 := fl (addN_nd (xs := (kC C ce.p).take i) nd) (hin i)
          have tk : (kC C ce.p).take (i + 1) = (kC C ce.p).take i ++ [y] := by
            rw [List.take_add_one, hy]
            rfl
          rw [tk, addN_app]
          rw [x_name]
          exact stepL hp3 he3 (by omega) fun H4 h1 h2 k => ⟨_, rfl, h1, h2, (fun b o z => k b o (ne_of_none z np) (ne_of_none z neH) (s3 _ _ z)), k _ _ gp ge hg3⟩
        · rintro σ H3 ⟨o4', rfl, hp3, he3, s3, hg3⟩
          rw [List.length_map, List.take_length] at hp3 he3
          have hin' := hin (kC C ce.p).length
          rw [List.take_length] at hin'
          walk_at "w3"
          refine ⟨k, by omega, addN f (kC C ce.p), t + 1, _, rfl, by omega, hp3, he3, addN_nd nd, hin', ?_, er, s3⟩
          obtain ⟨z, ez⟩ := addN_pre (xs := kC C ce.p) (a := f)
          rw [ez, List.length_append]
          omega
      · rw [if_neg (by omega)]
        rw [reachR_end (by omega)] at er
        rw [er] at hp
        exact q p H' np s hp
end

local macro_rules | `(tactic| walk_at "w3") => `(tactic| try simp only [↓x_var0, ↓x_varS, ↓x_c, ↓x_op, ↓x_un, ↓x_cb, ↓x_nil, ↓x_cons, ↓x_test, ↓x_b, ↓x_ex, ↓x_and, ↓x_or, ↓x_not, ↓x_andV, ↓x_orV, ↓x_notV, ↓x_tif, ↓x_chain, ↓x_menu, ↓x_menuI, ↓x_lst, ↓x_tup, ↓x_dnew, ↓x_callW, ↓x_callN, ↓x_seq, ↓x_next, ↓x_ret, ↓x_retN, ↓x_drop, ↓x_ifS, ↓x_asg, ↓x_name, ↓x_raise, ↓x_fld, ↓x_setF, ↓x_meth, ↓x_make, ↓x_sub, ↓r_min, ↓r_max, ↓x_yes, ↓x_for, ↓x_lock, ↓x_keys, ↓x_cut, ↓x_lc, ↓x_rng1, ↓x_rng2, ↓x_lst1, ↓x_itup, ↓x_rng3, ↓x_three, ↓x_lstg, ↓x_tupg, ↓x_adrS, ↓x_one, ↓x_two, ↓x_adr, ↓x_sl, ↓x_np, ↓x_pt, ↓x_int, ↓x_bm, ↓x_bm0, ↓x_consg, ↓x_nilg, ↓x_dget2, ↓x_dget1, ↓x_dgetN, ↓x_dget, ↓x_din, ↓x_dni, ↓x_dput, ↓x_dpop2, ↓r_isB, ↓r_notB, ↓x_enum, ↓x_zip, ↓x_str, ↓x_strE, ↓r_inS, ↓r_ninS, wipe, List.map_cons, List.map_nil, ↓x_isT, ↓r_isiII, ↓r_isiBB, ↓r_isiIB, ↓r_isiSS, ↓r_neNS, ↓r_neSN, ↓r_neNN, ↓r_eqNS, ↓r_eqSN, ↓r_eqNN, ↓r_eqIS, ↓r_neIS, ↓r_neSI, ↓r_neBS, ↓r_eqBB, ↓r_neBB, ↓x_start, ↓x_K, ↓x_start0, ↓r_i0, ↓r_i, ↓r_u, ↓r_addI, ↓r_addS, ↓r_mulI, ↓r_mulS, ↓r_eqI, ↓r_neI, ↓r_eqS, ↓r_neS, ↓r_absI, ↓r_intI, ↓r_intB, List.length_cons, List.length_nil, List.replicate, List.set_cons_zero, List.set_cons_succ, decide_eq_true_eq, Bool.not_eq_true', decide_eq_false_iff_not, if_true, if_false, Bool.false_eq_true, Bool.true_eq_false, ite_true, ite_false, Bool.not_true, Bool.not_false, c_div, n_ten, c_pow, not_true_eq_false, not_false_eq_true, decide_true, decide_false, true_and, and_true, and_self, true_or, or_true, Int.reduceLT, Int.reduceLE, Int.reduceMul, Int.reduceAdd, Int.reduceSub, Int.reducePow, Int.reduceNeg, Int.reduceDiv, Int.reduceMod, Nat.reducePow, Int.reduceToNat, Int.reduceEq, Int.reduceNe, Nat.reduceLT, Nat.reduceLeDiff, Nat.reduceAdd, ↓x_whole, ↓x_kind, Int.natCast_one, Int.natCast_one])
/-! ## what is come to: closed, and the least so -/
theorem addN_sub {xs a : List Int} {x : Int} (h : x ∈ a) : x ∈ addN a xs := by
  obtain ⟨t, e⟩ := addN_pre (xs := xs) (a := a)
  rw [e]
  exact List.mem_append_left _ h
theorem addN_all : ∀ {xs a : List Int} {x : Int}, x ∈ xs → x ∈ addN a xs
  | [], _, _, h => (List.not_mem_nil h).elim
  | y :: r, a, x, h => by
    rw [addN_cons]
    rcases List.mem_cons.mp h with rfl | h
    · split
      · rename_i c
        exact addN_sub c
      · exact addN_sub (List.mem_append_right _ (List.mem_singleton.mpr rfl))
    · exact addN_all h
theorem reach_sub {kids : Int → List Int} : ∀ {k : Nat} {f : List Int} {t : Nat} {x : Int}, x ∈ f → x ∈ reachR kids k f t
  | 0, _, _, _, h => h
  | k + 1, f, t, x, h => by
    unfold reachR
    split
    · exact reach_sub (addN_sub h)
    · exact h
theorem reach_closed {kids : Int → List Int} {U : List Int} (hk : ∀ x ∈ U, ∀ y ∈ kids x, y ∈ U) : ∀ {k : Nat} {f : List Int} {t : Nat}, f.Nodup → (∀ x ∈ f, x ∈ U) → U.length ≤ k + t → (∀ i, i < t → ∀ x, f[i]? = some x → ∀ y ∈ kids x, y ∈ f) →
    ∀ x ∈ reachR kids k f t, ∀ y ∈ kids x, y ∈ reachR kids k f t
  | 0, f, t, nd, hf, hl, hc => fun x m y my => by
    obtain ⟨i, ei⟩ := List.getElem?_of_mem m
    have h1 := (List.getElem?_eq_some_iff.mp ei).1
    have h2 : f.length ≤ U.length := nd_len nd hf
    have h1 : i < f.length := h1
    exact hc i (by omega) x ei y my
  | k + 1, f, t, nd, hf, hl, hc => by
    by_cases c : t < f.length
    · rw [reachR_step c]
      have et : f[t]? = some (f.getD t 0) := getD_at (d := 0) c
      refine reach_closed hk (addN_nd nd) (fun x m => ?_) (by omega) fun i hi x ei y my => ?_
      · rcases addN_mem m with m | m
        · exact hf x m
        · exact hk _ (hf _ (List.mem_of_getElem? et)) x m
      · obtain ⟨z, ez⟩ := addN_pre (xs := kids (f.getD t 0)) (a := f)
        have ei' : f[i]? = some x := by
          rw [ez, List.getElem?_append, if_pos (by omega)] at ei
          exact ei
        by_cases q : i = t
        · subst q
          rw [et] at ei'
          cases ei'
          exact addN_all my
        · exact addN_sub (hc i (by omega) x ei' y my)
    · rw [reachR_end (by omega)]
      intro x m y my
      obtain ⟨i, ei⟩ := List.getElem?_of_mem m
      have h1 := (List.getElem?_eq_some_iff.mp ei).1
      exact hc i (by omega) x ei y my
theorem reach_min {kids : Int → List Int} {p : Int → Prop} (hk : ∀ x, p x → ∀ y ∈ kids x, p y) : ∀ {k : Nat} {f : List Int} {t : Nat}, (∀ x ∈ f, p x) → ∀ x ∈ reachR kids k f t, p x
  | 0, _, _, h => h
  | k + 1, f, t, h => by
    unfold reachR
    split
    · rename_i c
      refine reach_min hk fun x m => ?_
      rcases addN_mem m with m | m
      · exact h x m
      · exact hk _ (h _ (List.mem_of_getElem? (getD_at (d := 0) c))) x m
    · exact h
/-- the cells come to -/
structure ReC (C : List CeL) (ks kept : List Int) : Prop where
  nd : kept.Nodup
  cl : ∀ x ∈ kept, ∃ c ∈ C, x = (c.p : Int)
  st : ∀ x ∈ ks, x ∈ kept
  kd : ∀ c ∈ C, (c.p : Int) ∈ kept → ∀ y ∈ kidsL c.ws, y ∈ kept
  mn : ∀ p : Int → Prop, (∀ x ∈ ks, p x) → (∀ c ∈ C, p c.p → ∀ y ∈ kidsL c.ws, p y) → ∀ x ∈ kept, p x
theorem reachC_is {S : ArS} {C : List CeL} {ks : List Int} (h : CelP S C) (hw : ∀ c ∈ C, ∀ w ∈ c.ws, ClW C w) (hk : ∀ x ∈ ks, x ∈ plcC C) : ReC C ks (reachC C ks) := by
  have kin := kC_in h hw
  have i0 : ∀ x ∈ addN [] ks, x ∈ plcC C := fun x m => (addN_mem m).elim (fun z => (List.not_mem_nil z).elim) (hk x)
  have n0 : (addN [] ks).Nodup := addN_nd List.nodup_nil
  have sub := reach_in kin (k := C.length) (t := 0) i0
  refine ⟨reach_nd n0, fun x m => ?_, fun x m => reach_sub (addN_all m), fun c mc m y my => ?_, fun p h1 h2 x m => ?_⟩
  · obtain ⟨c, mc, e⟩ := List.mem_map.mp (sub x m)
    exact ⟨c, mc, e.symm⟩
  · refine reach_closed kin n0 i0 (by unfold plcC; rw [List.length_map]; omega) (fun i hi => absurd hi (Nat.not_lt_zero i)) _ m y ?_
    rw [kC_mem h mc]
    exact my
  · refine (reach_min (kids := kC C) (p := fun x => p x ∧ x ∈ plcC C) (fun x hx y my => ?_) (fun x m => ?_) x m).1
    · obtain ⟨c, mc, e⟩ := List.mem_map.mp hx.2
      have e : (c.p : Int) = x := e
      subst e
      rw [kC_mem h mc] at my
      exact ⟨h2 c mc hx.1 y my, kin _ hx.2 y (by rw [kC_mem h mc]; exact my)⟩
    · rcases addN_mem m with m | m
      · exact (List.not_mem_nil m).elim
      · exact ⟨h1 x m, hk x m⟩
theorem kids_place {w : Int} {x : Wd} (h : wordOf w = some x) {y : Int} : placeIn w = some y ↔ wordOf w = some (.place y) := by
  have e := wd_place h
  cases x with
  | place p =>
    have e : placeIn w = some p := e
    rw [e, h]
    exact ⟨fun z => (by cases z; rfl), fun z => (by cases z; rfl)⟩
  | num p =>
    have e : placeIn w = none := e
    rw [e, h]
    exact ⟨fun z => (by cases z), fun z => (by cases z)⟩
  | nothing =>
    have e : placeIn w = none := e
    rw [e, h]
    exact ⟨fun z => (by cases z), fun z => (by cases z)⟩

local macro_rules | `(tactic| walk_at "w3") => `(tactic| try simp only [↓x_var0, ↓x_varS, ↓x_c, ↓x_op, ↓x_un, ↓x_cb, ↓x_nil, ↓x_cons, ↓x_test, ↓x_b, ↓x_ex, ↓x_and, ↓x_or, ↓x_not, ↓x_andV, ↓x_orV, ↓x_notV, ↓x_tif, ↓x_chain, ↓x_menu, ↓x_menuI, ↓x_lst, ↓x_tup, ↓x_dnew, ↓x_callW, ↓x_callN, ↓x_seq, ↓x_next, ↓x_ret, ↓x_retN, ↓x_drop, ↓x_ifS, ↓x_asg, ↓x_name, ↓x_raise, ↓x_fld, ↓x_setF, ↓x_meth, ↓x_make, ↓x_sub, ↓r_min, ↓r_max, ↓x_yes, ↓x_for, ↓x_lock, ↓x_keys, ↓x_cut, ↓x_lc, ↓x_rng1, ↓x_rng2, ↓x_lst1, ↓x_itup, ↓x_rng3, ↓x_three, ↓x_lstg, ↓x_tupg, ↓x_adrS, ↓x_one, ↓x_two, ↓x_adr, ↓x_sl, ↓x_np, ↓x_pt, ↓x_int, ↓x_bm, ↓x_bm0, ↓x_consg, ↓x_nilg, ↓x_dget2, ↓x_dget1, ↓x_dgetN, ↓x_dget, ↓x_din, ↓x_dni, ↓x_dput, ↓x_dpop2, ↓r_isB, ↓r_notB, ↓x_enum, ↓x_zip, ↓x_str, ↓x_strE, ↓r_inS, ↓r_ninS, wipe, List.map_cons, List.map_nil, ↓x_isT, ↓r_isiII, ↓r_isiBB, ↓r_isiIB, ↓r_isiSS, ↓r_neNS, ↓r_neSN, ↓r_neNN, ↓r_eqNS, ↓r_eqSN, ↓r_eqNN, ↓r_eqIS, ↓r_neIS, ↓r_neSI, ↓r_neBS, ↓r_eqBB, ↓r_neBB, ↓x_start, ↓x_K, ↓x_start0, ↓r_i0, ↓r_i, ↓r_u, ↓r_addI, ↓r_addS, ↓r_mulI, ↓r_mulS, ↓r_eqI, ↓r_neI, ↓r_eqS, ↓r_neS, ↓r_absI, ↓r_intI, ↓r_intB, List.length_cons, List.length_nil, List.replicate, List.set_cons_zero, List.set_cons_succ, decide_eq_true_eq, Bool.not_eq_true', decide_eq_false_iff_not, if_true, if_false, Bool.false_eq_true, Bool.true_eq_false, ite_true, ite_false, Bool.not_true, Bool.not_false, c_div, n_ten, c_pow, not_true_eq_false, not_false_eq_true, decide_true, decide_false, true_and, and_true, and_self, true_or, or_true, Int.reduceLT, Int.reduceLE, Int.reduceMul, Int.reduceAdd, Int.reduceSub, Int.reducePow, Int.reduceNeg, Int.reduceDiv, Int.reduceMod, Nat.reducePow, Int.reduceToNat, Int.reduceEq, Int.reduceNe, Nat.reduceLT, Nat.reduceLeDiff, Nat.reduceAdd, ↓x_whole, ↓x_kind, Int.natCast_one, Int.natCast_one])
/-! ## rows that are gone through from the left -/
def mapT {α : Type} (f : α → α) (xs : List α) (t : Nat) : List α := (xs.take t).map f ++ xs.drop t
section
variable {α : Type} {f : α → α} {xs : List α} {t j : Nat} {x : α}
theorem mapT_zero : mapT f xs 0 = xs := rfl
theorem mapT_all (h : xs.length ≤ t) : mapT f xs t = xs.map f := by
  unfold mapT
  rw [List.take_of_length_le h, List.drop_of_length_le h, List.append_nil]
theorem mapT_len : (mapT f xs t).length = xs.length := by
  unfold mapT
  rw [List.length_append, List.length_map, List.length_take, List.length_drop]
  omega
theorem mapT_get (h : t ≤ j) : (mapT f xs t)[j]? = xs[j]? := by
  unfold mapT
  rw [List.getElem?_append]
  have hl : ((xs.take t).map f).length = min t xs.length := by rw [List.length_map, List.length_take]
  rw [hl]
  by_cases c : j < min t xs.length
  · omega
  · rw [if_neg c, List.getElem?_drop]
    by_cases d : j < xs.length
    · congr 1
      omega
    · rw [List.getElem?_eq_none (by omega), List.getElem?_eq_none (by omega)]
theorem mapT_done (h : j < t) : (mapT f xs t)[j]? = (xs[j]?).map f := by
  unfold mapT
  rw [List.getElem?_append]
  have hl : ((xs.take t).map f).length = min t xs.length := by rw [List.length_map, List.length_take]
  rw [hl]
  by_cases c : j < min t xs.length
  · rw [if_pos c, List.getElem?_map, List.getElem?_take, if_pos h]
  · rw [if_neg c, List.getElem?_drop, List.getElem?_eq_none (by omega), List.getElem?_eq_none (by omega)]
    rfl
theorem mapT_set (h : xs[t]? = some x) : (mapT f xs t).set t (f x) = mapT f xs (t + 1) := by
  obtain ⟨ht, e⟩ := List.getElem?_eq_some_iff.mp h
  refine List.ext_getElem? fun j => ?_
  rw [List.getElem?_set]
  by_cases c : t = j
  · subst c
    rw [if_pos rfl, if_pos (by rw [mapT_len]; exact ht), mapT_done (Nat.lt_succ_self _), h]
    rfl
  · rw [if_neg c]
    by_cases d : j < t
    · rw [mapT_done d, mapT_done (by omega)]
    · rw [mapT_get (by omega), mapT_get (by omega)]
theorem mapT_skip (h : xs[t]? = some x) (e : f x = x) : mapT f xs (t + 1) = mapT f xs t := by
  rw [← mapT_set h, e]
  refine List.ext_getElem? fun j => ?_
  rw [List.getElem?_set]
  by_cases c : t = j
  · subst c
    obtain ⟨ht, -⟩ := List.getElem?_eq_some_iff.mp h
    rw [if_pos rfl, if_pos (by rw [mapT_len]; exact ht), mapT_get (Nat.le_refl _), h]
  · rw [if_neg c]
end
/-! ## words, names and tickets that go along -/
def turnW (f : Int → Int) (w : Int) : Int := match placeIn w with
  | some p => 2 * f p + 1
  | none => w
def nmG (g : Int → Option Int) : V → V
  | .int p => match g p with
    | some q => .int q
    | none => .non
  | v => v
def tkG (g : Int → Option Int) : Option (Int × Int) → Option (Int × Int)
  | some (p, n) => (g p).map fun q => (q, n)
  | none => none
def sdG (g : Int → Option Int) : Option (Int × Int) → List Int
  | some (p, n) => if (g p).isSome then [] else [n]
  | none => []
def saidG (g : Int → Option Int) (ws : List (Option (Int × Int))) : List Int := ws.flatMap (sdG g)
theorem saidG_snoc {g : Int → Option Int} {ws : List (Option (Int × Int))} {t : Nat} {x : Option (Int × Int)} (h : ws[t]? = some x) : saidG g (ws.take (t + 1)) = saidG g (ws.take t) ++ sdG g x := by
  unfold saidG
  rw [List.take_add_one, h, List.flatMap_append]
  congr 1
  show sdG g x ++ [] = _
  rw [List.append_nil]
theorem pairs_step {g : Int → Option Int} {ts : List V} (fl : ∀ t ∈ ts, flatN t = true) {xs : List V} {rest : List (List V)} : ∀ {k m : Nat}, ts.length - m ≤ k → pairsOf m (ts.drop m) = xs :: rest →
    ∃ a, ∃ p : Int, m ≤ a ∧ a < ts.length ∧ xs = [.int (a : Int), .int p] ∧ ts[a]? = some (.int p) ∧ rest = pairsOf (a + 1) (ts.drop (a + 1)) ∧ mapT (nmG g) ts a = mapT (nmG g) ts m := by
  intro k
  induction k with
  | zero =>
    intro m h e
    rw [List.drop_of_length_le (by omega)] at e
    cases e
  | succ k ih =>
    intro m h e
    by_cases c : m < ts.length
    · have em : ts[m]? = some ts[m] := List.getElem?_eq_getElem c
      rw [List.drop_eq_getElem_cons c] at e
      have e : (if ts[m] = .non then pairsOf (m + 1) (ts.drop (m + 1)) else [.int (m : Int), ts[m]] :: pairsOf (m + 1) (ts.drop (m + 1))) = xs :: rest := e
      by_cases n : ts[m] = .non
      · rw [if_pos n] at e
        obtain ⟨a, p, h1, h2, h3, h4, h5, h6⟩ := ih (by omega) e
        refine ⟨a, p, by omega, h2, h3, h4, h5, h6.trans (mapT_skip em ?_)⟩
        rw [n]
        rfl
      · rw [if_neg n] at e
        have f := fl _ (List.getElem_mem c)
        cases ev : ts[m] with
        | int p =>
          rw [ev] at e
          cases e
          exact ⟨m, p, Nat.le_refl _, c, rfl, by rw [em, ev], rfl, rfl⟩
        | non => exact absurd ev n
        | _ => rw [ev] at f; cases f
    · rw [List.drop_of_length_le (by omega)] at e
      cases e
theorem pairs_end {g : Int → Option Int} {ts : List V} (fl : ∀ t ∈ ts, flatN t = true) : ∀ {k m : Nat}, ts.length - m ≤ k → pairsOf m (ts.drop m) = [] → mapT (nmG g) ts m = ts.map (nmG g) := by
  intro k
  induction k with
  | zero =>
    intro m h e
    exact mapT_all (by omega)
  | succ k ih =>
    intro m h e
    by_cases c : m < ts.length
    · have em : ts[m]? = some ts[m] := List.getElem?_eq_getElem c
      rw [List.drop_eq_getElem_cons c] at e
      have e : (if ts[m] = .non then pairsOf (m + 1) (ts.drop (m + 1)) else [.int (m : Int), ts[m]] :: pairsOf (m + 1) (ts.drop (m + 1))) = [] := e
      by_cases n : ts[m] = .non
      · rw [if_pos n] at e
        rw [← ih (by omega) e]
        exact (mapT_skip em (by rw [n]; rfl)).symm
      · rw [if_neg n] at e
        cases e
    · exact mapT_all (by omega)
theorem pend_step {g : Int → Option Int} {ws : List (Option (Int × Int))} {xs : List V} {rest : List (List V)} : ∀ {k m : Nat}, ws.length - m ≤ k → pendOf m (ws.drop m) = xs :: rest →
    ∃ a, ∃ p n : Int, m ≤ a ∧ a < ws.length ∧ xs = [.int (a : Int), .int p, .int n] ∧ ws[a]? = some (some (p, n)) ∧ rest = pendOf (a + 1) (ws.drop (a + 1)) ∧ mapT (tkG g) ws a = mapT (tkG g) ws m ∧ saidG g (ws.take a) = saidG g (ws.take m) := by
  intro k
  induction k with
  | zero =>
    intro m h e
    rw [List.drop_of_length_le (by omega)] at e
    cases e
  | succ k ih =>
    intro m h e
    by_cases c : m < ws.length
    · have em : ws[m]? = some ws[m] := List.getElem?_eq_getElem c
      rw [List.drop_eq_getElem_cons c] at e
      cases ev : ws[m] with
      | none =>
        rw [ev] at e em
        obtain ⟨a, p, n, h1, h2, h3, h4, h5, h6, h7⟩ := ih (m := m + 1) (by omega) e
        refine ⟨a, p, n, by omega, h2, h3, h4, h5, h6.trans (mapT_skip em rfl), h7.trans ?_⟩
        rw [saidG_snoc em]
        exact List.append_nil _
      | some q =>
        rw [ev] at e em
        cases e
        exact ⟨m, q.1, q.2, Nat.le_refl _, c, rfl, em, rfl, rfl, rfl⟩
    · rw [List.drop_of_length_le (by omega)] at e
      cases e
theorem pend_end {g : Int → Option Int} {ws : List (Option (Int × Int))} : ∀ {k m : Nat}, ws.length - m ≤ k → pendOf m (ws.drop m) = [] → mapT (tkG g) ws m = ws.map (tkG g) ∧ saidG g (ws.take m) = saidG g ws := by
  intro k
  induction k with
  | zero =>
    intro m h e
    exact ⟨mapT_all (by omega), by rw [List.take_of_length_le (by omega)]⟩
  | succ k ih =>
    intro m h e
    by_cases c : m < ws.length
    · have em : ws[m]? = some ws[m] := List.getElem?_eq_getElem c
      rw [List.drop_eq_getElem_cons c] at e
      cases ev : ws[m] with
      | none =>
        rw [ev] at e em
        obtain ⟨h1, h2⟩ := ih (m := m + 1) (by omega) e
        rw [← h1, ← h2, saidG_snoc em]
        exact ⟨(mapT_skip em rfl).symm, (List.append_nil _).symm⟩
      | some q =>
        rw [ev] at e
        cases e
    · exact ⟨mapT_all (by omega), by rw [List.take_of_length_le (by omega)]⟩
theorem said_len {g : Int → Option Int} : ∀ {ws : List (Option (Int × Int))}, (saidG g ws).length ≤ ws.length
  | [] => Nat.le_refl _
  | x :: r => by
    show (sdG g x ++ saidG g r).length ≤ r.length + 1
    have := said_len (g := g) (ws := r)
    rw [List.length_append]
    have : (sdG g x).length ≤ 1 := by
      cases x with
      | none => exact Nat.zero_le _
      | some q =>
        show (if (g q.1).isSome then [] else [q.2]).length ≤ 1
        split
        · exact Nat.zero_le _
        · exact Nat.le_refl _
    omega
theorem turnW_place {f : Int → Int} {w p : Int} (h : wordOf w = some (.place p)) : turnW f w = 2 * f p + 1 := by
  unfold turnW
  rw [wd_place h]
theorem turnW_other {f : Int → Int} {w : Int} {x : Wd} (h : wordOf w = some x) (n : ∀ p, x ≠ .place p) : turnW f w = w := by
  unfold turnW
  rw [wd_place h]
  cases x with
  | place p => exact absurd rfl (n p)
  | _ => rfl
/-! ## cells whose slots are gone through, each as far as told -/
def tC (f : Int → Int) (n : Nat → Nat) (C : List CeL) : List CeL := C.map fun c => { c with ws := mapT (turnW f) c.ws (n c.p) }
theorem tC_zero {f : Int → Int} {C : List CeL} : tC f (fun _ => 0) C = C := by
  unfold tC
  exact List.map_id' C
theorem tC_cong {f : Int → Int} {n m : Nat → Nat} {C : List CeL} (h : ∀ c ∈ C, mapT (turnW f) c.ws (n c.p) = mapT (turnW f) c.ws (m c.p)) : tC f n C = tC f m C := by
  unfold tC
  exact List.map_congr_left fun c mc => by rw [h c mc]
theorem tC_mem {f : Int → Int} {n : Nat → Nat} {C : List CeL} {b : CeL} (m : b ∈ tC f n C) : ∃ c ∈ C, b.p = c.p ∧ b.ws = mapT (turnW f) c.ws (n c.p) := by
  obtain ⟨c, mc, rfl⟩ := List.mem_map.mp m
  exact ⟨c, mc, rfl, rfl⟩
theorem tC_set {f : Int → Int} {n : Nat → Nat} {C : List CeL} {p j : Nat} {w : Int} (hp : n p = j) (h : ∀ c ∈ C, c.p = p → c.ws[j]? = some w) : setC (tC f n C) p j (turnW f w) = tC f (fun q => if q = p then j + 1 else n q) C := by
  unfold setC tC
  rw [List.map_map]
  refine List.map_congr_left fun c mc => ?_
  show (if c.p = p then ({ p := c.p, r := c.r, ws := (mapT (turnW f) c.ws (n c.p)).set j (turnW f w) } : CeL) else { p := c.p, r := c.r, ws := mapT (turnW f) c.ws (n c.p) }) = ({ p := c.p, r := c.r, ws := mapT (turnW f) c.ws (if c.p = p then j + 1 else n c.p) } : CeL)
  by_cases e : c.p = p
  · rw [if_pos e, if_pos e]
    congr 1
    rw [e, hp]
    exact mapT_set (h c mc e)
  · rw [if_neg e, if_neg e]
theorem tups_get {H : Hp} {rs : List V} {yss : List (List V)} (h : TupAll H rs yss) : ∀ {i : Nat} {x : V}, rs[i]? = some x → ∃ tp xs, x = .ref tp ∧ H tp = some (.tup xs) ∧ yss[i]? = some xs := by
  induction h with
  | nil => exact fun e => by cases e
  | cons h f t ih =>
    intro i x e
    cases i with
    | zero => cases e; exact ⟨_, _, rfl, h, rfl⟩
    | succ i => exact ih e

local macro_rules | `(tactic| walk_at "w3") => `(tactic| try simp only [↓x_var0, ↓x_varS, ↓x_c, ↓x_op, ↓x_un, ↓x_cb, ↓x_nil, ↓x_cons, ↓x_test, ↓x_b, ↓x_ex, ↓x_and, ↓x_or, ↓x_not, ↓x_andV, ↓x_orV, ↓x_notV, ↓x_tif, ↓x_chain, ↓x_menu, ↓x_menuI, ↓x_lst, ↓x_tup, ↓x_dnew, ↓x_callW, ↓x_callN, ↓x_seq, ↓x_next, ↓x_ret, ↓x_retN, ↓x_drop, ↓x_ifS, ↓x_asg, ↓x_name, ↓x_raise, ↓x_fld, ↓x_setF, ↓x_meth, ↓x_make, ↓x_sub, ↓r_min, ↓r_max, ↓x_yes, ↓x_for, ↓x_lock, ↓x_keys, ↓x_cut, ↓x_lc, ↓x_rng1, ↓x_rng2, ↓x_lst1, ↓x_itup, ↓x_rng3, ↓x_three, ↓x_lstg, ↓x_tupg, ↓x_adrS, ↓x_one, ↓x_two, ↓x_adr, ↓x_sl, ↓x_np, ↓x_pt, ↓x_int, ↓x_bm, ↓x_bm0, ↓x_consg, ↓x_nilg, ↓x_dget2, ↓x_dget1, ↓x_dgetN, ↓x_dget, ↓x_din, ↓x_dni, ↓x_dput, ↓x_dpop2, ↓r_isB, ↓r_notB, ↓x_enum, ↓x_zip, ↓x_str, ↓x_strE, ↓r_inS, ↓r_ninS, wipe, List.map_cons, List.map_nil, ↓x_isT, ↓r_isiII, ↓r_isiBB, ↓r_isiIB, ↓r_isiSS, ↓r_neNS, ↓r_neSN, ↓r_neNN, ↓r_eqNS, ↓r_eqSN, ↓r_eqNN, ↓r_eqIS, ↓r_neIS, ↓r_neSI, ↓r_neBS, ↓r_eqBB, ↓r_neBB, ↓x_start, ↓x_K, ↓x_start0, ↓r_i0, ↓r_i, ↓r_u, ↓r_addI, ↓r_addS, ↓r_mulI, ↓r_mulS, ↓r_eqI, ↓r_neI, ↓r_eqS, ↓r_neS, ↓r_absI, ↓r_intI, ↓r_intB, List.length_cons, List.length_nil, List.replicate, List.set_cons_zero, List.set_cons_succ, decide_eq_true_eq, Bool.not_eq_true', decide_eq_false_iff_not, if_true, if_false, Bool.false_eq_true, Bool.true_eq_false, ite_true, ite_false, Bool.not_true, Bool.not_false, c_div, n_ten, c_pow, not_true_eq_false, not_false_eq_true, decide_true, decide_false, true_and, and_true, and_self, true_or, or_true, Int.reduceLT, Int.reduceLE, Int.reduceMul, Int.reduceAdd, Int.reduceSub, Int.reducePow, Int.reduceNeg, Int.reduceDiv, Int.reduceMod, Nat.reducePow, Int.reduceToNat, Int.reduceEq, Int.reduceNe, Nat.reduceLT, Nat.reduceLeDiff, Nat.reduceAdd, ↓x_whole, ↓x_kind, Int.natCast_one, Int.natCast_one])
/-! ## areas and roots -/
structure PairO (K : PySem.W.Frag) (H : Hp) (A : ArA) (R : RoA) (S : ArS) (U : RoS) : Prop where
  ar : ArO K H A S
  ro : RootO K H R U
  m1 : A.l ≠ R.hl
  m2 : A.l ≠ R.wl
  m3 : A.l ≠ R.d
  m4 : A.l ≠ R.e
section
variable {K : PySem.W.Frag} {H H' : Hp} {A : ArA} {R : RoA} {S S' : ArS} {U : RoS}
theorem PairO.same (h : PairO K H A R S U) (s : Same H H') : PairO K H' A R S U := { h with ar := h.ar.same s, ro := h.ro.same s }
/-- all but what areas and roots hold stays -/
def Kc (A : ArA) (R : RoA) (bd : Addr) (H H' : Hp) : Prop := ∀ b o, b ≠ A.a → b ≠ A.l → b ≠ A.o → b ≠ A.p → b ≠ A.q → b ≠ R.hl → b ≠ R.wl → b ≠ R.d → b ≠ R.e → b ≠ R.b → b ≠ bd → H b = some o → H' b = some o
theorem fs_ne {C D dx ex : Addr} {fs gs : List (Str × V)} (h : fs.map Prod.fst ≠ gs.map Prod.fst) : HO.ins C dx fs ≠ .ins D ex gs := fun z => h (by rw [(HO.ins.inj z).2.2])
theorem RootO.frP (h : RootO K H R U) (k : ∀ b o, (b = R.r ∨ b = R.h ∨ b = R.hl ∨ b = R.b ∨ b = U.bd ∨ b = R.w ∨ b = R.wl ∨ b = R.la ∨ b = R.d ∨ b = R.e) → H b = some o → H' b = some o) (kt : ∀ c xs, H c = some (.tup xs) → H' c = some (.tup xs)) : RootO K H' R U :=
  { h with ob := k _ _ (.inl rfl) h.ob, ho := ⟨k _ _ (.inr (.inl rfl)) h.ho.ob, k _ _ (.inr (.inr (.inl rfl))) h.ho.ls, h.ho.vw, h.ho.sz⟩, bo := ⟨k _ _ (.inr (.inr (.inr (.inl rfl)))) h.bo.ob, k _ _ (.inr (.inr (.inr (.inr (.inl rfl))))) h.bo.ds, h.bo.nd⟩, wo := ⟨k _ _ (.inr (.inr (.inr (.inr (.inr (.inl rfl)))))) h.wo.ob, k _ _ (.inr (.inr (.inr (.inr (.inr (.inr (.inl rfl))))))) h.wo.ls⟩, lo := ⟨k _ _ (.inr (.inr (.inr (.inr (.inr (.inr (.inr (.inl rfl)))))))) h.lo.ob, k _ _ (.inr (.inr (.inr (.inr (.inr (.inr (.inr (.inr (.inl rfl))))))))) h.lo.wa, h.lo.wt.fr kt, k _ _ (.inr (.inr (.inr (.inr (.inr (.inr (.inr (.inr (.inr rfl))))))))) h.lo.sk, h.lo.de⟩ }
theorem ArO.frP (h : ArO K H A S) (k : ∀ b o, (b = A.a ∨ b = A.m ∨ b = A.l ∨ b = A.o ∨ b = A.p ∨ b = A.q) → H b = some o → H' b = some o) : ArO K H' A S :=
  { h with ob := k _ _ (.inl rfl) h.ob, me := ⟨k _ _ (.inr (.inl rfl)) h.me.ob, k _ _ (.inr (.inr (.inl rfl))) h.me.ls, h.me.sz⟩, so := k _ _ (.inr (.inr (.inr (.inl rfl)))) h.so, sp := k _ _ (.inr (.inr (.inr (.inr (.inl rfl))))) h.sp, sq := k _ _ (.inr (.inr (.inr (.inr (.inr rfl))))) h.sq }
/-- where the areas' own things stand, no root's thing does -/
theorem PairO.offA (h : PairO K H A R S U) {x : Addr} (hx : x = A.a ∨ x = A.l ∨ x = A.o ∨ x = A.p ∨ x = A.q) : ∀ b, (b = R.r ∨ b = R.h ∨ b = R.hl ∨ b = R.b ∨ b = U.bd ∨ b = R.w ∨ b = R.wl ∨ b = R.la ∨ b = R.d ∨ b = R.e) → b ≠ x := by
  have ra := h.ar.ob
  have rl := h.ar.me.ls
  have lst : ∀ {c xs}, H c = some (.lst xs) → c ≠ A.l → c ≠ x := fun {c xs} g n => by
    rcases hx with rfl | rfl | rfl | rfl | rfl
    · exact ne_of g ra (by intro z; cases z)
    · exact n
    · exact ne_of g h.ar.so fun z => spv_lst z.symm
    · exact ne_of g h.ar.sp fun z => spv_lst z.symm
    · exact ne_of g h.ar.sq fun z => spv_lst z.symm
  have ins : ∀ {c C dx fs}, H c = some (.ins C dx fs) → fs.map Prod.fst ≠ ([("memory" : Str), "old", "young", "spare"]) → fs.length ≠ 3 → c ≠ x := fun {c C dx fs} g n n3 => by
    rcases hx with rfl | rfl | rfl | rfl | rfl
    · exact ne_of g ra (fs_ne n)
    · exact ne_of g rl (by intro z; cases z)
    · exact ne_of g h.ar.so fun z => spv_fs n3 z.symm
    · exact ne_of g h.ar.sp fun z => spv_fs n3 z.symm
    · exact ne_of g h.ar.sq fun z => spv_fs n3 z.symm
  have dk : U.bd ≠ x := by
    have g := h.ro.bo.ds
    rcases hx with rfl | rfl | rfl | rfl | rfl
    · exact ne_of g ra (by intro z; cases z)
    · exact ne_of g rl (by intro z; cases z)
    · exact ne_of g h.ar.so (by intro z; cases z)
    · exact ne_of g h.ar.sp (by intro z; cases z)
    · exact ne_of g h.ar.sq (by intro z; cases z)
  rintro b (rfl | rfl | rfl | rfl | rfl | rfl | rfl | rfl | rfl | rfl)
  · exact ins h.ro.ob (by show [("hands" : Str), "book", "weaks", "lasts"] ≠ _; decide +kernel) (by show 4 ≠ 3; decide)
  · exact ins h.ro.ho.ob (by show [("kept" : Str)] ≠ _; decide +kernel) (by show 1 ≠ 3; decide)
  · exact lst h.ro.ho.ls h.m1.symm
  · exact ins h.ro.bo.ob (by show [("marks" : Str)] ≠ _; decide +kernel) (by show 1 ≠ 3; decide)
  · exact dk
  · exact ins h.ro.wo.ob (by show [("told" : Str)] ≠ _; decide +kernel) (by show 1 ≠ 3; decide)
  · exact lst h.ro.wo.ls h.m2.symm
  · exact ins h.ro.lo.ob (by show [("waiting" : Str), "spoken"] ≠ _; decide +kernel) (by show 2 ≠ 3; decide)
  · exact lst h.ro.lo.wa h.m3.symm
  · exact lst h.ro.lo.sk h.m4.symm
theorem PairO.arS (h : PairO K H A R S U) (I : ArO K H' A S') (k : ∀ b o, b ≠ A.a → b ≠ A.l → b ≠ A.o → b ≠ A.p → b ≠ A.q → H b = some o → H' b = some o) : PairO K H' A R S' U :=
  { h with ar := I, ro := h.ro.frP (fun b o m g => k b o (h.offA (.inl rfl) b m) (h.offA (.inr (.inl rfl)) b m) (h.offA (.inr (.inr (.inl rfl))) b m) (h.offA (.inr (.inr (.inr (.inl rfl)))) b m) (h.offA (.inr (.inr (.inr (.inr rfl)))) b m) g) fun c xs g => k _ _ (ne_of g h.ar.ob (by intro z; cases z)) (ne_of g h.ar.me.ls (by intro z; cases z)) (ne_of g h.ar.so (by intro z; cases z)) (ne_of g h.ar.sp (by intro z; cases z)) (ne_of g h.ar.sq (by intro z; cases z)) g }
theorem PairO.wput (h : PairO K H A R S U) {ws : List Int} (vw : Vw ws) (e : ws.length = S.ws.length) : PairO K (upd H A.l (.lst (ws.map V.int))) A R { S with ws := ws } U :=
  h.arS (h.ar.words (h.ar.me.put ws e) (fun b o n g => (upd_ne n).trans g) vw e) fun b o _ n _ _ _ g => (upd_ne n).trans g
theorem PairO.topO (h : PairO K H A R S U) {t : Nat} (ht : t ≤ S.n) : PairO K (upd H A.o (SpV K A.ox 0 S.n t)) A R { S with ot := t } U :=
  h.arS (h.ar.topOld ht) fun b o _ _ n _ _ g => (upd_ne n).trans g
theorem PairO.topH (h : PairO K H A R S U) {f : Bool} {t : Nat} (h0 : S.b f ≤ t) (h1 : t ≤ S.b f + S.k) : PairO K (upd H (A.y f) (SpV K (A.yx f) (S.b f) (S.b f + S.k) t)) A R (S.put f t) U :=
  h.arS (h.ar.topHalf h0 h1) fun b o _ _ _ n1 n2 g => (upd_ne (by unfold ArA.y; split <;> assumption)).trans g
theorem PairO.flip (h : PairO K H A R S U) : PairO K (upd H A.a (.ins (He.ga K "Areas") A.dx (F_Areas (.ref A.m) (.ref A.o) (.ref (A.y !S.fl)) (.ref (A.y S.fl))))) A R { S with fl := !S.fl } U :=
  h.arS h.ar.flip fun b o n _ _ _ _ g => (upd_ne n).trans g
theorem PairO.roS {R : RoA} {U U' : RoS} (h : PairO K H A R S U) (I : RootO K H' R U') (k : ∀ b o, (b = A.a ∨ b = A.m ∨ b = A.l ∨ b = A.o ∨ b = A.p ∨ b = A.q) → H b = some o → H' b = some o) : PairO K H' A R S U' := { h with ar := h.ar.frP k, ro := I }
/-- areas' things are no lists or dicts of the roots -/
theorem PairO.offL (h : PairO K H A R S U) {x : Addr} {xs : List V} (e : H x = some (.lst xs)) (n : A.l ≠ x) : ∀ b, (b = A.a ∨ b = A.m ∨ b = A.l ∨ b = A.o ∨ b = A.p ∨ b = A.q) → b ≠ x := by
  rintro b (rfl | rfl | rfl | rfl | rfl | rfl)
  · exact ne_of h.ar.ob e (by intro z; cases z)
  · exact ne_of h.ar.me.ob e (by intro z; cases z)
  · exact n
  · exact ne_of h.ar.so e spv_lst
  · exact ne_of h.ar.sp e spv_lst
  · exact ne_of h.ar.sq e spv_lst
theorem PairO.hput (h : PairO K H A R S U) {i : Nat} {n : Int} (hn : (wordOf n).isSome = true) : PairO K (upd H R.hl (.lst ((U.hs.set i n).map V.int))) A R S { U with hs := U.hs.set i n } := by
  have r := h.ro
  have f : ∀ {b o}, H b = some o → (∀ xs, o ≠ .lst xs) → upd H R.hl (.lst ((U.hs.set i n).map V.int)) b = some o := fun g n => (upd_ne (ne_of g r.ho.ls (n _))).trans g
  have n1 : ∀ {C d fs xs}, HO.ins C d fs ≠ .lst xs := fun z => by cases z
  refine h.roS { r with ob := f r.ob (fun _ => n1), ho := r.ho.put hn, bo := ⟨f r.bo.ob (fun _ => n1), f r.bo.ds (fun _ z => by cases z), r.bo.nd⟩, wo := ⟨f r.wo.ob (fun _ => n1), (upd_ne r.n1.symm).trans r.wo.ls⟩, lo := ⟨f r.lo.ob (fun _ => n1), (upd_ne r.n2.symm).trans r.lo.wa, r.lo.wt.put r.ho.ls (fun _ z => by cases z), (upd_ne r.n3.symm).trans r.lo.sk, r.lo.de⟩ } fun b o m g => (upd_ne (h.offL r.ho.ls h.m1 b m)).trans g
theorem PairO.wkput (h : PairO K H A R S U) {us : List V} : PairO K (upd H R.wl (.lst us)) A R S { U with ts := us } := by
  have r := h.ro
  have f : ∀ {b o}, H b = some o → (∀ xs, o ≠ .lst xs) → upd H R.wl (.lst us) b = some o := fun g n => (upd_ne (ne_of g r.wo.ls (n _))).trans g
  have n1 : ∀ {C d fs xs}, HO.ins C d fs ≠ .lst xs := fun z => by cases z
  refine h.roS { r with ob := f r.ob (fun _ => n1), ho := ⟨f r.ho.ob (fun _ => n1), (upd_ne r.n1).trans r.ho.ls, r.ho.vw, r.ho.sz⟩, bo := ⟨f r.bo.ob (fun _ => n1), f r.bo.ds (fun _ z => by cases z), r.bo.nd⟩, wo := r.wo.put, lo := ⟨f r.lo.ob (fun _ => n1), (upd_ne r.n4.symm).trans r.lo.wa, r.lo.wt.put r.wo.ls (fun _ z => by cases z), (upd_ne r.n5.symm).trans r.lo.sk, r.lo.de⟩ } fun b o m g => (upd_ne (h.offL r.wo.ls h.m2 b m)).trans g
theorem PairO.lsput {rs ws ss} (h : PairO K H A R S U) (L : LastO K H' R.la R.lax R.d R.e rs ws ss) (k : ∀ c o, c ≠ R.d → c ≠ R.e → H c = some o → H' c = some o) : PairO K H' A R S { U with rs := rs, ws := ws, ss := ss } := by
  have r := h.ro
  have i : ∀ {b C d fs}, H b = some (.ins C d fs) → H' b = some (.ins C d fs) := fun g => k _ _ (ne_of g r.lo.wa (by intro z; cases z)) (ne_of g r.lo.sk (by intro z; cases z)) g
  refine h.roS { r with ob := i r.ob, ho := ⟨i r.ho.ob, k _ _ r.n2 r.n3 r.ho.ls, r.ho.vw, r.ho.sz⟩, bo := ⟨i r.bo.ob, k _ _ (ne_of r.bo.ds r.lo.wa (by intro z; cases z)) (ne_of r.bo.ds r.lo.sk (by intro z; cases z)) r.bo.ds, r.bo.nd⟩, wo := ⟨i r.wo.ob, k _ _ r.n4 r.n5 r.wo.ls⟩, lo := L } fun b o m g => k _ _ (h.offL r.lo.wa h.m3 b m) (h.offL r.lo.sk h.m4 b m) g
theorem PairO.bput (h : PairO K H A R S U) {qs : List Int} (n : qs.Nodup) : PairO K (upd H U.bd (.dK (bk qs))) A R S { U with bs := qs } := by
  have r := h.ro
  have f : ∀ {b o}, H b = some o → (∀ xs, o ≠ .dK xs) → upd H U.bd (.dK (bk qs)) b = some o := fun g n => (upd_ne (ne_of g r.bo.ds (n _))).trans g
  have n1 : ∀ {C d fs xs}, HO.ins C d fs ≠ .dK xs := fun z => by cases z
  have n2 : ∀ {ys xs}, HO.lst ys ≠ .dK xs := fun z => by cases z
  refine h.roS { r with ob := f r.ob (fun _ => n1), ho := ⟨f r.ho.ob (fun _ => n1), f r.ho.ls (fun _ => n2), r.ho.vw, r.ho.sz⟩, bo := r.bo.put n, wo := ⟨f r.wo.ob (fun _ => n1), f r.wo.ls (fun _ => n2)⟩, lo := ⟨f r.lo.ob (fun _ => n1), f r.lo.wa (fun _ => n2), r.lo.wt.put r.bo.ds (fun _ z => by cases z), f r.lo.sk (fun _ => n2), r.lo.de⟩ } ?_
  rintro b o (rfl | rfl | rfl | rfl | rfl | rfl) g
  · exact (upd_ne (ne_of h.ar.ob r.bo.ds (by intro z; cases z))).trans g
  · exact (upd_ne (ne_of h.ar.me.ob r.bo.ds (by intro z; cases z))).trans g
  · exact (upd_ne (ne_of h.ar.me.ls r.bo.ds (by intro z; cases z))).trans g
  · exact (upd_ne (ne_of h.ar.so r.bo.ds (by intro z; cases z))).trans g
  · exact (upd_ne (ne_of h.ar.sp r.bo.ds (by intro z; cases z))).trans g
  · exact (upd_ne (ne_of h.ar.sq r.bo.ds (by intro z; cases z))).trans g
theorem PairO.bnew (h : PairO K H A R S U) {d' : Addr} {qs : List Int} (B : BookO K H' R.b R.bx d' qs) (k : ∀ c o, c ≠ R.b → H c = some o → H' c = some o) : PairO K H' A R S { U with bd := d', bs := qs } := by
  have r := h.ro
  have kb : [("marks" : Str)] ≠ [("memory" : Str), "old", "young", "spare"] := by decide +kernel
  have lst : ∀ {c xs}, H c = some (.lst xs) → H' c = some (.lst xs) := fun g => k _ _ (ne_of g r.bo.ob (by intro z; cases z)) g
  have ins : ∀ {c C dx fs}, H c = some (.ins C dx fs) → fs.map Prod.fst ≠ ([("marks" : Str)]) → H' c = some (.ins C dx fs) := fun g n => k _ _ (ne_of g r.bo.ob (fs_ne n)) g
  refine h.roS { r with ob := ins r.ob (by show [("hands" : Str), "book", "weaks", "lasts"] ≠ _; decide +kernel), ho := ⟨ins r.ho.ob (by show [("kept" : Str)] ≠ _; decide +kernel), lst r.ho.ls, r.ho.vw, r.ho.sz⟩, bo := B, wo := ⟨ins r.wo.ob (by show [("told" : Str)] ≠ _; decide +kernel), lst r.wo.ls⟩, lo := ⟨ins r.lo.ob (by show [("waiting" : Str), "spoken"] ≠ _; decide +kernel), lst r.lo.wa, r.lo.wt.fr (fun c xs g => k _ _ (ne_of g r.bo.ob (by intro z; cases z)) g), lst r.lo.sk, r.lo.de⟩ } ?_
  rintro b o (rfl | rfl | rfl | rfl | rfl | rfl) g
  · exact k _ _ (ne_of h.ar.ob r.bo.ob (fs_ne (by show [("memory" : Str), "old", "young", "spare"] ≠ [("marks" : Str)]; decide +kernel))) g
  · exact k _ _ (ne_of h.ar.me.ob r.bo.ob (fs_ne (by show [("size" : Str), "words"] ≠ [("marks" : Str)]; decide +kernel))) g
  · exact k _ _ (ne_of h.ar.me.ls r.bo.ob (by intro z; cases z)) g
  · exact k _ _ (ne_of h.ar.so r.bo.ob (fs_ne (by show [("begin" : Str), "end", "top"] ≠ [("marks" : Str)]; decide +kernel))) g
  · exact k _ _ (ne_of h.ar.sp r.bo.ob (fs_ne (by show [("begin" : Str), "end", "top"] ≠ [("marks" : Str)]; decide +kernel))) g
  · exact k _ _ (ne_of h.ar.sq r.bo.ob (fs_ne (by show [("begin" : Str), "end", "top"] ≠ [("marks" : Str)]; decide +kernel))) g
/-- another object changes -/
theorem PairO.fr (h : PairO K H A R S U) (k : ∀ b o, (b = A.a ∨ b = A.m ∨ b = A.l ∨ b = A.o ∨ b = A.p ∨ b = A.q ∨ b = R.r ∨ b = R.h ∨ b = R.hl ∨ b = R.b ∨ b = U.bd ∨ b = R.w ∨ b = R.wl ∨ b = R.la ∨ b = R.d ∨ b = R.e) → H b = some o → H' b = some o) (kt : ∀ c xs, H c = some (.tup xs) → H' c = some (.tup xs)) : PairO K H' A R S U :=
  { h with ar := h.ar.frP fun b o m g => k b o (by rcases m with m | m | m | m | m | m <;> simp only [m, true_or, or_true]) g, ro := h.ro.frP (fun b o m g => k b o (by rcases m with m | m | m | m | m | m | m | m | m | m <;> simp only [m, true_or, or_true]) g) kt }
/-- none of the own lists -/
def OffP (A : ArA) (R : RoA) (c : Addr) : Prop := c ≠ A.l ∧ c ≠ R.hl ∧ c ≠ R.wl ∧ c ≠ R.d ∧ c ≠ R.e
theorem PairO.off (h : PairO K H A R S U) {c : Addr} {xs : List V} {o : HO} (e : H c = some (.lst xs)) (n : OffP A R c) : PairO K (upd H c o) A R S U := by
  have i : ∀ {b C d fs}, H b = some (.ins C d fs) → upd H c o b = some (.ins C d fs) := fun g => (upd_ne (ne_of g e (by intro z; cases z))).trans g
  have t : ∀ b ys, H b = some (.tup ys) → upd H c o b = some (.tup ys) := fun b ys g => (upd_ne (ne_of g e (by intro z; cases z))).trans g
  have l : ∀ {b ys}, c ≠ b → H b = some (.lst ys) → upd H c o b = some (.lst ys) := fun n g => (upd_ne n.symm).trans g
  have r := h.ro
  exact { h with ar := h.ar.put e n.1.symm, ro := { r with ob := i r.ob, ho := ⟨i r.ho.ob, l n.2.1 r.ho.ls, r.ho.vw, r.ho.sz⟩, bo := ⟨i r.bo.ob, (upd_ne (ne_of r.bo.ds e (by intro z; cases z))).trans r.bo.ds, r.bo.nd⟩, wo := ⟨i r.wo.ob, l n.2.2.1 r.wo.ls⟩, lo := ⟨i r.lo.ob, l n.2.2.2.1 r.lo.wa, r.lo.wt.fr t, l n.2.2.2.2 r.lo.sk, r.lo.de⟩ } }
theorem PairO.offD (h : PairO K H A R S U) {c : Addr} {kv : List (Key × V)} {o : HO} (e : H c = some (.dK kv)) (n : c ≠ U.bd) : PairO K (upd H c o) A R S U := by
  have i : ∀ {b C d fs}, H b = some (.ins C d fs) → upd H c o b = some (.ins C d fs) := fun g => (upd_ne (ne_of g e (by intro z; cases z))).trans g
  have t : ∀ b ys, H b = some (.tup ys) → upd H c o b = some (.tup ys) := fun b ys g => (upd_ne (ne_of g e (by intro z; cases z))).trans g
  have l : ∀ {b ys}, H b = some (.lst ys) → upd H c o b = some (.lst ys) := fun g => (upd_ne (ne_of g e (by intro z; cases z))).trans g
  have r := h.ro
  exact { h with ar := h.ar.off (ne_of h.ar.me.ls e (by intro z; cases z)) (fun C d fs g => by rw [e] at g; cases g), ro := { r with ob := i r.ob, ho := ⟨i r.ho.ob, l r.ho.ls, r.ho.vw, r.ho.sz⟩, bo := ⟨i r.bo.ob, (upd_ne n.symm).trans r.bo.ds, r.bo.nd⟩, wo := ⟨i r.wo.ob, l r.wo.ls⟩, lo := ⟨i r.lo.ob, l r.lo.wa, r.lo.wt.fr t, l r.lo.sk, r.lo.de⟩ } }
theorem PairO.offl (h : PairO K H A R S U) {p : Addr} (np : H p = none) : OffP A R p ∧ p ≠ U.bd := ⟨⟨(ne_of_none h.ar.me.ls np).symm, (ne_of_none h.ro.ho.ls np).symm, (ne_of_none h.ro.wo.ls np).symm, (ne_of_none h.ro.lo.wa np).symm, (ne_of_none h.ro.lo.sk np).symm⟩, (ne_of_none h.ro.bo.ds np).symm⟩
end

local macro_rules | `(tactic| walk_at "w3") => `(tactic| try simp only [↓x_var0, ↓x_varS, ↓x_c, ↓x_op, ↓x_un, ↓x_cb, ↓x_nil, ↓x_cons, ↓x_test, ↓x_b, ↓x_ex, ↓x_and, ↓x_or, ↓x_not, ↓x_andV, ↓x_orV, ↓x_notV, ↓x_tif, ↓x_chain, ↓x_menu, ↓x_menuI, ↓x_lst, ↓x_tup, ↓x_dnew, ↓x_callW, ↓x_callN, ↓x_seq, ↓x_next, ↓x_ret, ↓x_retN, ↓x_drop, ↓x_ifS, ↓x_asg, ↓x_name, ↓x_raise, ↓x_fld, ↓x_setF, ↓x_meth, ↓x_make, ↓x_sub, ↓r_min, ↓r_max, ↓x_yes, ↓x_for, ↓x_lock, ↓x_keys, ↓x_cut, ↓x_lc, ↓x_rng1, ↓x_rng2, ↓x_lst1, ↓x_itup, ↓x_rng3, ↓x_three, ↓x_lstg, ↓x_tupg, ↓x_adrS, ↓x_one, ↓x_two, ↓x_adr, ↓x_sl, ↓x_np, ↓x_pt, ↓x_int, ↓x_bm, ↓x_bm0, ↓x_consg, ↓x_nilg, ↓x_dget2, ↓x_dget1, ↓x_dgetN, ↓x_dget, ↓x_din, ↓x_dni, ↓x_dput, ↓x_dpop2, ↓r_isB, ↓r_notB, ↓x_enum, ↓x_zip, ↓x_str, ↓x_strE, ↓r_inS, ↓r_ninS, wipe, List.map_cons, List.map_nil, ↓x_isT, ↓r_isiII, ↓r_isiBB, ↓r_isiIB, ↓r_isiSS, ↓r_neNS, ↓r_neSN, ↓r_neNN, ↓r_eqNS, ↓r_eqSN, ↓r_eqNN, ↓r_eqIS, ↓r_neIS, ↓r_neSI, ↓r_neBS, ↓r_eqBB, ↓r_neBB, ↓x_start, ↓x_K, ↓x_start0, ↓r_i0, ↓r_i, ↓r_u, ↓r_addI, ↓r_addS, ↓r_mulI, ↓r_mulS, ↓r_eqI, ↓r_neI, ↓r_eqS, ↓r_neS, ↓r_absI, ↓r_intI, ↓r_intB, List.length_cons, List.length_nil, List.replicate, List.set_cons_zero, List.set_cons_succ, decide_eq_true_eq, Bool.not_eq_true', decide_eq_false_iff_not, if_true, if_false, Bool.false_eq_true, Bool.true_eq_false, ite_true, ite_false, Bool.not_true, Bool.not_false, c_div, n_ten, c_pow, not_true_eq_false, not_false_eq_true, decide_true, decide_false, true_and, and_true, and_self, true_or, or_true, Int.reduceLT, Int.reduceLE, Int.reduceMul, Int.reduceAdd, Int.reduceSub, Int.reducePow, Int.reduceNeg, Int.reduceDiv, Int.reduceMod, Nat.reducePow, Int.reduceToNat, Int.reduceEq, Int.reduceNe, Nat.reduceLT, Nat.reduceLeDiff, Nat.reduceAdd, ↓x_whole, ↓x_kind, Int.natCast_one, Int.natCast_one])
/-! ## where cells go, by a list of pairs -/
def goG (ps : List (Int × Int)) (x : Int) : Option Int := (ps.find? fun p => decide (p.1 = x)).map (·.2)
def goF (ps : List (Int × Int)) (x : Int) : Int := (goG ps x).getD 0
theorem goG_val : ∀ {ps : List (Int × Int)} {x : Int}, valV (kvI ps) (.inl x : Key) = (goG ps x).map V.int
  | [], x => rfl
  | p :: r, x => by
    unfold goG
    rw [List.find?_cons]
    by_cases e : p.1 = x
    · subst e
      rw [decide_eq_true rfl]
      exact valV_pos rfl
    · rw [decide_eq_false e]
      have e2 : ¬ ((.inl p.1 : Key) = .inl x) := fun z => e (Sum.inl.inj z)
      exact (valV_neg (p := ((.inl p.1 : Key), V.int p.2)) (r := kvI r) e2).trans goG_val
theorem goG_mem {ps : List (Int × Int)} (nd : ps.Pairwise fun a b => a.1 ≠ b.1) {p : Int × Int} (m : p ∈ ps) : goG ps p.1 = some p.2 := by
  have h := kvI_some nd m
  rw [goG_val] at h
  cases e : goG ps p.1 with
  | none => rw [e] at h; cases h
  | some q => rw [e] at h; cases h; rfl
theorem goG_none {ps : List (Int × Int)} {x : Int} (h : ∀ p ∈ ps, p.1 ≠ x) : goG ps x = none := by
  have h := kvI_none h
  rw [goG_val] at h
  cases e : goG ps x with
  | none => rfl
  | some q => rw [e] at h; cases h
theorem goG_in {ps : List (Int × Int)} {x q : Int} (h : goG ps x = some q) : (x, q) ∈ ps := by
  unfold goG at h
  cases e : ps.find? fun p => decide (p.1 = x) with
  | none => rw [e] at h; cases h
  | some p =>
    rw [e] at h
    have h : some p.2 = some q := h
    have h1 := List.find?_some e
    have h2 := List.mem_of_find?_eq_some e
    rw [decide_eq_true_eq] at h1
    have : p = (x, q) := Prod.ext h1 (Option.some.inj h)
    rw [← this]
    exact h2

local macro_rules | `(tactic| walk_at "w3") => `(tactic| try simp only [↓x_var0, ↓x_varS, ↓x_c, ↓x_op, ↓x_un, ↓x_cb, ↓x_nil, ↓x_cons, ↓x_test, ↓x_b, ↓x_ex, ↓x_and, ↓x_or, ↓x_not, ↓x_andV, ↓x_orV, ↓x_notV, ↓x_tif, ↓x_chain, ↓x_menu, ↓x_menuI, ↓x_lst, ↓x_tup, ↓x_dnew, ↓x_callW, ↓x_callN, ↓x_seq, ↓x_next, ↓x_ret, ↓x_retN, ↓x_drop, ↓x_ifS, ↓x_asg, ↓x_name, ↓x_raise, ↓x_fld, ↓x_setF, ↓x_meth, ↓x_make, ↓x_sub, ↓r_min, ↓r_max, ↓x_yes, ↓x_for, ↓x_lock, ↓x_keys, ↓x_cut, ↓x_lc, ↓x_rng1, ↓x_rng2, ↓x_lst1, ↓x_itup, ↓x_rng3, ↓x_three, ↓x_lstg, ↓x_tupg, ↓x_adrS, ↓x_one, ↓x_two, ↓x_adr, ↓x_sl, ↓x_np, ↓x_pt, ↓x_int, ↓x_bm, ↓x_bm0, ↓x_consg, ↓x_nilg, ↓x_dget2, ↓x_dget1, ↓x_dgetN, ↓x_dget, ↓x_din, ↓x_dni, ↓x_dput, ↓x_dpop2, ↓r_isB, ↓r_notB, ↓x_enum, ↓x_zip, ↓x_str, ↓x_strE, ↓r_inS, ↓r_ninS, wipe, List.map_cons, List.map_nil, ↓x_isT, ↓r_isiII, ↓r_isiBB, ↓r_isiIB, ↓r_isiSS, ↓r_neNS, ↓r_neSN, ↓r_neNN, ↓r_eqNS, ↓r_eqSN, ↓r_eqNN, ↓r_eqIS, ↓r_neIS, ↓r_neSI, ↓r_neBS, ↓r_eqBB, ↓r_neBB, ↓x_start, ↓x_K, ↓x_start0, ↓r_i0, ↓r_i, ↓r_u, ↓r_addI, ↓r_addS, ↓r_mulI, ↓r_mulS, ↓r_eqI, ↓r_neI, ↓r_eqS, ↓r_neS, ↓r_absI, ↓r_intI, ↓r_intB, List.length_cons, List.length_nil, List.replicate, List.set_cons_zero, List.set_cons_succ, decide_eq_true_eq, Bool.not_eq_true', decide_eq_false_iff_not, if_true, if_false, Bool.false_eq_true, Bool.true_eq_false, ite_true, ite_false, Bool.not_true, Bool.not_false, c_div, n_ten, c_pow, not_true_eq_false, not_false_eq_true, decide_true, decide_false, true_and, and_true, and_self, true_or, or_true, Int.reduceLT, Int.reduceLE, Int.reduceMul, Int.reduceAdd, Int.reduceSub, Int.reducePow, Int.reduceNeg, Int.reduceDiv, Int.reduceMod, Nat.reducePow, Int.reduceToNat, Int.reduceEq, Int.reduceNe, Nat.reduceLT, Nat.reduceLeDiff, Nat.reduceAdd, ↓x_whole, ↓x_kind, Int.natCast_one, Int.natCast_one, Int.natCast_one])
/-! ## copying -/
/-- behind a copy -/
def copT (ws : List Int) (i t s a : Nat) : List Int := ((cpT ws i t (s + 1)).set t (2 * ((4 * s + a : Nat) : Int))).set i (2 * (t : Int) + 1)
theorem copT_len {ws : List Int} {i t s a : Nat} : (copT ws i t s a).length = ws.length := by
  unfold copT
  rw [List.length_set, List.length_set, cpT_len]
theorem copT_at {ws : List Int} {i t s a u : Nat} (hi : i < ws.length) (ht : t + s < ws.length) : (copT ws i t s a).getD u 0 = if u = i then 2 * (t : Int) + 1 else if u = t then 2 * ((4 * s + a : Nat) : Int) else if t < u ∧ u ≤ t + s then ws.getD (i + (u - t)) 0 else ws.getD u 0 := by
  unfold copT
  rw [getD_set (by rw [List.length_set, cpT_len]; omega), getD_set (by rw [cpT_len]; omega), cpT_at (by omega)]
  by_cases e1 : u = i
  · rw [if_pos e1.symm, if_pos e1]
  · rw [if_neg (fun z => e1 z.symm), if_neg e1]
    by_cases e2 : u = t
    · rw [if_pos e2.symm, if_pos e2]
    · rw [if_neg (fun z => e2 z.symm), if_neg e2]
      by_cases e3 : t < u ∧ u ≤ t + s
      · rw [if_pos (by omega), if_pos e3]
      · rw [if_neg (by omega), if_neg e3]
def sp_copied (K : PySem.W.Frag) : Sp := fun vs H Q E => ∃ m mx l ws v s sx b e t z, vs = [.ref m, v, .ref s, z] ∧ MemO K H m mx l ws ∧ Vw ws ∧ SpO K H s sx b e t ∧ Thing H v ∧ Thing H z ∧ match headW ws v with
  | .noPlace => E (Ex K "NoPlace") none H
  | .noCell => E (Ex K "NoCell") none H
  | .ok i h => match ageW z with
    | none => E (Ex K "BadCount") none H
    | some a => if (h / 4 + 1 : Nat) ≤ (e : Int) - t then (i + h / 4 < ws.length ∧ e ≤ ws.length ∧ e ≤ 9999 ∧ (i < t ∨ t + h / 4 < i)) ∧
        ∀ H', MemO K H' m mx l (copT ws i t (h / 4) a) → Vw (copT ws i t (h / 4) a) → SpO K H' s sx b e (t + (h / 4 + 1)) → (∀ c o, c ≠ l → c ≠ s → H c = some o → H' c = some o) → Q (.int (t : Int)) H'
      else E (Ex K "NoRoom") none H
section
variable {P : Program} {w : World} {K : PySem.W.Frag} {mg : Str → Option Value} {base : Heap}
theorem f_copied (T : Tx K mg) : Fn P w K mg base 7 "copied" ["memory", "at", "space", "age"] (sp_copied K) := by
  have c_words_of := f_words_of (P := P) (w := w) (base := base) T
  have c_is_whole := f_is_whole (P := P) (w := w) (base := base) T
  have c_Space_take := f_Space_take (P := P) (w := w) (base := base) T
  have c_Memory_copy := f_Memory_copy (P := P) (w := w) (base := base) T
  have c_aged := f_aged (P := P) (w := w) (base := base) T
  have c_send := f_send (P := P) (w := w) (base := base) T
  refine T.mkFn 73 44 (d := d_copied) (N := ["memory", "at", "space", "age", "many", "goal"]) (k := 6) rfl rfl rfl rfl rfl sc_copied (fun _ _ _ _ _ _ us hl => match us, hl with | [_, _, _, _], _ => rfl) (fun vs H Q E h => ?len) (fun cdv A outer s H vs Q E hr h => ⟨_,
      (pss_cons (ps_set (i := 4) sc_copied.nd rfl (Or.inl rfl) (pe_fn (takes_of rfl rfl rfl rfl) c_words_of (hr.mono (by decide)) (by rfl) (pa_cons (pv 0) (pa_cons (pv 1) pa_nil))))
        (pss_cons (ps_if (PW.pt (pw_or (pt_not (pt_val (pe_fn (takes_of rfl rfl rfl rfl) c_is_whole (hr.mono (by decide)) (by rfl) (pa_cons (pv 3) pa_nil)))) (pw_or1 (pt_not (pt_chain op_le op_le pe_int (pv 3) (pe_num (T.num 69) (by rfl))))))) (pss_one (ps_raiseK (K := K) rfl rfl (takes_of rfl rfl rfl rfl) (T.says.fact 91 rfl) (T.glo 3) (by rfl))) pss_nil)
        (pss_cons (ps_set (i := 5) sc_copied.nd rfl (Or.inl rfl) (pe_mt (K := K) rfl (takes_of rfl rfl rfl rfl) (pv 2) c_Space_take (hr.mono (by decide)) (pa_cons (pv 4) pa_nil)))
        (pss_cons (ps_expr (pe_mt (K := K) rfl (takes_of rfl rfl rfl rfl) (pv 0) c_Memory_copy (hr.mono (by decide)) (pa_cons (pv 1) (pa_cons (pv 5) (pa_cons (pv 4) pa_nil)))))
        (pss_cons (ps_expr (pe_fn (takes_of rfl rfl rfl rfl) c_aged (hr.mono (by decide)) (by rfl) (pa_cons (pv 0) (pa_cons (pv 5) (pa_cons (pv 3) pa_nil)))))
        (pss_cons (ps_expr (pe_fn (takes_of rfl rfl rfl rfl) c_send (hr.mono (by decide)) (by rfl) (pa_cons (pv 0) (pa_cons (pv 1) (pa_cons (pv 5) pa_nil)))))
        (pss_one (ps_ret (pv 5))))))))), ?rd⟩)
  case len => obtain ⟨m, mx, l, ws, v, s, sx, b, e, t, z, rfl, _⟩ := h; rfl
  case rd =>
    obtain ⟨m, mx, l, ws, v, s, sx, b, e, t, z, rfl, M, vw, sp, th, tz, h⟩ := h
    walk_at "w3"
    refine ⟨m, mx, l, ws, v, rfl, M, vw, th, ?_⟩
    cases eh : headW ws v with
    | noPlace =>
      rw [eh] at h
      exact h
    | noCell =>
      rw [eh] at h
      exact h
    | ok i k =>
      rw [eh] at h
      dsimp only at h ⊢
      obtain ⟨rfl, hi, ea⟩ := head_ok eh
      obtain ⟨-, h34, -⟩ := headAt_some ea
      walk_at "w3"
      rcases tz with ⟨n, rfl⟩ | o
      · walk_at "w3"
        rw [ageW_int] at h
        split
        · split
          · rw [if_neg (by omega)] at h
            exact h
          · rw [if_pos (by omega)] at h
            dsimp only at h
            refine ⟨recv sp, s, sx, b, e, t, _, rfl, sp, .inl ⟨_, rfl⟩, ?_⟩
            rw [takeW_int, if_neg (by omega)]
            by_cases fit : ((k / 4 + 1 : Nat) : Int) ≤ (e : Int) - t
            · rw [if_pos fit] at h
              obtain ⟨⟨f1, f2, f3, f4⟩, q⟩ := h
              rw [if_neg (by omega)]
              dsimp only
              rw [Int.toNat_natCast]
              have k1 : ∀ c o, c ≠ s → H c = some o → upd H s (SpV K sx b e (t + (k / 4 + 1))) c = some o := fun c o n g => (upd_ne n).trans g
              have M1 : MemO K (upd H s (SpV K sx b e (t + (k / 4 + 1)))) m mx l ws := ⟨k1 _ _ (ne_of M.ob sp fun z => spv_fs (by show 2 ≠ 3; decide) z.symm) M.ob, k1 _ _ (ne_of M.ls sp fun z => spv_lst z.symm) M.ls, M.sz⟩
              have sp1 : SpO K (upd H s (SpV K sx b e (t + (k / 4 + 1)))) s sx b e (t + (k / 4 + 1)) := upd_same
              generalize upd H s (SpV K sx b e (t + (k / 4 + 1))) = H1 at k1 M1 sp1 ⊢
              refine ⟨recv M1.ob, m, mx, l, ws, _, _, _, rfl, M1, .inl ⟨_, rfl⟩, .inl ⟨_, rfl⟩, .inl ⟨_, rfl⟩, ?_⟩
              rw [cpOf_int, if_pos (by omega), stretchOf_int, if_pos (by omega), Int.toNat_natCast]
              dsimp only
              rw [stretchOf_int, if_pos (by omega), Int.toNat_natCast]
              dsimp only
              rw [Int.toNat_natCast]
              intro H2 M2 k2 _
              have v2 : Vw (cpT ws i t (k / 4 + 1)) := cpT_vw vw (by omega)
              have l2 : (cpT ws i t (k / 4 + 1)).length = ws.length := cpT_len
              have h2 : headW (cpT ws i t (k / 4 + 1)) (.int (t : Int)) = .ok t k := ans_head' (by omega) (by rw [cpT_at (by omega), if_pos (by omega), Nat.sub_self, Nat.add_zero]; exact ea)
              refine ⟨m, mx, l, _, _, _, rfl, M2, v2, .inl ⟨_, rfl⟩, .inl ⟨_, rfl⟩, ?_⟩
              rw [h2]
              dsimp only
              rw [ageW_int, if_pos (by omega)]
              dsimp only
              have w3 : (wordOf (2 * ((4 * (k / 4) + n.toNat : Nat) : Int))).isSome = true := by rw [word_num (by omega)]; rfl
              have M3 := M2.put ((cpT ws i t (k / 4 + 1)).set t (2 * ((4 * (k / 4) + n.toNat : Nat) : Int))) (List.length_set ..)
              have v3 := v2.set (i := t) w3
              have h3 : headW ((cpT ws i t (k / 4 + 1)).set t (2 * ((4 * (k / 4) + n.toNat : Nat) : Int))) (.int (i : Int)) = .ok i k := ans_head' (by rw [List.length_set]; omega) (by rw [getD_set (by omega), if_neg (by omega), cpT_at (by omega), if_neg (by omega)]; exact ea)
              have k3 : ∀ c o, c ≠ l → H2 c = some o → upd H2 l (.lst (((cpT ws i t (k / 4 + 1)).set t (2 * ((4 * (k / 4) + n.toNat : Nat) : Int))).map V.int)) c = some o := fun c o n g => (upd_ne n).trans g
              generalize upd H2 l (.lst (((cpT ws i t (k / 4 + 1)).set t (2 * ((4 * (k / 4) + n.toNat : Nat) : Int))).map V.int)) = H3 at M3 k3 ⊢
              refine ⟨m, mx, l, _, _, _, rfl, M3, v3, .inl ⟨_, rfl⟩, .inl ⟨_, rfl⟩, ?_⟩
              rw [h3]
              dsimp only
              rw [placeW_int, if_pos (by omega)]
              dsimp only
              have w4 : (wordOf (2 * (t : Int) + 1)).isSome = true := by rw [word_place (by omega) (by omega)]; rfl
              have M4 := M3.put (((cpT ws i t (k / 4 + 1)).set t (2 * ((4 * (k / 4) + n.toNat : Nat) : Int))).set i (2 * (t : Int) + 1)) (List.length_set ..)
              have ls : l ≠ s := ne_of M1.ls sp1 fun z => spv_lst z.symm
              exact q _ M4 (v3.set (i := i) w4) ((upd_ne ls.symm).trans (k3 _ _ ls.symm (k2 _ _ ls.symm sp1))) fun c o n1 n2 g => (upd_ne n1).trans (k3 _ _ n1 (k2 _ _ n1 (k1 _ _ n2 g)))
            · rw [if_neg fit] at h
              rw [if_pos (by omega)]
              exact h
        · rw [if_neg (by omega)] at h
          exact h
      · rw [odd_whole o]
        rw [ageW_odd o] at h
        walk_at "w3"
        exact h
end
/-- where a word leads -/
inductive Mv where
  | noPlace | noCell | ok (w : Int)
def movedW (ws : List Int) (n : Int) : Mv := match wordOf n with
  | some (.place p) => (match placeOf ws.length (.int p) with
    | none => .noPlace
    | some i => match wordOf (ws.getD i 0) with
      | some (.place g) => .ok (2 * g + 1)
      | _ => match headAt (ws.getD i 0) with
        | none => .noCell
        | some _ => .ok n)
  | _ => .ok n
def sp_moved (K : PySem.W.Frag) : Sp := fun vs H Q E => ∃ m mx l ws n, vs = [.ref m, .int n] ∧ MemO K H m mx l ws ∧ Vw ws ∧ (wordOf n).isSome = true ∧ match movedW ws n with
  | .noPlace => E (Ex K "NoPlace") none H
  | .noCell => E (Ex K "NoCell") none H
  | .ok w => Q (.int w) H
section
variable {P : Program} {w : World} {K : PySem.W.Frag} {mg : Str → Option Value} {base : Heap}
theorem f_moved (T : Tx K mg) : Fn P w K mg base 6 "moved" ["memory", "word"] (sp_moved K) := by
  have c_kind := f_kind (P := P) (w := w) (base := base) T
  have c_sent_to := f_sent_to (P := P) (w := w) (base := base) T
  have c_worth := f_worth (P := P) (w := w) (base := base) T
  have c_place_word := f_place_word (P := P) (w := w) (base := base) T
  refine T.mkFn 74 45 (d := d_moved) (N := ["memory", "word", "goal"]) (k := 5) rfl rfl rfl rfl rfl sc_moved (fun _ _ _ _ _ _ us hl => match us, hl with | [_, _], _ => rfl) (fun vs H Q E h => ?len) (fun cdv A outer s H vs Q E hr h => ⟨_,
      (pss_cons (ps_if (pt_cmpR (op_neK (K := K) rfl hr.units) (pe_fn (takes_of rfl rfl rfl rfl) c_kind (hr.mono (by decide)) (by rfl) (pa_cons (pv 1) pa_nil)) pe_str (nomark _)) (pss_one (ps_ret (pv 1))) pss_nil)
        (pss_cons (ps_set (i := 2) sc_moved.nd rfl (Or.inl rfl) (pe_fn (takes_of rfl rfl rfl rfl) c_sent_to (hr.mono (by decide)) (by rfl) (pa_cons (pv 0) (pa_cons (pe_fn (takes_of rfl rfl rfl rfl) c_worth (hr.mono (by decide)) (by rfl) (pa_cons (pv 1) pa_nil)) pa_nil))))
        (pss_cons (ps_if (pt_cmpR op_isN (pv 2) pe_non (nomark _)) (pss_one (ps_ret (pv 1))) pss_nil)
        (pss_one (ps_ret (pe_fn (takes_of rfl rfl rfl rfl) c_place_word (hr.mono (by decide)) (by rfl) (pa_cons (pv 2) pa_nil))))))), ?rd⟩)
  case len => obtain ⟨m, mx, l, ws, n, rfl, _⟩ := h; rfl
  case rd =>
    obtain ⟨m, mx, l, ws, n, rfl, M, vw, hn, h⟩ := h
    walk_at "w3"
    unfold movedW at h
    cases e : wordOf n with
    | none =>
      rw [e] at hn
      cases hn
    | some x =>
      rw [e] at h
      cases x with
      | place p =>
        dsimp only at h ⊢
        simp only [k_pp, not_true_eq_false, if_false, x_worth, e]
        have hp : 0 ≤ p ∧ p ≤ 9999 := by
          have := cl_word e
          unfold wordOf at e
          repeat' split at e
          all_goals first
            | (cases e; done)
            | omega
        refine ⟨m, mx, l, ws, _, rfl, M, vw, .inl ⟨_, rfl⟩, ?_⟩
        rw [show (Wd.place p).worth = V.int p from rfl]
        cases ep : placeOf ws.length (.int p) with
        | none =>
          rw [ep] at h
          dsimp only at h ⊢
          exact h
        | some i =>
          rw [ep] at h
          dsimp only at h ⊢
          obtain ⟨e1, hi⟩ := placeOf_some ep
          obtain ⟨y, ey⟩ := vw.get hi
          rw [ey] at h ⊢
          cases y with
          | place g =>
            dsimp only at h ⊢
            rw [if_neg (by intro z; cases z)]
            have hg : 0 ≤ g ∧ g ≤ 9999 := by
              have := cl_word ey
              unfold wordOf at ey
              repeat' split at ey
              all_goals first
                | (cases ey; done)
                | omega
            rw [x_place_word, if_pos hg]
            exact h
          | _ =>
            dsimp only at h ⊢
            cases eh : headAt (ws.getD i 0) with
            | none =>
              rw [eh] at h
              exact h
            | some k =>
              rw [eh] at h
              dsimp only at h ⊢
              rw [if_pos rfl]
              exact h
      | _ =>
        dsimp only at h ⊢
        simp only [k_np, k_Np, not_false_eq_true, if_true]
        exact h
end

local macro_rules | `(tactic| walk_at "w3") => `(tactic| try simp only [↓x_var0, ↓x_varS, ↓x_c, ↓x_op, ↓x_un, ↓x_cb, ↓x_nil, ↓x_cons, ↓x_test, ↓x_b, ↓x_ex, ↓x_and, ↓x_or, ↓x_not, ↓x_andV, ↓x_orV, ↓x_notV, ↓x_tif, ↓x_chain, ↓x_menu, ↓x_menuI, ↓x_lst, ↓x_tup, ↓x_dnew, ↓x_callW, ↓x_callN, ↓x_seq, ↓x_next, ↓x_ret, ↓x_retN, ↓x_drop, ↓x_ifS, ↓x_asg, ↓x_name, ↓x_raise, ↓x_fld, ↓x_setF, ↓x_meth, ↓x_make, ↓x_sub, ↓r_min, ↓r_max, ↓x_yes, ↓x_for, ↓x_lock, ↓x_keys, ↓x_cut, ↓x_lc, ↓x_rng1, ↓x_rng2, ↓x_lst1, ↓x_itup, ↓x_rng3, ↓x_three, ↓x_lstg, ↓x_tupg, ↓x_adrS, ↓x_one, ↓x_two, ↓x_adr, ↓x_sl, ↓x_np, ↓x_pt, ↓x_int, ↓x_bm, ↓x_bm0, ↓x_consg, ↓x_nilg, ↓x_dget2, ↓x_dget1, ↓x_dgetN, ↓x_dget, ↓x_din, ↓x_dni, ↓x_dput, ↓x_dpop2, ↓r_isB, ↓r_notB, ↓x_enum, ↓x_zip, ↓x_str, ↓x_strE, ↓r_inS, ↓r_ninS, wipe, List.map_cons, List.map_nil, ↓x_isT, ↓r_isiII, ↓r_isiBB, ↓r_isiIB, ↓r_isiSS, ↓r_neNS, ↓r_neSN, ↓r_neNN, ↓r_eqNS, ↓r_eqSN, ↓r_eqNN, ↓r_eqIS, ↓r_neIS, ↓r_neSI, ↓r_neBS, ↓r_eqBB, ↓r_neBB, ↓x_start, ↓x_K, ↓x_start0, ↓r_i0, ↓r_i, ↓r_u, ↓r_addI, ↓r_addS, ↓r_mulI, ↓r_mulS, ↓r_eqI, ↓r_neI, ↓r_eqS, ↓r_neS, ↓r_absI, ↓r_intI, ↓r_intB, List.length_cons, List.length_nil, List.replicate, List.set_cons_zero, List.set_cons_succ, decide_eq_true_eq, Bool.not_eq_true', decide_eq_false_iff_not, if_true, if_false, Bool.false_eq_true, Bool.true_eq_false, ite_true, ite_false, Bool.not_true, Bool.not_false, c_div, n_ten, c_pow, not_true_eq_false, not_false_eq_true, decide_true, decide_false, true_and, and_true, and_self, true_or, or_true, Int.reduceLT, Int.reduceLE, Int.reduceMul, Int.reduceAdd, Int.reduceSub, Int.reducePow, Int.reduceNeg, Int.reduceDiv, Int.reduceMod, Nat.reducePow, Int.reduceToNat, Int.reduceEq, Int.reduceNe, Nat.reduceLT, Nat.reduceLeDiff, Nat.reduceAdd, ↓x_whole, ↓x_kind, Int.natCast_one, Int.natCast_one, Int.natCast_one, Int.natCast_one])
/-! ## the young collection: who went where -/
def agO (S : ArS) (p : Nat) : Nat := match headAt (S.ws.getD p 0) with
  | some h => h % 4
  | none => 0
def Yng (S : ArS) (p : Int) : Prop := (S.b S.fl : Int) ≤ p ∧ p < S.t S.fl
def stY (S : ArS) (qs : List CeL) : Nat := sumW (qs.filter fun c => decide (agO S c.p = 0))
def grY (S : ArS) (qs : List CeL) : Nat := sumW (qs.filter fun c => !decide (agO S c.p = 0))
/-- where the next one goes -/
def nqY (S : ArS) (qs : List CeL) (c : CeL) : Nat := if agO S c.p = 0 then S.b (!S.fl) + stY S qs else S.ot + grY S qs
def fwA (S : ArS) : List CeL → List CeL → List (CeL × Nat)
  | _, [] => []
  | pre, c :: r => (c, nqY S pre c) :: fwA S (pre ++ [c]) r
def fwY (S : ArS) (qs : List CeL) : List (CeL × Nat) := fwA S [] qs
theorem fwA_snoc {S : ArS} {c : CeL} : ∀ {r pre : List CeL}, fwA S pre (r ++ [c]) = fwA S pre r ++ [(c, nqY S (pre ++ r) c)]
  | [], pre => by
    rw [List.append_nil]
    rfl
  | a :: r, pre => by
    show _ :: fwA S (pre ++ [a]) (r ++ [c]) = _ :: (fwA S (pre ++ [a]) r ++ _)
    rw [fwA_snoc, List.append_assoc]
    rfl
theorem fwA_fst {S : ArS} : ∀ {r pre : List CeL}, (fwA S pre r).map (·.1) = r
  | [], _ => rfl
  | a :: r, pre => by
    show a :: (fwA S (pre ++ [a]) r).map (·.1) = _
    rw [fwA_fst]
theorem fwY_snoc {S : ArS} {qs : List CeL} {c : CeL} : fwY S (qs ++ [c]) = fwY S qs ++ [(c, nqY S qs c)] := fwA_snoc
theorem fwY_fst {S : ArS} {qs : List CeL} : (fwY S qs).map (·.1) = qs := fwA_fst
def psY (S : ArS) (qs : List CeL) : List (Int × Int) := (fwY S qs).map fun x => ((x.1.p : Int), (x.2 : Int))
theorem psY_snoc {S : ArS} {qs : List CeL} {c : CeL} : psY S (qs ++ [c]) = psY S qs ++ [((c.p : Int), (nqY S qs c : Int))] := by
  unfold psY
  rw [fwY_snoc, List.map_append]
  rfl
theorem goG_app {ps : List (Int × Int)} {a b x : Int} : goG (ps ++ [(a, b)]) x = match goG ps x with
  | some q => some q
  | none => if a = x then some b else none := by
  unfold goG
  rw [List.find?_append]
  cases ps.find? fun p => decide (p.1 = x) with
  | some q => rfl
  | none =>
    show (([(a, b)].find? fun p => decide (p.1 = x))).map (·.2) = if a = x then some b else none
    by_cases e : a = x
    · rw [if_pos e, List.find?_cons_of_pos (by exact decide_eq_true e)]
      rfl
    · rw [if_neg e, List.find?_cons_of_neg (by rw [decide_eq_true_iff]; exact e)]
      rfl
/-- a word, so far as its cell went -/
def trY (S : ArS) (qs : List CeL) (w : Int) : Int := turnW (fun p => (goG (psY S qs) p).getD p) w
def dnY (S : ArS) (qs : List CeL) (w : Int) : Prop := ∀ p, placeIn w = some p → Yng S p → (goG (psY S qs) p).isSome = true
def Tn (S : ArS) (qs : List CeL) (w0 w : Int) : Prop := w = w0 ∨ (dnY S qs w0 ∧ w = trY S qs w0)
theorem psY_mem {S : ArS} {qs : List CeL} {p q : Int} (h : (p, q) ∈ psY S qs) : ∃ x ∈ fwY S qs, p = x.1.p ∧ q = x.2 := by
  obtain ⟨x, m, e⟩ := List.mem_map.mp h
  cases e
  exact ⟨x, m, rfl, rfl⟩
theorem fw_mem {S : ArS} {qs : List CeL} {x : CeL × Nat} (h : x ∈ fwY S qs) : x.1 ∈ qs := by
  have := List.mem_map_of_mem (f := (·.1)) h
  rwa [fwY_fst] at this
theorem fw_of {S : ArS} {qs : List CeL} {c : CeL} (h : c ∈ qs) : ∃ q, (c, q) ∈ fwY S qs := by
  rw [← fwY_fst (S := S) (qs := qs)] at h
  obtain ⟨x, m, rfl⟩ := List.mem_map.mp h
  exact ⟨x.2, m⟩
theorem goY_snoc {S : ArS} {qs : List CeL} {c : CeL} {p q : Int} (h : goG (psY S qs) p = some q) : goG (psY S (qs ++ [c])) p = some q := by
  rw [psY_snoc, goG_app, h]
theorem goY_new {S : ArS} {qs : List CeL} {c : CeL} (h : ∀ d ∈ qs, d.p ≠ c.p) : goG (psY S (qs ++ [c])) (c.p : Int) = some (nqY S qs c : Int) := by
  rw [psY_snoc, goG_app, goG_none]
  · exact if_pos rfl
  · intro x m e
    obtain ⟨y, my, e1, -⟩ := psY_mem (p := x.1) (q := x.2) m
    exact h _ (fw_mem my) (by omega)
theorem dn_snoc {S : ArS} {qs : List CeL} {c : CeL} {w : Int} (h : dnY S qs w) : dnY S (qs ++ [c]) w := fun p e y => by
  obtain ⟨q, eq⟩ := Option.isSome_iff_exists.mp (h p e y)
  rw [goY_snoc eq]
  rfl
theorem tr_snoc {S : ArS} {qs : List CeL} {c : CeL} {w : Int} (h : dnY S qs w) (y : Yng S c.p) : trY S (qs ++ [c]) w = trY S qs w := by
  unfold trY turnW
  cases e : placeIn w with
  | none => rfl
  | some p =>
    dsimp only
    congr 2
    rw [psY_snoc, goG_app]
    cases g : goG (psY S qs) p with
    | some q => rfl
    | none =>
      dsimp only
      by_cases f : (c.p : Int) = p
      · have := h p e (f ▸ y)
        rw [g] at this
        cases this
      · rw [if_neg f]
theorem Tn.snoc {S : ArS} {qs : List CeL} {c : CeL} {w0 w : Int} (h : Tn S qs w0 w) (y : Yng S c.p) : Tn S (qs ++ [c]) w0 w := by
  rcases h with h | ⟨h1, h2⟩
  · exact .inl h
  · exact .inr ⟨dn_snoc h1, by rw [tr_snoc h1 y]; exact h2⟩
theorem stY_snoc {S : ArS} {qs : List CeL} {c : CeL} : stY S (qs ++ [c]) = stY S qs + (if agO S c.p = 0 then c.ws.length + 1 else 0) := by
  unfold stY
  rw [List.filter_append]
  by_cases e : agO S c.p = 0
  · rw [List.filter_cons_of_pos (by exact decide_eq_true e), if_pos e, List.filter_nil, sumW_app]
  · rw [List.filter_cons_of_neg (by rw [decide_eq_true_iff]; exact e), if_neg e, List.filter_nil, List.append_nil]
    rfl
theorem grY_snoc {S : ArS} {qs : List CeL} {c : CeL} : grY S (qs ++ [c]) = grY S qs + (if agO S c.p = 0 then 0 else c.ws.length + 1) := by
  unfold grY
  rw [List.filter_append]
  by_cases e : agO S c.p = 0
  · rw [List.filter_cons_of_neg (by rw [decide_eq_true e]; exact Bool.false_ne_true), if_pos e, List.filter_nil, List.append_nil]
    rfl
  · rw [List.filter_cons_of_pos (by rw [decide_eq_false e]; rfl), if_neg e, List.filter_nil, sumW_app]
theorem st_gr {S : ArS} : ∀ {qs : List CeL}, stY S qs + grY S qs = sumW qs := fun {qs} => by
  induction qs with
  | nil => rfl
  | cons c r ih =>
    have h1 : stY S (c :: r) = (if agO S c.p = 0 then c.ws.length + 1 else 0) + stY S r := by
      unfold stY
      by_cases e : agO S c.p = 0
      · rw [List.filter_cons_of_pos (by exact decide_eq_true e), if_pos e]
        rfl
      · rw [List.filter_cons_of_neg (by rw [decide_eq_true_iff]; exact e), if_neg e, Nat.zero_add]
    have h2 : grY S (c :: r) = (if agO S c.p = 0 then 0 else c.ws.length + 1) + grY S r := by
      unfold grY
      by_cases e : agO S c.p = 0
      · rw [List.filter_cons_of_neg (by rw [decide_eq_true e]; exact Bool.false_ne_true), if_pos e, Nat.zero_add]
      · rw [List.filter_cons_of_pos (by rw [decide_eq_false e]; rfl), if_neg e]
        rfl
    have h3 : sumW (c :: r) = (c.ws.length + 1) + sumW r := rfl
    rw [h1, h2, h3]
    split <;> omega
theorem nd_lenG {α : Type} [BEq α] [LawfulBEq α] {f U : List α} (nd : f.Nodup) (h : ∀ x ∈ f, x ∈ U) : f.length ≤ U.length := by
  induction f generalizing U with
  | nil => exact Nat.zero_le _
  | cons x r ih =>
    obtain ⟨n1, n2⟩ := List.nodup_cons.mp nd
    have hx := h x List.mem_cons_self
    have := ih (U := U.erase x) n2 fun y m => (List.mem_erase_of_ne (fun (z : y = x) => n1 (by rw [← z]; exact m))).mpr (h y (List.mem_cons_of_mem _ m))
    rw [List.length_erase_of_mem hx] at this
    have := List.length_pos_of_mem hx
    rw [List.length_cons]
    omega
/-- cells apart within a stretch have no more words than it -/
theorem sum_in {b t : Nat} : ∀ {qs : List CeL}, (qs.Pairwise fun a b => a.p + a.ws.length < b.p ∨ b.p + b.ws.length < a.p) → (∀ c ∈ qs, b ≤ c.p ∧ c.p + c.ws.length < t) → sumW qs ≤ t - b := fun {qs} hp hb => by
  have key : ∀ {qs : List CeL}, (qs.Pairwise fun a b => a.p + a.ws.length < b.p ∨ b.p + b.ws.length < a.p) → (qs.flatMap fun c => List.range' c.p (c.ws.length + 1)).Nodup ∧ (qs.flatMap fun c => List.range' c.p (c.ws.length + 1)).length = sumW qs := fun {qs} h => by
    induction qs with
    | nil => exact ⟨.nil, rfl⟩
    | cons c r ih =>
      obtain ⟨h1, h2⟩ := List.pairwise_cons.mp h
      obtain ⟨i1, i2⟩ := ih h2
      rw [List.flatMap_cons]
      refine ⟨List.nodup_append.mpr ⟨List.nodup_range', i1, fun a ha x hx e => ?_⟩, ?_⟩
      · obtain ⟨d, md, hd⟩ := List.mem_flatMap.mp hx
        rw [List.mem_range'_1] at ha hd
        have := h1 d md
        omega
      · rw [List.length_append, i2, List.length_range']
        rfl
  obtain ⟨k1, k2⟩ := key hp
  rw [← k2]
  have := nd_lenG (U := List.range' b (t - b)) k1 fun x m => by
    obtain ⟨d, md, hd⟩ := List.mem_flatMap.mp m
    rw [List.mem_range'_1] at hd
    have := hb d md
    rw [List.mem_range'_1]
    omega
  rwa [List.length_range'] at this
structure Y0 (S : ArS) (C : List CeL) : Prop where
  cp : CelP S C
  cw : ∀ c ∈ C, ∀ w ∈ c.ws, ClW C w
  ln : S.ws.length = S.n + 2 * S.k
  lo : S.ot ≤ S.n
  sz : S.n + 2 * S.k ≤ 9999
  lb : S.b S.fl ≤ S.t S.fl ∧ S.t S.fl ≤ S.b S.fl + S.k
  es : S.t (!S.fl) = S.b (!S.fl)
  rm : S.ot + (S.t S.fl - S.b S.fl) ≤ S.n
theorem bb_of {S : ArS} : (S.b S.fl + S.k ≤ S.b (!S.fl) ∨ S.b (!S.fl) + S.k ≤ S.b S.fl) ∧ S.n ≤ S.b S.fl ∧ S.n ≤ S.b (!S.fl) ∧ S.b S.fl + S.k ≤ S.n + 2 * S.k ∧ S.b (!S.fl) + S.k ≤ S.n + 2 * S.k := by
  unfold ArS.b
  cases S.fl <;> simp <;> omega
theorem Y0.side {S : ArS} {C : List CeL} (P : Y0 S C) {c : CeL} (m : c ∈ C) : (¬ Yng S c.p ∧ c.p + c.ws.length < S.ot) ∨ (Yng S c.p ∧ S.b S.fl ≤ c.p ∧ c.p + c.ws.length < S.t S.fl) := by
  have := bb_of (S := S)
  have := P.lo
  unfold Yng
  rcases P.cp.ar c m with h | h
  · exact .inl ⟨by omega, h⟩
  · exact .inr ⟨by omega, h⟩
theorem Y0.sum {S : ArS} {C qs : List CeL} (P : Y0 S C) (mq : ∀ c ∈ qs, c ∈ C ∧ Yng S c.p) (nd : qs.Pairwise fun a b => a.p ≠ b.p) : sumW qs ≤ S.t S.fl - S.b S.fl := by
  refine sum_in (List.Pairwise.imp_of_mem (fun {a b} ma mb h => P.cp.apart (mq a ma).1 (mq b mb).1 fun z => h (by rw [z])) nd) fun c mc => ?_
  rcases P.side (mq c mc).1 with ⟨h, -⟩ | ⟨-, h⟩
  · exact absurd (mq c mc).2 h
  · exact h
structure Yg (S0 : ArS) (C qs : List CeL) (S : ArS) : Prop where
  n : S.n = S0.n
  k : S.k = S0.k
  fl : S.fl = S0.fl
  ty : S.t S0.fl = S0.t S0.fl
  ts : S.t (!S0.fl) = S0.b (!S0.fl) + stY S0 qs
  ot : S.ot = S0.ot + grY S0 qs
  ln : S.ws.length = S0.ws.length
  mq : ∀ c ∈ qs, c ∈ C ∧ Yng S0 c.p
  nd : qs.Pairwise fun a b => a.p ≠ b.p
  sn : ∀ x ∈ fwY S0 qs, S.ws.getD x.1.p 0 = 2 * (x.2 : Int) + 1
  un : ∀ c ∈ C, (∀ d ∈ qs, d.p ≠ c.p) → S.ws.getD c.p 0 = S0.ws.getD c.p 0
  sy : ∀ c ∈ C, Yng S0 c.p → ∀ j, j < c.ws.length → S.ws.getD (c.p + 1 + j) 0 = c.ws.getD j 0
  so : ∀ c ∈ C, ¬ Yng S0 c.p → ∀ j, j < c.ws.length → Tn S0 qs (c.ws.getD j 0) (S.ws.getD (c.p + 1 + j) 0)
  nh : ∀ x ∈ fwY S0 qs, S.ws.getD x.2 0 = 2 * ((4 * x.1.ws.length + (if agO S0 x.1.p = 0 then 1 else 2) : Nat) : Int)
  ns : ∀ x ∈ fwY S0 qs, ∀ j, j < x.1.ws.length → Tn S0 qs (x.1.ws.getD j 0) (S.ws.getD (x.2 + 1 + j) 0)
  nb : ∀ x ∈ fwY S0 qs, (agO S0 x.1.p = 0 → S0.b (!S0.fl) ≤ x.2 ∧ x.2 + x.1.ws.length < S.t (!S0.fl)) ∧ (agO S0 x.1.p ≠ 0 → S0.ot ≤ x.2 ∧ x.2 + x.1.ws.length < S.ot)
  nj : (fwY S0 qs).Pairwise fun a b => a.2 + a.1.ws.length < b.2 ∨ b.2 + b.1.ws.length < a.2
theorem Yg.init {S : ArS} {C : List CeL} (P : Y0 S C) : Yg S C [] S where
  n := rfl
  k := rfl
  fl := rfl
  ty := rfl
  ts := P.es
  ot := rfl
  ln := rfl
  mq := fun c m => (List.not_mem_nil m).elim
  nd := .nil
  sn := fun c m => (List.not_mem_nil m).elim
  un := fun c m _ => rfl
  sy := fun c m _ j hj => P.cp.sl c m j hj
  so := fun c m _ j hj => .inl (P.cp.sl c m j hj)
  nh := fun c m => (List.not_mem_nil m).elim
  ns := fun c m => (List.not_mem_nil m).elim
  nb := fun c m => (List.not_mem_nil m).elim
  nj := .nil
section
variable {S0 S : ArS} {C qs : List CeL} {c : CeL}
/-- behind a copy -/
def copS (S0 S : ArS) (qs : List CeL) (c : CeL) : ArS := { (if agO S0 c.p = 0 then S.put (!S0.fl) (S.t (!S0.fl) + (c.ws.length + 1)) else { S with ot := S.ot + (c.ws.length + 1) }) with ws := copT S.ws c.p (nqY S0 qs c) c.ws.length (if agO S0 c.p = 0 then 1 else 2) }
theorem copS_is : (copS S0 S qs c).n = S.n ∧ (copS S0 S qs c).k = S.k ∧ (copS S0 S qs c).fl = S.fl ∧ (copS S0 S qs c).t S0.fl = S.t S0.fl ∧ (copS S0 S qs c).t (!S0.fl) = S.t (!S0.fl) + (if agO S0 c.p = 0 then c.ws.length + 1 else 0) ∧ (copS S0 S qs c).ot = S.ot + (if agO S0 c.p = 0 then 0 else c.ws.length + 1) ∧ (copS S0 S qs c).ws = copT S.ws c.p (nqY S0 qs c) c.ws.length (if agO S0 c.p = 0 then 1 else 2) := by
  unfold copS ArS.put ArS.t
  by_cases e : agO S0 c.p = 0
  · rw [if_pos e, if_pos e, if_pos e]
    cases S0.fl <;> simp [e]
  · rw [if_neg e, if_neg e, if_neg e]
    cases S0.fl <;> simp [e]
/-- there is room for who is not there yet -/
theorem Yg.fits (P : Y0 S0 C) (G : Yg S0 C qs S) (mc : c ∈ C) (yc : Yng S0 c.p) (nc : ∀ d ∈ qs, d.p ≠ c.p) : (agO S0 c.p = 0 → nqY S0 qs c = S.t (!S0.fl) ∧ nqY S0 qs c + c.ws.length < S0.b (!S0.fl) + S0.k ∧ S0.b (!S0.fl) ≤ nqY S0 qs c) ∧ (agO S0 c.p ≠ 0 → nqY S0 qs c = S.ot ∧ nqY S0 qs c + c.ws.length < S0.n ∧ S0.ot ≤ nqY S0 qs c) := by
  have h1 := P.sum (qs := qs ++ [c]) (fun d md => by
    rcases List.mem_append.mp md with md | md
    · exact G.mq d md
    · rw [List.mem_singleton.mp md]
      exact ⟨mc, yc⟩) (List.pairwise_append.mpr ⟨G.nd, List.pairwise_cons.mpr ⟨(fun _ m => (List.not_mem_nil m).elim), .nil⟩, fun a ma b mb => by
    rw [List.mem_singleton.mp mb]
    exact nc a ma⟩)
  rw [sumW_app, ← st_gr (S := S0)] at h1
  have := P.lb
  have := P.rm
  have := G.ts
  have := G.ot
  unfold nqY
  refine ⟨fun e => ?_, fun e => ?_⟩
  · rw [if_pos e]
    omega
  · rw [if_neg e]
    omega
theorem Yg.copy (P : Y0 S0 C) (G : Yg S0 C qs S) (mc : c ∈ C) (yc : Yng S0 c.p) (nc : ∀ d ∈ qs, d.p ≠ c.p) : Yg S0 C (qs ++ [c]) (copS S0 S qs c) := by
  obtain ⟨s1, s2, s3, s4, s5, s6, s7⟩ := copS_is (S0 := S0) (S := S) (qs := qs) (c := c)
  obtain ⟨f1, f2⟩ := G.fits P mc yc nc
  have bb := bb_of (S := S0)
  have lo := P.lo
  have lb := P.lb
  have gts := G.ts
  have gty := G.ty
  have got := G.ot
  have pl := P.ln
  have gl := G.ln
  obtain ⟨-, c1, c2⟩ : Yng S0 c.p ∧ S0.b S0.fl ≤ c.p ∧ c.p + c.ws.length < S0.t S0.fl := by
    rcases P.side mc with ⟨h, -⟩ | h
    · exact absurd yc h
    · exact h
  obtain ⟨q, eq⟩ : ∃ q, q = nqY S0 qs c := ⟨_, rfl⟩
  obtain ⟨a, ea⟩ : ∃ a, a = agO S0 c.p := ⟨_, rfl⟩
  rw [← eq, ← ea] at f1 f2 s7
  rw [← ea] at s5 s6
  have hq : (S0.b (!S0.fl) ≤ q ∧ q + c.ws.length < S0.b (!S0.fl) + S0.k ∧ S.t (!S0.fl) ≤ q) ∨ (S0.ot ≤ q ∧ q + c.ws.length < S0.n ∧ S.ot ≤ q) := by
    by_cases e : a = 0
    · have := f1 e
      exact .inl (by omega)
    · have := f2 e
      exact .inr (by omega)
  have hqn : q + c.ws.length < S.ws.length := by omega
  have hcn : c.p < S.ws.length := by omega
  have cat : ∀ u, (copS S0 S qs c).ws.getD u 0 = if u = c.p then 2 * (q : Int) + 1 else if u = q then 2 * ((4 * c.ws.length + (if a = 0 then 1 else 2) : Nat) : Int) else if q < u ∧ u ≤ q + c.ws.length then S.ws.getD (c.p + (u - q)) 0 else S.ws.getD u 0 := fun u => by
    rw [s7]
    exact copT_at hcn hqn
  have cs : ∀ u, u ≠ c.p → (u < q ∨ q + c.ws.length < u) → (copS S0 S qs c).ws.getD u 0 = S.ws.getD u 0 := fun u h1 h2 => by
    rw [cat, if_neg h1, if_neg (by omega), if_neg (by omega)]
  have qc : c.p < q ∨ q + c.ws.length < c.p := by omega
  have fx : ∀ x ∈ fwY S0 qs, (S0.b (!S0.fl) ≤ x.2 ∧ x.2 + x.1.ws.length < S.t (!S0.fl)) ∨ (S0.ot ≤ x.2 ∧ x.2 + x.1.ws.length < S.ot) := fun x mx => by
    obtain ⟨h1, h2⟩ := G.nb x mx
    by_cases e : agO S0 x.1.p = 0
    · exact .inl (h1 e)
    · exact .inr (h2 e)
  have stk : S.t (!S0.fl) ≤ S0.b (!S0.fl) + S0.k ∧ S.ot ≤ S0.n := by
    have h1 := P.sum G.mq G.nd
    rw [← st_gr (S := S0)] at h1
    have := P.rm
    omega
  have fq : ∀ x ∈ fwY S0 qs, (x.2 + x.1.ws.length < q ∨ q + c.ws.length < x.2) ∧ (x.2 + x.1.ws.length < c.p ∨ c.p + c.ws.length < x.2) := fun x mx => by
    rcases fx x mx with h | h <;> rcases hq with h' | h' <;> omega
  have dq : ∀ d ∈ C, (d.p + d.ws.length < q ∨ q + c.ws.length < d.p) := fun d md => by
    rcases P.side md with ⟨-, h⟩ | ⟨-, h⟩ <;> rcases hq with h' | h' <;> omega
  have dc : ∀ d ∈ C, d.p ≠ c.p → d.p + d.ws.length < c.p ∨ c.p + c.ws.length < d.p := fun d md ne => P.cp.apart md mc fun z => ne (by rw [z])
  have qn : (c, q) ∈ fwY S0 (qs ++ [c]) := by
    rw [fwY_snoc, eq]
    exact List.mem_append_right _ (List.mem_singleton.mpr rfl)
  have fm : ∀ x ∈ fwY S0 (qs ++ [c]), x ∈ fwY S0 qs ∨ x = (c, q) := fun x mx => by
    rw [fwY_snoc, ← eq] at mx
    rcases List.mem_append.mp mx with h | h
    · exact .inl h
    · exact .inr (List.mem_singleton.mp h)
  refine ⟨s1.trans G.n, s2.trans G.k, s3.trans G.fl, s4.trans G.ty, ?_, ?_, ?_, ?_, ?_, ?_, ?_, ?_, ?_, ?_, ?_, ?_, ?_⟩
  · rw [s5, stY_snoc, G.ts, ea]
    omega
  · rw [s6, grY_snoc, G.ot, ea]
    omega
  · rw [s7, copT_len]
    exact G.ln
  · intro d md
    rcases List.mem_append.mp md with md | md
    · exact G.mq d md
    · rw [List.mem_singleton.mp md]
      exact ⟨mc, yc⟩
  · refine List.pairwise_append.mpr ⟨G.nd, List.pairwise_cons.mpr ⟨(fun _ m => (List.not_mem_nil m).elim), .nil⟩, fun a ma b mb => ?_⟩
    rw [List.mem_singleton.mp mb]
    exact nc a ma
  · intro x mx
    rcases fm x mx with mx | rfl
    · have h1 := nc _ (fw_mem mx)
      have h2 := dq _ (G.mq _ (fw_mem mx)).1
      rw [cs _ h1 (by omega)]
      exact G.sn x mx
    · rw [cat, if_pos rfl]
  · intro d md h
    have h1 : d.p ≠ c.p := (h c (List.mem_append_right _ (List.mem_singleton.mpr rfl))).symm
    have h2 := dq d md
    rw [cs _ h1 (by omega)]
    exact G.un d md fun e me => h e (List.mem_append_left _ me)
  · intro d md yd j hj
    have h2 := dq d md
    have h3 := dc d md
    rw [cs _ (by omega) (by omega)]
    exact G.sy d md yd j hj
  · intro d md yd j hj
    have h2 := dq d md
    have h3 := dc d md
    rw [cs _ (by omega) (by omega)]
    exact (G.so d md yd j hj).snoc yc
  · intro x mx
    rcases fm x mx with mx | rfl
    · have h1 := fq x mx
      rw [cs _ (by omega) (by omega)]
      exact G.nh x mx
    · show (copS S0 S qs c).ws.getD q 0 = _
      rw [cat, if_neg (by omega), if_pos rfl, ea]
  · intro x mx j hj
    rcases fm x mx with mx | rfl
    · have h1 := fq x mx
      rw [cs _ (by omega) (by omega)]
      exact (G.ns x mx j hj).snoc yc
    · show Tn S0 _ (c.ws.getD j 0) ((copS S0 S qs c).ws.getD (q + 1 + j) 0)
      have hj : j < c.ws.length := hj
      rw [cat, if_neg (by omega), if_neg (by omega), if_pos (by omega), show c.p + (q + 1 + j - q) = c.p + 1 + j from by omega]
      exact .inl (G.sy c mc yc j hj)
  · intro x mx
    rcases fm x mx with mx | rfl
    · obtain ⟨h1, h2⟩ := G.nb x mx
      refine ⟨fun e => ?_, fun e => ?_⟩
      · have := h1 e
        rw [s5]
        omega
      · have := h2 e
        rw [s6]
        omega
    · show (agO S0 c.p = 0 → S0.b (!S0.fl) ≤ q ∧ q + c.ws.length < _) ∧ (agO S0 c.p ≠ 0 → S0.ot ≤ q ∧ q + c.ws.length < _)
      rw [← ea]
      refine ⟨fun e => ?_, fun e => ?_⟩
      · have := f1 e
        rw [s5, if_pos e]
        omega
      · have := f2 e
        rw [s6, if_neg e]
        omega
  · rw [fwY_snoc, ← eq]
    refine List.pairwise_append.mpr ⟨G.nj, List.pairwise_cons.mpr ⟨(fun _ m => (List.not_mem_nil m).elim), .nil⟩, fun x mx b mb => ?_⟩
    rw [List.mem_singleton.mp mb]
    exact (fq x mx).1
end
/-! ### words -/
section
variable {S0 S : ArS} {C qs : List CeL} {c : CeL}
theorem app_ind {P : List CeL → Prop} (h : ∀ ys c, P ys → Yng S0 (CeL.p c) → P (ys ++ [c])) : ∀ {t qs : List CeL}, P qs → (∀ c ∈ t, Yng S0 c.p) → P (qs ++ t)
  | [], qs, a, _ => by rw [List.append_nil]; exact a
  | c :: r, qs, a, m => by
    have := app_ind h (t := r) (h qs c a (m c List.mem_cons_self)) fun d md => m d (List.mem_cons_of_mem _ md)
    rwa [List.append_assoc] at this
/-- a word that went along -/
def Dn (S : ArS) (qs : List CeL) (w0 w : Int) : Prop := dnY S qs w0 ∧ w = trY S qs w0
theorem Dn.app {w0 w : Int} (h : Dn S0 qs w0 w) {t : List CeL} (m : ∀ c ∈ t, Yng S0 c.p) : Dn S0 (qs ++ t) w0 w :=
  app_ind (S0 := S0) (P := fun ys => Dn S0 ys w0 w) (fun ys c g y => ⟨dn_snoc g.1, by rw [tr_snoc g.1 y]; exact g.2⟩) h m
theorem Dn.tn {w0 w : Int} (h : Dn S0 qs w0 w) : Tn S0 qs w0 w := .inr h
theorem Yg.go (G : Yg S0 C qs S) (m : c ∈ qs) : ∃ q, (c, q) ∈ fwY S0 qs ∧ goG (psY S0 qs) (c.p : Int) = some (q : Int) := by
  obtain ⟨q, mq⟩ := fw_of (S := S0) m
  refine ⟨q, mq, goG_mem (p := ((c.p : Int), (q : Int))) ?_ (List.mem_map.mpr ⟨_, mq, rfl⟩)⟩
  unfold psY
  have h := G.nd
  rw [← fwY_fst (S := S0) (qs := qs), List.pairwise_map] at h
  rw [List.pairwise_map]
  exact h.imp fun {a b} n e => n (by have e : (a.1.p : Int) = b.1.p := e; omega)
theorem Yg.go_y (G : Yg S0 C qs S) {p q : Int} (h : goG (psY S0 qs) p = some q) : ∃ x ∈ fwY S0 qs, p = x.1.p ∧ q = x.2 ∧ Yng S0 p := by
  obtain ⟨x, mx, e1, e2⟩ := psY_mem (goG_in h)
  exact ⟨x, mx, e1, e2, by rw [e1]; exact (G.mq _ (fw_mem mx)).2⟩
theorem Yg.go_n (G : Yg S0 C qs S) {p : Int} (h : ¬ Yng S0 p) : goG (psY S0 qs) p = none := by
  cases e : goG (psY S0 qs) p with
  | none => rfl
  | some q =>
    obtain ⟨-, -, -, -, y⟩ := G.go_y e
    exact absurd y h
theorem Yg.stk (P : Y0 S0 C) (G : Yg S0 C qs S) : S.t (!S0.fl) ≤ S0.b (!S0.fl) + S0.k ∧ S.ot ≤ S0.n := by
  have h1 := P.sum G.mq G.nd
  rw [← st_gr (S := S0)] at h1
  have := P.rm
  have := P.lb
  have := G.ts
  have := G.ot
  omega
/-- where new ones lie is nothing young -/
theorem Yg.new_n (P : Y0 S0 C) (G : Yg S0 C qs S) {x : CeL × Nat} (mx : x ∈ fwY S0 qs) : ¬ Yng S0 (x.2 : Int) ∧ x.2 + x.1.ws.length < S.ws.length := by
  have bb := bb_of (S := S0)
  have := G.stk P
  have := P.lb
  have := P.lo
  have := P.ln
  have := G.ln
  obtain ⟨h1, h2⟩ := G.nb x mx
  unfold Yng
  by_cases e : agO S0 x.1.p = 0
  · have := h1 e
    omega
  · have := h2 e
    omega
theorem trY_none {w : Int} (h : placeIn w = none) : trY S0 qs w = w := by
  unfold trY turnW
  rw [h]
theorem trY_go {w p q : Int} (h : placeIn w = some p) (g : goG (psY S0 qs) p = some q) : trY S0 qs w = 2 * q + 1 := by
  unfold trY turnW
  rw [h]
  dsimp only
  rw [g]
  rfl
theorem placeIn_is {w p : Int} (h : placeIn w = some p) : w = 2 * p + 1 ∧ 0 ≤ p := by
  unfold placeIn at h
  split at h
  · cases h
    omega
  · cases h
theorem placeIn_of {p : Int} (h : 0 ≤ p) : placeIn (2 * p + 1) = some p := by
  unfold placeIn
  rw [if_pos (by omega)]
  congr 1
  omega
theorem trY_stay (G : Yg S0 C qs S) {w p : Int} (h : placeIn w = some p) (y : ¬ Yng S0 p) : trY S0 qs w = w := by
  unfold trY turnW
  rw [h]
  dsimp only
  rw [G.go_n y]
  exact (placeIn_is h).1.symm
/-- a word that is no young one's is as it should be -/
theorem Tn.stay (G : Yg S0 C qs S) {w0 w : Int} (h : Tn S0 qs w0 w) (n : ∀ p, placeIn w = some p → ¬ Yng S0 p) : Dn S0 qs w0 w := by
  rcases h with h | h
  · subst h
    refine ⟨fun p e y => absurd y (n p e), ?_⟩
    cases e : placeIn w with
    | none => rw [trY_none e]
    | some p => rw [trY_stay G e (n p e)]
  · exact h
/-- a young one's word is as it was -/
theorem Tn.young (P : Y0 S0 C) (G : Yg S0 C qs S) {w0 w p : Int} (h : Tn S0 qs w0 w) (e : placeIn w = some p) (y : Yng S0 p) : w = w0 := by
  rcases h with h | ⟨h1, h2⟩
  · exact h
  · cases e0 : placeIn w0 with
    | none =>
      rw [trY_none e0] at h2
      exact h2
    | some p0 =>
      by_cases y0 : Yng S0 p0
      · obtain ⟨q, eq⟩ := Option.isSome_iff_exists.mp (h1 p0 e0 y0)
        rw [trY_go e0 eq] at h2
        obtain ⟨x, mx, -, e2, -⟩ := G.go_y eq
        subst h2 e2
        rw [placeIn_of (by omega)] at e
        cases e
        exact absurd y (G.new_n P mx).1
      · rw [trY_stay G e0 y0] at h2
        exact h2
def yk1 (S : ArS) (w : Int) : List Int := match placeIn w with
  | some p => if (S.b S.fl : Int) ≤ p ∧ p < S.t S.fl then [p] else []
  | none => []
def ykL (S : ArS) (ws : List Int) : List Int := ws.flatMap (yk1 S)
theorem yk1_y {w p : Int} (h : placeIn w = some p) (y : Yng S0 p) : yk1 S0 w = [p] := by
  unfold yk1
  rw [h]
  exact if_pos y
theorem yk1_n {w : Int} (h : ∀ p, placeIn w = some p → ¬ Yng S0 p) : yk1 S0 w = [] := by
  unfold yk1
  cases e : placeIn w with
  | none => rfl
  | some p => exact if_neg (h p e)
/-- places where a slot lies that goes along -/
def SlY (S0 : ArS) (C qs : List CeL) (v : Nat) (w0 : Int) : Prop := (∃ c ∈ C, ¬ Yng S0 c.p ∧ ∃ j, j < c.ws.length ∧ v = c.p + 1 + j ∧ w0 = c.ws.getD j 0) ∨ ∃ x ∈ fwY S0 qs, ∃ j, j < x.1.ws.length ∧ v = x.2 + 1 + j ∧ w0 = x.1.ws.getD j 0
theorem Yg.tn (G : Yg S0 C qs S) {v : Nat} {w0 : Int} (h : SlY S0 C qs v w0) : Tn S0 qs w0 (S.ws.getD v 0) := by
  rcases h with ⟨c, mc, y, j, hj, rfl, rfl⟩ | ⟨x, mx, j, hj, rfl, rfl⟩
  · exact G.so c mc y j hj
  · exact G.ns x mx j hj
theorem SlY.snoc {v : Nat} {w0 : Int} (h : SlY S0 C qs v w0) : SlY S0 C (qs ++ [c]) v w0 := by
  rcases h with h | ⟨x, mx, h⟩
  · exact .inl h
  · exact .inr ⟨x, by rw [fwY_snoc]; exact List.mem_append_left _ mx, h⟩
end

local macro_rules | `(tactic| walk_at "w3") => `(tactic| try simp only [↓x_var0, ↓x_varS, ↓x_c, ↓x_op, ↓x_un, ↓x_cb, ↓x_nil, ↓x_cons, ↓x_test, ↓x_b, ↓x_ex, ↓x_and, ↓x_or, ↓x_not, ↓x_andV, ↓x_orV, ↓x_notV, ↓x_tif, ↓x_chain, ↓x_menu, ↓x_menuI, ↓x_lst, ↓x_tup, ↓x_dnew, ↓x_callW, ↓x_callN, ↓x_seq, ↓x_next, ↓x_ret, ↓x_retN, ↓x_drop, ↓x_ifS, ↓x_asg, ↓x_name, ↓x_raise, ↓x_fld, ↓x_setF, ↓x_meth, ↓x_make, ↓x_sub, ↓r_min, ↓r_max, ↓x_yes, ↓x_for, ↓x_lock, ↓x_keys, ↓x_cut, ↓x_lc, ↓x_rng1, ↓x_rng2, ↓x_lst1, ↓x_itup, ↓x_rng3, ↓x_three, ↓x_lstg, ↓x_tupg, ↓x_adrS, ↓x_one, ↓x_two, ↓x_adr, ↓x_sl, ↓x_np, ↓x_pt, ↓x_int, ↓x_bm, ↓x_bm0, ↓x_consg, ↓x_nilg, ↓x_dget2, ↓x_dget1, ↓x_dgetN, ↓x_dget, ↓x_din, ↓x_dni, ↓x_dput, ↓x_dpop2, ↓r_isB, ↓r_notB, ↓x_enum, ↓x_zip, ↓x_str, ↓x_strE, ↓r_inS, ↓r_ninS, wipe, List.map_cons, List.map_nil, ↓x_isT, ↓r_isiII, ↓r_isiBB, ↓r_isiIB, ↓r_isiSS, ↓r_neNS, ↓r_neSN, ↓r_neNN, ↓r_eqNS, ↓r_eqSN, ↓r_eqNN, ↓r_eqIS, ↓r_neIS, ↓r_neSI, ↓r_neBS, ↓r_eqBB, ↓r_neBB, ↓x_start, ↓x_K, ↓x_start0, ↓r_i0, ↓r_i, ↓r_u, ↓r_addI, ↓r_addS, ↓r_mulI, ↓r_mulS, ↓r_eqI, ↓r_neI, ↓r_eqS, ↓r_neS, ↓r_absI, ↓r_intI, ↓r_intB, List.length_cons, List.length_nil, List.replicate, List.set_cons_zero, List.set_cons_succ, decide_eq_true_eq, Bool.not_eq_true', decide_eq_false_iff_not, if_true, if_false, Bool.false_eq_true, Bool.true_eq_false, ite_true, ite_false, Bool.not_true, Bool.not_false, c_div, n_ten, c_pow, not_true_eq_false, not_false_eq_true, decide_true, decide_false, true_and, and_true, and_self, true_or, or_true, Int.reduceLT, Int.reduceLE, Int.reduceMul, Int.reduceAdd, Int.reduceSub, Int.reducePow, Int.reduceNeg, Int.reduceDiv, Int.reduceMod, Nat.reducePow, Int.reduceToNat, Int.reduceEq, Int.reduceNe, Nat.reduceLT, Nat.reduceLeDiff, Nat.reduceAdd, ↓x_whole, ↓x_kind, Int.natCast_one, Int.natCast_one, Int.natCast_one, Int.natCast_one, Int.natCast_one])
/-! ## the young collection: one word more goes along -/
section
variable {S0 S : ArS} {C qs : List CeL} {c : CeL}
theorem Yg.nx (P : Y0 S0 C) (G : Yg S0 C qs S) {x : CeL × Nat} (mx : x ∈ fwY S0 qs) : (∀ d ∈ C, x.2 + x.1.ws.length < d.p ∨ d.p + d.ws.length < x.2) ∧ x.2 + x.1.ws.length < S.ws.length := by
  have bb := bb_of (S := S0)
  have := G.stk P
  have := P.lb
  have := P.lo
  have := P.ln
  have := G.ln
  obtain ⟨h1, h2⟩ := G.nb x mx
  by_cases e : agO S0 x.1.p = 0
  · have := h1 e
    refine ⟨fun d md => ?_, by omega⟩
    rcases P.side md with ⟨-, h⟩ | ⟨-, h⟩ <;> omega
  · have := h2 e
    refine ⟨fun d md => ?_, by omega⟩
    rcases P.side md with ⟨-, h⟩ | ⟨-, h⟩ <;> omega
theorem SlY.off (P : Y0 S0 C) (G : Yg S0 C qs S) {v : Nat} {w0 : Int} (h : SlY S0 C qs v w0) : v < S.ws.length ∧ (∀ d ∈ C, v ≠ d.p) ∧ (∀ d ∈ C, Yng S0 d.p → ∀ j, j < d.ws.length → v ≠ d.p + 1 + j) ∧ ∀ x ∈ fwY S0 qs, v ≠ x.2 := by
  have pl := P.ln
  have gl := G.ln
  have lo := P.lo
  rcases h with ⟨c, mc, y, j, hj, rfl, rfl⟩ | ⟨x, mx, j, hj, rfl, rfl⟩
  · have hc : c.p + c.ws.length < S0.ot := by
      rcases P.side mc with ⟨-, h⟩ | ⟨h, -⟩
      · exact h
      · exact absurd h y
    refine ⟨by omega, fun d md e => ?_, fun d md yd i hi e => ?_, fun x mx e => ?_⟩
    · by_cases ee : c = d
      · subst ee; omega
      · have := P.cp.apart mc md ee; omega
    · by_cases ee : c = d
      · exact y (ee ▸ yd)
      · have := P.cp.apart mc md ee; omega
    · have := (G.nx P mx).1 c mc
      omega
  · obtain ⟨h1, h2⟩ := G.nx P mx
    refine ⟨by omega, fun d md e => ?_, fun d md yd i hi e => ?_, fun z mz e => ?_⟩
    · have := h1 d md; omega
    · have := h1 d md; omega
    · by_cases ee : x = z
      · subst ee; omega
      · have := pair_mem (fun _ _ q => q.symm) G.nj mx mz ee; omega
theorem SlY.uniq (P : Y0 S0 C) (G : Yg S0 C qs S) {v : Nat} {w0 w1 : Int} (h : SlY S0 C qs v w0) (h' : SlY S0 C qs v w1) : w0 = w1 := by
  rcases h with ⟨c, mc, y, j, hj, rfl, rfl⟩ | ⟨x, mx, j, hj, rfl, rfl⟩ <;> rcases h' with ⟨d, md, yd, i, hi, e, rfl⟩ | ⟨z, mz, i, hi, e, rfl⟩
  · by_cases ee : c = d
    · subst ee
      rw [show j = i from by omega]
    · have := P.cp.apart mc md ee; omega
  · have := (G.nx P mz).1 c mc; omega
  · have := (G.nx P mx).1 d md; omega
  · by_cases ee : x = z
    · subst ee
      rw [show j = i from by omega]
    · have := pair_mem (fun _ _ q => q.symm) G.nj mx mz ee; omega
theorem Yg.put (P : Y0 S0 C) (G : Yg S0 C qs S) {v : Nat} {w0 w' : Int} (h : SlY S0 C qs v w0) (d : Dn S0 qs w0 w') : Yg S0 C qs { S with ws := S.ws.set v w' } := by
  obtain ⟨o1, o2, o3, o4⟩ := h.off P G
  have at_ : ∀ u, ({ S with ws := S.ws.set v w' } : ArS).ws.getD u 0 = if v = u then w' else S.ws.getD u 0 := fun u => getD_set o1
  refine { n := G.n, k := G.k, fl := G.fl, ty := G.ty, ts := G.ts, ot := G.ot, ln := (List.length_set ..).trans G.ln, mq := G.mq, nd := G.nd, nb := G.nb, nj := G.nj, sn := fun x mx => ?_, un := fun c mc hc => ?_, sy := fun c mc yc j hj => ?_, so := fun c mc yc j hj => ?_, nh := fun x mx => ?_, ns := fun x mx j hj => ?_ }
  · rw [at_, if_neg (o2 _ (G.mq _ (fw_mem mx)).1)]
    exact G.sn x mx
  · rw [at_, if_neg (o2 c mc)]
    exact G.un c mc hc
  · rw [at_, if_neg (o3 c mc yc j hj)]
    exact G.sy c mc yc j hj
  · rw [at_]
    split
    · rename_i e
      have := h.uniq P G (w1 := c.ws.getD j 0) (.inl ⟨c, mc, yc, j, hj, e, rfl⟩)
      rw [← this]
      exact d.tn
    · exact G.so c mc yc j hj
  · rw [at_, if_neg (o4 x mx)]
    exact G.nh x mx
  · rw [at_]
    split
    · rename_i e
      have := h.uniq P G (w1 := x.1.ws.getD j 0) (.inr ⟨x, mx, j, hj, e, rfl⟩)
      rw [← this]
      exact d.tn
    · exact G.ns x mx j hj
/-- slots stay where a cell is copied -/
theorem Yg.cop_sl (P : Y0 S0 C) (G : Yg S0 C qs S) (mc : c ∈ C) (yc : Yng S0 c.p) (nc : ∀ d ∈ qs, d.p ≠ c.p) {v : Nat} {w0 : Int} (h : SlY S0 C qs v w0) : (copS S0 S qs c).ws.getD v 0 = S.ws.getD v 0 := by
  obtain ⟨o1, o2, o3, o4⟩ := h.off P G
  have G' := G.copy P mc yc nc
  obtain ⟨-, -, -, -, -, -, s7⟩ := copS_is (S0 := S0) (S := S) (qs := qs) (c := c)
  have mn : (c, nqY S0 qs c) ∈ fwY S0 (qs ++ [c]) := by
    rw [fwY_snoc]
    exact List.mem_append_right _ (List.mem_singleton.mpr rfl)
  have hn : (∀ d ∈ C, nqY S0 qs c + c.ws.length < d.p ∨ d.p + d.ws.length < nqY S0 qs c) ∧ nqY S0 qs c + c.ws.length < (copS S0 S qs c).ws.length := G'.nx P mn
  have hl := G'.ln
  have gl := G.ln
  have h4 := (h.snoc (c := c)).off P G'
  have h5 : ∀ j, j < c.ws.length → v ≠ nqY S0 qs c + 1 + j := fun j hj e => by
    subst e
    rcases h with ⟨d, md, y, i, hi, e, rfl⟩ | ⟨x, mx, i, hi, e, rfl⟩
    · have := hn.1 d md; omega
    · have hp := G'.nj
      rw [fwY_snoc] at hp
      have := (List.pairwise_append.mp hp).2.2 x mx _ (List.mem_singleton.mpr rfl)
      have : x.2 + x.1.ws.length < nqY S0 qs c ∨ nqY S0 qs c + c.ws.length < x.2 := this
      omega
  have h6 : v ≠ nqY S0 qs c := h4.2.2.2 _ mn
  have hcl : c.p < S.ws.length := by
    have := P.lb
    have := bb_of (S := S0)
    have := P.ln
    rcases P.side mc with ⟨-, h⟩ | ⟨-, h⟩
    · have := P.lo; omega
    · omega
  have hn2 : nqY S0 qs c + c.ws.length < S.ws.length := by
    have := hn.2
    have : nqY S0 qs c + c.ws.length < (copS S0 S qs c).ws.length := this
    omega
  rw [s7, copT_at hcl hn2, if_neg (o2 c mc), if_neg h6, if_neg]
  intro z
  exact h5 (v - (nqY S0 qs c + 1)) (by omega) (by omega)
/-- what one word's going along does -/
structure Go1 (S0 : ArS) (C qs qs' : List CeL) (S S' : ArS) (w0 w' : Int) : Prop where
  g : Yg S0 C qs' S'
  q : qs'.map (fun c => (c.p : Int)) = addN (qs.map fun c => (c.p : Int)) (yk1 S0 w0)
  d : Dn S0 qs' w0 w'
  x : ∃ t, qs' = qs ++ t
  s : ∀ v u, SlY S0 C qs v u → S'.ws.getD v 0 = S.ws.getD v 0
theorem go_stay (G : Yg S0 C qs S) {w0 w : Int} (h : Tn S0 qs w0 w) (n : ∀ p, placeIn w = some p → ¬ Yng S0 p) : Go1 S0 C qs qs S S w0 w := by
  have d := h.stay G n
  refine ⟨G, ?_, d, ⟨[], (List.append_nil _).symm⟩, fun _ _ _ => rfl⟩
  cases e : placeIn w0 with
  | none =>
    rw [yk1_n fun p z => by rw [e] at z; cases z]
    rfl
  | some p =>
    by_cases y : Yng S0 p
    · rw [yk1_y e y, addN_cons, addN_nil, if_pos]
      obtain ⟨q, eq⟩ := Option.isSome_iff_exists.mp (d.1 p e y)
      obtain ⟨x, mx, e1, -, -⟩ := G.go_y eq
      exact List.mem_map.mpr ⟨x.1, fw_mem mx, e1.symm⟩
    · rw [yk1_n fun p' z => by rw [e] at z; cases z; exact y]
      rfl
theorem go_sent (P : Y0 S0 C) (G : Yg S0 C qs S) {w : Int} (mq : c ∈ qs) (e : placeIn w = some (c.p : Int)) : ∃ q : Nat, S.ws.getD c.p 0 = 2 * (q : Int) + 1 ∧ q < S0.ws.length ∧ Go1 S0 C qs qs S S w (2 * (q : Int) + 1) := by
  obtain ⟨q, mf, g⟩ := G.go mq
  have yc := (G.mq c mq).2
  have h1 := (G.nx P mf).2
  have h2 := G.ln
  refine ⟨q, G.sn _ mf, (by have h1 : q + c.ws.length < S.ws.length := h1; omega), G, ?_, ⟨fun p' e' y => ?_, (trY_go e g).symm⟩, ⟨[], (List.append_nil _).symm⟩, fun _ _ _ => rfl⟩
  · rw [yk1_y e yc, addN_cons, addN_nil, if_pos]
    exact List.mem_map.mpr ⟨c, mq, rfl⟩
  · rw [e] at e'
    cases e'
    rw [g]
    rfl
theorem go_new (P : Y0 S0 C) (G : Yg S0 C qs S) {w : Int} (mc : c ∈ C) (yc : Yng S0 c.p) (nc : ∀ d ∈ qs, d.p ≠ c.p) (e : placeIn w = some (c.p : Int)) : Go1 S0 C qs (qs ++ [c]) S (copS S0 S qs c) w (2 * (nqY S0 qs c : Int) + 1) := by
  have g := goY_new (S := S0) nc
  refine ⟨G.copy P mc yc nc, ?_, ⟨fun p' e' y => ?_, (trY_go e g).symm⟩, ⟨[c], rfl⟩, fun v u h => G.cop_sl P mc yc nc h⟩
  · rw [yk1_y e yc, addN_cons, addN_nil, if_neg, List.map_append]
    · rfl
    · intro m
      obtain ⟨d, md, ed⟩ := List.mem_map.mp m
      exact nc d md (by omega)
  · rw [e] at e'
    cases e'
    rw [g]
    rfl
end
/-! ### rows of words -/
section
variable {S0 S S' S'' : ArS} {C qs qs' qs'' : List CeL}
structure Go2 (S0 : ArS) (C qs qs' : List CeL) (S S' : ArS) (ys : List Int) : Prop where
  g : Yg S0 C qs' S'
  q : qs'.map (fun c => (c.p : Int)) = addN (qs.map fun c => (c.p : Int)) ys
  x : ∃ t, qs' = qs ++ t
  k : ∀ u x, SlY S0 C qs u x → Dn S0 qs x (S.ws.getD u 0) → Dn S0 qs' x (S'.ws.getD u 0)
theorem pre_y (G : Yg S0 C qs' S') (x : ∃ t, qs' = qs ++ t) : ∃ t, qs' = qs ++ t ∧ ∀ c ∈ t, Yng S0 c.p := by
  obtain ⟨t, e⟩ := x
  exact ⟨t, e, fun c m => (G.mq c (by rw [e]; exact List.mem_append_right _ m)).2⟩
theorem Dn.pre {w0 w : Int} (d : Dn S0 qs w0 w) (G : Yg S0 C qs' S') (x : ∃ t, qs' = qs ++ t) : Dn S0 qs' w0 w := by
  obtain ⟨t, rfl, m⟩ := pre_y G x
  exact d.app m
theorem SlY.pre {u : Nat} {w0 : Int} (h : SlY S0 C qs u w0) (x : ∃ t, qs' = qs ++ t) : SlY S0 C qs' u w0 := by
  obtain ⟨t, rfl⟩ := x
  induction t generalizing qs with
  | nil => rwa [List.append_nil]
  | cons c r ih =>
    have := ih (h.snoc (c := c))
    rwa [List.append_assoc] at this
theorem Go2.refl (G : Yg S0 C qs S) : Go2 S0 C qs qs S S [] := ⟨G, rfl, ⟨[], (List.append_nil _).symm⟩, fun _ _ _ d => d⟩
theorem Go2.trans {ys zs : List Int} (a : Go2 S0 C qs qs' S S' ys) (b : Go2 S0 C qs' qs'' S' S'' zs) : Go2 S0 C qs qs'' S S'' (ys ++ zs) := by
  refine ⟨b.g, ?_, ?_, fun u x h d => b.k u x (h.pre a.x) (a.k u x h d)⟩
  · rw [b.q, a.q, addN_app]
  · obtain ⟨t, e⟩ := a.x
    obtain ⟨s, e'⟩ := b.x
    exact ⟨t ++ s, by rw [e', e, List.append_assoc]⟩
theorem Go1.two {w0 w' : Int} (a : Go1 S0 C qs qs' S S' w0 w') : Go2 S0 C qs qs' S S' (yk1 S0 w0) := ⟨a.g, a.q, a.x, fun u x h d => by
  rw [a.s u x h]
  exact d.pre a.g a.x⟩
/-- a slot goes along -/
theorem Go1.slot (P : Y0 S0 C) {v : Nat} {w0 w' : Int} (a : Go1 S0 C qs qs' S S' w0 w') (h : SlY S0 C qs v w0) : Go2 S0 C qs qs' S { S' with ws := S'.ws.set v w' } (yk1 S0 w0) ∧ (S'.ws.set v w').getD v 0 = w' := by
  have h' := h.pre a.x
  have o := (h'.off P a.g).1
  have at_ : ∀ u, (S'.ws.set v w').getD u 0 = if v = u then w' else S'.ws.getD u 0 := fun u => getD_set o
  refine ⟨⟨a.g.put P h' a.d, a.q, a.x, fun u x hu d => ?_⟩, by rw [at_, if_pos rfl]⟩
  show Dn S0 qs' x ((S'.ws.set v w').getD u 0)
  rw [at_]
  split
  · rename_i e
    subst e
    rw [← h'.uniq P a.g (hu.pre a.x)]
    exact a.d
  · rw [a.s u x hu]
    exact d.pre a.g a.x
end

local macro_rules | `(tactic| walk_at "w3") => `(tactic| try simp only [↓x_var0, ↓x_varS, ↓x_c, ↓x_op, ↓x_un, ↓x_cb, ↓x_nil, ↓x_cons, ↓x_test, ↓x_b, ↓x_ex, ↓x_and, ↓x_or, ↓x_not, ↓x_andV, ↓x_orV, ↓x_notV, ↓x_tif, ↓x_chain, ↓x_menu, ↓x_menuI, ↓x_lst, ↓x_tup, ↓x_dnew, ↓x_callW, ↓x_callN, ↓x_seq, ↓x_next, ↓x_ret, ↓x_retN, ↓x_drop, ↓x_ifS, ↓x_asg, ↓x_name, ↓x_raise, ↓x_fld, ↓x_setF, ↓x_meth, ↓x_make, ↓x_sub, ↓r_min, ↓r_max, ↓x_yes, ↓x_for, ↓x_lock, ↓x_keys, ↓x_cut, ↓x_lc, ↓x_rng1, ↓x_rng2, ↓x_lst1, ↓x_itup, ↓x_rng3, ↓x_three, ↓x_lstg, ↓x_tupg, ↓x_adrS, ↓x_one, ↓x_two, ↓x_adr, ↓x_sl, ↓x_np, ↓x_pt, ↓x_int, ↓x_bm, ↓x_bm0, ↓x_consg, ↓x_nilg, ↓x_dget2, ↓x_dget1, ↓x_dgetN, ↓x_dget, ↓x_din, ↓x_dni, ↓x_dput, ↓x_dpop2, ↓r_isB, ↓r_notB, ↓x_enum, ↓x_zip, ↓x_str, ↓x_strE, ↓r_inS, ↓r_ninS, wipe, List.map_cons, List.map_nil, ↓x_isT, ↓r_isiII, ↓r_isiBB, ↓r_isiIB, ↓r_isiSS, ↓r_neNS, ↓r_neSN, ↓r_neNN, ↓r_eqNS, ↓r_eqSN, ↓r_eqNN, ↓r_eqIS, ↓r_neIS, ↓r_neSI, ↓r_neBS, ↓r_eqBB, ↓r_neBB, ↓x_start, ↓x_K, ↓x_start0, ↓r_i0, ↓r_i, ↓r_u, ↓r_addI, ↓r_addS, ↓r_mulI, ↓r_mulS, ↓r_eqI, ↓r_neI, ↓r_eqS, ↓r_neS, ↓r_absI, ↓r_intI, ↓r_intB, List.length_cons, List.length_nil, List.replicate, List.set_cons_zero, List.set_cons_succ, decide_eq_true_eq, Bool.not_eq_true', decide_eq_false_iff_not, if_true, if_false, Bool.false_eq_true, Bool.true_eq_false, ite_true, ite_false, Bool.not_true, Bool.not_false, c_div, n_ten, c_pow, not_true_eq_false, not_false_eq_true, decide_true, decide_false, true_and, and_true, and_self, true_or, or_true, Int.reduceLT, Int.reduceLE, Int.reduceMul, Int.reduceAdd, Int.reduceSub, Int.reducePow, Int.reduceNeg, Int.reduceDiv, Int.reduceMod, Nat.reducePow, Int.reduceToNat, Int.reduceEq, Int.reduceNe, Nat.reduceLT, Nat.reduceLeDiff, Nat.reduceAdd, ↓x_whole, ↓x_kind, Int.natCast_one, Int.natCast_one, Int.natCast_one, Int.natCast_one, Int.natCast_one, Int.natCast_one])
theorem ArO.cpH {K H H' A S} (I : ArO K H A S) {f : Bool} {t : Nat} {ws' : List Int} (M : MemO K H' A.m A.mx A.l ws') (vw : Vw ws') (el : ws'.length = S.ws.length) (sp : SpO K H' (A.y f) (A.yx f) (S.b f) (S.b f + S.k) t) (k : ∀ c x, c ≠ A.l → c ≠ A.y f → H c = some x → H' c = some x) (h0 : S.b f ≤ t) (h1 : t ≤ S.b f + S.k) : ArO K H' A { S.put f t with ws := ws' } := by
  have ol := (I.na I.so).2.2
  have pl := (I.na I.sp).2.2
  have ql := (I.na I.sq).2.2
  have pa := (I.na I.sp).1
  have qa := (I.na I.sq).1
  have la : A.a ≠ A.l := ne_of I.ob I.me.ls (by intro z; cases z)
  obtain ⟨ws, n, m, ot, t1, t2, fl⟩ := S
  cases f
  · exact { ob := k _ _ la pa I.ob, me := M, vw := vw, ln := el.trans I.ln, so := k _ _ ol.symm I.nop I.so, sp := sp, sq := k _ _ ql.symm I.npq.symm I.sq, nop := I.nop, noq := I.noq, npq := I.npq, lo := I.lo, l1 := ⟨h0, h1⟩, l2 := I.l2, gn := I.gn, gk := I.gk }
  · have e2 : n + m + m = n + 2 * m := by omega
    have h1 : t ≤ n + m + m := h1
    exact { ob := k _ _ la qa I.ob, me := M, vw := vw, ln := el.trans I.ln, so := k _ _ ol.symm I.noq I.so, sp := k _ _ pl.symm I.npq I.sp, sq := (by (show SpO K H' A.q A.qx (n + m) (n + 2 * m) t); rw [← e2]; exact sp), nop := I.nop, noq := I.noq, npq := I.npq, lo := I.lo, l1 := I.l1, l2 := (by show n + m ≤ t ∧ t ≤ n + 2 * m; exact ⟨h0, by omega⟩), gn := I.gn, gk := I.gk }
theorem ArO.cpO {K H H' A S} (I : ArO K H A S) {t : Nat} {ws' : List Int} (M : MemO K H' A.m A.mx A.l ws') (vw : Vw ws') (el : ws'.length = S.ws.length) (sp : SpO K H' A.o A.ox 0 S.n t) (k : ∀ c x, c ≠ A.l → c ≠ A.o → H c = some x → H' c = some x) (h1 : t ≤ S.n) : ArO K H' A { S with ot := t, ws := ws' } := by
  have pl := (I.na I.sp).2.2
  have ql := (I.na I.sq).2.2
  have oa := (I.na I.so).1
  have la : A.a ≠ A.l := ne_of I.ob I.me.ls (by intro z; cases z)
  exact { ob := k _ _ la oa I.ob, me := M, vw := vw, ln := el.trans I.ln, so := sp, sp := k _ _ pl.symm I.nop.symm I.sp, sq := k _ _ ql.symm I.noq.symm I.sq, nop := I.nop, noq := I.noq, npq := I.npq, lo := h1, l1 := I.l1, l2 := I.l2, gn := I.gn, gk := I.gk }
def rowY (S0 : ArS) (qs : List CeL) : List Int := (fwY S0 qs).map fun x => (x.2 : Int)
theorem rowY_len {S0 : ArS} {qs : List CeL} : (rowY S0 qs).length = qs.length := by
  have h := congrArg List.length (fwY_fst (S := S0) (qs := qs))
  rw [List.length_map] at h
  unfold rowY
  rw [List.length_map, h]
theorem rowY_snoc {S0 : ArS} {qs : List CeL} {c : CeL} : rowY S0 (qs ++ [c]) = rowY S0 qs ++ [(nqY S0 qs c : Int)] := by
  unfold rowY
  rw [fwY_snoc, List.map_append]
  rfl
theorem areaY {S : ArS} {p : Int} (lo : S.ot ≤ S.n) : (Yng S p → areaW S p = .str "young") ∧ (¬ Yng S p → areaW S p = .str "old" ∨ areaW S p = .non) := by
  have := bb_of (S := S)
  unfold areaW Yng
  refine ⟨fun y => ?_, fun y => ?_⟩
  · rw [if_neg (by omega), if_pos y]
  · split
    · exact .inl rfl
    · exact .inr rfl
theorem Yg.yng {S0 S : ArS} {C qs : List CeL} (G : Yg S0 C qs S) {p : Int} : Yng S p ↔ Yng S0 p := by
  have hb : S.b S.fl = S0.b S0.fl := by
    unfold ArS.b
    rw [G.fl, G.n, G.k]
  have ht : S.t S.fl = S0.t S0.fl := by
    rw [G.fl]
    exact G.ty
  unfold Yng
  rw [hb, ht]
theorem len_sumW : ∀ {qs : List CeL}, qs.length ≤ sumW qs
  | [] => Nat.le_refl _
  | c :: r => by
    have := len_sumW (qs := r)
    show r.length + 1 ≤ (c.ws.length + 1) + sumW r
    omega
def sp_carried (K : PySem.W.Frag) : Sp := fun vs H Q _ => ∃ A S0 S C qs r w0 w, vs = [.ref A.a, .ref r, .int w] ∧ ArO K H A S ∧ Y0 S0 C ∧ Yg S0 C qs S ∧ ClW C w0 ∧ Tn S0 qs w0 w ∧ (wordOf w).isSome = true ∧ H r = some (.lst ((rowY S0 qs).map V.int)) ∧ A.l ≠ r ∧
  ∀ qs' S' H' w', ArO K H' A S' → Go1 S0 C qs qs' S S' w0 w' → H' r = some (.lst ((rowY S0 qs').map V.int)) → (∀ b o, b ≠ A.l → b ≠ A.o → b ≠ A.p → b ≠ A.q → b ≠ r → H b = some o → H' b = some o) → Q (.int w') H'
section
variable {P : Program} {w : World} {K : PySem.W.Frag} {mg : Str → Option Value} {base : Heap}
theorem f_carried (T : Tx K mg) : Fn P w K mg base 8 "carried" ["areas", "row", "word"] (sp_carried K) := by
  have c_Areas_area_of := f_Areas_area_of (P := P) (w := w) (base := base) T
  have c_worth := f_worth (P := P) (w := w) (base := base) T
  have c_kind := f_kind (P := P) (w := w) (base := base) T
  have c_sent_to := f_sent_to (P := P) (w := w) (base := base) T
  have c_age_of := f_age_of (P := P) (w := w) (base := base) T
  have c_copied := f_copied (P := P) (w := w) (base := base) T
  have c_moved := f_moved (P := P) (w := w) (base := base) T
  refine T.mkFn 75 46 (d := d_carried) (N := ["areas", "row", "word", "at"]) (k := 7) rfl rfl rfl rfl rfl sc_carried (fun _ _ _ _ _ _ us hl => match us, hl with | [_, _, _], _ => rfl) (fun vs H Q E h => ?len) (fun cdv A outer s H vs Q E hr h => ⟨_,
      (pss_cons (ps_if (PW.pt (pw_or (pt_cmpR (op_neK (K := K) rfl hr.units) (pe_fn (takes_of rfl rfl rfl rfl) c_kind (hr.mono (by decide)) (by rfl) (pa_cons (pv 2) pa_nil)) pe_str (nomark _)) (pw_or1 (pt_cmpR (op_neK (K := K) rfl hr.units) (pe_mt (K := K) rfl (takes_of rfl rfl rfl rfl) (pv 0) c_Areas_area_of (hr.mono (by decide)) (pa_cons (pe_fn (takes_of rfl rfl rfl rfl) c_worth (hr.mono (by decide)) (by rfl) (pa_cons (pv 2) pa_nil)) pa_nil)) pe_str (nomark _))))) (pss_one (ps_ret (pv 2))) pss_nil)
        (pss_cons (ps_set (i := 3) sc_carried.nd rfl (Or.inl rfl) (pe_fn (takes_of rfl rfl rfl rfl) c_worth (hr.mono (by decide)) (by rfl) (pa_cons (pv 2) pa_nil)))
        (pss_cons (ps_if (pt_cmpR op_isN (pe_fn (takes_of rfl rfl rfl rfl) c_sent_to (hr.mono (by decide)) (by rfl) (pa_cons (pe_fldC (T.cls 119) (T.noat 125) (pv 0)) (pa_cons (pv 3) pa_nil))) pe_non (nomark _)) (pss_one (ps_if (pt_cmpR (op_eqK (K := K) rfl hr.units) (pe_fn (takes_of rfl rfl rfl rfl) c_age_of (hr.mono (by decide)) (by rfl) (pa_cons (pe_fldC (T.cls 119) (T.noat 125) (pv 0)) (pa_cons (pv 3) pa_nil))) pe_int (nomark _)) (pss_one (ps_expr (pe_bm PySem.F.plainAttrs_list PySem.F.slot_list_append PySem.F.type_list_append mt_append (pv 1) (pa_cons (pe_fn (takes_of rfl rfl rfl rfl) c_copied (hr.mono (by decide)) (by rfl) (pa_cons (pe_fldC (T.cls 119) (T.noat 125) (pv 0)) (pa_cons (pv 3) (pa_cons (pe_fldC (T.cls 119) (T.noat 128) (pv 0)) (pa_cons pe_int pa_nil))))) pa_nil)))) (pss_one (ps_expr (pe_bm PySem.F.plainAttrs_list PySem.F.slot_list_append PySem.F.type_list_append mt_append (pv 1) (pa_cons (pe_fn (takes_of rfl rfl rfl rfl) c_copied (hr.mono (by decide)) (by rfl) (pa_cons (pe_fldC (T.cls 119) (T.noat 125) (pv 0)) (pa_cons (pv 3) (pa_cons (pe_fldC (T.cls 119) (T.noat 126) (pv 0)) (pa_cons pe_int pa_nil))))) pa_nil)))))) pss_nil)
        (pss_one (ps_ret (pe_fn (takes_of rfl rfl rfl rfl) c_moved (hr.mono (by decide)) (by rfl) (pa_cons (pe_fldC (T.cls 119) (T.noat 125) (pv 0)) (pa_cons (pv 2) pa_nil)))))))), ?rd⟩)
  case len => first | exact len_carried h | (repeat (first | (obtain ⟨rfl, _⟩ := h; rfl; done) | obtain ⟨_, h⟩ := h))
  case rd =>
    obtain ⟨A, S0, S, C, qs, r, w0, w, rfl, I, P, G, cw, tn, hw, hr, lr, q⟩ := h
    have sz : 100000 ≤ sizeLine := by rw [sizeLine_eq]; omega
    walk_at "w3"
    have ylo := (G.stk P).2
    rw [← G.n] at ylo
    have ay := fun p => areaY (S := S) (p := p) ylo
    have gn := I.gn
    have gk := I.gk
    have iln := I.ln
    cases e : wordOf w with
    | none =>
      rw [e] at hw
      cases hw
    | some x =>
      have stay : (∀ p, placeIn w = some p → ¬ Yng S0 p) → Q (.int w) H := fun n => q qs S H w I (go_stay G tn n) hr fun b o _ _ _ _ _ g => g
      cases x with
      | place p =>
        have ep := wd_place e
        dsimp only at ep ⊢
        simp only [k_pp, not_true_eq_false, if_false, x_worth, e]
        refine ⟨recv I.ob, A, S, p, rfl, I, ?_⟩
        by_cases y : Yng S0 p
        · have e0 := tn.young P G ep y
          subst e0
          rw [(ay p).1 (G.yng.mpr y)]
          walk_at "w3"
          obtain ⟨c, mc, rfl⟩ := cw.2 p e
          simp only [show (Wd.place (c.p : Int)).worth = V.int (c.p : Int) from rfl]
          have hcl : c.p + c.ws.length < S.ws.length := by
            have := P.ln
            have := G.ln
            have := P.lo
            have := P.lb
            have := bb_of (S := S0)
            rcases P.side mc with ⟨-, h⟩ | ⟨-, -, h⟩ <;> omega
          refine ⟨_, fldIs I.ob, A.m, A.mx, A.l, S.ws, _, rfl, I.me, I.vw, .inl ⟨_, rfl⟩, ?_⟩
          rw [placeOf_int, if_pos (by omega), Int.toNat_natCast]
          dsimp only
          by_cases sn : ∃ d ∈ qs, d.p = c.p
          · obtain ⟨d, md, ed⟩ := sn
            have := P.cp.same_p (G.mq d md).1 mc ed
            subst this
            obtain ⟨q', h1, h2, go⟩ := go_sent P G md ep
            rw [h1, word_place (by omega) (by have := P.sz; have := P.ln; omega)]
            dsimp only
            walk_at "w3"
            refine ⟨_, fldIs I.ob, A.m, A.mx, A.l, S.ws, _, rfl, I.me, I.vw, hw, ?_⟩
            unfold movedW
            rw [e]
            dsimp only
            rw [placeOf_int, if_pos (by omega), Int.toNat_natCast]
            dsimp only
            rw [h1, word_place (by omega) (by have := P.sz; have := P.ln; omega)]
            dsimp only
            exact q qs S H _ I go hr fun b o _ _ _ _ _ g => g
          · have nc : ∀ d ∈ qs, d.p ≠ c.p := fun d md ed => sn ⟨d, md, ed⟩
            obtain ⟨a, ha, hh⟩ := P.cp.hd c mc
            have hh := hh
            rw [← G.un c mc nc] at hh
            have eag : agO S0 c.p = a := by
              unfold agO
              rw [← G.un c mc nc, hh]
              dsimp only
              omega
            obtain ⟨h34, h3, -⟩ := headAt_some hh
            rw [h34, word_num (by omega)]
            dsimp only
            rw [← h34, hh]
            dsimp only
            walk_at "w3"
            have hw4 : headW S.ws (.int (c.p : Int)) = .ok c.p (4 * c.ws.length + a) := ans_head' (by omega) hh
            refine ⟨_, fldIs I.ob, A.m, A.mx, A.l, S.ws, _, rfl, I.me, I.vw, .inl ⟨_, rfl⟩, ?_⟩
            rw [hw4]
            dsimp only
            have e4 : (4 * c.ws.length + a) / 4 = c.ws.length := by omega
            have e5 : (4 * c.ws.length + a) % 4 = a := by omega
            rw [e5]
            walk_at "w3"
            obtain ⟨g1, g2⟩ := G.fits P mc y nc
            have G' := G.copy P mc y nc
            have go := go_new P G mc y nc ep
            have bb := bb_of (S := S0)
            have pl := P.ln
            have pz := P.sz
            have gl := G.ln
            have plo := P.lo
            have efl := G.fl
            have eb : S.b (!S.fl) = S0.b (!S0.fl) := by
              unfold ArS.b
              rw [G.fl, G.n, G.k]
            have ht : S.t (!S.fl) = S.t (!S0.fl) := by rw [G.fl]
            have yb : S0.b S0.fl ≤ c.p ∧ c.p + c.ws.length < S0.t S0.fl := by
              rcases P.side mc with ⟨h, -⟩ | ⟨-, h⟩
              · exact absurd y h
              · exact h
            have plb := P.lb
            have ql : qs.length ≤ 9999 := by
              have h1 := P.sum G.mq G.nd
              have h2 : qs.length ≤ sumW qs := len_sumW
              omega
            have wm : wordOf (2 * (nqY S0 qs c : Int) + 1) = some (.place (nqY S0 qs c : Int)) := word_place (by omega) (by
              by_cases e0 : agO S0 c.p = 0
              · have := g1 e0; omega
              · have := g2 e0; omega)
            have fin : ∀ H1, ArO K H1 A (copS S0 S qs c) → H1 r = some (.lst ((rowY S0 qs).map V.int)) → (∀ b o, b ≠ A.l → b ≠ A.o → b ≠ A.p → b ≠ A.q → b ≠ r → H b = some o → H1 b = some o) →
                rAppend (.ref r) [.int (nqY S0 qs c : Int)] H1 (fun x H1 => ∃ v, FldIs (He.ga K (Str.ofString "Areas")) (Str.ofString "memory") (.ref A.a) H1 v ∧ sp_moved K [v, .int w] H1 Q fun c d H2 => E c d H2) := fun H1 I1 hr1 k1 => by
              refine ⟨_, _, _, rfl, rfl, hr1, by rw [List.length_map, rowY_len]; omega, ?_⟩
              have I2 := I1.put (o := .lst ((rowY S0 qs).map V.int ++ [.int (nqY S0 qs c : Int)])) hr1 lr
              refine ⟨_, fldIs I2.ob, A.m, A.mx, A.l, _, _, rfl, I2.me, I2.vw, hw, ?_⟩
              have sn' := G'.sn (c, nqY S0 qs c) (by rw [fwY_snoc]; exact List.mem_append_right _ (List.mem_singleton.mpr rfl))
              have sn' : (copS S0 S qs c).ws.getD c.p 0 = 2 * (nqY S0 qs c : Int) + 1 := sn'
              have gl' := G'.ln
              unfold movedW
              rw [e]
              dsimp only
              rw [placeOf_int, if_pos (by omega), Int.toNat_natCast]
              dsimp only
              rw [sn', wm]
              dsimp only
              refine q (qs ++ [c]) (copS S0 S qs c) _ _ I2 go (by rw [upd_same, rowY_snoc, List.map_append]; rfl) fun b o n1 n2 n3 n4 n5 g => (upd_ne n5).trans (k1 b o n1 n2 n3 n4 n5 g)
            have yq : A.y (!S.fl) = A.p ∨ A.y (!S.fl) = A.q := by
              unfold ArA.y
              split
              · exact .inr rfl
              · exact .inl rfl
            by_cases e0 : a = 0
            · subst e0
              rw [if_pos (show ((0 : Nat) : Int) = 0 from rfl)]
              have g1 := g1 eag
              refine ⟨.inl ⟨rfl, _, .of hr⟩, _, fldIs I.ob, _, fldIs I.ob, ?_⟩
              refine ⟨A.m, A.mx, A.l, S.ws, _, A.y (!S.fl), A.yx (!S.fl), S.b (!S.fl), S.b (!S.fl) + S.k, S.t (!S.fl), _, rfl, I.me, I.vw, I.half _, .inl ⟨_, rfl⟩, .inl ⟨_, rfl⟩, ?_⟩
              rw [hw4]
              dsimp only
              rw [ageW_int, if_pos (by omega)]
              dsimp only
              rw [e4, if_pos (by rw [G.k, eb, ht]; omega)]
              refine ⟨⟨by omega, by rw [G.k, eb]; omega, by rw [G.k, eb]; omega, by rw [ht]; omega⟩, fun H1 M1 v1 sp1 k1 => ?_⟩
              have I1 := I.cpH M1 v1 copT_len sp1 k1 (by rw [ht, eb]; omega) (by rw [G.k, ht, eb]; omega)
              have es : ({ S.put (!S.fl) (S.t (!S.fl) + (c.ws.length + 1)) with ws := copT S.ws c.p (S.t (!S.fl)) c.ws.length 1 } : ArS) = copS S0 S qs c := by
                unfold copS
                rw [if_pos eag, if_pos eag, ht, G.fl, g1.1]
              rw [show (1 : Int).toNat = 1 from rfl, es] at I1
              have := fin H1 I1 (k1 _ _ lr.symm (ne_of hr (I.half (!S.fl)) fun z => spv_lst z.symm) hr) fun b o n1 n2 n3 n4 n5 g => k1 b o n1 (by rcases yq with h | h <;> rw [h] <;> assumption) g
              rw [g1.1, ← ht] at this
              exact this
            · rw [if_neg (show ¬ ((a : Nat) : Int) = 0 by omega)]
              have en : agO S0 c.p ≠ 0 := by rw [eag]; exact e0
              have g2 := g2 en
              refine ⟨.inl ⟨rfl, _, .of hr⟩, _, fldIs I.ob, _, fldIs I.ob, ?_⟩
              refine ⟨A.m, A.mx, A.l, S.ws, _, A.o, A.ox, 0, S.n, S.ot, _, rfl, I.me, I.vw, I.so, .inl ⟨_, rfl⟩, .inl ⟨_, rfl⟩, ?_⟩
              rw [hw4]
              dsimp only
              rw [ageW_int, if_pos (by omega)]
              dsimp only
              rw [e4, if_pos (by rw [G.n]; omega)]
              refine ⟨⟨by omega, by rw [G.n]; omega, by rw [G.n]; omega, by omega⟩, fun H1 M1 v1 sp1 k1 => ?_⟩
              have I1 := I.cpO M1 v1 copT_len sp1 k1 (by rw [G.n]; omega)
              have es : ({ S with ot := S.ot + (c.ws.length + 1), ws := copT S.ws c.p S.ot c.ws.length 2 } : ArS) = copS S0 S qs c := by
                unfold copS
                rw [if_neg en, if_neg en, g2.1]
              rw [show (2 : Int).toNat = 2 from rfl, es] at I1
              have := fin H1 I1 (k1 _ _ lr.symm (ne_of hr I.so fun z => spv_lst z.symm) hr) fun b o n1 n2 n3 n4 n5 g => k1 b o n1 n2 g
              rw [g2.1] at this
              exact this
        · have n : ∀ p', placeIn w = some p' → ¬ Yng S0 p' := fun p' e' => by
            rw [ep] at e'
            cases e'
            exact y
          rcases (ay p).2 (fun z => y (G.yng.mp z)) with e2 | e2
          all_goals
            rw [e2]
            walk_at "w3"
            exact stay n
      | _ =>
        dsimp only at ⊢
        simp only [k_np, k_Np, not_false_eq_true, if_true]
        exact stay fun p e' => by
          rw [wd_place e] at e'
          cases e'
end

local macro_rules | `(tactic| walk_at "w3") => `(tactic| try simp only [↓x_var0, ↓x_varS, ↓x_c, ↓x_op, ↓x_un, ↓x_cb, ↓x_nil, ↓x_cons, ↓x_test, ↓x_b, ↓x_ex, ↓x_and, ↓x_or, ↓x_not, ↓x_andV, ↓x_orV, ↓x_notV, ↓x_tif, ↓x_chain, ↓x_menu, ↓x_menuI, ↓x_lst, ↓x_tup, ↓x_dnew, ↓x_callW, ↓x_callN, ↓x_seq, ↓x_next, ↓x_ret, ↓x_retN, ↓x_drop, ↓x_ifS, ↓x_asg, ↓x_name, ↓x_raise, ↓x_fld, ↓x_setF, ↓x_meth, ↓x_make, ↓x_sub, ↓r_min, ↓r_max, ↓x_yes, ↓x_for, ↓x_lock, ↓x_keys, ↓x_cut, ↓x_lc, ↓x_rng1, ↓x_rng2, ↓x_lst1, ↓x_itup, ↓x_rng3, ↓x_three, ↓x_lstg, ↓x_tupg, ↓x_adrS, ↓x_one, ↓x_two, ↓x_adr, ↓x_sl, ↓x_np, ↓x_pt, ↓x_int, ↓x_bm, ↓x_bm0, ↓x_consg, ↓x_nilg, ↓x_dget2, ↓x_dget1, ↓x_dgetN, ↓x_dget, ↓x_din, ↓x_dni, ↓x_dput, ↓x_dpop2, ↓r_isB, ↓r_notB, ↓x_enum, ↓x_zip, ↓x_str, ↓x_strE, ↓r_inS, ↓r_ninS, wipe, List.map_cons, List.map_nil, ↓x_isT, ↓r_isiII, ↓r_isiBB, ↓r_isiIB, ↓r_isiSS, ↓r_neNS, ↓r_neSN, ↓r_neNN, ↓r_eqNS, ↓r_eqSN, ↓r_eqNN, ↓r_eqIS, ↓r_neIS, ↓r_neSI, ↓r_neBS, ↓r_eqBB, ↓r_neBB, ↓x_start, ↓x_K, ↓x_start0, ↓r_i0, ↓r_i, ↓r_u, ↓r_addI, ↓r_addS, ↓r_mulI, ↓r_mulS, ↓r_eqI, ↓r_neI, ↓r_eqS, ↓r_neS, ↓r_absI, ↓r_intI, ↓r_intB, List.length_cons, List.length_nil, List.replicate, List.set_cons_zero, List.set_cons_succ, decide_eq_true_eq, Bool.not_eq_true', decide_eq_false_iff_not, if_true, if_false, Bool.false_eq_true, Bool.true_eq_false, ite_true, ite_false, Bool.not_true, Bool.not_false, c_div, n_ten, c_pow, not_true_eq_false, not_false_eq_true, decide_true, decide_false, true_and, and_true, and_self, true_or, or_true, Int.reduceLT, Int.reduceLE, Int.reduceMul, Int.reduceAdd, Int.reduceSub, Int.reducePow, Int.reduceNeg, Int.reduceDiv, Int.reduceMod, Nat.reducePow, Int.reduceToNat, Int.reduceEq, Int.reduceNe, Nat.reduceLT, Nat.reduceLeDiff, Nat.reduceAdd, ↓x_whole, ↓x_kind, Int.natCast_one, Int.natCast_one, Int.natCast_one, Int.natCast_one, Int.natCast_one, Int.natCast_one, Int.natCast_one])
theorem SlY.word {S0 S : ArS} {C qs : List CeL} (P : Y0 S0 C) (G : Yg S0 C qs S) {v : Nat} {w0 : Int} (h : SlY S0 C qs v w0) : ClW C w0 := by
  rcases h with ⟨c, mc, y, j, hj, rfl, rfl⟩ | ⟨x, mx, j, hj, rfl, rfl⟩
  · exact P.cw c mc _ (List.mem_of_getElem? (getD_at (d := 0) hj))
  · exact P.cw x.1 (G.mq _ (fw_mem mx)).1 _ (List.mem_of_getElem? (getD_at (d := 0) hj))
theorem trY_word {S0 S : ArS} {C qs : List CeL} (P : Y0 S0 C) (G : Yg S0 C qs S) {w0 : Int} (h : (wordOf w0).isSome = true) : (wordOf (trY S0 qs w0)).isSome = true := by
  cases e : placeIn w0 with
  | none => rw [trY_none e]; exact h
  | some p =>
    cases g : goG (psY S0 qs) p with
    | none =>
      unfold trY turnW
      rw [e]
      dsimp only
      rw [g]
      show (wordOf (2 * p + 1)).isSome = true
      rw [← (placeIn_is e).1]
      exact h
    | some q =>
      rw [trY_go e g]
      obtain ⟨x, mx, -, rfl, -⟩ := G.go_y g
      have h1 := (G.nx P mx).2
      have := G.ln
      have := P.ln
      have := P.sz
      rw [word_place (by omega) (by omega)]
      rfl
def sp_carry_place (K : PySem.W.Frag) : Sp := fun vs H Q _ => ∃ A S0 S C qs r, ∃ v : Nat, ∃ w0, vs = [.ref A.a, .ref r, .int v] ∧ ArO K H A S ∧ Y0 S0 C ∧ Yg S0 C qs S ∧ SlY S0 C qs v w0 ∧ H r = some (.lst ((rowY S0 qs).map V.int)) ∧ A.l ≠ r ∧
  ∀ qs' S' H', ArO K H' A S' → Go2 S0 C qs qs' S S' (yk1 S0 w0) → Dn S0 qs' w0 (S'.ws.getD v 0) → H' r = some (.lst ((rowY S0 qs').map V.int)) → (∀ b o, b ≠ A.l → b ≠ A.o → b ≠ A.p → b ≠ A.q → b ≠ r → H b = some o → H' b = some o) → Q .non H'
def sp_slot_places (K : PySem.W.Frag) : Sp := fun vs H Q _ => ∃ m mx l ws, ∃ i h : Nat, vs = [.ref m, .int i] ∧ MemO K H m mx l ws ∧ Vw ws ∧ i < ws.length ∧ headAt (ws.getD i 0) = some h ∧
  ∀ p H', H p = none → Same H H' → H' p = some (.lst (((List.range (h / 4)).map fun j => ((i + 1 + j : Nat) : Int)).map V.int)) → Q (.ref p) H'
section
variable {P : Program} {w : World} {K : PySem.W.Frag} {mg : Str → Option Value} {base : Heap}
theorem f_carry_place (T : Tx K mg) : Fn P w K mg base 9 "carry_place" ["areas", "row", "place"] (sp_carry_place K) := by
  have c_Memory_write := f_Memory_write (P := P) (w := w) (base := base) T
  have c_carried := f_carried (P := P) (w := w) (base := base) T
  have c_Memory_read := f_Memory_read (P := P) (w := w) (base := base) T
  refine T.mkFn 76 47 (d := d_carry_place) (N := ["areas", "row", "place"]) (k := 8) rfl rfl rfl rfl rfl sc_carry_place (fun _ _ _ _ _ _ us hl => match us, hl with | [_, _, _], _ => rfl) (fun vs H Q E h => ?len) (fun cdv A outer s H vs Q E hr h => ⟨_,
      (pss_one (ps_expr (pe_mt (K := K) rfl (takes_of rfl rfl rfl rfl) (pe_fldC (T.cls 119) (T.noat 125) (pv 0)) c_Memory_write (hr.mono (by decide)) (pa_cons (pv 2) (pa_cons (pe_fn (takes_of rfl rfl rfl rfl) c_carried (hr.mono (by decide)) (by rfl) (pa_cons (pv 0) (pa_cons (pv 1) (pa_cons (pe_mt (K := K) rfl (takes_of rfl rfl rfl rfl) (pe_fldC (T.cls 119) (T.noat 125) (pv 0)) c_Memory_read (hr.mono (by decide)) (pa_cons (pv 2) pa_nil)) pa_nil)))) pa_nil))))), ?rd⟩)
  case len => first | exact len_carry_place h | (repeat (first | (obtain ⟨rfl, _⟩ := h; rfl; done) | obtain ⟨_, h⟩ := h))
  case rd =>
    obtain ⟨A, S0, S, C, qs, r, v, w0, rfl, I, P, G, sl, hr, lr, q⟩ := h
    have sz : 100000 ≤ sizeLine := by rw [sizeLine_eq]; omega
    have hv := (sl.off P G).1
    walk_at "w3"
    have iln := I.ln
    have gn := I.gn
    have gk := I.gk
    have pz := P.sz
    have gl := G.ln
    have pl := P.ln
    refine ⟨_, fldIs I.ob, recv I.me.ob, _, fldIs I.ob, recv I.me.ob, A.m, A.mx, A.l, S.ws, _, rfl, I.me, .inl ⟨_, rfl⟩, ?_⟩
    rw [placeOf_int, if_pos (by omega), Int.toNat_natCast]
    dsimp only
    have cw := sl.word P G
    have hw : (wordOf (S.ws.getD v 0)).isSome = true := by
      obtain ⟨x, ex⟩ := I.vw.get hv
      rw [ex]
      rfl
    refine ⟨A, S0, S, C, qs, r, w0, _, rfl, I, P, G, cw, G.tn sl, hw, hr, lr, fun qs' S' H' w' I' go hr' k => ?_⟩
    have hv' := ((sl.pre go.x).off P go.g).1
    have gl' := go.g.ln
    have dw : (wordOf w').isSome = true := by rw [go.d.2]; exact trY_word P go.g cw.1
    refine ⟨A.m, A.mx, A.l, S'.ws, _, _, rfl, I'.me, .inl ⟨_, rfl⟩, .inl ⟨_, rfl⟩, ?_⟩
    rw [placeOf_int, if_pos (by omega), wordV_int, if_pos dw, Int.toNat_natCast]
    dsimp only
    obtain ⟨g2, gd⟩ := go.slot P sl
    refine q qs' _ _ (I'.words (I'.me.put _ (List.length_set ..)) (fun b o n g => (upd_ne n).trans g) (I'.vw.set dw) (List.length_set ..)) g2 (by rw [show ({ S' with ws := S'.ws.set v w' } : ArS).ws.getD v 0 = w' from gd]; exact go.d) ((upd_ne lr.symm).trans hr') fun b o n1 n2 n3 n4 n5 g => (upd_ne n1).trans (k b o n1 n2 n3 n4 n5 g)
theorem f_slot_places (T : Tx K mg) : Fn P w K mg base 7 "slot_places" ["memory", "at"] (sp_slot_places K) := by
  have c_slots_of := f_slots_of (P := P) (w := w) (base := base) T
  have c_slot_place := f_slot_place (P := P) (w := w) (base := base) T
  refine T.mkFn 77 48 (d := d_slot_places) (N := ["memory", "at", "slot"]) (k := 6) rfl rfl rfl rfl rfl sc_slot_places (fun _ _ _ _ _ _ us hl => match us, hl with | [_, _], _ => rfl) (fun vs H Q E h => ?len) (fun cdv A outer s H vs Q E hr h => ⟨_,
      (pss_one (ps_ret (pe_lc (own := [("slot", 2)]) (g := gName 2) rfl sc_slot_places.nd (pi_range1 rfl (T.free 79) (pa_cons (pe_fn (takes_of rfl rfl rfl rfl) c_slots_of (hr.mono (by decide)) (by rfl) (pa_cons (pv 0) (pa_cons (pv 1) pa_nil))) pa_nil)) (blkOk_by (own := [("slot", 2)]) (N := ["memory", "at", "slot"]) (sc := defScope s_slot_places) (by decide +kernel)) (fun _ _ _ _ _ => (pg_name (i := 2) sc_slot_places.nd rfl (Or.inl rfl))) (fun _ _ _ _ _ => pts_nil) (fun _ _ _ _ _ => (pe_fn takes0 c_slot_place (hr.mono (by decide)) (by rfl) (pa_cons (pv 0) (pa_cons (pv 1) (pa_cons (pv 2) pa_nil)))))))), ?rd⟩)
  case len => first | exact len_slot_places h | (repeat (first | (obtain ⟨rfl, _⟩ := h; rfl; done) | obtain ⟨_, h⟩ := h))
  case rd =>
    obtain ⟨m, mx, l, ws, i, h, rfl, M, vw, hi, eh, q⟩ := h
    have sz : 100000 ≤ sizeLine := by rw [sizeLine_eq]; omega
    obtain ⟨-, h34, -⟩ := headAt_some eh
    have eW : headW ws (.int (i : Int)) = .ok i h := ans_head' hi eh
    walk_at "w3"
    refine ⟨m, mx, l, ws, _, rfl, M, vw, .inl ⟨_, rfl⟩, ?_⟩
    rw [eW]
    dsimp only
    refine ⟨_, rfl, by omega, by omega, fun D nD => ?_⟩
    rw [Int.toNat_natCast]
    refine lc_range (fun j Hx => Hx = upd H D (.lst (((List.range j).map fun j => ((i + 1 + j : Nat) : Int)).map V.int))) rfl ?_ ?_
    · rintro j Hx hj rfl
      refine ⟨rfl, tYes_on ?_⟩
      walk_at "w3"
      have nl : l ≠ D := ne_of_none M.ls nD
      have s1 : Same H (upd H D (.lst (((List.range j).map fun j => ((i + 1 + j : Nat) : Int)).map V.int))) := same_new nD
      refine ⟨m, mx, l, ws, _, _, rfl, M.same s1, vw, .inl ⟨_, rfl⟩, .inl ⟨_, rfl⟩, ?_⟩
      rw [eW]
      dsimp only
      rw [placeOf_int, if_pos (by omega)]
      dsimp only
      rw [Int.zero_add, Int.toNat_natCast]
      refine ⟨_, upd_same, by rw [List.length_map, List.length_map, List.length_range]; omega, ?_⟩
      rw [upd_upd, List.range_succ, List.map_append, List.map_append]
      rfl
    · rintro Hx rfl
      exact q D _ nD (same_new nD) upd_same
end

local macro_rules | `(tactic| walk_at "w3") => `(tactic| try simp only [↓x_var0, ↓x_varS, ↓x_c, ↓x_op, ↓x_un, ↓x_cb, ↓x_nil, ↓x_cons, ↓x_test, ↓x_b, ↓x_ex, ↓x_and, ↓x_or, ↓x_not, ↓x_andV, ↓x_orV, ↓x_notV, ↓x_tif, ↓x_chain, ↓x_menu, ↓x_menuI, ↓x_lst, ↓x_tup, ↓x_dnew, ↓x_callW, ↓x_callN, ↓x_seq, ↓x_next, ↓x_ret, ↓x_retN, ↓x_drop, ↓x_ifS, ↓x_asg, ↓x_name, ↓x_raise, ↓x_fld, ↓x_setF, ↓x_meth, ↓x_make, ↓x_sub, ↓r_min, ↓r_max, ↓x_yes, ↓x_for, ↓x_lock, ↓x_keys, ↓x_cut, ↓x_lc, ↓x_rng1, ↓x_rng2, ↓x_lst1, ↓x_itup, ↓x_rng3, ↓x_three, ↓x_lstg, ↓x_tupg, ↓x_adrS, ↓x_one, ↓x_two, ↓x_adr, ↓x_sl, ↓x_np, ↓x_pt, ↓x_int, ↓x_bm, ↓x_bm0, ↓x_consg, ↓x_nilg, ↓x_dget2, ↓x_dget1, ↓x_dgetN, ↓x_dget, ↓x_din, ↓x_dni, ↓x_dput, ↓x_dpop2, ↓r_isB, ↓r_notB, ↓x_enum, ↓x_zip, ↓x_str, ↓x_strE, ↓r_inS, ↓r_ninS, wipe, List.map_cons, List.map_nil, ↓x_isT, ↓r_isiII, ↓r_isiBB, ↓r_isiIB, ↓r_isiSS, ↓r_neNS, ↓r_neSN, ↓r_neNN, ↓r_eqNS, ↓r_eqSN, ↓r_eqNN, ↓r_eqIS, ↓r_neIS, ↓r_neSI, ↓r_neBS, ↓r_eqBB, ↓r_neBB, ↓x_start, ↓x_K, ↓x_start0, ↓r_i0, ↓r_i, ↓r_u, ↓r_addI, ↓r_addS, ↓r_mulI, ↓r_mulS, ↓r_eqI, ↓r_neI, ↓r_eqS, ↓r_neS, ↓r_absI, ↓r_intI, ↓r_intB, List.length_cons, List.length_nil, List.replicate, List.set_cons_zero, List.set_cons_succ, decide_eq_true_eq, Bool.not_eq_true', decide_eq_false_iff_not, if_true, if_false, Bool.false_eq_true, Bool.true_eq_false, ite_true, ite_false, Bool.not_true, Bool.not_false, c_div, n_ten, c_pow, not_true_eq_false, not_false_eq_true, decide_true, decide_false, true_and, and_true, and_self, true_or, or_true, Int.reduceLT, Int.reduceLE, Int.reduceMul, Int.reduceAdd, Int.reduceSub, Int.reducePow, Int.reduceNeg, Int.reduceDiv, Int.reduceMod, Nat.reducePow, Int.reduceToNat, Int.reduceEq, Int.reduceNe, Nat.reduceLT, Nat.reduceLeDiff, Nat.reduceAdd, ↓x_whole, ↓x_kind, Int.natCast_one, Int.natCast_one, Int.natCast_one, Int.natCast_one, Int.natCast_one, Int.natCast_one, Int.natCast_one, Int.natCast_one])
theorem PairO.arR {K : PySem.W.Frag} {H H' : Hp} {A : ArA} {R : RoA} {S S' : ArS} {U : RoS} {r : Addr} {xs : List V} (h : PairO K H A R S U) (I : ArO K H' A S') (k : ∀ b o, b ≠ A.l → b ≠ A.o → b ≠ A.p → b ≠ A.q → b ≠ r → H b = some o → H' b = some o) (hr : H r = some (.lst xs)) (of : OffP A R r) : PairO K H' A R S' U := by
  have nl : ∀ b, (b = R.r ∨ b = R.h ∨ b = R.hl ∨ b = R.b ∨ b = U.bd ∨ b = R.w ∨ b = R.wl ∨ b = R.la ∨ b = R.d ∨ b = R.e) → b ≠ r := by
    have i : ∀ {b C d fs}, H b = some (.ins C d fs) → b ≠ r := fun g => ne_of g hr (by intro z; cases z)
    rintro b (rfl | rfl | rfl | rfl | rfl | rfl | rfl | rfl | rfl | rfl)
    · exact i h.ro.ob
    · exact i h.ro.ho.ob
    · exact of.2.1.symm
    · exact i h.ro.bo.ob
    · exact ne_of h.ro.bo.ds hr (by intro z; cases z)
    · exact i h.ro.wo.ob
    · exact of.2.2.1.symm
    · exact i h.ro.lo.ob
    · exact of.2.2.2.1.symm
    · exact of.2.2.2.2.symm
  exact { h with ar := I, ro := h.ro.frP (fun b o m g => k b o (h.offA (.inr (.inl rfl)) b m) (h.offA (.inr (.inr (.inl rfl))) b m) (h.offA (.inr (.inr (.inr (.inl rfl)))) b m) (h.offA (.inr (.inr (.inr (.inr rfl)))) b m) (nl b m) g) fun c xs g => k _ _ (ne_of g h.ar.me.ls (by intro z; cases z)) (ne_of g h.ar.so (by intro z; cases z)) (ne_of g h.ar.sp (by intro z; cases z)) (ne_of g h.ar.sq (by intro z; cases z)) (ne_of g hr (by intro z; cases z)) g }
theorem ints_atY {ns : List Int} {i : Nat} {x : V} (h : (ns.map V.int)[i]? = some x) : ∃ y, ns[i]? = some y ∧ x = .int y := by
  rw [List.getElem?_map] at h
  cases e : ns[i]? with
  | none => rw [e] at h; cases h
  | some y => rw [e] at h; cases h; exact ⟨y, rfl, rfl⟩
/-- the young ones in the slots of a cell -/
def kY (S : ArS) (C : List CeL) (x : Int) : List Int := match C.find? fun c => decide ((c.p : Int) = x) with
  | some c => ykL S c.ws
  | none => []
theorem kY_mem {S : ArS} {C : List CeL} (h : CelP S C) {c : CeL} (m : c ∈ C) : kY S C c.p = ykL S c.ws := by
  unfold kY
  cases e : C.find? fun d => decide ((d.p : Int) = c.p) with
  | none =>
    have := List.find?_eq_none.mp e c m
    rw [decide_eq_true_iff] at this
    exact absurd rfl this
  | some d =>
    have e2 := List.find?_some e
    rw [decide_eq_true_iff] at e2
    have := h.same_p (List.mem_of_find?_eq_some e) m (by omega)
    rw [this]
/-- words at places -/
def wAt (S : ArS) (ns : List Int) : List Int := ns.map fun u => S.ws.getD u.toNat 0
def ordY (S : ArS) (C : List CeL) (hs ns : List Int) : List Int := reachR (kY S C) (C.length + 1) (addN [] (ykL S hs ++ ykL S (wAt S ns))) 0
/-- the book is as due ahead: slots of old ones, and all that hold young ones -/
structure BkY (S : ArS) (C : List CeL) (bs : List Int) : Prop where
  s : ∀ b ∈ bs, ∃ c ∈ C, ¬ Yng S c.p ∧ ∃ j, j < c.ws.length ∧ b = ((c.p + 1 + j : Nat) : Int)
  a : ∀ c ∈ C, ¬ Yng S c.p → ∀ j, j < c.ws.length → ∀ p, placeIn (c.ws.getD j 0) = some p → Yng S p → ((c.p + 1 + j : Nat) : Int) ∈ bs
theorem ykL_snoc {S : ArS} {ws : List Int} {w : Int} : ykL S (ws ++ [w]) = ykL S ws ++ yk1 S w := by
  unfold ykL
  rw [List.flatMap_append]
  show _ ++ (yk1 S w ++ []) = _
  rw [List.append_nil]
theorem Yg.pre0 {S0 S : ArS} {C qs : List CeL} (_ : Yg S0 C qs S) : ∃ t, qs = [] ++ t := ⟨qs, rfl⟩
structure CaI (K : PySem.W.Frag) (A : ArA) (R : RoA) (S0 : ArS) (U : RoS) (C : List CeL) (hh : List Int) (r : Addr) (H2 H' : Hp) (qs : List CeL) (S : ArS) : Prop where
  I : PairO K H' A R S { U with hs := hh }
  g : Yg S0 C qs S
  hd : ∀ j, j < U.hs.length → Dn S0 qs (U.hs.getD j 0) (hh.getD j 0)
  hr : H' r = some (.lst ((rowY S0 qs).map V.int))
  k : ∀ b o, b ≠ A.l → b ≠ A.o → b ≠ A.p → b ≠ A.q → b ≠ R.hl → b ≠ r → H2 b = some o → H' b = some o
theorem CaI.step {K : PySem.W.Frag} {A : ArA} {R : RoA} {S0 : ArS} {U : RoS} {C : List CeL} {hh : List Int} {r : Addr} {H2 H' H'' : Hp} {qs qs' : List CeL} {S S' : ArS} {ys : List Int} (J : CaI K A R S0 U C hh r H2 H' qs S) (of : OffP A R r) (I' : ArO K H'' A S') (go : Go2 S0 C qs qs' S S' ys) (hr : H'' r = some (.lst ((rowY S0 qs').map V.int))) (k : ∀ b o, b ≠ A.l → b ≠ A.o → b ≠ A.p → b ≠ A.q → b ≠ r → H' b = some o → H'' b = some o) : CaI K A R S0 U C hh r H2 H'' qs' S' :=
  ⟨J.I.arR I' k J.hr of, go.g, fun j hj => (J.hd j hj).pre go.g go.x, hr, fun b o n1 n2 n3 n4 n5 n6 g => k b o n1 n2 n3 n4 n6 (J.k b o n1 n2 n3 n4 n5 n6 g)⟩
theorem CaI.same {K : PySem.W.Frag} {A : ArA} {R : RoA} {S0 : ArS} {U : RoS} {C : List CeL} {hh : List Int} {r : Addr} {H2 H' H'' : Hp} {qs : List CeL} {S : ArS} (J : CaI K A R S0 U C hh r H2 H' qs S) (s : Same H' H'') : CaI K A R S0 U C hh r H2 H'' qs S :=
  ⟨J.I.same s, J.g, J.hd, s _ _ J.hr, fun b o n1 n2 n3 n4 n5 n6 g => s _ _ (J.k b o n1 n2 n3 n4 n5 n6 g)⟩
theorem CaI.base {K : PySem.W.Frag} {A : ArA} {R : RoA} {S0 : ArS} {U : RoS} {C : List CeL} {hh : List Int} {r : Addr} {H2 Hb H' : Hp} {qs qb : List CeL} {S Sb : ArS} (J : CaI K A R S0 U C hh r H2 Hb qb Sb) (J' : CaI K A R S0 U C hh r Hb H' qs S) : CaI K A R S0 U C hh r H2 H' qs S :=
  { J' with k := fun b o n1 n2 n3 n4 n5 n6 g => J'.k b o n1 n2 n3 n4 n5 n6 (J.k b o n1 n2 n3 n4 n5 n6 g) }
theorem headAt_of {s a : Nat} (hs : s ≤ 8) (ha : a ≤ 2) : headAt (2 * ((4 * s + a : Nat) : Int)) = some (4 * s + a) := by
  unfold headAt
  rw [word_num (by omega)]
  dsimp only
  rw [if_pos (by omega), Int.toNat_natCast]
theorem fwA_app {S : ArS} {s : List CeL} : ∀ {r pre : List CeL}, fwA S pre (r ++ s) = fwA S pre r ++ fwA S (pre ++ r) s
  | [], pre => by rw [List.append_nil]; rfl
  | a :: r, pre => by
    show _ :: fwA S (pre ++ [a]) (r ++ s) = _ :: (fwA S (pre ++ [a]) r ++ _)
    rw [fwA_app, List.append_assoc]
    rfl
theorem fwY_len {S : ArS} {qs : List CeL} : (fwY S qs).length = qs.length := by
  have h := congrArg List.length (fwY_fst (S := S) (qs := qs))
  rwa [List.length_map] at h
theorem fw_pre {S : ArS} {qs qs' : List CeL} (h : ∃ t, qs' = qs ++ t) {i : Nat} (hi : i < qs.length) : (fwY S qs')[i]? = (fwY S qs)[i]? := by
  obtain ⟨t, rfl⟩ := h
  unfold fwY
  rw [fwA_app, List.getElem?_append_left]
  have := fwY_len (S := S) (qs := qs)
  unfold fwY at this
  omega
theorem fw_at {S : ArS} {qs : List CeL} {i : Nat} {x : CeL × Nat} (h : (fwY S qs)[i]? = some x) : qs[i]? = some x.1 ∧ (rowY S qs)[i]? = some (x.2 : Int) := by
  refine ⟨?_, ?_⟩
  · rw [← fwY_fst (S := S) (qs := qs), List.getElem?_map, h]
    rfl
  · unfold rowY
    rw [List.getElem?_map, h]
    rfl
def sp_carry_all (K : PySem.W.Frag) : Sp := fun vs H Q _ => ∃ A R S0 U C, vs = [.ref A.a, .ref R.r] ∧ PairO K H A R S0 U ∧ Y0 S0 C ∧ BkY S0 C U.bs ∧ U.bs.length < 1000000 ∧ (∀ w ∈ U.hs, ClW C w) ∧
  ∀ qs S' H' r ns, PairO K H' A R S' { U with hs := U.hs.map (trY S0 qs) } → Yg S0 C qs S' → ns.Perm U.bs → ns.Pairwise (· ≤ ·) → qs.map (fun c => (c.p : Int)) = ordY S0 C U.hs ns → (∀ u x, SlY S0 C qs u x → Dn S0 qs x (S'.ws.getD u 0)) → (∀ w ∈ U.hs, dnY S0 qs w) → H r = none → H' r = some (.lst ((rowY S0 qs).map V.int)) → OffP A R r → (∀ b o, b ≠ A.l → b ≠ A.o → b ≠ A.p → b ≠ A.q → b ≠ R.hl → H b = some o → H' b = some o) → Q (.ref r) H'
section
variable {P : Program} {w : World} {K : PySem.W.Frag} {mg : Str → Option Value} {base : Heap}
theorem f_carry_all (T : Tx K mg) : Fn P w K mg base 10 "carry_all" ["areas", "roots"] (sp_carry_all K) := by
  have c_Hands_row := f_Hands_row (P := P) (w := w) (base := base) T
  have c_Hands_put := f_Hands_put (P := P) (w := w) (base := base) T
  have c_carried := f_carried (P := P) (w := w) (base := base) T
  have c_Book_places := f_Book_places (P := P) (w := w) (base := base) T
  have c_carry_place := f_carry_place (P := P) (w := w) (base := base) T
  have c_slot_places := f_slot_places (P := P) (w := w) (base := base) T
  refine T.mkFn 78 49 (d := d_carry_all) (N := ["areas", "roots", "row", "hand", "word", "place", "turn"]) (k := 9) rfl rfl rfl rfl rfl sc_carry_all (fun _ _ _ _ _ _ us hl => match us, hl with | [_, _], _ => rfl) (fun vs H Q E h => ?len) (fun cdv A outer s H vs Q E hr h => ⟨_,
      (pss_cons (ps_set (i := 2) sc_carry_all.nd rfl (Or.inl rfl) (pe_lst pa_nil))
        (pss_cons (ps_for (passes_of rfl) rfl (pi_enum (by rfl) (T.free 81) (pa_cons (pe_mt0 (K := K) rfl (takes_of rfl rfl rfl rfl) (pe_fldC (T.cls 164) (T.noat 167) (pv 1)) c_Hands_row (hr.mono (by decide))) pa_nil)) (pg_tup (n := 2) rfl (pgs_cons (pg_name (i := 3) sc_carry_all.nd rfl (Or.inl rfl)) (pgs_cons (pg_name (i := 4) sc_carry_all.nd rfl (Or.inl rfl)) pgs_nil))) (pss_one (ps_expr (pe_mt (K := K) rfl (takes_of rfl rfl rfl rfl) (pe_fldC (T.cls 164) (T.noat 167) (pv 1)) c_Hands_put (hr.mono (by decide)) (pa_cons (pv 3) (pa_cons (pe_fn (takes_of rfl rfl rfl rfl) c_carried (hr.mono (by decide)) (by rfl) (pa_cons (pv 0) (pa_cons (pv 2) (pa_cons (pv 4) pa_nil)))) pa_nil))))))
        (pss_cons (ps_for (passes_of rfl) rfl (pi_listK (K := K) rfl (pe_mt0 (K := K) rfl (takes_of rfl rfl rfl rfl) (pe_fldC (T.cls 164) (T.noat 168) (pv 1)) c_Book_places (hr.mono (by decide)))) (pg_name (i := 5) sc_carry_all.nd rfl (Or.inl rfl)) (pss_one (ps_expr (pe_fn (takes_of rfl rfl rfl rfl) c_carry_place (hr.mono (by decide)) (by rfl) (pa_cons (pv 0) (pa_cons (pv 2) (pa_cons (pv 5) pa_nil)))))))
        (pss_cons (ps_set (i := 6) sc_carry_all.nd rfl (Or.inl rfl) pe_int)
        (pss_cons (ps_while (passes_of rfl) (pt_cmpR op_lt (pv 6) (pe_callB (call_lenK (K := K) rfl) (by rfl) (T.free 77) PySem.boot_len (pa_cons (pv 2) pa_nil)) (nomark _)) (pss_cons (ps_for (passes_of rfl) rfl (pi_listK (K := K) rfl (pe_fn (takes_of rfl rfl rfl rfl) c_slot_places (hr.mono (by decide)) (by rfl) (pa_cons (pe_fldC (T.cls 119) (T.noat 125) (pv 0)) (pa_cons (pe_ix (ix_seqK (K := K) rfl) (pv 2) (pv 6) (fun _ _ => rfl)) pa_nil)))) (pg_name (i := 5) sc_carry_all.nd rfl (Or.inl rfl)) (pss_one (ps_expr (pe_fn (takes_of rfl rfl rfl rfl) c_carry_place (hr.mono (by decide)) (by rfl) (pa_cons (pv 0) (pa_cons (pv 2) (pa_cons (pv 5) pa_nil)))))))
        (pss_one (ps_set (i := 6) sc_carry_all.nd rfl (Or.inl rfl) (pe_op op_gAdd (pv 6) pe_int)))))
        (pss_one (ps_ret (pv 2)))))))), ?rd⟩)
  case len => first | exact len_carry_all h | (repeat (first | (obtain ⟨rfl, _⟩ := h; rfl; done) | obtain ⟨_, h⟩ := h))
  case rd =>
    obtain ⟨A, R, S0, U, C, rfl, I, P, B, hb, hw, q⟩ := h
    have sz : 1000000 ≤ sizeLine := by rw [sizeLine_eq]; omega
    walk_at "w3"
    refine ⟨by omega, fun r nr => ?_⟩
    have s1 := same_new (o := .lst []) nr
    have hr1 : upd H r (.lst []) r = some (.lst []) := upd_same
    have of := (I.offl nr).1
    have I1 := I.same s1
    generalize upd H r (.lst []) = H1 at s1 hr1 I1 ⊢
    have hz := I.ro.ho.sz
    have vw := I.ro.ho.vw
    refine ⟨_, fldIs I1.ro.ob, recv I1.ro.ho.ob, R.h, R.hx, R.hl, U.hs, rfl, I1.ro.ho, fun p2 np2 => ?_⟩
    have s2 := same_new (o := .lst (U.hs.map V.int)) np2
    have hp2 : upd H1 p2 (.lst (U.hs.map V.int)) p2 = some (.lst (U.hs.map V.int)) := upd_same
    have I2 := I1.same s2
    have hr2 := s2 _ _ hr1
    have of2 := (I1.offl np2).1
    have rp2 : p2 ≠ r := (ne_of_none hr1 np2).symm
    have np2H := none_of s1 np2
    have s12 := s1.trans s2
    have G0 := Yg.init P
    generalize upd H1 p2 (.lst (U.hs.map V.int)) = H2 at s12 hr2 hp2 I2 ⊢
    clear s2
    refine ⟨p2, _, rfl, .of hp2, for_it (walk_enum (xs := U.hs.map V.int)) (fun i σ H' => ∃ o3 o4 hh qs S, σ = [some (.ref A.a), some (.ref R.r), some (.ref r), o3, o4, none, none] ∧ PairO K H' A R S { U with hs := hh } ∧ Go2 S0 C [] qs S0 S (ykL S0 (U.hs.take i)) ∧ hh.length = U.hs.length ∧ (∀ j, j < i → j < hh.length → Dn S0 qs (U.hs.getD j 0) (hh.getD j 0)) ∧ H' r = some (.lst ((rowY S0 qs).map V.int)) ∧ (∀ b o, b ≠ A.l → b ≠ A.o → b ≠ A.p → b ≠ A.q → b ≠ R.hl → b ≠ r → H2 b = some o → H' b = some o)) ⟨_, _, U.hs, [], S0, rfl, I2, .refl G0, rfl, fun j hj _ => absurd hj (Nat.not_lt_zero j), hr2, fun b o _ _ _ _ _ _ g => g⟩ ?_ ?_ ?_⟩
    · rintro i σ H' _ ⟨o3, o4, hh, qs, S, rfl, I', -, -, -, -, k'⟩
      exact .of (k' _ _ of2.1 (ne_of hp2 I2.ar.so fun z => spv_lst z.symm) (ne_of hp2 I2.ar.sp fun z => spv_lst z.symm) (ne_of hp2 I2.ar.sq fun z => spv_lst z.symm) of2.2.1 rp2 hp2)
    · rintro i x σ H1' H' hi ⟨o3, o4, hh, qs, S, rfl, I', g', lh, dn, hr', k'⟩ ⟨T, y, z, rfl, hT, rfl, e1, e2⟩
      cases Option.some.inj e1
      obtain ⟨w0, ew, rfl⟩ := ints_atY e2
      have sT := same_new (o := .tup [.int (i : Nat), .int w0]) hT
      have IT := I'.same sT
      have hrT := sT _ _ hr'
      have mw := List.mem_of_getElem? ew
      have hi' : i < U.hs.length := (List.getElem?_eq_some_iff.mp ew).1
      have tk : U.hs.take (i + 1) = U.hs.take i ++ [w0] := by
        rw [List.take_add_one, ew]
        rfl
      have ofT : A.l ≠ r := of.1.symm
      walk_at "w3"
      refine ⟨_, .inl (.inl upd_same), rfl, ?_⟩
      walk_at "w3"
      refine ⟨_, fldIs IT.ro.ob, recv IT.ro.ho.ob, ?_⟩
      refine ⟨A, S0, S, C, qs, r, w0, w0, rfl, IT.ar, P, g'.g, hw w0 mw, .inl rfl, vw _ mw, hrT, ofT, fun qs' S' H4 w' I4 go hr4 k4 => ?_⟩
      have J4 := IT.arR I4 k4 hrT of
      have dw : (wordOf w').isSome = true := by rw [go.d.2]; exact trY_word P go.g (vw _ mw)
      refine ⟨R.h, R.hx, R.hl, hh, _, _, rfl, J4.ro.ho, .inl ⟨_, rfl⟩, .inl ⟨_, rfl⟩, ?_⟩
      rw [placeOf_int, if_pos ⟨by omega, by omega⟩, wordV_int, if_pos dw, Int.toNat_natCast]
      dsimp only
      have J5 := J4.hput (i := i) dw
      refine ⟨_, _, hh.set i w', qs', S', rfl, J5, by rw [tk, ykL_snoc]; exact g'.trans go.two, by rw [List.length_set]; exact lh, fun j hj hl => ?_, (upd_ne of.2.1).trans hr4, fun b o n1 n2 n3 n4 n5 n6 g => (upd_ne n5).trans (k4 b o n1 n2 n3 n4 n6 (sT _ _ (k' b o n1 n2 n3 n4 n5 n6 g)))⟩
      rw [getD_set (by omega)]
      split
      · rename_i e
        subst e
        rw [show U.hs.getD i 0 = w0 from by rw [List.getD_eq_getElem?_getD, ew]; rfl]
        exact go.d
      · rename_i e
        rw [List.length_set] at hl
        exact (dn j (by omega) hl).pre go.g go.x
    rintro σ H3 ⟨o3, o4, hh, qs3, S3, rfl, I3, g3, lh, dn, hr3, k3⟩
    rw [List.length_map] at dn g3
    rw [List.take_length] at g3
    have J3 : CaI K A R S0 U C hh r H2 H3 qs3 S3 := ⟨I3, g3.g, fun j hj => dn j hj (by omega), hr3, k3⟩
    clear I3 dn hr3 k3 I2
    walk_at "w3"
    refine ⟨_, fldIs J3.I.ro.ob, recv J3.I.ro.bo.ob, R.b, R.bx, U.bd, U.bs, rfl, J3.I.ro.bo, hb, fun ns p4 H4 pm so np4 s4 hp4 => ?_⟩
    have J4 := J3.same s4
    have of4 := (J3.I.offl np4).1
    have rp4 : p4 ≠ r := (ne_of_none J3.hr np4).symm
    have hl4 : ∀ b xs, H3 b = some (.lst xs) → p4 ≠ b := fun b xs g => (ne_of_none g np4).symm
    have f4 : ∀ b o, b ≠ A.l → b ≠ A.o → b ≠ A.p → b ≠ A.q → b ≠ R.hl → b ≠ r → H b = some o → H4 b = some o := fun b o n1 n2 n3 n4 n5 n6 g => s4 _ _ (J3.k b o n1 n2 n3 n4 n5 n6 (s12 _ _ g))
    clear J3
    have nb : ∀ x ∈ ns, ∃ v : Nat, x = (v : Int) ∧ ∃ w0, SlY S0 C [] v w0 ∧ S0.ws.getD v 0 = w0 := fun x mx => by
      obtain ⟨c, mc, y, j, hj, e⟩ := B.s x (pm.mem_iff.mp mx)
      exact ⟨_, e, _, .inl ⟨c, mc, y, j, hj, rfl, rfl⟩, P.cp.sl c mc j hj⟩
    refine ⟨_, rfl, ⟨_, .of hp4⟩, forW_list (xs := ns.map V.int) (fun i σ H' => ∃ o3 o4 o5 qs S, σ = [some (.ref A.a), some (.ref R.r), some (.ref r), o3, o4, o5, none] ∧ CaI K A R S0 U C hh r H4 H' qs S ∧ Go2 S0 C [] qs S0 S (ykL S0 U.hs ++ ykL S0 (wAt S0 (ns.take i))) ∧ (∀ v : Nat, (v : Int) ∈ ns.take i → ∀ x, SlY S0 C qs v x → Dn S0 qs x (S.ws.getD v 0))) ⟨_, _, _, qs3, S3, rfl, { J4 with k := fun b o _ _ _ _ _ _ g => g }, by (show Go2 _ _ _ _ _ _ (_ ++ [])); rw [List.append_nil]; exact g3, fun v m => (List.not_mem_nil m).elim⟩ ?_ ?_ ?_⟩
    · rintro i σ H' _ ⟨o3, o4, o5, qs, S, rfl, J, -, -⟩
      exact .of (J.k _ _ of4.1 (ne_of hp4 J4.I.ar.so fun z => spv_lst z.symm) (ne_of hp4 J4.I.ar.sp fun z => spv_lst z.symm) (ne_of hp4 J4.I.ar.sq fun z => spv_lst z.symm) of4.2.1 rp4 hp4)
    · rintro i x σ H5 hx ⟨o3, o4, o5, qs, S, rfl, J, g, bd⟩
      obtain ⟨y, ey, rfl⟩ := ints_atY hx
      obtain ⟨v, rfl, w0, sl0, ew⟩ := nb y (List.mem_of_getElem? ey)
      have tk : ns.take (i + 1) = ns.take i ++ [(v : Int)] := by
        rw [List.take_add_one, ey]
        rfl
      walk_at "w3"
      refine ⟨A, S0, S, C, qs, r, v, w0, rfl, J.I.ar, P, J.g, sl0.pre g.x, J.hr, of.1.symm, fun qs' S' H6 I6 go dn hr6 k6 => ?_⟩
      refine ⟨_, _, _, qs', S', rfl, J.step of I6 go hr6 k6, ?_, fun u mu x hu => ?_⟩
      · have := g.trans go
        rw [tk]
        rw [List.append_assoc, ← ew, ← ykL_snoc] at this
        unfold wAt at this ⊢
        rw [List.map_append]
        exact this
      · rw [tk] at mu
        rcases List.mem_append.mp mu with mu | mu
        · obtain ⟨v', ev, w1, sl1, -⟩ := nb _ (List.mem_of_mem_take mu)
          have : u = v' := by omega
          subst this
          have := hu.uniq P go.g (sl1.pre (go.g.pre0))
          subst this
          exact go.k u _ (sl1.pre g.x) (bd u mu _ (sl1.pre g.x))
        · have : u = v := by have := List.mem_singleton.mp mu; omega
          subst this
          have := hu.uniq P go.g (sl0.pre (go.g.pre0))
          subst this
          exact dn
    rintro σ H5 ⟨o3, o4, o5, qs5, S5, rfl, J5, g5, b5⟩
    rw [List.length_map, List.take_length] at g5 b5
    walk_at "w3"
    have cnt : ∀ {qs S}, Yg S0 C qs S → qs.length ≤ C.length := fun {qs S} G => by
      have h1 : (qs.map fun c => (c.p : Int)).Nodup := by
        rw [List.nodup_iff_pairwise_ne, List.pairwise_map]
        exact G.nd.imp fun n e => n (by omega)
      have := nd_len (U := plcC C) h1 fun x mx => by
        obtain ⟨c, mc, rfl⟩ := List.mem_map.mp mx
        exact List.mem_map.mpr ⟨c, (G.mq c mc).1, rfl⟩
      rw [List.length_map] at this
      exact Nat.le_trans this (Nat.le_of_eq (List.length_map ..))
    have c8 : ∀ c ∈ C, c.ws.length ≤ 8 := fun c mc => by
      obtain ⟨a, ha, hh⟩ := P.cp.hd c mc
      obtain ⟨-, h34, -⟩ := headAt_some hh
      omega
    refine whW (fun k σ H' => ∃ o3 o4 o5 qs S, ∃ t : Nat, σ = [some (.ref A.a), some (.ref R.r), some (.ref r), o3, o4, o5, some (.int (t : Nat))] ∧ k + t = C.length + 1 ∧ CaI K A R S0 U C hh r H4 H' qs S ∧ t ≤ qs.length ∧ reachR (kY S0 C) k (qs.map fun c => (c.p : Int)) t = ordY S0 C U.hs ns ∧ (∀ v : Nat, (v : Int) ∈ ns → ∀ x, SlY S0 C qs v x → Dn S0 qs x (S.ws.getD v 0)) ∧ (∀ i, i < t → ∀ x, (fwY S0 qs)[i]? = some x → ∀ j, j < x.1.ws.length → Dn S0 qs (x.1.ws.getD j 0) (S.ws.getD (x.2 + 1 + j) 0))) ⟨C.length + 1, _, _, _, qs5, S5, 0, rfl, rfl, J5, Nat.zero_le _, by unfold ordY; rw [g5.q]; rfl, b5, fun i hi => absurd hi (Nat.not_lt_zero i)⟩ ?_
    rintro k σ H6 ⟨o3, o4, o5, qs, S, t, rfl, kt, J, tl, er, bd, nw⟩
    have cn := cnt J.g
    walk_at "w3"
    refine r_lenL J.hr ?_
    rw [List.length_map, rowY_len]
    walk_at "w3"
    by_cases c : t < qs.length
    · rw [if_pos (by omega)]
      refine whB ?_
      walk_at "w3"
      have hx : (fwY S0 qs)[t]? = some ((fwY S0 qs)[t]'(by rw [fwY_len]; exact c)) := List.getElem?_eq_getElem _
      generalize (fwY S0 qs)[t]'(by rw [fwY_len]; exact c) = x at hx
      obtain ⟨hq, hrw⟩ := fw_at hx
      have mx := List.mem_of_getElem? hx
      have mC := (J.g.mq _ (fw_mem mx)).1
      have x8 := c8 _ mC
      obtain ⟨hn1, hn2⟩ := J.g.nx P mx
      refine ⟨_, fldIs J.I.ar.ob, ?_⟩
      refine r_ixL J.hr (by rw [List.getElem?_map, hrw]; rfl) ?_
      have hd := J.g.nh x mx
      have ehd : headAt (S.ws.getD x.2 0) = some (4 * x.1.ws.length + if agO S0 x.1.p = 0 then 1 else 2) := by
        rw [hd]
        exact headAt_of x8 (by split <;> omega)
      have e4 : (4 * x.1.ws.length + if agO S0 x.1.p = 0 then 1 else 2) / 4 = x.1.ws.length := by split <;> omega
      refine ⟨A.m, A.mx, A.l, S.ws, x.2, _, rfl, J.I.ar.me, J.I.ar.vw, by omega, ehd, fun p7 H7 np7 s7 hp7 => ?_⟩
      rw [e4] at hp7
      have J7 := J.same s7
      have of7 := (J.I.offl np7).1
      have rp7 : p7 ≠ r := (ne_of_none J.hr np7).symm
      have J7' : CaI K A R S0 U C hh r H7 H7 qs S := { J7 with k := fun b o _ _ _ _ _ _ g => g }
      refine ⟨p7, rfl, ⟨_, .of hp7⟩, forW_list (xs := ((List.range x.1.ws.length).map fun j => ((x.2 + 1 + j : Nat) : Int)).map V.int) (fun i σ H' => ∃ o5' qs' S', σ = [some (.ref A.a), some (.ref R.r), some (.ref r), o3, o4, o5', some (.int (t : Nat))] ∧ CaI K A R S0 U C hh r H7 H' qs' S' ∧ Go2 S0 C qs qs' S S' (ykL S0 (x.1.ws.take i)) ∧ (∀ j, j < i → j < x.1.ws.length → Dn S0 qs' (x.1.ws.getD j 0) (S'.ws.getD (x.2 + 1 + j) 0))) ⟨_, qs, S, rfl, J7', .refl J.g, fun j hj => absurd hj (Nat.not_lt_zero j)⟩ ?_ ?_ ?_⟩
      · rintro i σ H' _ ⟨o5', qs', S', rfl, J', -, -⟩
        exact .of (J'.k _ _ of7.1 (ne_of hp7 J7.I.ar.so fun z => spv_lst z.symm) (ne_of hp7 J7.I.ar.sp fun z => spv_lst z.symm) (ne_of hp7 J7.I.ar.sq fun z => spv_lst z.symm) of7.2.1 rp7 hp7)
      · rintro i y σ H8 hy ⟨o5', qs', S', rfl, J', g', d'⟩
        obtain ⟨z, ez, rfl⟩ := ints_atY hy
        have hi : i < x.1.ws.length := by
          have := (List.getElem?_eq_some_iff.mp ez).1
          rwa [List.length_map, List.length_range] at this
        rw [List.getElem?_map, List.getElem?_range hi] at ez
        cases ez
        have ei : x.1.ws[i]? = some (x.1.ws.getD i 0) := getD_at (d := 0) hi
        have mx' : x ∈ fwY S0 qs' := List.mem_of_getElem? ((fw_pre g'.x c).trans hx)
        have sl : SlY S0 C qs' (x.2 + 1 + i) (x.1.ws.getD i 0) := .inr ⟨x, mx', i, hi, rfl, rfl⟩
        walk_at "w3"
        refine ⟨A, S0, S', C, qs', r, x.2 + 1 + i, x.1.ws.getD i 0, rfl, J'.I.ar, P, J'.g, sl, J'.hr, of.1.symm, fun qs2 S2 H9 I9 go dn hr9 k9 => ?_⟩
        refine ⟨_, qs2, S2, rfl, J'.step of I9 go hr9 k9, ?_, fun j hj hl => ?_⟩
        · rw [List.take_add_one, ei]
          show Go2 S0 C qs qs2 S S2 (ykL S0 (x.1.ws.take i ++ [x.1.ws.getD i 0]))
          rw [ykL_snoc]
          exact g'.trans go
        · by_cases e : j = i
          · subst e
            exact dn
          · exact go.k _ _ (.inr ⟨x, mx', j, hl, rfl, rfl⟩) (d' j (by omega) hl)
      rintro σ H8 ⟨o5', qs', S', rfl, J', g', d'⟩
      rw [List.length_map, List.length_map, List.length_range] at g' d'
      rw [List.take_length] at g'
      walk_at "w3"
      obtain ⟨k, rfl⟩ : ∃ k', k = k' + 1 := ⟨k - 1, by omega⟩
      have lq : qs.length ≤ qs'.length := by
        obtain ⟨s, e⟩ := g'.x
        rw [e, List.length_append]
        omega
      refine ⟨k, by omega, _, _, _, qs', S', t + 1, rfl, by omega, (J7.base J'), by omega, ?_, fun v mv y hy => ?_, fun i hi y ey j hj => ?_⟩
      · rw [reachR_step (by rw [List.length_map]; exact c)] at er
        rw [g'.q, ← er]
        congr 2
        have : (qs.map fun c => (c.p : Int)).getD t 0 = (x.1.p : Int) := by
          rw [List.getD_eq_getElem?_getD, List.getElem?_map, hq]
          rfl
        rw [this, kY_mem P.cp mC]
      · obtain ⟨v', ev, w1, sl1, -⟩ := nb _ mv
        have : v = v' := by omega
        subst this
        have := hy.uniq P g'.g (sl1.pre (g'.g.pre0))
        subst this
        exact g'.k v _ (sl1.pre (J.g.pre0)) (bd v mv _ (sl1.pre (J.g.pre0)))
      · by_cases e : i = t
        · subst e
          rw [fw_pre g'.x c, hx] at ey
          cases ey
          exact d' j hj hj
        · rw [fw_pre g'.x (by omega)] at ey
          exact g'.k _ _ (.inr ⟨y, List.mem_of_getElem? ey, j, hj, rfl, rfl⟩) (nw i (by omega) y ey j hj)
    · rw [if_neg (by omega)]
      walk_at "w3"
      have et : t = qs.length := by omega
      subst et
      have ehh : hh = U.hs.map (trY S0 qs) := by
        refine List.ext_getElem? fun j => ?_
        rw [List.getElem?_map]
        by_cases hj : j < U.hs.length
        · have := (J.hd j hj).2
          rw [List.getD_eq_getElem?_getD, List.getD_eq_getElem?_getD, List.getElem?_eq_getElem (by omega), List.getElem?_eq_getElem hj] at this
          have this : hh[j]'(by omega) = trY S0 qs (U.hs[j]) := this
          rw [List.getElem?_eq_getElem (by omega), List.getElem?_eq_getElem hj, this]
          rfl
        · rw [List.getElem?_eq_none (by omega), List.getElem?_eq_none (by omega)]
          rfl
      have I9 := J.I
      rw [ehh] at I9
      refine q qs S H6 r ns I9 J.g pm so ?_ (fun u x hu => ?_) (fun w mw => ?_) nr J.hr of fun b o n1 n2 n3 n4 n5 g => ?_
      · rw [← er]
        exact (reachR_end (by rw [List.length_map]; exact Nat.le_refl _)).symm
      · have tn := J.g.tn hu
        rcases tn with e | d
        · rcases hu with ⟨c, mc, y, j, hj, rfl, rfl⟩ | ⟨x, mx, j, hj, rfl, rfl⟩
          · cases ep : placeIn (c.ws.getD j 0) with
            | none => exact (J.g.so c mc y j hj).stay J.g fun p z => by rw [e, ep] at z; cases z
            | some p =>
              by_cases yp : Yng S0 p
              · exact bd _ (pm.mem_iff.mpr (B.a c mc y j hj p ep yp)) _ (.inl ⟨c, mc, y, j, hj, rfl, rfl⟩)
              · exact (J.g.so c mc y j hj).stay J.g fun p' z => by rw [e, ep] at z; cases z; exact yp
          · obtain ⟨i, ei⟩ := List.getElem?_of_mem mx
            have hi := (List.getElem?_eq_some_iff.mp ei).1
            rw [fwY_len] at hi
            exact nw i hi x ei j hj
        · exact d
      · obtain ⟨j, ej⟩ := List.getElem?_of_mem mw
        have hj := (List.getElem?_eq_some_iff.mp ej).1
        have := (J.hd j hj).1
        rw [List.getD_eq_getElem?_getD, ej] at this
        exact this
      · exact J.k b o n1 n2 n3 n4 n5 (ne_of_none g nr) (f4 b o n1 n2 n3 n4 n5 (ne_of_none g nr) g)
end

local macro_rules | `(tactic| walk_at "w3") => `(tactic| try simp only [↓x_var0, ↓x_varS, ↓x_c, ↓x_op, ↓x_un, ↓x_cb, ↓x_nil, ↓x_cons, ↓x_test, ↓x_b, ↓x_ex, ↓x_and, ↓x_or, ↓x_not, ↓x_andV, ↓x_orV, ↓x_notV, ↓x_tif, ↓x_chain, ↓x_menu, ↓x_menuI, ↓x_lst, ↓x_tup, ↓x_dnew, ↓x_callW, ↓x_callN, ↓x_seq, ↓x_next, ↓x_ret, ↓x_retN, ↓x_drop, ↓x_ifS, ↓x_asg, ↓x_name, ↓x_raise, ↓x_fld, ↓x_setF, ↓x_meth, ↓x_make, ↓x_sub, ↓r_min, ↓r_max, ↓x_yes, ↓x_for, ↓x_lock, ↓x_keys, ↓x_cut, ↓x_lc, ↓x_rng1, ↓x_rng2, ↓x_lst1, ↓x_itup, ↓x_rng3, ↓x_three, ↓x_lstg, ↓x_tupg, ↓x_adrS, ↓x_one, ↓x_two, ↓x_adr, ↓x_sl, ↓x_np, ↓x_pt, ↓x_int, ↓x_bm, ↓x_bm0, ↓x_consg, ↓x_nilg, ↓x_dget2, ↓x_dget1, ↓x_dgetN, ↓x_dget, ↓x_din, ↓x_dni, ↓x_dput, ↓x_dpop2, ↓r_isB, ↓r_notB, ↓x_enum, ↓x_zip, ↓x_str, ↓x_strE, ↓r_inS, ↓r_ninS, wipe, List.map_cons, List.map_nil, ↓x_isT, ↓r_isiII, ↓r_isiBB, ↓r_isiIB, ↓r_isiSS, ↓r_neNS, ↓r_neSN, ↓r_neNN, ↓r_eqNS, ↓r_eqSN, ↓r_eqNN, ↓r_eqIS, ↓r_neIS, ↓r_neSI, ↓r_neBS, ↓r_eqBB, ↓r_neBB, ↓x_start, ↓x_K, ↓x_start0, ↓r_i0, ↓r_i, ↓r_u, ↓r_addI, ↓r_addS, ↓r_mulI, ↓r_mulS, ↓r_eqI, ↓r_neI, ↓r_eqS, ↓r_neS, ↓r_absI, ↓r_intI, ↓r_intB, List.length_cons, List.length_nil, List.replicate, List.set_cons_zero, List.set_cons_succ, decide_eq_true_eq, Bool.not_eq_true', decide_eq_false_iff_not, if_true, if_false, Bool.false_eq_true, Bool.true_eq_false, ite_true, ite_false, Bool.not_true, Bool.not_false, c_div, n_ten, c_pow, not_true_eq_false, not_false_eq_true, decide_true, decide_false, true_and, and_true, and_self, true_or, or_true, Int.reduceLT, Int.reduceLE, Int.reduceMul, Int.reduceAdd, Int.reduceSub, Int.reducePow, Int.reduceNeg, Int.reduceDiv, Int.reduceMod, Nat.reducePow, Int.reduceToNat, Int.reduceEq, Int.reduceNe, Nat.reduceLT, Nat.reduceLeDiff, Nat.reduceAdd, ↓x_whole, ↓x_kind, Int.natCast_one, Int.natCast_one, Int.natCast_one, Int.natCast_one, Int.natCast_one, Int.natCast_one, Int.natCast_one, Int.natCast_one, Int.natCast_one])
/-- where a young place's cell went; other places stay -/
def gY (S : ArS) (qs : List CeL) (p : Int) : Option Int := if (S.b S.fl : Int) ≤ p ∧ p < S.t S.fl then goG (psY S qs) p else some p
theorem gY_y {S : ArS} {qs : List CeL} {p : Int} (y : Yng S p) : gY S qs p = goG (psY S qs) p := if_pos y
theorem gY_n {S : ArS} {qs : List CeL} {p : Int} (y : ¬ Yng S p) : gY S qs p = some p := if_neg y
/-- what a young cell's place tells -/
theorem sent_y {S0 S : ArS} {C qs : List CeL} (P : Y0 S0 C) (G : Yg S0 C qs S) {c : CeL} (mc : c ∈ C) (y : Yng S0 c.p) : c.p < S.ws.length ∧ ((∃ q : Nat, q ≤ 9999 ∧ wordOf (S.ws.getD c.p 0) = some (.place q) ∧ goG (psY S0 qs) c.p = some (q : Int)) ∨ (∃ n h, wordOf (S.ws.getD c.p 0) = some (.num n) ∧ headAt (S.ws.getD c.p 0) = some h ∧ goG (psY S0 qs) c.p = none)) := by
  have hcl : c.p + c.ws.length < S.ws.length := by
    have := P.ln
    have := G.ln
    have := P.lo
    have := P.lb
    have := bb_of (S := S0)
    rcases P.side mc with ⟨-, h⟩ | ⟨-, -, h⟩ <;> omega
  refine ⟨by omega, ?_⟩
  have pz := P.sz
  have pl := P.ln
  have gl := G.ln
  by_cases sn : ∃ d ∈ qs, d.p = c.p
  · obtain ⟨d, md, ed⟩ := sn
    have := P.cp.same_p (G.mq d md).1 mc ed
    subst this
    obtain ⟨q, mf, g⟩ := G.go md
    have h1 := (G.nx P mf).2
    have h1 : q + d.ws.length < S.ws.length := h1
    have h2 := G.sn _ mf
    have h2 : S.ws.getD d.p 0 = 2 * (q : Int) + 1 := h2
    exact .inl ⟨q, by omega, by rw [h2, word_place (by omega) (by omega)], g⟩
  · have nc : ∀ d ∈ qs, d.p ≠ c.p := fun d md ed => sn ⟨d, md, ed⟩
    obtain ⟨a, ha, hh⟩ := P.cp.hd c mc
    rw [← G.un c mc nc] at hh
    obtain ⟨h34, h3, -⟩ := headAt_some hh
    refine .inr ⟨_, _, by rw [h34, word_num (by omega)], hh, goG_none fun p m e => ?_⟩
    obtain ⟨x, mx, e1, -⟩ := psY_mem (p := p.1) (q := p.2) m
    exact nc _ (fw_mem mx) (by omega)
def sp_settle_names (K : PySem.W.Frag) : Sp := fun vs H Q _ => ∃ A R S0 S U C qs, vs = [.ref A.a, .ref R.r] ∧ PairO K H A R S U ∧ Y0 S0 C ∧ Yg S0 C qs S ∧ (∀ t ∈ U.ts, flatN t = true) ∧ U.ts.length < 100000 ∧ (∀ p, .int p ∈ U.ts → Yng S0 p → ∃ c ∈ C, p = (c.p : Int)) ∧
  ∀ H', PairO K H' A R S { U with ts := U.ts.map (nmG (gY S0 qs)) } → (∀ b o, b ≠ R.wl → H b = some o → H' b = some o) → Q .non H'
def sp_settle_lasts (K : PySem.W.Frag) : Sp := fun vs H Q _ => ∃ A R S0 S U C qs, vs = [.ref A.a, .ref R.r] ∧ PairO K H A R S U ∧ Y0 S0 C ∧ Yg S0 C qs S ∧ U.ws.length < 100000 ∧ U.ss.length < 800000 ∧ (∀ p n, some (p, n) ∈ U.ws → Yng S0 p → ∃ c ∈ C, p = (c.p : Int)) ∧
  ∀ rs' H', PairO K H' A R S { U with rs := rs', ws := U.ws.map (tkG (gY S0 qs)), ss := U.ss ++ saidG (gY S0 qs) U.ws } → (∀ b o, b ≠ R.d → b ≠ R.e → H b = some o → H' b = some o) → Q .non H'
section
variable {P : Program} {w : World} {K : PySem.W.Frag} {mg : Str → Option Value} {base : Heap}
theorem f_settle_names (T : Tx K mg) : Fn P w K mg base 6 "settle_names" ["areas", "roots"] (sp_settle_names K) := by
  have c_Weak_names := f_Weak_names (P := P) (w := w) (base := base) T
  have c_Areas_area_of := f_Areas_area_of (P := P) (w := w) (base := base) T
  have c_sent_to := f_sent_to (P := P) (w := w) (base := base) T
  have c_Weak_gone := f_Weak_gone (P := P) (w := w) (base := base) T
  have c_Weak_move := f_Weak_move (P := P) (w := w) (base := base) T
  refine T.mkFn 79 50 (d := d_settle_names) (N := ["areas", "roots", "name", "at", "goal"]) (k := 5) rfl rfl rfl rfl rfl sc_settle_names (fun _ _ _ _ _ _ us hl => match us, hl with | [_, _], _ => rfl) (fun vs H Q E h => ?len) (fun cdv A outer s H vs Q E hr h => ⟨_,
      (pss_one (ps_for (passes_of rfl) rfl (pi_listK (K := K) rfl (pe_mt0 (K := K) rfl (takes_of rfl rfl rfl rfl) (pe_fldC (T.cls 164) (T.noat 169) (pv 1)) c_Weak_names (hr.mono (by decide)))) (pg_tup (n := 2) rfl (pgs_cons (pg_name (i := 2) sc_settle_names.nd rfl (Or.inl rfl)) (pgs_cons (pg_name (i := 3) sc_settle_names.nd rfl (Or.inl rfl)) pgs_nil))) (pss_one (ps_if (pt_cmpR (op_eqK (K := K) rfl hr.units) (pe_mt (K := K) rfl (takes_of rfl rfl rfl rfl) (pv 0) c_Areas_area_of (hr.mono (by decide)) (pa_cons (pv 3) pa_nil)) pe_str (nomark _)) (pss_cons (ps_set (i := 4) sc_settle_names.nd rfl (Or.inl rfl) (pe_fn (takes_of rfl rfl rfl rfl) c_sent_to (hr.mono (by decide)) (by rfl) (pa_cons (pe_fldC (T.cls 119) (T.noat 125) (pv 0)) (pa_cons (pv 3) pa_nil))))
        (pss_one (ps_if (pt_cmpR op_isN (pv 4) pe_non (nomark _)) (pss_one (ps_expr (pe_mt (K := K) rfl (takes_of rfl rfl rfl rfl) (pe_fldC (T.cls 164) (T.noat 169) (pv 1)) c_Weak_gone (hr.mono (by decide)) (pa_cons (pv 2) pa_nil)))) (pss_one (ps_expr (pe_mt (K := K) rfl (takes_of rfl rfl rfl rfl) (pe_fldC (T.cls 164) (T.noat 169) (pv 1)) c_Weak_move (hr.mono (by decide)) (pa_cons (pv 2) (pa_cons (pv 4) pa_nil)))))))) pss_nil)))), ?rd⟩)
  case len => first | exact len_settle_names h | (repeat (first | (obtain ⟨rfl, _⟩ := h; rfl; done) | obtain ⟨_, h⟩ := h))
  case rd =>
    obtain ⟨A, R, S0, S, U, C, qs, rfl, I, P, G, fl, tl, hn, q⟩ := h
    have sz : 10000000 ≤ sizeLine := by rw [sizeLine_eq]; omega
    have ylo := (G.stk P).2
    rw [← G.n] at ylo
    have ay := fun p => areaY (S := S) (p := p) ylo
    have iln := I.ar.ln
    walk_at "w3"
    refine ⟨_, fldIs I.ro.ob, recv I.ro.wo.ob, R.w, R.wx, R.wl, U.ts, rfl, I.ro.wo, by omega, fl, fun p rs H3 np s3 hp3 ta => ?_⟩
    have I3 := I.same s3
    have pn : p ≠ R.wl := (ne_of_none I.ro.wo.ls np).symm
    have tpk : ∀ {tp xs}, H3 tp = some (.tup xs) → tp ≠ R.wl := fun g => ne_of g I3.ro.wo.ls (by intro z; cases z)
    walk_at "w3"
    refine ⟨⟨_, .of hp3⟩, forW_list (xs := rs) (fun i σ H' => ∃ o3 o4 o5 m, σ = [some (.ref A.a), some (.ref R.r), o3, o4, o5] ∧ m ≤ U.ts.length ∧ (pairsOf 0 U.ts).drop i = pairsOf m (U.ts.drop m) ∧ PairO K H' A R S { U with ts := mapT (nmG (gY S0 qs)) U.ts m } ∧ ∀ b o, b ≠ R.wl → H3 b = some o → H' b = some o) ⟨_, _, _, 0, rfl, Nat.zero_le _, rfl, I3, fun b o _ g => g⟩ ?_ ?_ ?_⟩
    · rintro i σ H' _ ⟨o3, o4, o5, m, rfl, -, -, -, k'⟩
      exact .of (k' _ _ pn hp3)
    · rintro i x σ H' hx ⟨o3, o4, o5, m, rfl, hm, ed, I', k'⟩
      obtain ⟨tp, xs, rfl, htp, ex⟩ := tups_get ta hx
      rw [List.drop_eq_getElem_cons (List.getElem?_eq_some_iff.mp ex).1, (List.getElem?_eq_some_iff.mp ex).2] at ed
      obtain ⟨a, pl, ma, al, rfl, ea, er, em⟩ := pairs_step (g := gY S0 qs) fl (Nat.le_refl _) ed.symm
      have htp' := k' _ _ (tpk htp) htp
      have gm : (mapT (nmG (gY S0 qs)) U.ts m).getD a .non = .int pl := by rw [List.getD_eq_getElem?_getD, mapT_get ma, ea]; rfl
      have lm : (mapT (nmG (gY S0 qs)) U.ts m).length = U.ts.length := mapT_len
      have es := mapT_set (f := nmG (gY S0 qs)) ea
      rw [em] at es
      walk_at "w3"
      refine ⟨_, .inl (.inl htp'), rfl, ?_⟩
      walk_at "w3"
      refine ⟨recv I'.ar.ob, A, S, pl, rfl, I'.ar, ?_⟩
      by_cases y : Yng S0 pl
      · rw [(ay pl).1 (G.yng.mpr y)]
        walk_at "w3"
        obtain ⟨c, mc, rfl⟩ := hn pl (List.mem_of_getElem? ea) y
        obtain ⟨hcl, hs⟩ := sent_y P G mc y
        refine ⟨_, fldIs I'.ar.ob, A.m, A.mx, A.l, S.ws, _, rfl, I'.ar.me, I'.ar.vw, .inl ⟨_, rfl⟩, ?_⟩
        rw [placeOf_int, if_pos (by omega), Int.toNat_natCast]
        dsimp only
        rcases hs with ⟨q', hq', hw, hg⟩ | ⟨n, h, hw, hh, hg⟩
        · rw [hw]
          dsimp only
          walk_at "w3"
          refine ⟨_, fldIs I'.ro.ob, recv I'.ro.wo.ob, R.w, R.wx, R.wl, _, _, _, rfl, I'.ro.wo, .inl ⟨_, rfl⟩, .inl ⟨_, rfl⟩, ?_⟩
          dsimp only
          rw [placeOf_int, lm, if_pos ⟨by omega, by omega⟩, Int.toNat_natCast]
          dsimp only
          rw [gm, if_neg (by intro z; cases z), placeW_int, if_pos ⟨by omega, by omega⟩]
          have J := I'.wkput (us := (mapT (nmG (gY S0 qs)) U.ts m).set a (nmG (gY S0 qs) (.int (c.p : Int))))
          have e8 : nmG (gY S0 qs) (.int (c.p : Int)) = .int (q' : Int) := by
            show (match gY S0 qs c.p with | some q => V.int q | none => .non) = _
            rw [gY_y y, hg]
          rw [es] at J
          rw [e8] at es
          dsimp only
          rw [es]
          exact ⟨_, _, _, a + 1, rfl, al, er, J, fun b o n g => (upd_ne n).trans (k' b o n g)⟩
        · rw [hw]
          dsimp only
          rw [hh]
          dsimp only
          walk_at "w3"
          refine ⟨_, fldIs I'.ro.ob, recv I'.ro.wo.ob, R.w, R.wx, R.wl, _, _, rfl, I'.ro.wo, .inl ⟨_, rfl⟩, ?_⟩
          dsimp only
          rw [placeOf_int, lm, if_pos ⟨by omega, by omega⟩, Int.toNat_natCast]
          dsimp only
          rw [gm, if_neg (by intro z; cases z)]
          have J := I'.wkput (us := (mapT (nmG (gY S0 qs)) U.ts m).set a (nmG (gY S0 qs) (.int (c.p : Int))))
          have e8 : nmG (gY S0 qs) (.int (c.p : Int)) = .non := by
            show (match gY S0 qs c.p with | some q => V.int q | none => .non) = _
            rw [gY_y y, hg]
          rw [es] at J
          rw [e8] at es
          rw [es]
          exact ⟨_, _, _, a + 1, rfl, al, er, J, fun b o n g => (upd_ne n).trans (k' b o n g)⟩
      · have e8 : nmG (gY S0 qs) (.int pl) = .int pl := by
          show (match gY S0 qs pl with | some q => V.int q | none => .non) = _
          rw [gY_n y]
        have e9 := mapT_skip (f := nmG (gY S0 qs)) ea e8
        rcases (ay pl).2 (fun z => y (G.yng.mp z)) with e2 | e2
        all_goals
          rw [e2]
          walk_at "w3"
          refine ⟨_, _, _, a + 1, rfl, al, er, ?_, k'⟩
          rw [e9, em]
          exact I'
    rintro σ H4 ⟨o3', o4, o5, m, rfl, hm, ed, I4, k4⟩
    have tlen := ta.len
    rw [tlen, List.drop_length] at ed
    rw [pairs_end (g := gY S0 qs) fl (Nat.le_refl _) ed.symm] at I4
    walk_at "w3"
    exact q H4 I4 fun b o n g => k4 b o n (s3 _ _ g)
theorem f_settle_lasts (T : Tx K mg) : Fn P w K mg base 6 "settle_lasts" ["areas", "roots"] (sp_settle_lasts K) := by
  have c_Lasts_pending := f_Lasts_pending (P := P) (w := w) (base := base) T
  have c_Areas_area_of := f_Areas_area_of (P := P) (w := w) (base := base) T
  have c_sent_to := f_sent_to (P := P) (w := w) (base := base) T
  have c_Lasts_say := f_Lasts_say (P := P) (w := w) (base := base) T
  have c_Lasts_move := f_Lasts_move (P := P) (w := w) (base := base) T
  refine T.mkFn 80 51 (d := d_settle_lasts) (N := ["areas", "roots", "ticket", "at", "number", "goal"]) (k := 5) rfl rfl rfl rfl rfl sc_settle_lasts (fun _ _ _ _ _ _ us hl => match us, hl with | [_, _], _ => rfl) (fun vs H Q E h => ?len) (fun cdv A outer s H vs Q E hr h => ⟨_,
      (pss_one (ps_for (passes_of rfl) rfl (pi_listK (K := K) rfl (pe_mt0 (K := K) rfl (takes_of rfl rfl rfl rfl) (pe_fldC (T.cls 164) (T.noat 170) (pv 1)) c_Lasts_pending (hr.mono (by decide)))) (pg_tup (n := 3) rfl (pgs_cons (pg_name (i := 2) sc_settle_lasts.nd rfl (Or.inl rfl)) (pgs_cons (pg_name (i := 3) sc_settle_lasts.nd rfl (Or.inl rfl)) (pgs_cons (pg_name (i := 4) sc_settle_lasts.nd rfl (Or.inl rfl)) pgs_nil)))) (pss_one (ps_if (pt_cmpR (op_eqK (K := K) rfl hr.units) (pe_mt (K := K) rfl (takes_of rfl rfl rfl rfl) (pv 0) c_Areas_area_of (hr.mono (by decide)) (pa_cons (pv 3) pa_nil)) pe_str (nomark _)) (pss_cons (ps_set (i := 5) sc_settle_lasts.nd rfl (Or.inl rfl) (pe_fn (takes_of rfl rfl rfl rfl) c_sent_to (hr.mono (by decide)) (by rfl) (pa_cons (pe_fldC (T.cls 119) (T.noat 125) (pv 0)) (pa_cons (pv 3) pa_nil))))
        (pss_one (ps_if (pt_cmpR op_isN (pv 5) pe_non (nomark _)) (pss_one (ps_expr (pe_mt (K := K) rfl (takes_of rfl rfl rfl rfl) (pe_fldC (T.cls 164) (T.noat 170) (pv 1)) c_Lasts_say (hr.mono (by decide)) (pa_cons (pv 2) pa_nil)))) (pss_one (ps_expr (pe_mt (K := K) rfl (takes_of rfl rfl rfl rfl) (pe_fldC (T.cls 164) (T.noat 170) (pv 1)) c_Lasts_move (hr.mono (by decide)) (pa_cons (pv 2) (pa_cons (pv 5) pa_nil)))))))) pss_nil)))), ?rd⟩)
  case len => first | exact len_settle_lasts h | (repeat (first | (obtain ⟨rfl, _⟩ := h; rfl; done) | obtain ⟨_, h⟩ := h))
  case rd =>
    obtain ⟨A, R, S0, S, U, C, qs, rfl, I, P, G, wl, sl, hn, q⟩ := h
    have sz : 10000000 ≤ sizeLine := by rw [sizeLine_eq]; omega
    have ylo := (G.stk P).2
    rw [← G.n] at ylo
    have ay := fun p => areaY (S := S) (p := p) ylo
    have iln := I.ar.ln
    walk_at "w3"
    refine ⟨_, fldIs I.ro.ob, recv I.ro.lo.ob, R.la, R.lax, R.d, R.e, _, U.ws, U.ss, rfl, I.ro.lo, by omega, fun p rs H5 np s5 hp5 ta => ?_⟩
    have I5 := I.same s5
    have pn : p ≠ R.d ∧ p ≠ R.e := ⟨(ne_of_none I.ro.lo.wa np).symm, (ne_of_none I.ro.lo.sk np).symm⟩
    have tpk : ∀ {tp xs}, H5 tp = some (.tup xs) → tp ≠ R.d ∧ tp ≠ R.e := fun g => ⟨ne_of g I5.ro.lo.wa (by intro z; cases z), ne_of g I5.ro.lo.sk (by intro z; cases z)⟩
    walk_at "w3"
    refine ⟨⟨_, .of hp5⟩, forW_list (xs := rs) (fun i σ H' => ∃ o5 o6 o7 o8 m rs', σ = [some (.ref A.a), some (.ref R.r), o5, o6, o7, o8] ∧ m ≤ U.ws.length ∧ (pendOf 0 U.ws).drop i = pendOf m (U.ws.drop m) ∧ PairO K H' A R S { U with rs := rs', ws := mapT (tkG (gY S0 qs)) U.ws m, ss := U.ss ++ saidG (gY S0 qs) (U.ws.take m) } ∧ ∀ b o, b ≠ R.d → b ≠ R.e → H5 b = some o → H' b = some o) ⟨_, _, _, _, 0, _, rfl, Nat.zero_le _, rfl, (by rw [show U.ss ++ saidG (gY S0 qs) (U.ws.take 0) = U.ss from List.append_nil _]; exact I5), fun b o _ _ g => g⟩ ?_ ?_ ?_⟩
    · rintro i σ H' _ ⟨o5, o6, o7, o8, m, rs', rfl, -, -, -, k'⟩
      exact .of (k' _ _ pn.1 pn.2 hp5)
    · rintro i x σ H' hx ⟨o5, o6, o7, o8, m, rs', rfl, hm, ed, I', k'⟩
      obtain ⟨tp, xs, rfl, htp, ex⟩ := tups_get ta hx
      rw [List.drop_eq_getElem_cons (List.getElem?_eq_some_iff.mp ex).1, (List.getElem?_eq_some_iff.mp ex).2] at ed
      obtain ⟨a, pl, nb, ma, al, rfl, ea, er, em, es2⟩ := pend_step (g := gY S0 qs) (Nat.le_refl _) ed.symm
      have htp' := k' _ _ (tpk htp).1 (tpk htp).2 htp
      have lm : (mapT (tkG (gY S0 qs)) U.ws m).length = U.ws.length := mapT_len
      have es := mapT_set (f := tkG (gY S0 qs)) ea
      rw [em] at es
      have et : tickOf (mapT (tkG (gY S0 qs)) U.ws m) (.int (a : Int)) = some (a, pl, nb) := by
        unfold tickOf
        rw [placeOf_int, lm, if_pos ⟨by omega, by omega⟩, Int.toNat_natCast]
        dsimp only
        rw [List.getD_eq_getElem?_getD, mapT_get ma, ea]
        rfl
      have e7 : saidG (gY S0 qs) (U.ws.take (a + 1)) = saidG (gY S0 qs) (U.ws.take m) ++ sdG (gY S0 qs) (some (pl, nb)) := by rw [saidG_snoc ea, es2]
      have sl2 := said_len (g := gY S0 qs) (ws := U.ws.take m)
      have sl3 : (U.ws.take m).length ≤ U.ws.length := by rw [List.length_take]; omega
      walk_at "w3"
      refine ⟨_, .inl (.inl htp'), rfl, ?_⟩
      walk_at "w3"
      refine ⟨recv I'.ar.ob, A, S, pl, rfl, I'.ar, ?_⟩
      by_cases y : Yng S0 pl
      · rw [(ay pl).1 (G.yng.mpr y)]
        walk_at "w3"
        obtain ⟨c, mc, rfl⟩ := hn pl nb (List.mem_of_getElem? ea) y
        obtain ⟨hcl, hs⟩ := sent_y P G mc y
        refine ⟨_, fldIs I'.ar.ob, A.m, A.mx, A.l, S.ws, _, rfl, I'.ar.me, I'.ar.vw, .inl ⟨_, rfl⟩, ?_⟩
        rw [placeOf_int, if_pos (by omega), Int.toNat_natCast]
        dsimp only
        rcases hs with ⟨q', hq', hw, hg⟩ | ⟨n, h, hw, hh, hg⟩
        · rw [hw]
          dsimp only
          walk_at "w3"
          refine ⟨_, fldIs I'.ro.ob, recv I'.ro.lo.ob, R.la, R.lax, R.d, R.e, _, _, _, _, _, rfl, I'.ro.lo, .inl ⟨_, rfl⟩, .inl ⟨_, rfl⟩, ?_⟩
          dsimp only
          rw [et, placeW_int, if_pos ⟨by omega, by omega⟩]
          intro H6 rs6 L6 k6
          have e8 : tkG (gY S0 qs) (some ((c.p : Int), nb)) = some ((q' : Int), nb) := by show (gY S0 qs c.p).map _ = _; rw [gY_y y, hg]; rfl
          have e9 : sdG (gY S0 qs) (some ((c.p : Int), nb)) = [] := by show (if (gY S0 qs c.p).isSome then [] else [nb]) = _; rw [gY_y y, hg]; rfl
          rw [e8] at es
          rw [e9, List.append_nil] at e7
          rw [es, ← e7] at L6
          exact ⟨_, _, _, _, a + 1, rs6, rfl, al, er, I'.lsput L6 fun c o n1 _ g => k6 c o n1 g, fun b o n1 n2 g => k6 b o n1 (k' b o n1 n2 g)⟩
        · rw [hw]
          dsimp only
          rw [hh]
          dsimp only
          walk_at "w3"
          refine ⟨_, fldIs I'.ro.ob, recv I'.ro.lo.ob, R.la, R.lax, R.d, R.e, _, _, _, _, rfl, I'.ro.lo, by show (U.ss ++ saidG _ _).length < _; rw [List.length_append]; omega, .inl ⟨_, rfl⟩, ?_⟩
          dsimp only
          rw [et]
          intro H6 rs6 L6 k6
          have e8 : tkG (gY S0 qs) (some ((c.p : Int), nb)) = none := by show (gY S0 qs c.p).map _ = none; rw [gY_y y, hg]; rfl
          have e9 : sdG (gY S0 qs) (some ((c.p : Int), nb)) = [nb] := by show (if (gY S0 qs c.p).isSome then [] else [nb]) = _; rw [gY_y y, hg]; rfl
          rw [e8] at es
          rw [e9] at e7
          rw [es, List.append_assoc, ← e7] at L6
          exact ⟨_, _, _, _, a + 1, rs6, rfl, al, er, I'.lsput L6 k6, fun b o n1 n2 g => k6 b o n1 n2 (k' b o n1 n2 g)⟩
      · have e8 : tkG (gY S0 qs) (some (pl, nb)) = some (pl, nb) := by show (gY S0 qs pl).map _ = _; rw [gY_n y]; rfl
        have e9 : sdG (gY S0 qs) (some (pl, nb)) = [] := by show (if (gY S0 qs pl).isSome then [] else [nb]) = _; rw [gY_n y]; rfl
        have e10 := mapT_skip (f := tkG (gY S0 qs)) ea e8
        rw [e9, List.append_nil] at e7
        rcases (ay pl).2 (fun z => y (G.yng.mp z)) with e2 | e2
        all_goals
          rw [e2]
          walk_at "w3"
          refine ⟨_, _, _, _, a + 1, rs', rfl, al, er, ?_, k'⟩
          rw [e10, em, e7]
          exact I'
    rintro σ H7 ⟨o5, o6, o7, o8, m', rs', rfl, hm', ed', I7, k7⟩
    have tlen := ta.len
    rw [tlen, List.drop_length] at ed'
    obtain ⟨e1, e2⟩ := pend_end (g := gY S0 qs) (Nat.le_refl _) ed'.symm
    rw [e1, e2] at I7
    walk_at "w3"
    exact q rs' H7 I7 fun b o n1 n2 g => k7 b o n1 n2 (s5 _ _ g)
end

local macro_rules | `(tactic| walk_at "w3") => `(tactic| try simp only [↓x_var0, ↓x_varS, ↓x_c, ↓x_op, ↓x_un, ↓x_cb, ↓x_nil, ↓x_cons, ↓x_test, ↓x_b, ↓x_ex, ↓x_and, ↓x_or, ↓x_not, ↓x_andV, ↓x_orV, ↓x_notV, ↓x_tif, ↓x_chain, ↓x_menu, ↓x_menuI, ↓x_lst, ↓x_tup, ↓x_dnew, ↓x_callW, ↓x_callN, ↓x_seq, ↓x_next, ↓x_ret, ↓x_retN, ↓x_drop, ↓x_ifS, ↓x_asg, ↓x_name, ↓x_raise, ↓x_fld, ↓x_setF, ↓x_meth, ↓x_make, ↓x_sub, ↓r_min, ↓r_max, ↓x_yes, ↓x_for, ↓x_lock, ↓x_keys, ↓x_cut, ↓x_lc, ↓x_rng1, ↓x_rng2, ↓x_lst1, ↓x_itup, ↓x_rng3, ↓x_three, ↓x_lstg, ↓x_tupg, ↓x_adrS, ↓x_one, ↓x_two, ↓x_adr, ↓x_sl, ↓x_np, ↓x_pt, ↓x_int, ↓x_bm, ↓x_bm0, ↓x_consg, ↓x_nilg, ↓x_dget2, ↓x_dget1, ↓x_dgetN, ↓x_dget, ↓x_din, ↓x_dni, ↓x_dput, ↓x_dpop2, ↓r_isB, ↓r_notB, ↓x_enum, ↓x_zip, ↓x_str, ↓x_strE, ↓r_inS, ↓r_ninS, wipe, List.map_cons, List.map_nil, ↓x_isT, ↓r_isiII, ↓r_isiBB, ↓r_isiIB, ↓r_isiSS, ↓r_neNS, ↓r_neSN, ↓r_neNN, ↓r_eqNS, ↓r_eqSN, ↓r_eqNN, ↓r_eqIS, ↓r_neIS, ↓r_neSI, ↓r_neBS, ↓r_eqBB, ↓r_neBB, ↓x_start, ↓x_K, ↓x_start0, ↓r_i0, ↓r_i, ↓r_u, ↓r_addI, ↓r_addS, ↓r_mulI, ↓r_mulS, ↓r_eqI, ↓r_neI, ↓r_eqS, ↓r_neS, ↓r_absI, ↓r_intI, ↓r_intB, List.length_cons, List.length_nil, List.replicate, List.set_cons_zero, List.set_cons_succ, decide_eq_true_eq, Bool.not_eq_true', decide_eq_false_iff_not, if_true, if_false, Bool.false_eq_true, Bool.true_eq_false, ite_true, ite_false, Bool.not_true, Bool.not_false, c_div, n_ten, c_pow, not_true_eq_false, not_false_eq_true, decide_true, decide_false, true_and, and_true, and_self, true_or, or_true, Int.reduceLT, Int.reduceLE, Int.reduceMul, Int.reduceAdd, Int.reduceSub, Int.reducePow, Int.reduceNeg, Int.reduceDiv, Int.reduceMod, Nat.reducePow, Int.reduceToNat, Int.reduceEq, Int.reduceNe, Nat.reduceLT, Nat.reduceLeDiff, Nat.reduceAdd, ↓x_whole, ↓x_kind, Int.natCast_one, Int.natCast_one, Int.natCast_one, Int.natCast_one, Int.natCast_one, Int.natCast_one, Int.natCast_one, Int.natCast_one, Int.natCast_one, Int.natCast_one])
def noteB (S : ArS) (bs : List Int) (v : Nat) : List Int := if yk1 S (S.ws.getD v 0) = [] then delP bs v else addP bs v
theorem noteB_mem {S : ArS} {bs : List Int} {v : Nat} {m : Int} : m ∈ noteB S bs v ↔ if m = (v : Int) then yk1 S (S.ws.getD v 0) ≠ [] else m ∈ bs := by
  unfold noteB
  by_cases e : yk1 S (S.ws.getD v 0) = []
  · rw [if_pos e, mem_delP]
    by_cases f : m = (v : Int)
    · rw [if_pos f]
      exact ⟨fun z => absurd f z.2, fun z => absurd e z⟩
    · rw [if_neg f]
      exact ⟨fun z => z.1, fun z => ⟨z, f⟩⟩
  · rw [if_neg e, mem_addP]
    by_cases f : m = (v : Int)
    · rw [if_pos f]
      exact ⟨fun _ => e, fun _ => .inr f⟩
    · rw [if_neg f]
      exact ⟨fun z => z.elim id fun z => absurd z f, fun z => .inl z⟩
theorem noteB_len {S : ArS} {bs : List Int} {v : Nat} : (noteB S bs v).length ≤ bs.length + 1 := by
  unfold noteB
  split
  · exact Nat.le_trans len_delP (Nat.le_succ _)
  · exact len_addP
/-- notes, one place after the other -/
def notes (S : ArS) (bs : List Int) (vs : List Nat) : List Int := vs.foldl (noteB S) bs
theorem notes_snoc {S : ArS} {bs : List Int} {vs : List Nat} {v : Nat} : notes S bs (vs ++ [v]) = noteB S (notes S bs vs) v := by
  unfold notes
  rw [List.foldl_append]
  rfl
theorem notes_app {S : ArS} {bs : List Int} {vs us : List Nat} : notes S bs (vs ++ us) = notes S (notes S bs vs) us := List.foldl_append ..
theorem notes_len {S : ArS} : ∀ {vs : List Nat} {bs : List Int}, (notes S bs vs).length ≤ bs.length + vs.length
  | [], _ => Nat.le_refl _
  | v :: r, bs => by
    have h1 := notes_len (S := S) (vs := r) (bs := noteB S bs v)
    have h2 := noteB_len (S := S) (bs := bs) (v := v)
    show (notes S (noteB S bs v) r).length ≤ bs.length + (r.length + 1)
    omega
theorem notes_mem {S : ArS} {m : Int} : ∀ {vs : List Nat} {bs : List Int}, m ∈ notes S bs vs ↔ if ∃ v ∈ vs, m = (v : Int) then yk1 S (S.ws.getD m.toNat 0) ≠ [] else m ∈ bs
  | [], bs => by
    rw [if_neg (by rintro ⟨v, mv, -⟩; exact (List.not_mem_nil mv).elim)]
    exact Iff.rfl
  | v :: r, bs => by
    show m ∈ notes S (noteB S bs v) r ↔ _
    rw [notes_mem, noteB_mem]
    by_cases f : ∃ u ∈ r, m = (u : Int)
    · rw [if_pos f, if_pos]
      obtain ⟨u, mu, e⟩ := f
      exact ⟨u, List.mem_cons_of_mem _ mu, e⟩
    · rw [if_neg f]
      by_cases g : m = (v : Int)
      · rw [if_pos g, if_pos ⟨v, List.mem_cons_self, g⟩, g, Int.toNat_natCast]
      · rw [if_neg g, if_neg]
        rintro ⟨u, mu, e⟩
        rcases List.mem_cons.mp mu with rfl | mu
        · exact g e
        · exact f ⟨u, mu, e⟩
def sp_note (K : PySem.W.Frag) : Sp := fun vs H Q _ => ∃ A R S U, ∃ v : Nat, vs = [.ref A.a, .ref R.r, .int v] ∧ PairO K H A R S U ∧ v < S.ws.length ∧ U.bs.length < 1000000 ∧
  ∀ H', PairO K H' A R S { U with bs := noteB S U.bs v } → (∀ b o, b ≠ U.bd → H b = some o → H' b = some o) → Q .non H'
section
variable {P : Program} {w : World} {K : PySem.W.Frag} {mg : Str → Option Value} {base : Heap}
theorem f_note (T : Tx K mg) : Fn P w K mg base 4 "note" ["areas", "roots", "place"] (sp_note K) := by
  have c_Memory_read := f_Memory_read (P := P) (w := w) (base := base) T
  have c_Areas_area_of := f_Areas_area_of (P := P) (w := w) (base := base) T
  have c_worth := f_worth (P := P) (w := w) (base := base) T
  have c_kind := f_kind (P := P) (w := w) (base := base) T
  have c_Book_write := f_Book_write (P := P) (w := w) (base := base) T
  have c_Book_rub := f_Book_rub (P := P) (w := w) (base := base) T
  refine T.mkFn 81 52 (d := d_note) (N := ["areas", "roots", "place", "word"]) (k := 3) rfl rfl rfl rfl rfl sc_note (fun _ _ _ _ _ _ us hl => match us, hl with | [_, _, _], _ => rfl) (fun vs H Q E h => ?len) (fun cdv A outer s H vs Q E hr h => ⟨_,
      (pss_cons (ps_set (i := 3) sc_note.nd rfl (Or.inl rfl) (pe_mt (K := K) rfl (takes_of rfl rfl rfl rfl) (pe_fldC (T.cls 119) (T.noat 125) (pv 0)) c_Memory_read (hr.mono (by decide)) (pa_cons (pv 2) pa_nil)))
        (pss_one (ps_if (PW.pt (pw_and (pt_cmpR (op_eqK (K := K) rfl hr.units) (pe_fn (takes_of rfl rfl rfl rfl) c_kind (hr.mono (by decide)) (by rfl) (pa_cons (pv 3) pa_nil)) pe_str (nomark _)) (pw_and1 (pt_cmpR (op_eqK (K := K) rfl hr.units) (pe_mt (K := K) rfl (takes_of rfl rfl rfl rfl) (pv 0) c_Areas_area_of (hr.mono (by decide)) (pa_cons (pe_fn (takes_of rfl rfl rfl rfl) c_worth (hr.mono (by decide)) (by rfl) (pa_cons (pv 3) pa_nil)) pa_nil)) pe_str (nomark _))))) (pss_one (ps_expr (pe_mt (K := K) rfl (takes_of rfl rfl rfl rfl) (pe_fldC (T.cls 164) (T.noat 168) (pv 1)) c_Book_write (hr.mono (by decide)) (pa_cons (pv 2) pa_nil)))) (pss_one (ps_expr (pe_mt (K := K) rfl (takes_of rfl rfl rfl rfl) (pe_fldC (T.cls 164) (T.noat 168) (pv 1)) c_Book_rub (hr.mono (by decide)) (pa_cons (pv 2) pa_nil))))))), ?rd⟩)
  case len => first | exact len_note h | (repeat (first | (obtain ⟨rfl, _⟩ := h; rfl; done) | obtain ⟨_, h⟩ := h))
  case rd =>
    obtain ⟨A, R, S, U, v, rfl, I, hv, hb, q⟩ := h
    have sz : 10000000 ≤ sizeLine := by rw [sizeLine_eq]; omega
    have iln := I.ar.ln
    have gn := I.ar.gn
    have gk := I.ar.gk
    have ay := fun p => areaY (S := S) (p := p) I.ar.lo
    obtain ⟨x, ex⟩ := I.ar.vw.get hv
    have wr : yk1 S (S.ws.getD v 0) ≠ [] → ∃ v_1, FldIs (He.ga K "Roots") "book" (.ref R.r) H v_1 ∧ Recv (He.ga K "Book") "write" v_1 H ∧ sp_Book_write K [v_1, .int v] H (fun _ H1 => Q .non H1) E := fun e => by
      refine ⟨_, fldIs I.ro.ob, recv I.ro.bo.ob, R.b, R.bx, U.bd, U.bs, _, rfl, I.ro.bo, hb, .inl ⟨_, rfl⟩, ?_⟩
      rw [placeW_int, if_pos ⟨by omega, by omega⟩]
      dsimp only
      have J := I.bput (nd_addP (i := (v : Int)) I.ro.bo.nd)
      refine q _ ?_ fun b o n g => (upd_ne n).trans g
      unfold noteB
      rw [if_neg e]
      exact J
    have rb : yk1 S (S.ws.getD v 0) = [] → ∃ v_1, FldIs (He.ga K "Roots") "book" (.ref R.r) H v_1 ∧ Recv (He.ga K "Book") "rub" v_1 H ∧ sp_Book_rub K [v_1, .int v] H (fun _ H1 => Q .non H1) E := fun e => by
      refine ⟨_, fldIs I.ro.ob, recv I.ro.bo.ob, R.b, R.bx, U.bd, U.bs, _, rfl, I.ro.bo, .inl ⟨_, rfl⟩, ?_⟩
      rw [placeW_int, if_pos ⟨by omega, by omega⟩]
      dsimp only
      have J := I.bput (nd_delP (i := (v : Int)) I.ro.bo.nd)
      have q' : ∀ H', PairO K H' A R S { U with bs := delP U.bs v } → (∀ b o, b ≠ U.bd → H b = some o → H' b = some o) → Q .non H' := fun H' J' k => q H' (by unfold noteB; rw [if_pos e]; exact J') k
      refine ⟨q' _ J fun b o n g => (upd_ne n).trans g, fun e2 => ?_⟩
      rw [e2] at q'
      exact q' _ I fun b o _ g => g
    walk_at "w3"
    refine ⟨_, fldIs I.ar.ob, recv I.ar.me.ob, A.m, A.mx, A.l, S.ws, _, rfl, I.ar.me, .inl ⟨_, rfl⟩, ?_⟩
    rw [placeOf_int, if_pos (by omega), Int.toNat_natCast]
    dsimp only
    have ep := wd_place ex
    cases x with
    | place p =>
      walk_at "w3"
      simp only [x_worth, x_kind, ex, k_pp, if_true, Wd.worth]
      refine ⟨recv I.ar.ob, A, S, p, rfl, I.ar, ?_⟩
      by_cases y : Yng S p
      · rw [(ay p).1 y]
        walk_at "w3"
        exact wr (by rw [yk1_y ep y]; intro z; cases z)
      · have := rb (yk1_n fun p' e' => by rw [ep] at e'; cases e'; exact y)
        rcases (ay p).2 y with e2 | e2
        all_goals
          rw [e2]
          walk_at "w3"
          exact this
    | _ =>
      walk_at "w3"
      simp only [x_worth, x_kind, ex, k_np, k_Np, if_false]
      exact rb (yk1_n fun p' e' => by rw [ep] at e'; cases e')
end
/-- behind the change of halves, the spare one emptied -/
def flS (S : ArS) : ArS := ({ S with fl := !S.fl } : ArS).put S.fl (S.b S.fl)
theorem flS_is {S : ArS} : (flS S).n = S.n ∧ (flS S).k = S.k ∧ (flS S).fl = !S.fl ∧ (flS S).ot = S.ot ∧ (flS S).ws = S.ws ∧ (flS S).t (!S.fl) = S.t (!S.fl) ∧ (flS S).t S.fl = S.b S.fl ∧ ∀ f, (flS S).b f = S.b f := by
  unfold flS ArS.put ArS.t ArS.b
  cases S.fl <;> simp
def grL (S : ArS) (qs : List CeL) : List (CeL × Nat) := (fwY S qs).filter fun x => !decide (agO S x.1.p = 0)
def slN (x : CeL × Nat) : List Nat := (List.range x.1.ws.length).map fun j => x.2 + 1 + j
def sp_collect_young (K : PySem.W.Frag) : Sp := fun vs H Q _ => ∃ A R S0 U C, vs = [.ref A.a, .ref R.r] ∧ PairO K H A R S0 U ∧ Y0 S0 C ∧ BkY S0 C U.bs ∧ U.bs.length < 100000 ∧ (∀ w ∈ U.hs, ClW C w) ∧ (∀ t ∈ U.ts, flatN t = true) ∧ U.ts.length < 100000 ∧ (∀ p, .int p ∈ U.ts → Yng S0 p → ∃ c ∈ C, p = (c.p : Int)) ∧ U.ws.length < 100000 ∧ U.ss.length < 800000 ∧ (∀ p n, some (p, n) ∈ U.ws → Yng S0 p → ∃ c ∈ C, p = (c.p : Int)) ∧
  ∀ qs S1 rs' bs' ns (ns2 : List Int) tp H', Yg S0 C qs S1 → PairO K H' A R (flS S1) { U with hs := U.hs.map (trY S0 qs), ts := U.ts.map (nmG (gY S0 qs)), rs := rs', ws := U.ws.map (tkG (gY S0 qs)), ss := U.ss ++ saidG (gY S0 qs) U.ws, bs := bs' } → ns.Perm U.bs → ns.Pairwise (· ≤ ·) → ns2.Perm U.bs → qs.map (fun c => (c.p : Int)) = ordY S0 C U.hs ns →
    (∀ u x, SlY S0 C qs u x → Dn S0 qs x (S1.ws.getD u 0)) → (∀ w ∈ U.hs, dnY S0 qs w) → bs' = notes (flS S1) U.bs (ns2.map Int.toNat ++ (grL S0 qs).flatMap slN) → H tp = none → H' tp = some (.tup [.int ((qs.length : Int) - ((grL S0 qs).length : Int)), .int ((grL S0 qs).length : Int)]) → (∀ b o, b ≠ A.a → b ≠ A.l → b ≠ A.o → b ≠ A.p → b ≠ A.q → b ≠ R.hl → b ≠ R.wl → b ≠ R.d → b ≠ R.e → b ≠ U.bd → H b = some o → H' b = some o) → Q (.ref tp) H'
section
variable {P : Program} {w : World} {K : PySem.W.Frag} {mg : Str → Option Value} {base : Heap}
theorem f_collect_young (T : Tx K mg) : Fn P w K mg base 11 "collect_young" ["areas", "roots"] (sp_collect_young K) := by
  have c_carry_all := f_carry_all (P := P) (w := w) (base := base) T
  have c_settle_names := f_settle_names (P := P) (w := w) (base := base) T
  have c_settle_lasts := f_settle_lasts (P := P) (w := w) (base := base) T
  have c_Areas_flip := f_Areas_flip (P := P) (w := w) (base := base) T
  have c_Space_empty := f_Space_empty (P := P) (w := w) (base := base) T
  have c_Book_places := f_Book_places (P := P) (w := w) (base := base) T
  have c_note := f_note (P := P) (w := w) (base := base) T
  have c_Areas_area_of := f_Areas_area_of (P := P) (w := w) (base := base) T
  have c_slot_places := f_slot_places (P := P) (w := w) (base := base) T
  refine T.mkFn 82 53 (d := d_collect_young) (N := ["areas", "roots", "row", "place", "grown", "at"]) (k := 10) rfl rfl rfl rfl rfl sc_collect_young (fun _ _ _ _ _ _ us hl => match us, hl with | [_, _], _ => rfl) (fun vs H Q E h => ?len) (fun cdv A outer s H vs Q E hr h => ⟨_,
      (pss_cons (ps_set (i := 2) sc_collect_young.nd rfl (Or.inl rfl) (pe_fn (takes_of rfl rfl rfl rfl) c_carry_all (hr.mono (by decide)) (by rfl) (pa_cons (pv 0) (pa_cons (pv 1) pa_nil))))
        (pss_cons (ps_expr (pe_fn (takes_of rfl rfl rfl rfl) c_settle_names (hr.mono (by decide)) (by rfl) (pa_cons (pv 0) (pa_cons (pv 1) pa_nil))))
        (pss_cons (ps_expr (pe_fn (takes_of rfl rfl rfl rfl) c_settle_lasts (hr.mono (by decide)) (by rfl) (pa_cons (pv 0) (pa_cons (pv 1) pa_nil))))
        (pss_cons (ps_expr (pe_mt0 (K := K) rfl (takes_of rfl rfl rfl rfl) (pv 0) c_Areas_flip (hr.mono (by decide))))
        (pss_cons (ps_expr (pe_mt0 (K := K) rfl (takes_of rfl rfl rfl rfl) (pe_fldC (T.cls 119) (T.noat 128) (pv 0)) c_Space_empty (hr.mono (by decide))))
        (pss_cons (ps_for (passes_of rfl) rfl (pi_listK (K := K) rfl (pe_mt0 (K := K) rfl (takes_of rfl rfl rfl rfl) (pe_fldC (T.cls 164) (T.noat 168) (pv 1)) c_Book_places (hr.mono (by decide)))) (pg_name (i := 3) sc_collect_young.nd rfl (Or.inl rfl)) (pss_one (ps_expr (pe_fn (takes_of rfl rfl rfl rfl) c_note (hr.mono (by decide)) (by rfl) (pa_cons (pv 0) (pa_cons (pv 1) (pa_cons (pv 3) pa_nil)))))))
        (pss_cons (ps_setLc (i := 4) (own := [("at", 5)]) (g := gName 5) rfl sc_collect_young.nd rfl rfl (sw_true rfl rfl rfl (by decide +kernel)) (pi_listK (K := K) rfl (pv 2)) (blkOk_by (own := [("at", 5)]) (N := ["areas", "roots", "row", "place", "grown", "at"]) (sc := defScope s_collect_young) (by decide +kernel)) (fun _ _ _ _ _ => (pg_name (i := 5) sc_collect_young.nd rfl (Or.inl rfl))) (fun _ _ _ _ _ => pts_one (pt_cmpR (op_eqK (K := K) rfl hr.units) (pe_mt (K := K) rfl takes0 (pv 0) c_Areas_area_of (hr.mono (by decide)) (pa_cons (pv 5) pa_nil)) pe_str (nomark _))) (fun _ _ _ _ _ => (pv 5)))
        (pss_cons (ps_for (passes_of rfl) rfl (pi_listK (K := K) rfl (pv 4)) (pg_name (i := 5) sc_collect_young.nd rfl (Or.inl rfl)) (pss_one (ps_for (passes_of rfl) rfl (pi_listK (K := K) rfl (pe_fn (takes_of rfl rfl rfl rfl) c_slot_places (hr.mono (by decide)) (by rfl) (pa_cons (pe_fldC (T.cls 119) (T.noat 125) (pv 0)) (pa_cons (pv 5) pa_nil)))) (pg_name (i := 3) sc_collect_young.nd rfl (Or.inl rfl)) (pss_one (ps_expr (pe_fn (takes_of rfl rfl rfl rfl) c_note (hr.mono (by decide)) (by rfl) (pa_cons (pv 0) (pa_cons (pv 1) (pa_cons (pv 3) pa_nil)))))))))
        (pss_one (ps_ret (pe_tup (pa_cons (pe_op op_sub (pe_callB (call_lenK (K := K) rfl) (by rfl) (T.free 77) PySem.boot_len (pa_cons (pv 2) pa_nil)) (pe_callB (call_lenK (K := K) rfl) (by rfl) (T.free 77) PySem.boot_len (pa_cons (pv 4) pa_nil))) (pa_cons (pe_callB (call_lenK (K := K) rfl) (by rfl) (T.free 77) PySem.boot_len (pa_cons (pv 4) pa_nil)) pa_nil))))))))))))), ?rd⟩)
  case len => first | exact len_collect_young h | (repeat (first | (obtain ⟨rfl, _⟩ := h; rfl; done) | obtain ⟨_, h⟩ := h))
  case rd =>
    obtain ⟨A, R, S0, U, C, rfl, I, P, B, hb, hw, fl, tl, hn, wl, sl, hln, q⟩ := h
    have sz : 10000000 ≤ sizeLine := by rw [sizeLine_eq]; omega
    walk_at "w3"
    refine ⟨A, R, S0, U, C, rfl, I, P, B, by omega, hw, fun qs S1 H1 r ns I1 G pm so eq dn dh nr hr of k1 => ?_⟩
    walk_at "w3"
    refine ⟨A, R, S0, S1, _, C, qs, rfl, I1, P, G, fl, tl, hn, fun H2 I2 k2 => ?_⟩
    walk_at "w3"
    refine ⟨A, R, S0, S1, _, C, qs, rfl, I2, P, G, wl, sl, hln, fun rs' H3 I3 k3 => ?_⟩
    walk_at "w3"
    obtain ⟨f1, f2, f3, f4, f5, f6, f7, f8⟩ := flS_is (S := S1)
    refine ⟨recv I3.ar.ob, A, S1, rfl, I3.ar, fun H4 I4 k4 => ?_⟩
    have J4 := I3.arS I4 fun b o n _ _ _ _ g => k4 b o n g
    have e1 : ({ S1 with fl := !S1.fl } : ArS).put (!({ S1 with fl := !S1.fl } : ArS).fl) (({ S1 with fl := !S1.fl } : ArS).b (!({ S1 with fl := !S1.fl } : ArS).fl)) = flS S1 := by
      show ({ S1 with fl := !S1.fl } : ArS).put (!(!S1.fl)) (({ S1 with fl := !S1.fl } : ArS).b (!(!S1.fl))) = _
      rw [Bool.not_not]
      rfl
    have J5 := J4.topH (f := !({ S1 with fl := !S1.fl } : ArS).fl) (Nat.le_refl _) (Nat.le_add_right _ _)
    rw [e1] at J5
    refine ⟨_, fldIs J4.ar.ob, recv (J4.ar.half (!({ S1 with fl := !S1.fl } : ArS).fl)), _, _, _, _, _, rfl, J4.ar.half (!({ S1 with fl := !S1.fl } : ArS).fl), ?_⟩
    have yq : A.y (!({ S1 with fl := !S1.fl } : ArS).fl) = A.p ∨ A.y (!({ S1 with fl := !S1.fl } : ArS).fl) = A.q := by
      unfold ArA.y
      split
      · exact .inr rfl
      · exact .inl rfl
    have rA : r ≠ A.a := ne_of hr I1.ar.ob (by intro z; cases z)
    have hr4 := k4 _ _ rA (k3 _ _ of.2.2.2.1 of.2.2.2.2 (k2 _ _ of.2.2.1 hr))
    have rS := ne_of hr4 (J4.ar.half (!({ S1 with fl := !S1.fl } : ArS).fl)) fun z => spv_lst z.symm
    have k5 : ∀ b o, b ≠ A.a → b ≠ A.l → b ≠ A.o → b ≠ A.p → b ≠ A.q → b ≠ R.hl → b ≠ R.wl → b ≠ R.d → b ≠ R.e → H b = some o → upd H4 (A.y (!({ S1 with fl := !S1.fl } : ArS).fl)) (SpV K (A.yx (!({ S1 with fl := !S1.fl } : ArS).fl)) (({ S1 with fl := !S1.fl } : ArS).b (!({ S1 with fl := !S1.fl } : ArS).fl)) (({ S1 with fl := !S1.fl } : ArS).b (!({ S1 with fl := !S1.fl } : ArS).fl) + ({ S1 with fl := !S1.fl } : ArS).k) (({ S1 with fl := !S1.fl } : ArS).b (!({ S1 with fl := !S1.fl } : ArS).fl))) b = some o := fun b o n1 n2 n3 n4 n5 n6 n7 n8 n9 g => (upd_ne (by rcases yq with h | h <;> rw [h] <;> assumption)).trans (k4 b o n1 (k3 b o n8 n9 (k2 b o n7 (k1 b o n2 n3 n4 n5 n6 g))))
    have hr5 := (upd_ne (o := SpV K (A.yx (!({ S1 with fl := !S1.fl } : ArS).fl)) (({ S1 with fl := !S1.fl } : ArS).b (!({ S1 with fl := !S1.fl } : ArS).fl)) (({ S1 with fl := !S1.fl } : ArS).b (!({ S1 with fl := !S1.fl } : ArS).fl) + ({ S1 with fl := !S1.fl } : ArS).k) (({ S1 with fl := !S1.fl } : ArS).b (!({ S1 with fl := !S1.fl } : ArS).fl))) rS).trans hr4
    generalize upd H4 (A.y (!({ S1 with fl := !S1.fl } : ArS).fl)) _ = H5 at J5 k5 hr5 ⊢
    clear J4 k4 I4 k3 I3 k2 I2 k1 I1 hr hr4 rS yq e1
    refine ⟨_, fldIs J5.ro.ob, recv J5.ro.bo.ob, R.b, R.bx, U.bd, U.bs, rfl, J5.ro.bo, by omega, fun ns2 p6 H6 pm2 so2 np6 s6 hp6 => ?_⟩
    have J6 := J5.same s6
    have hr6 := s6 _ _ hr5
    have pb : p6 ≠ U.bd := (ne_of_none J5.ro.bo.ds np6).symm
    have rb : r ≠ U.bd := ne_of hr6 J6.ro.bo.ds (by intro z; cases z)
    have gl := G.ln
    have pl := P.ln
    have nb : ∀ x ∈ ns2, ∃ v : Nat, x = (v : Int) ∧ v < (flS S1).ws.length := fun x mx => by
      obtain ⟨c, mc, y, j, hj, e⟩ := B.s x (pm2.mem_iff.mp mx)
      refine ⟨_, e, ?_⟩
      rw [f5]
      have := P.lo
      rcases P.side mc with ⟨-, h⟩ | ⟨h, -⟩
      · omega
      · exact absurd h y
    have l2 : ns2.length = U.bs.length := pm2.length_eq
    refine ⟨_, rfl, ⟨_, .of hp6⟩, forW_list (xs := ns2.map V.int) (fun i σ H' => ∃ o3, σ = [some (.ref A.a), some (.ref R.r), some (.ref r), o3, none, none] ∧ PairO K H' A R (flS S1) { U with hs := U.hs.map (trY S0 qs), ts := U.ts.map (nmG (gY S0 qs)), rs := rs', ws := U.ws.map (tkG (gY S0 qs)), ss := U.ss ++ saidG (gY S0 qs) U.ws, bs := notes (flS S1) U.bs ((ns2.take i).map Int.toNat) } ∧ ∀ b o, b ≠ U.bd → H6 b = some o → H' b = some o) ⟨_, rfl, J6, fun b o _ g => g⟩ ?_ ?_ ?_⟩
    · rintro i σ H' _ ⟨o3, rfl, -, k'⟩
      exact .of (k' _ _ pb hp6)
    · rintro i x σ H' hx ⟨o3, rfl, J', k'⟩
      obtain ⟨y, ey, rfl⟩ := ints_atY hx
      obtain ⟨v, rfl, hv⟩ := nb y (List.mem_of_getElem? ey)
      walk_at "w3"
      refine ⟨A, R, flS S1, _, v, rfl, J', hv, ?_, fun H8 J8 k8 => ⟨_, rfl, ?_, fun b o n g => k8 b o n (k' b o n g)⟩⟩
      · have h1 := notes_len (S := flS S1) (vs := (ns2.take i).map Int.toNat) (bs := U.bs)
        rw [List.length_map, List.length_take] at h1
        show (notes (flS S1) U.bs ((ns2.take i).map Int.toNat)).length < 1000000
        omega
      · have tk : (ns2.take (i + 1)).map Int.toNat = (ns2.take i).map Int.toNat ++ [v] := by
          rw [List.take_add_one, ey, List.map_append]
          rfl
        rw [tk, notes_snoc]
        exact J8
    rintro σ H7 ⟨o3, rfl, J7, k7⟩
    rw [List.length_map, List.take_length] at J7
    have hr7 := k7 _ _ rb hr6
    walk_at "w3"
    have bb := bb_of (S := S0)
    have stk := G.stk P
    have aw : ∀ x ∈ fwY S0 qs, areaW (flS S1) (x.2 : Int) = if agO S0 x.1.p = 0 then .str "young" else .str "old" := fun x mx => by
      obtain ⟨h1, h2⟩ := G.nb x mx
      by_cases e : agO S0 x.1.p = 0
      · rw [if_pos e]
        refine (areaY J7.ar.lo).1 ?_
        have := h1 e
        unfold Yng
        rw [f3, f8, f6, G.fl]
        have eb : S1.b (!S0.fl) = S0.b (!S0.fl) := by
          unfold ArS.b
          rw [G.n, G.k]
        rw [eb]
        omega
      · rw [if_neg e]
        have := h2 e
        unfold areaW
        rw [if_pos]
        rw [f4]
        omega
    have ql : qs.length ≤ 9999 := by
      have h1 := P.sum G.mq G.nd
      have h2 : qs.length ≤ sumW qs := len_sumW
      have := P.lb
      have := P.sz
      omega
    refine ⟨⟨_, .of hr7⟩, fun D nD => lc_list (xs := (rowY S0 qs).map V.int) (fun i H' => H' = upd H7 D (.lst ((((fwY S0 qs).take i).filter fun x => !decide (agO S0 x.1.p = 0)).map fun x => V.int (x.2 : Int)))) rfl (fun i Hx _ e => by rw [e]; exact .of ((upd_ne (ne_of_none hr7 nD)).trans hr7)) (fun i x Hx hx e => ?_) fun Hx e => ?_⟩
    · obtain ⟨y, ey, rfl⟩ := ints_atY hx
      subst e
      have ey := ey
      unfold rowY at ey
      rw [List.getElem?_map] at ey
      obtain ⟨z, ez, hz⟩ : ∃ z, (fwY S0 qs)[i]? = some z ∧ y = (z.2 : Int) := by
        cases e : (fwY S0 qs)[i]? with
        | none => rw [e] at ey; cases ey
        | some z => rw [e] at ey; cases ey; exact ⟨z, rfl, rfl⟩
      subst hz
      walk_at "w3"
      have Jx := (J7.same (same_new (o := .lst ((((fwY S0 qs).take i).filter fun x => !decide (agO S0 x.1.p = 0)).map fun x => V.int (x.2 : Int))) nD)).ar
      refine ⟨recv Jx.ob, A, flS S1, _, rfl, Jx, ?_⟩
      rw [aw z (List.mem_of_getElem? ez)]
      have tk : ((fwY S0 qs).take (i + 1)).filter (fun x => !decide (agO S0 x.1.p = 0)) = ((fwY S0 qs).take i).filter (fun x => !decide (agO S0 x.1.p = 0)) ++ (if agO S0 z.1.p = 0 then [] else [z]) := by
        rw [List.take_add_one, ez, List.filter_append]
        congr 1
        show List.filter _ [z] = _
        by_cases e : agO S0 z.1.p = 0
        · rw [if_pos e, List.filter_cons_of_neg (by rw [decide_eq_true e]; exact Bool.false_ne_true), List.filter_nil]
        · rw [if_neg e, List.filter_cons_of_pos (by rw [decide_eq_false e]; rfl), List.filter_nil]
      rw [tk]
      by_cases e : agO S0 z.1.p = 0
      · rw [if_pos e, if_pos e, List.append_nil]
        walk_at "w3"
        rw [if_neg (by decide +kernel)]
        trivial
      · rw [if_neg e, if_neg e]
        walk_at "w3"
        refine ⟨_, upd_same, ?_, by rw [upd_upd, List.map_append]; rfl⟩
        rw [List.length_map]
        have h1 := List.length_filter_le (fun x : CeL × Nat => !decide (agO S0 x.1.p = 0)) ((fwY S0 qs).take i)
        have h2 := (List.getElem?_eq_some_iff.mp ez).1
        rw [fwY_len] at h2
        rw [List.length_take] at h1
        omega
    rw [List.length_map, rowY_len, List.take_of_length_le (by rw [fwY_len]; exact Nat.le_refl _)] at e
    subst e
    have gD : upd H7 D (.lst (((fwY S0 qs).filter fun x => !decide (agO S0 x.1.p = 0)).map fun x => V.int (x.2 : Int))) D = some (.lst ((grL S0 qs).map fun x => V.int (x.2 : Int))) := upd_same
    have sD : Same H7 (upd H7 D (.lst (((fwY S0 qs).filter fun x => !decide (agO S0 x.1.p = 0)).map fun x => V.int (x.2 : Int)))) := same_new nD
    have J8 := J7.same sD
    have Db : D ≠ U.bd := (ne_of_none J7.ro.bo.ds nD).symm
    have hr8 := sD _ _ hr7
    generalize upd H7 D (.lst (((fwY S0 qs).filter fun x => !decide (agO S0 x.1.p = 0)).map fun x => V.int (x.2 : Int))) = H8 at gD sD J8 hr8 ⊢
    have gl8 : (grL S0 qs).length ≤ qs.length := by
      rw [← fwY_len (S := S0) (qs := qs)]
      exact List.length_filter_le _ _
    have gm : ∀ x ∈ grL S0 qs, x ∈ fwY S0 qs := fun x mx => (List.mem_filter.mp mx).1
    have x8 : ∀ x ∈ fwY S0 qs, x.1.ws.length ≤ 8 := fun x mx => by
      obtain ⟨a, ha, hh⟩ := P.cp.hd x.1 (G.mq _ (fw_mem mx)).1
      obtain ⟨-, h34, -⟩ := headAt_some hh
      omega
    have fl8 : ∀ i, (((grL S0 qs).take i).flatMap slN).length ≤ 8 * (grL S0 qs).length := fun i => by
      have : ∀ {L : List (CeL × Nat)}, (∀ x ∈ L, x.1.ws.length ≤ 8) → (L.flatMap slN).length ≤ 8 * L.length := fun {L} h => by
        induction L with
        | nil => exact Nat.le_refl _
        | cons a r ih =>
          have h1 := ih fun x mx => h x (List.mem_cons_of_mem _ mx)
          have h2 := h a List.mem_cons_self
          rw [List.flatMap_cons, List.length_append]
          show (slN a).length + _ ≤ 8 * (r.length + 1)
          have h3 : (slN a).length = a.1.ws.length := by unfold slN; rw [List.length_map, List.length_range]
          omega
      have h1 := this (L := (grL S0 qs).take i) fun x mx => x8 x (gm x (List.mem_of_mem_take mx))
      rw [List.length_take] at h1
      omega
    refine ⟨D, rfl, ⟨_, .of gD⟩, forW_list (xs := (grL S0 qs).map fun x => V.int (x.2 : Int)) (fun i σ H' => ∃ o3 o5, σ = [some (.ref A.a), some (.ref R.r), some (.ref r), o3, some (.ref D), o5] ∧ PairO K H' A R (flS S1) { U with hs := U.hs.map (trY S0 qs), ts := U.ts.map (nmG (gY S0 qs)), rs := rs', ws := U.ws.map (tkG (gY S0 qs)), ss := U.ss ++ saidG (gY S0 qs) U.ws, bs := notes (flS S1) U.bs (ns2.map Int.toNat ++ ((grL S0 qs).take i).flatMap slN) } ∧ ∀ b o, b ≠ U.bd → H8 b = some o → H' b = some o) ⟨_, _, rfl, by (show PairO K H8 A R (flS S1) { U with hs := U.hs.map (trY S0 qs), ts := U.ts.map (nmG (gY S0 qs)), rs := rs', ws := U.ws.map (tkG (gY S0 qs)), ss := U.ss ++ saidG (gY S0 qs) U.ws, bs := notes (flS S1) U.bs (ns2.map Int.toNat ++ []) }); rw [List.append_nil]; exact J8, fun b o _ g => g⟩ ?_ ?_ ?_⟩
    · rintro i σ H' _ ⟨o3, o5, rfl, -, k'⟩
      exact .of (k' _ _ Db gD)
    · rintro i x σ H' hx ⟨o3, o5, rfl, J', k'⟩
      rw [List.getElem?_map] at hx
      obtain ⟨z, ez, hz⟩ : ∃ z, (grL S0 qs)[i]? = some z ∧ x = V.int (z.2 : Int) := by
        cases e : (grL S0 qs)[i]? with
        | none => rw [e] at hx; cases hx
        | some z => rw [e] at hx; cases hx; exact ⟨z, rfl, rfl⟩
      subst hz
      have mz := gm z (List.mem_of_getElem? ez)
      have z8 := x8 z mz
      obtain ⟨-, hn2⟩ := G.nx P mz
      have ehd : headAt ((flS S1).ws.getD z.2 0) = some (4 * z.1.ws.length + if agO S0 z.1.p = 0 then 1 else 2) := by
        rw [f5, G.nh z mz]
        exact headAt_of z8 (by split <;> omega)
      have e4 : (4 * z.1.ws.length + if agO S0 z.1.p = 0 then 1 else 2) / 4 = z.1.ws.length := by split <;> omega
      walk_at "w3"
      refine ⟨_, fldIs J'.ar.ob, A.m, A.mx, A.l, (flS S1).ws, z.2, _, rfl, J'.ar.me, J'.ar.vw, by rw [f5]; omega, ehd, fun p9 H9 np9 s9 hp9 => ?_⟩
      rw [e4] at hp9
      have J9 := J'.same s9
      have pb9 : p9 ≠ U.bd := (ne_of_none J'.ro.bo.ds np9).symm
      have tk : (grL S0 qs).take (i + 1) = (grL S0 qs).take i ++ [z] := by
        rw [List.take_add_one, ez]
        rfl
      have hi := (List.getElem?_eq_some_iff.mp ez).1
      refine ⟨p9, rfl, ⟨_, .of hp9⟩, forW_list (xs := ((List.range z.1.ws.length).map fun j => ((z.2 + 1 + j : Nat) : Int)).map V.int) (fun j σ Hx => ∃ o3', σ = [some (.ref A.a), some (.ref R.r), some (.ref r), o3', some (.ref D), some (.int (z.2 : Int))] ∧ PairO K Hx A R (flS S1) { U with hs := U.hs.map (trY S0 qs), ts := U.ts.map (nmG (gY S0 qs)), rs := rs', ws := U.ws.map (tkG (gY S0 qs)), ss := U.ss ++ saidG (gY S0 qs) U.ws, bs := notes (flS S1) U.bs (ns2.map Int.toNat ++ ((grL S0 qs).take i).flatMap slN ++ (slN z).take j) } ∧ ∀ b o, b ≠ U.bd → H9 b = some o → Hx b = some o) ⟨_, rfl, by rw [List.take_zero, List.append_nil]; exact J9, fun b o _ g => g⟩ ?_ ?_ ?_⟩
      · rintro j σ Hx _ ⟨o3', rfl, -, kx⟩
        exact .of (kx _ _ pb9 hp9)
      · rintro j y σ Hx hy ⟨o3', rfl, Jx, kx⟩
        obtain ⟨u, eu, rfl⟩ := ints_atY hy
        have hj : j < z.1.ws.length := by
          have := (List.getElem?_eq_some_iff.mp eu).1
          rwa [List.length_map, List.length_range] at this
        rw [List.getElem?_map, List.getElem?_range hj] at eu
        cases eu
        have ts : (slN z).take (j + 1) = (slN z).take j ++ [z.2 + 1 + j] := by
          rw [List.take_add_one]
          congr 1
          unfold slN
          rw [List.getElem?_map, List.getElem?_range hj]
          rfl
        walk_at "w3"
        refine ⟨A, R, flS S1, _, z.2 + 1 + j, rfl, Jx, by rw [f5]; omega, ?_, fun Hy Jy ky => ⟨_, rfl, ?_, fun b o n g => ky b o n (kx b o n g)⟩⟩
        · have h1 := notes_len (S := flS S1) (vs := ns2.map Int.toNat ++ ((grL S0 qs).take i).flatMap slN ++ (slN z).take j) (bs := U.bs)
          rw [List.length_append, List.length_append, List.length_map, List.length_take] at h1
          have h2 := fl8 i
          have h3 : (slN z).length = z.1.ws.length := by unfold slN; rw [List.length_map, List.length_range]
          show (notes (flS S1) U.bs (ns2.map Int.toNat ++ ((grL S0 qs).take i).flatMap slN ++ (slN z).take j)).length < 1000000
          omega
        · rw [ts, ← List.append_assoc, notes_snoc]
          exact Jy
      rintro σ Hx ⟨o3', rfl, Jx, kx⟩
      rw [List.length_map, List.length_map, List.length_range] at Jx
      refine ⟨_, _, rfl, ?_, fun b o n g => kx b o n (s9 _ _ (k' b o n g))⟩
      rw [tk, List.flatMap_append, ← List.append_assoc]
      rw [show (slN z).take z.1.ws.length = slN z from List.take_of_length_le (by unfold slN; rw [List.length_map, List.length_range]; exact Nat.le_refl _)] at Jx
      rw [show [z].flatMap slN = slN z from List.append_nil _]
      exact Jx
    rintro σ H9 ⟨o3, o5, rfl, J9, k9⟩
    rw [List.length_map, List.take_length] at J9
    have hr9 := k9 _ _ rb hr8
    have gD9 := k9 _ _ Db gD
    walk_at "w3"
    refine r_lenL hr9 (r_lenL gD9 ?_)
    walk_at "w3"
    refine r_lenL gD9 ⟨by omega, fun tp ntp => ?_⟩
    have st := same_new (o := .tup [.int ((((rowY S0 qs).map V.int).length : Int) - (((grL S0 qs).map fun x => V.int (x.2 : Int)).length : Int)), .int (((grL S0 qs).map fun x => V.int (x.2 : Int)).length : Int)]) ntp
    have f9 : ∀ b o, b ≠ A.a → b ≠ A.l → b ≠ A.o → b ≠ A.p → b ≠ A.q → b ≠ R.hl → b ≠ R.wl → b ≠ R.d → b ≠ R.e → b ≠ U.bd → H b = some o → H9 b = some o := fun b o n1 n2 n3 n4 n5 n6 n7 n8 n9 n10 g => k9 b o n10 (sD _ _ (k7 b o n10 (s6 _ _ (k5 b o n1 n2 n3 n4 n5 n6 n7 n8 n9 g))))
    have tn : H tp = none := by
      cases e : H tp with
      | none => rfl
      | some o =>
        have := f9 tp o (ne_of_none J9.ar.ob ntp).symm (ne_of_none J9.ar.me.ls ntp).symm (ne_of_none J9.ar.so ntp).symm (ne_of_none J9.ar.sp ntp).symm (ne_of_none J9.ar.sq ntp).symm (ne_of_none J9.ro.ho.ls ntp).symm (ne_of_none J9.ro.wo.ls ntp).symm (ne_of_none J9.ro.lo.wa ntp).symm (ne_of_none J9.ro.lo.sk ntp).symm (ne_of_none J9.ro.bo.ds ntp).symm e
        rw [ntp] at this
        cases this
    refine q qs S1 rs' _ ns ns2 tp _ G (J9.same st) pm so pm2 eq dn dh rfl tn ?_ fun b o n1 n2 n3 n4 n5 n6 n7 n8 n9 n10 g => st _ _ (f9 b o n1 n2 n3 n4 n5 n6 n7 n8 n9 n10 g)
    rw [upd_same, List.length_map, List.length_map, rowY_len]
end

local macro_rules | `(tactic| walk_at "w3") => `(tactic| try simp only [↓x_var0, ↓x_varS, ↓x_c, ↓x_op, ↓x_un, ↓x_cb, ↓x_nil, ↓x_cons, ↓x_test, ↓x_b, ↓x_ex, ↓x_and, ↓x_or, ↓x_not, ↓x_andV, ↓x_orV, ↓x_notV, ↓x_tif, ↓x_chain, ↓x_menu, ↓x_menuI, ↓x_lst, ↓x_tup, ↓x_dnew, ↓x_callW, ↓x_callN, ↓x_seq, ↓x_next, ↓x_ret, ↓x_retN, ↓x_drop, ↓x_ifS, ↓x_asg, ↓x_name, ↓x_raise, ↓x_fld, ↓x_setF, ↓x_meth, ↓x_make, ↓x_sub, ↓r_min, ↓r_max, ↓x_yes, ↓x_for, ↓x_lock, ↓x_keys, ↓x_cut, ↓x_lc, ↓x_rng1, ↓x_rng2, ↓x_lst1, ↓x_itup, ↓x_rng3, ↓x_three, ↓x_lstg, ↓x_tupg, ↓x_adrS, ↓x_one, ↓x_two, ↓x_adr, ↓x_sl, ↓x_np, ↓x_pt, ↓x_int, ↓x_bm, ↓x_bm0, ↓x_consg, ↓x_nilg, ↓x_dget2, ↓x_dget1, ↓x_dgetN, ↓x_dget, ↓x_din, ↓x_dni, ↓x_dput, ↓x_dpop2, ↓r_isB, ↓r_notB, ↓x_enum, ↓x_zip, ↓x_str, ↓x_strE, ↓r_inS, ↓r_ninS, wipe, List.map_cons, List.map_nil, ↓x_isT, ↓r_isiII, ↓r_isiBB, ↓r_isiIB, ↓r_isiSS, ↓r_neNS, ↓r_neSN, ↓r_neNN, ↓r_eqNS, ↓r_eqSN, ↓r_eqNN, ↓r_eqIS, ↓r_neIS, ↓r_neSI, ↓r_neBS, ↓r_eqBB, ↓r_neBB, ↓x_start, ↓x_K, ↓x_start0, ↓r_i0, ↓r_i, ↓r_u, ↓r_addI, ↓r_addS, ↓r_mulI, ↓r_mulS, ↓r_eqI, ↓r_neI, ↓r_eqS, ↓r_neS, ↓r_absI, ↓r_intI, ↓r_intB, List.length_cons, List.length_nil, List.replicate, List.set_cons_zero, List.set_cons_succ, decide_eq_true_eq, Bool.not_eq_true', decide_eq_false_iff_not, if_true, if_false, Bool.false_eq_true, Bool.true_eq_false, ite_true, ite_false, Bool.not_true, Bool.not_false, c_div, n_ten, c_pow, not_true_eq_false, not_false_eq_true, decide_true, decide_false, true_and, and_true, and_self, true_or, or_true, Int.reduceLT, Int.reduceLE, Int.reduceMul, Int.reduceAdd, Int.reduceSub, Int.reducePow, Int.reduceNeg, Int.reduceDiv, Int.reduceMod, Nat.reducePow, Int.reduceToNat, Int.reduceEq, Int.reduceNe, Nat.reduceLT, Nat.reduceLeDiff, Nat.reduceAdd, ↓x_whole, ↓x_kind, Int.natCast_one, Int.natCast_one, Int.natCast_one, Int.natCast_one, Int.natCast_one, Int.natCast_one, Int.natCast_one, Int.natCast_one, Int.natCast_one, Int.natCast_one, Int.natCast_one])
/-! ## behind a young collection -/
/-- the cells that are there then -/
def newC (S : ArS) (C qs : List CeL) : List CeL := ((C.filter fun c => !decide ((S.b S.fl : Int) ≤ c.p ∧ (c.p : Int) < S.t S.fl)).map fun c => { c with ws := c.ws.map (trY S qs) }) ++ (fwY S qs).map fun x => ⟨x.2, x.1.r, x.1.ws.map (trY S qs)⟩
section
variable {S0 S : ArS} {C qs : List CeL}
theorem newC_mem {b : CeL} (m : b ∈ newC S0 C qs) : (∃ c ∈ C, ¬ Yng S0 c.p ∧ b = { c with ws := c.ws.map (trY S0 qs) }) ∨ ∃ x ∈ fwY S0 qs, b = ⟨x.2, x.1.r, x.1.ws.map (trY S0 qs)⟩ := by
  rcases List.mem_append.mp m with m | m
  · obtain ⟨c, mc, rfl⟩ := List.mem_map.mp m
    obtain ⟨h1, h2⟩ := List.mem_filter.mp mc
    refine .inl ⟨c, h1, ?_, rfl⟩
    intro y
    rw [decide_eq_true (p := (S0.b S0.fl : Int) ≤ c.p ∧ (c.p : Int) < S0.t S0.fl) y] at h2
    cases h2
  · obtain ⟨x, mx, rfl⟩ := List.mem_map.mp m
    exact .inr ⟨x, mx, rfl⟩
theorem newC_old {c : CeL} (m : c ∈ C) (y : ¬ Yng S0 c.p) : ({ c with ws := c.ws.map (trY S0 qs) } : CeL) ∈ newC S0 C qs := by
  refine List.mem_append_left _ (List.mem_map.mpr ⟨c, List.mem_filter.mpr ⟨m, ?_⟩, rfl⟩)
  rw [decide_eq_false (p := (S0.b S0.fl : Int) ≤ c.p ∧ (c.p : Int) < S0.t S0.fl) y]
  rfl
theorem newC_new {x : CeL × Nat} (m : x ∈ fwY S0 qs) : (⟨x.2, x.1.r, x.1.ws.map (trY S0 qs)⟩ : CeL) ∈ newC S0 C qs := List.mem_append_right _ (List.mem_map.mpr ⟨x, m, rfl⟩)
/-- the halves then -/
theorem flY (G : Yg S0 C qs S) : ∀ p : Int, Yng (flS S) p ↔ (S0.b (!S0.fl) : Int) ≤ p ∧ p < S.t (!S0.fl) := fun p => by
  obtain ⟨f1, f2, f3, f4, f5, f6, f7, f8⟩ := flS_is (S := S)
  have eb : S.b (!S0.fl) = S0.b (!S0.fl) := by
    unfold ArS.b
    rw [G.n, G.k]
  unfold Yng
  rw [f3, f8, f6, G.fl, eb]
theorem newC_cp (P : Y0 S0 C) (G : Yg S0 C qs S) (dn : ∀ u x, SlY S0 C qs u x → Dn S0 qs x (S.ws.getD u 0)) : CelP (flS S) (newC S0 C qs) := by
  obtain ⟨f1, f2, f3, f4, f5, f6, f7, f8⟩ := flS_is (S := S)
  have eb : S.b (!S0.fl) = S0.b (!S0.fl) := by
    unfold ArS.b
    rw [G.n, G.k]
  refine ⟨fun b mb => ?_, fun b mb j hj => ?_, fun b mb => ?_, ?_⟩
  · rcases newC_mem mb with ⟨c, mc, y, rfl⟩ | ⟨x, mx, rfl⟩
    · obtain ⟨a, ha, hh⟩ := P.cp.hd c mc
      refine ⟨a, ha, ?_⟩
      show headAt ((flS S).ws.getD c.p 0) = some (4 * (c.ws.map (trY S0 qs)).length + a)
      rw [f5, List.length_map, G.un c mc fun d md e => y (by rw [← e]; exact (G.mq d md).2)]
      exact hh
    · refine ⟨if agO S0 x.1.p = 0 then 1 else 2, by split <;> omega, ?_⟩
      show headAt ((flS S).ws.getD x.2 0) = some (4 * (x.1.ws.map (trY S0 qs)).length + _)
      rw [f5, List.length_map, G.nh x mx]
      obtain ⟨a, ha, hh⟩ := P.cp.hd x.1 (G.mq _ (fw_mem mx)).1
      obtain ⟨-, h34, -⟩ := headAt_some hh
      exact headAt_of (by omega) (by split <;> omega)
  · have key : ∀ {c : CeL} {q : Nat}, j < c.ws.length → SlY S0 C qs (q + 1 + j) (c.ws.getD j 0) → (flS S).ws.getD (q + 1 + j) 0 = (c.ws.map (trY S0 qs)).getD j 0 := fun {c q} hj sl => by
      rw [f5, (dn _ _ sl).2, List.getD_eq_getElem?_getD, List.getD_eq_getElem?_getD, List.getElem?_map, List.getElem?_eq_getElem hj]
      rfl
    rcases newC_mem mb with ⟨c, mc, y, rfl⟩ | ⟨x, mx, rfl⟩
    · have hj : j < (c.ws.map (trY S0 qs)).length := hj
      rw [List.length_map] at hj
      exact key (c := c) (q := c.p) hj (.inl ⟨c, mc, y, j, hj, rfl, rfl⟩)
    · have hj : j < (x.1.ws.map (trY S0 qs)).length := hj
      rw [List.length_map] at hj
      exact key (c := x.1) (q := x.2) hj (.inr ⟨x, mx, j, hj, rfl, rfl⟩)
  · rcases newC_mem mb with ⟨c, mc, y, rfl⟩ | ⟨x, mx, rfl⟩
    · left
      show c.p + (c.ws.map (trY S0 qs)).length < (flS S).ot
      rw [List.length_map, f4, G.ot]
      rcases P.side mc with ⟨-, h⟩ | ⟨h, -⟩
      · omega
      · exact absurd h y
    · show x.2 + (x.1.ws.map (trY S0 qs)).length < (flS S).ot ∨ ((flS S).b (flS S).fl ≤ x.2 ∧ x.2 + (x.1.ws.map (trY S0 qs)).length < (flS S).t (flS S).fl)
      rw [List.length_map, f4, f3, f8, f6, G.fl, eb]
      obtain ⟨h1, h2⟩ := G.nb x mx
      by_cases e : agO S0 x.1.p = 0
      · exact .inr (h1 e)
      · exact .inl (h2 e).2
  · refine List.pairwise_append.mpr ⟨?_, ?_, ?_⟩
    · rw [List.pairwise_map]
      refine (List.Pairwise.filter _ P.cp.dj).imp fun {a b} h => ?_
      show a.p + (a.ws.map (trY S0 qs)).length < b.p ∨ b.p + (b.ws.map (trY S0 qs)).length < a.p
      rw [List.length_map, List.length_map]
      exact h
    · rw [List.pairwise_map]
      refine G.nj.imp fun {a b} h => ?_
      show a.2 + (a.1.ws.map (trY S0 qs)).length < b.2 ∨ b.2 + (b.1.ws.map (trY S0 qs)).length < a.2
      rw [List.length_map, List.length_map]
      exact h
    · intro a ma b mb
      obtain ⟨c, mc, rfl⟩ := List.mem_map.mp ma
      obtain ⟨x, mx, rfl⟩ := List.mem_map.mp mb
      have := (G.nx P mx).1 c (List.mem_filter.mp mc).1
      show c.p + (c.ws.map (trY S0 qs)).length < x.2 ∨ x.2 + (x.1.ws.map (trY S0 qs)).length < c.p
      rw [List.length_map, List.length_map]
      omega
/-- a word that went along is a word of the cells that are there then -/
theorem newC_cl (P : Y0 S0 C) (G : Yg S0 C qs S) {w : Int} (h : ClW C w) (d : dnY S0 qs w) : ClW (newC S0 C qs) (trY S0 qs w) := by
  refine ⟨trY_word P G h.1, fun p e => ?_⟩
  obtain ⟨x, ex⟩ := Option.isSome_iff_exists.mp h.1
  have ep := wd_place ex
  have e2 := wd_place e
  dsimp only at e2
  cases x with
  | place p0 =>
    dsimp only at ep
    obtain ⟨c, mc, rfl⟩ := h.2 p0 ex
    by_cases y : Yng S0 (c.p : Int)
    · obtain ⟨q, eq⟩ := Option.isSome_iff_exists.mp (d _ ep y)
      rw [trY_go ep eq] at e2
      obtain ⟨x, mx, -, rfl, -⟩ := G.go_y eq
      rw [placeIn_of (by omega)] at e2
      cases e2
      exact ⟨_, newC_new mx, rfl⟩
    · rw [trY_stay G ep y, ep] at e2
      cases e2
      exact ⟨_, newC_old mc y, rfl⟩
  | _ =>
    dsimp only at ep
    rw [trY_none ep, ep] at e2
    cases e2
theorem newC_y0 (P : Y0 S0 C) (G : Yg S0 C qs S) (dn : ∀ u x, SlY S0 C qs u x → Dn S0 qs x (S.ws.getD u 0)) : Y0 (flS S) (newC S0 C qs) := by
  obtain ⟨f1, f2, f3, f4, f5, f6, f7, f8⟩ := flS_is (S := S)
  have eb : ∀ f, S.b f = S0.b f := fun f => by
    unfold ArS.b
    rw [G.n, G.k]
  have st := G.stk P
  have h1 := P.sum G.mq G.nd
  rw [← st_gr (S := S0)] at h1
  have ts := G.ts
  have ot := G.ot
  have rm := P.rm
  refine ⟨newC_cp P G dn, fun b mb w mw => ?_, ?_, ?_, ?_, ?_, ?_, ?_⟩
  · have key : ∀ {c : CeL} {q : Nat}, c ∈ C → (∀ j, j < c.ws.length → SlY S0 C qs (q + 1 + j) (c.ws.getD j 0)) → ∀ w ∈ c.ws.map (trY S0 qs), ClW (newC S0 C qs) w := fun {c q} mc sl w mw => by
      obtain ⟨w0, m0, rfl⟩ := List.mem_map.mp mw
      obtain ⟨j, ej⟩ := List.getElem?_of_mem m0
      have hj := (List.getElem?_eq_some_iff.mp ej).1
      have := (dn _ _ (sl j hj)).1
      rw [List.getD_eq_getElem?_getD, ej] at this
      exact newC_cl P G (P.cw c mc w0 m0) this
    rcases newC_mem mb with ⟨c, mc, y, rfl⟩ | ⟨x, mx, rfl⟩
    · exact key (q := c.p) mc (fun j hj => .inl ⟨c, mc, y, j, hj, rfl, rfl⟩) w mw
    · exact key (q := x.2) (G.mq _ (fw_mem mx)).1 (fun j hj => .inr ⟨x, mx, j, hj, rfl, rfl⟩) w mw
  · rw [f5, f1, f2, G.ln, G.n, G.k]
    exact P.ln
  · rw [f4, f1, G.n]
    exact st.2
  · rw [f1, f2, G.n, G.k]
    exact P.sz
  · rw [f3, f8, f6, f2, G.fl, G.k, eb]
    omega
  · rw [f3, f8, Bool.not_not, f7]
  · rw [f4, f3, f6, f8, f1, G.fl, G.n, eb]
    omega
end
section
variable {S0 S : ArS} {C qs : List CeL} {bs ns2 : List Int}
theorem gr_mem {x : CeL × Nat} (m : x ∈ grL S0 qs) : x ∈ fwY S0 qs ∧ agO S0 x.1.p ≠ 0 := by
  obtain ⟨h1, h2⟩ := List.mem_filter.mp m
  refine ⟨h1, fun e => ?_⟩
  rw [decide_eq_true e] at h2
  cases h2
theorem mem_gr {x : CeL × Nat} (m : x ∈ fwY S0 qs) (e : agO S0 x.1.p ≠ 0) : x ∈ grL S0 qs := List.mem_filter.mpr ⟨m, by rw [decide_eq_false e]; rfl⟩
theorem newC_bk (P : Y0 S0 C) (G : Yg S0 C qs S) (B : BkY S0 C bs) (dn : ∀ u x, SlY S0 C qs u x → Dn S0 qs x (S.ws.getD u 0)) (pm : ns2.Perm bs) : BkY (flS S) (newC S0 C qs) (notes (flS S) bs (ns2.map Int.toNat ++ (grL S0 qs).flatMap slN)) := by
  obtain ⟨f1, f2, f3, f4, f5, f6, f7, f8⟩ := flS_is (S := S)
  have bb := bb_of (S := S0)
  have st := G.stk P
  have lo := P.lo
  have yo : ∀ {c}, c ∈ C → ¬ Yng S0 (CeL.p c) → ¬ Yng (flS S) (CeL.p c) := fun {c} mc y => by
    rw [flY G]
    rcases P.side mc with ⟨-, h⟩ | ⟨h, -⟩
    · omega
    · exact absurd h y
  have yg : ∀ {x}, x ∈ fwY S0 qs → agO S0 x.1.p ≠ 0 → ¬ Yng (flS S) (x.2 : Int) := fun {x} mx e => by
    rw [flY G]
    have := (G.nb x mx).2 e
    omega
  have nn : ∀ m ∈ bs, m.toNat ∈ ns2.map Int.toNat ∧ m = (m.toNat : Int) := fun m mm => by
    obtain ⟨c, mc, y, j, hj, e⟩ := B.s m mm
    exact ⟨List.mem_map.mpr ⟨m, pm.mem_iff.mpr mm, rfl⟩, by omega⟩
  refine ⟨fun m mm => ?_, fun b mb y j hj p ep yp => ?_⟩
  · rw [notes_mem] at mm
    have hv : ∃ v ∈ ns2.map Int.toNat ++ (grL S0 qs).flatMap slN, m = (v : Int) := by
      by_cases h : ∃ v ∈ ns2.map Int.toNat ++ (grL S0 qs).flatMap slN, m = (v : Int)
      · exact h
      · rw [if_neg h] at mm
        obtain ⟨h1, h2⟩ := nn m mm
        exact absurd ⟨m.toNat, List.mem_append_left _ h1, h2⟩ h
    obtain ⟨v, mv, rfl⟩ := hv
    rcases List.mem_append.mp mv with mv | mv
    · obtain ⟨z, mz, ez⟩ := List.mem_map.mp mv
      obtain ⟨c, mc, y, j, hj, e⟩ := B.s z (pm.mem_iff.mp mz)
      exact ⟨_, newC_old mc y, yo (c := c) mc y, j, by (show j < (c.ws.map (trY S0 qs)).length); rw [List.length_map]; exact hj, by show (v : Int) = ((c.p + 1 + j : Nat) : Int); omega⟩
    · obtain ⟨x, mx, hx⟩ := List.mem_flatMap.mp mv
      obtain ⟨j, hj, ej⟩ := List.mem_map.mp hx
      obtain ⟨m1, m2⟩ := gr_mem mx
      exact ⟨_, newC_new m1, yg (x := x) m1 m2, j, by (show j < (x.1.ws.map (trY S0 qs)).length); rw [List.length_map]; exact List.mem_range.mp hj, by show (v : Int) = ((x.2 + 1 + j : Nat) : Int); omega⟩
  · rw [notes_mem]
    have key : ∀ {c : CeL} {q : Nat}, j < c.ws.length → SlY S0 C qs (q + 1 + j) (c.ws.getD j 0) → placeIn ((c.ws.map (trY S0 qs)).getD j 0) = some p → (flS S).ws.getD (q + 1 + j) 0 = trY S0 qs (c.ws.getD j 0) ∧ placeIn (trY S0 qs (c.ws.getD j 0)) = some p := fun {c q} hj sl e => by
      have e1 : (c.ws.map (trY S0 qs)).getD j 0 = trY S0 qs (c.ws.getD j 0) := by
        rw [List.getD_eq_getElem?_getD, List.getD_eq_getElem?_getD, List.getElem?_map, List.getElem?_eq_getElem hj]
        rfl
      rw [e1] at e
      exact ⟨by rw [f5]; exact (dn _ _ sl).2, e⟩
    rcases newC_mem mb with ⟨c, mc, yc, rfl⟩ | ⟨x, mx, rfl⟩
    · have hj : j < (c.ws.map (trY S0 qs)).length := hj
      rw [List.length_map] at hj
      obtain ⟨k1, k2⟩ := key (c := c) (q := c.p) hj (.inl ⟨c, mc, yc, j, hj, rfl, rfl⟩) ep
      show if ∃ v ∈ ns2.map Int.toNat ++ (grL S0 qs).flatMap slN, ((c.p + 1 + j : Nat) : Int) = (v : Int) then _ else _
      have mem : ((c.p + 1 + j : Nat) : Int) ∈ bs := by
        have dn' := (dn _ _ (.inl ⟨c, mc, yc, j, hj, rfl, rfl⟩ : SlY S0 C qs (c.p + 1 + j) (c.ws.getD j 0)))
        cases e0 : placeIn (c.ws.getD j 0) with
        | none =>
          rw [trY_none e0, e0] at k2
          cases k2
        | some p0 =>
          by_cases y0 : Yng S0 p0
          · exact B.a c mc yc j hj p0 e0 y0
          · rw [trY_stay G e0 y0, e0] at k2
            cases k2
            have cl := P.cw c mc _ (List.mem_of_getElem? (getD_at (d := 0) hj))
            obtain ⟨x, ex⟩ := Option.isSome_iff_exists.mp cl.1
            have ep0 := wd_place ex
            rw [e0] at ep0
            cases x with
            | place p' =>
              cases ep0
              obtain ⟨c', mc', rfl⟩ := cl.2 _ ex
              exact absurd yp (yo mc' y0)
            | _ => cases ep0
      obtain ⟨h1, h2⟩ := nn _ mem
      rw [if_pos ⟨_, List.mem_append_left _ h1, h2⟩]
      show yk1 (flS S) ((flS S).ws.getD (((c.p + 1 + j : Nat) : Int)).toNat 0) ≠ []
      rw [Int.toNat_natCast, k1, yk1_y k2 yp]
      intro z
      cases z
    · have hj : j < (x.1.ws.map (trY S0 qs)).length := hj
      rw [List.length_map] at hj
      obtain ⟨k1, k2⟩ := key (c := x.1) (q := x.2) hj (.inr ⟨x, mx, j, hj, rfl, rfl⟩) ep
      have ea : agO S0 x.1.p ≠ 0 := fun e => by
        refine y ?_
        have := (G.nb x mx).1 e
        show Yng (flS S) (x.2 : Int)
        rw [flY G]
        omega
      have mv : x.2 + 1 + j ∈ (grL S0 qs).flatMap slN := List.mem_flatMap.mpr ⟨x, mem_gr mx ea, List.mem_map.mpr ⟨j, List.mem_range.mpr hj, rfl⟩⟩
      show if ∃ v ∈ ns2.map Int.toNat ++ (grL S0 qs).flatMap slN, ((x.2 + 1 + j : Nat) : Int) = (v : Int) then _ else _
      rw [if_pos ⟨_, List.mem_append_right _ mv, rfl⟩]
      show yk1 (flS S) ((flS S).ws.getD (((x.2 + 1 + j : Nat) : Int)).toNat 0) ≠ []
      rw [Int.toNat_natCast, k1, yk1_y k2 yp]
      intro z
      cases z
end

local macro_rules | `(tactic| walk_at "w3") => `(tactic| try simp only [↓x_var0, ↓x_varS, ↓x_c, ↓x_op, ↓x_un, ↓x_cb, ↓x_nil, ↓x_cons, ↓x_test, ↓x_b, ↓x_ex, ↓x_and, ↓x_or, ↓x_not, ↓x_andV, ↓x_orV, ↓x_notV, ↓x_tif, ↓x_chain, ↓x_menu, ↓x_menuI, ↓x_lst, ↓x_tup, ↓x_dnew, ↓x_callW, ↓x_callN, ↓x_seq, ↓x_next, ↓x_ret, ↓x_retN, ↓x_drop, ↓x_ifS, ↓x_asg, ↓x_name, ↓x_raise, ↓x_fld, ↓x_setF, ↓x_meth, ↓x_make, ↓x_sub, ↓r_min, ↓r_max, ↓x_yes, ↓x_for, ↓x_lock, ↓x_keys, ↓x_cut, ↓x_lc, ↓x_rng1, ↓x_rng2, ↓x_lst1, ↓x_itup, ↓x_rng3, ↓x_three, ↓x_lstg, ↓x_tupg, ↓x_adrS, ↓x_one, ↓x_two, ↓x_adr, ↓x_sl, ↓x_np, ↓x_pt, ↓x_int, ↓x_bm, ↓x_bm0, ↓x_consg, ↓x_nilg, ↓x_dget2, ↓x_dget1, ↓x_dgetN, ↓x_dget, ↓x_din, ↓x_dni, ↓x_dput, ↓x_dpop2, ↓r_isB, ↓r_notB, ↓x_enum, ↓x_zip, ↓x_str, ↓x_strE, ↓r_inS, ↓r_ninS, wipe, List.map_cons, List.map_nil, ↓x_isT, ↓r_isiII, ↓r_isiBB, ↓r_isiIB, ↓r_isiSS, ↓r_neNS, ↓r_neSN, ↓r_neNN, ↓r_eqNS, ↓r_eqSN, ↓r_eqNN, ↓r_eqIS, ↓r_neIS, ↓r_neSI, ↓r_neBS, ↓r_eqBB, ↓r_neBB, ↓x_start, ↓x_K, ↓x_start0, ↓r_i0, ↓r_i, ↓r_u, ↓r_addI, ↓r_addS, ↓r_mulI, ↓r_mulS, ↓r_eqI, ↓r_neI, ↓r_eqS, ↓r_neS, ↓r_absI, ↓r_intI, ↓r_intB, List.length_cons, List.length_nil, List.replicate, List.set_cons_zero, List.set_cons_succ, decide_eq_true_eq, Bool.not_eq_true', decide_eq_false_iff_not, if_true, if_false, Bool.false_eq_true, Bool.true_eq_false, ite_true, ite_false, Bool.not_true, Bool.not_false, c_div, n_ten, c_pow, not_true_eq_false, not_false_eq_true, decide_true, decide_false, true_and, and_true, and_self, true_or, or_true, Int.reduceLT, Int.reduceLE, Int.reduceMul, Int.reduceAdd, Int.reduceSub, Int.reducePow, Int.reduceNeg, Int.reduceDiv, Int.reduceMod, Nat.reducePow, Int.reduceToNat, Int.reduceEq, Int.reduceNe, Nat.reduceLT, Nat.reduceLeDiff, Nat.reduceAdd, ↓x_whole, ↓x_kind, Int.natCast_one, Int.natCast_one, Int.natCast_one, Int.natCast_one, Int.natCast_one, Int.natCast_one, Int.natCast_one, Int.natCast_one, Int.natCast_one, Int.natCast_one, Int.natCast_one])
/-- places of a word that goes along are told -/
def GoW (ps : List (Int × Int)) (w : Int) : Prop := ∀ p, wordOf w = some (.place p) → ∃ q, goG ps p = some q ∧ 0 ≤ q ∧ q ≤ 9999
theorem turn_isSome {ps : List (Int × Int)} {w : Int} (h : (wordOf w).isSome = true) (g : GoW ps w) : (wordOf (turnW (goF ps) w)).isSome = true := by
  cases e : wordOf w with
  | none => rw [e] at h; cases h
  | some x =>
    cases x with
    | place p =>
      obtain ⟨q, eq, h0, h1⟩ := g p e
      rw [turnW_place e, show goF ps p = q from by unfold goF; rw [eq]; rfl, word_place h0 h1]
      rfl
    | _ => rw [turnW_other e (fun p z => (by cases z)), e]; rfl
/-- cells laid one behind the other -/
def slC : Nat → List CeL → List CeL
  | _, [] => []
  | t, c :: r => ⟨t, c.r, c.ws⟩ :: slC (t + (c.ws.length + 1)) r
theorem slC_get : ∀ {D : List CeL} {t k : Nat} {c : CeL}, D[k]? = some c → (slC t D)[k]? = some ⟨t + sumW (D.take k), c.r, c.ws⟩
  | [], _, _, _, e => by cases e
  | d :: r, t, 0, c, e => by cases e; rfl
  | d :: r, t, k + 1, c, e => by
    have e : r[k]? = some c := e
    show (slC (t + (d.ws.length + 1)) r)[k]? = _
    rw [slC_get e, List.take_succ_cons]
    show some _ = some ({ p := t + ((d.ws.length + 1) + sumW (r.take k)), r := c.r, ws := c.ws } : CeL)
    rw [Nat.add_assoc]
theorem slC_len : ∀ {D : List CeL} {t : Nat}, (slC t D).length = D.length
  | [], _ => rfl
  | d :: r, t => congrArg (· + 1) slC_len
theorem slC_mem {D : List CeL} {t : Nat} {b : CeL} (m : b ∈ slC t D) : ∃ k c, D[k]? = some c ∧ b = ⟨t + sumW (D.take k), c.r, c.ws⟩ := by
  obtain ⟨k, hk⟩ := List.getElem?_of_mem m
  have hl : k < D.length := by
    have := (List.getElem?_eq_some_iff.mp hk).1
    rwa [slC_len] at this
  refine ⟨k, D[k], List.getElem?_eq_getElem hl, ?_⟩
  rw [slC_get (List.getElem?_eq_getElem hl)] at hk
  exact (Option.some.inj hk).symm
theorem sum_take {D : List CeL} {k : Nat} {c : CeL} (h : D[k]? = some c) : sumW (D.take (k + 1)) = sumW (D.take k) + (c.ws.length + 1) := by
  rw [List.take_add_one, h]
  exact sumW_app
theorem sum_le {D : List CeL} {j k : Nat} (h : j ≤ k) : sumW (D.take j) ≤ sumW (D.take k) := by
  induction h with
  | refl => exact Nat.le_refl _
  | step h ih =>
    rename_i k
    cases e : D[k]? with
    | none =>
      rw [List.take_add_one, e]
      show _ ≤ sumW (D.take k ++ [])
      rw [List.append_nil]
      exact ih
    | some c => rw [sum_take e]; omega
theorem sum_all {D : List CeL} {k : Nat} : sumW (D.take k) ≤ sumW D := by
  have h := sum_le (D := D) (Nat.le_max_left k D.length)
  rw [List.take_of_length_le (Nat.le_max_right ..)] at h
  exact h
/-- cells on their way: the first i stand where they go, with age 2 -/
structure SlI (ws : List Int) (D : List CeL) (i : Nat) : Prop where
  dn : ∀ (k : Nat) (c : CeL), D[k]? = some c → k < i → headAt (ws.getD (sumW (D.take k)) 0) = some (4 * c.ws.length + 2) ∧ ∀ j, j < c.ws.length → ws.getD (sumW (D.take k) + 1 + j) 0 = c.ws.getD j 0
  st : ∀ (k : Nat) (c : CeL), D[k]? = some c → i ≤ k → (∃ a, a ≤ 2 ∧ headAt (ws.getD c.p 0) = some (4 * c.ws.length + a)) ∧ ∀ j, j < c.ws.length → ws.getD (c.p + 1 + j) 0 = c.ws.getD j 0
/-- they lie apart, rising, and go to the left -/
structure SlD (D : List CeL) (l : Nat) : Prop where
  ap : ∀ (j k : Nat) (a b : CeL), D[j]? = some a → D[k]? = some b → j < k → a.p + a.ws.length < b.p
  le : ∀ (k : Nat) (c : CeL), D[k]? = some c → sumW (D.take k) ≤ c.p
  en : ∀ (k : Nat) (c : CeL), D[k]? = some c → c.p + c.ws.length < l
theorem SlI.step {ws : List Int} {D : List CeL} {i : Nat} {c : CeL} (h : SlI ws D i) (d : SlD D ws.length) (e : D[i]? = some c) (h8 : c.ws.length ≤ 8) :
    SlI ((cpT ws c.p (sumW (D.take i)) (c.ws.length + 1)).set (sumW (D.take i)) (2 * ((4 * c.ws.length + 2 : Nat) : Int))) D (i + 1) := by
  have lc := d.le i c e
  have ec := d.en i c e
  have gl : sumW (D.take i) + (c.ws.length + 1) ≤ ws.length := by omega
  have at_ : ∀ u, ((cpT ws c.p (sumW (D.take i)) (c.ws.length + 1)).set (sumW (D.take i)) (2 * ((4 * c.ws.length + 2 : Nat) : Int))).getD u 0 = if sumW (D.take i) = u then 2 * ((4 * c.ws.length + 2 : Nat) : Int) else if sumW (D.take i) ≤ u ∧ u < sumW (D.take i) + (c.ws.length + 1) then ws.getD (c.p + (u - sumW (D.take i))) 0 else ws.getD u 0 := fun u => by
    rw [getD_set (by rw [cpT_len]; omega), cpT_at gl]
  refine ⟨fun k a ek hk => ?_, fun k a ek hk => ?_⟩
  · by_cases q : k = i
    · subst q
      rw [e] at ek
      cases ek
      obtain ⟨h1, h2⟩ := h.st _ _ e (Nat.le_refl _)
      refine ⟨?_, fun j hj => ?_⟩
      · rw [at_, if_pos rfl]
        unfold headAt
        rw [word_num (by omega)]
        dsimp only
        rw [if_pos (by omega), Int.toNat_natCast]
      · rw [at_, if_neg (by omega), if_pos (by omega), show c.p + (sumW (D.take k) + 1 + j - sumW (D.take k)) = c.p + 1 + j from by omega]
        exact h2 j hj
    · obtain ⟨h1, h2⟩ := h.dn k a ek (by omega)
      have s1 := sum_take ek
      have s2 := sum_le (D := D) (show k + 1 ≤ i by omega)
      refine ⟨by rw [at_, if_neg (by omega), if_neg (by omega)]; exact h1, fun j hj => by rw [at_, if_neg (by omega), if_neg (by omega)]; exact h2 j hj⟩
  · obtain ⟨h1, h2⟩ := h.st k a ek (by omega)
    have ap := d.ap i k c a e ek (by omega)
    refine ⟨by rw [at_, if_neg (by omega), if_neg (by omega)]; exact h1, fun j hj => by rw [at_, if_neg (by omega), if_neg (by omega)]; exact h2 j hj⟩
def sp_turned (K : PySem.W.Frag) : Sp := fun vs H Q _ => ∃ w d ps, vs = [.int w, .ref d] ∧ H d = some (.dK (kvI ps)) ∧ (wordOf w).isSome = true ∧ GoW ps w ∧ Q (.int (turnW (goF ps) w)) H
def sp_turn_slots (K : PySem.W.Frag) : Sp := fun vs H Q _ => ∃ m mx l S C ps n d, ∃ c ∈ C, vs = [.ref m, .int (c.p : Int), .ref d] ∧ MemO K H m mx l S.ws ∧ Vw S.ws ∧ H d = some (.dK (kvI ps)) ∧ CelP S (tC (goF ps) n C) ∧ (∀ c ∈ C, c.p + c.ws.length < S.ws.length) ∧ n c.p = 0 ∧ (∀ w ∈ c.ws, (wordOf w).isSome = true ∧ GoW ps w) ∧
  ∀ ws' H', MemO K H' m mx l ws' → Vw ws' → ws'.length = S.ws.length → CelP { S with ws := ws' } (tC (goF ps) (fun q => if q = c.p then c.ws.length else n q) C) → (∀ b o, b ≠ l → H b = some o → H' b = some o) → Q .non H'
def sp_turn_roots (K : PySem.W.Frag) : Sp := fun vs H Q _ => ∃ A R S U d ps, vs = [.ref R.r, .ref d] ∧ PairO K H A R S U ∧ H d = some (.dK (kvI ps)) ∧ (∀ w ∈ U.hs, GoW ps w) ∧ (∀ p ∈ ps, 0 ≤ p.2 ∧ p.2 ≤ 9999) ∧ U.ts.length < 100000 ∧ (∀ t ∈ U.ts, flatN t = true) ∧ U.ws.length < 100000 ∧ U.ss.length < 100000 ∧
  ∀ U' H', PairO K H' A R S U' → U'.hs = U.hs.map (turnW (goF ps)) → U'.bd = U.bd → U'.bs = U.bs → U'.ts = U.ts.map (nmG (goG ps)) → U'.ws = U.ws.map (tkG (goG ps)) → U'.ss = U.ss ++ saidG (goG ps) U.ws → (∀ b o, b ≠ R.hl → b ≠ R.wl → b ≠ R.d → b ≠ R.e → H b = some o → H' b = some o) → Q .non H'
section
variable {P : Program} {w : World} {K : PySem.W.Frag} {mg : Str → Option Value} {base : Heap}
theorem f_turned (T : Tx K mg) : Fn P w K mg base 4 "turned" ["word", "where"] (sp_turned K) := by
  have c_kind := f_kind (P := P) (w := w) (base := base) T
  have c_place_word := f_place_word (P := P) (w := w) (base := base) T
  have c_worth := f_worth (P := P) (w := w) (base := base) T
  refine T.mkFn 69 40 (d := d_turned) (N := ["word", "where"]) (k := 3) rfl rfl rfl rfl rfl sc_turned (fun _ _ _ _ _ _ us hl => match us, hl with | [_, _], _ => rfl) (fun vs H Q E h => ?len) (fun cdv A outer s H vs Q E hr h => ⟨_,
      (pss_cons (ps_if (pt_cmpR (op_eqK (K := K) rfl hr.units) (pe_fn (takes_of rfl rfl rfl rfl) c_kind (hr.mono (by decide)) (by rfl) (pa_cons (pv 0) pa_nil)) pe_str (nomark _)) (pss_one (ps_ret (pe_fn (takes_of rfl rfl rfl rfl) c_place_word (hr.mono (by decide)) (by rfl) (pa_cons (pe_dget (hu_of hr) (pv 1) (pe_fn (takes_of rfl rfl rfl rfl) c_worth (hr.mono (by decide)) (by rfl) (pa_cons (pv 0) pa_nil)) (fun _ _ => rfl)) pa_nil)))) pss_nil)
        (pss_one (ps_ret (pv 0)))), ?rd⟩)
  case len => obtain ⟨_, _, _, rfl, _⟩ := h; rfl
  case rd =>
    obtain ⟨w, d, ps, rfl, hd, hw, g, q⟩ := h
    walk_at "w3"
    obtain ⟨x, ex⟩ := Option.isSome_iff_exists.mp hw
    rw [ex]
    dsimp only
    cases x with
    | place p =>
      walk_at "w3"
      simp only [k_nn, k_pn, k_Nn, k_np, k_Np, k_pp, not_true_eq_false, not_false_eq_true, if_true, if_false, ite_true, ite_false, Wd.worth]
      rw [x_worth, ex]
      dsimp only
      obtain ⟨q', eq, h0, h1⟩ := g p ex
      have dg := dget_i (i := p) hd
      rw [goG_val, eq] at dg
      refine ⟨_, dg, ?_⟩
      rw [x_place_word, if_pos ⟨h0, h1⟩]
      rw [turnW_place ex, show goF ps p = q' from by unfold goF; rw [eq]; rfl] at q
      exact q
    | num x =>
      walk_at "w3"
      simp only [k_nn, k_pn, k_Nn, k_np, k_Np, k_pp, not_true_eq_false, not_false_eq_true, if_true, if_false, ite_true, ite_false, Wd.worth]
      rw [turnW_other ex fun p z => by cases z] at q
      exact q
    | nothing =>
      walk_at "w3"
      simp only [k_nn, k_pn, k_Nn, k_np, k_Np, k_pp, not_true_eq_false, not_false_eq_true, if_true, if_false, ite_true, ite_false, Wd.worth]
      rw [turnW_other ex fun p z => by cases z] at q
      exact q
theorem f_turn_slots (T : Tx K mg) : Fn P w K mg base 7 "turn_slots" ["memory", "at", "where"] (sp_turn_slots K) := by
  have c_slots_of := f_slots_of (P := P) (w := w) (base := base) T
  have c_slot_place := f_slot_place (P := P) (w := w) (base := base) T
  have c_Memory_write := f_Memory_write (P := P) (w := w) (base := base) T
  have c_turned := f_turned (P := P) (w := w) (base := base) T
  have c_Memory_read := f_Memory_read (P := P) (w := w) (base := base) T
  refine T.mkFn 70 41 (d := d_turn_slots) (N := ["memory", "at", "where", "slot", "place"]) (k := 6) rfl rfl rfl rfl rfl sc_turn_slots (fun _ _ _ _ _ _ us hl => match us, hl with | [_, _, _], _ => rfl) (fun vs H Q E h => ?len) (fun cdv A outer s H vs Q E hr h => ⟨_,
      (pss_one (ps_for (passes_of rfl) rfl (pi_range1 rfl (T.free 79) (pa_cons (pe_fn (takes_of rfl rfl rfl rfl) c_slots_of (hr.mono (by decide)) (by rfl) (pa_cons (pv 0) (pa_cons (pv 1) pa_nil))) pa_nil)) (pg_name (i := 3) sc_turn_slots.nd rfl (Or.inl rfl)) (pss_cons (ps_set (i := 4) sc_turn_slots.nd rfl (Or.inl rfl) (pe_fn (takes_of rfl rfl rfl rfl) c_slot_place (hr.mono (by decide)) (by rfl) (pa_cons (pv 0) (pa_cons (pv 1) (pa_cons (pv 3) pa_nil)))))
        (pss_one (ps_expr (pe_mt (K := K) rfl (takes_of rfl rfl rfl rfl) (pv 0) c_Memory_write (hr.mono (by decide)) (pa_cons (pv 4) (pa_cons (pe_fn (takes_of rfl rfl rfl rfl) c_turned (hr.mono (by decide)) (by rfl) (pa_cons (pe_mt (K := K) rfl (takes_of rfl rfl rfl rfl) (pv 0) c_Memory_read (hr.mono (by decide)) (pa_cons (pv 4) pa_nil)) (pa_cons (pv 2) pa_nil))) pa_nil)))))))), ?rd⟩)
  case len => obtain ⟨_, _, _, _, _, _, _, _, _, _, rfl, _⟩ := h; rfl
  case rd =>
    obtain ⟨m, mx, l, S, C, ps, n, d, c, mc, rfl, M, vw, hd, cp, hlt, n0, hw, q⟩ := h
    have lt := hlt c mc
    have mt : ∀ {n'}, ({ c with ws := mapT (turnW (goF ps)) c.ws (n' c.p) } : CeL) ∈ tC (goF ps) n' C := fun {n'} => List.mem_map.mpr ⟨c, mc, rfl⟩
    obtain ⟨k, ek, ek4, -⟩ := cp.head (mt (n' := n)) (by show c.p + (mapT _ _ _).length < _; rw [mapT_len]; exact lt)
    have ek4 : k / 4 = c.ws.length := ek4.trans mapT_len
    have sz := M.sz
    walk_at "w3"
    refine ⟨m, mx, l, S.ws, _, rfl, M, vw, .inl ⟨_, rfl⟩, ?_⟩
    rw [ek]
    dsimp only
    walk_at "w3"
    rw [ek4]
    refine ⟨by omega, by omega, ?_⟩
    rw [Int.toNat_natCast]
    have same_p : ∀ b ∈ C, b.p = c.p → b = c := fun b mb e => by
      by_cases z : b = c
      · exact z
      · have pw := cp.dj
        unfold tC at pw
        have pw := List.pairwise_map.mp pw
        have := pair_mem (fun _ _ q => q.symm) pw mb mc z
        dsimp only at this
        omega
    refine forW_range (lo := 0) (fun t σ H' => ∃ o4 o5 ws', σ = [some (.ref m), some (.int (c.p : Int)), some (.ref d), o4, o5] ∧ MemO K H' m mx l ws' ∧ Vw ws' ∧ ws'.length = S.ws.length ∧ CelP { S with ws := ws' } (tC (goF ps) (fun q => if q = c.p then t else n q) C) ∧ ∀ b o, b ≠ l → H b = some o → H' b = some o) ⟨_, _, S.ws, rfl, M, vw, rfl, ?_, fun b o _ g => g⟩ ?_ ?_
    · rw [show (fun q => if q = c.p then 0 else n q) = n from by
        funext q
        split
        · rename_i e
          rw [e, n0]
        · rfl]
      exact cp
    · rintro t σ H' ht ⟨o4, o5, ws', rfl, M', vw', el, cp', k'⟩
      rw [Int.zero_add]
      have mt' := mt (n' := fun q => if q = c.p then t else n q)
      obtain ⟨k2, ek2, ek24, -⟩ := cp'.head mt' (by show c.p + (mapT _ _ _).length < ws'.length; rw [mapT_len]; omega)
      have ek24 : k2 / 4 = c.ws.length := ek24.trans mapT_len
      have ecw : c.ws[t]? = some (c.ws.getD t 0) := getD_at (d := 0) ht
      have mw := List.mem_of_getElem? ecw
      have slt := cp'.sl _ mt' t (by show t < (mapT _ _ _).length; rw [mapT_len]; exact ht)
      have slt : ws'.getD (c.p + 1 + t) 0 = c.ws.getD t 0 := slt.trans (by
        show (mapT (turnW (goF ps)) c.ws (if c.p = c.p then t else n c.p)).getD t 0 = _
        rw [if_pos rfl, List.getD_eq_getElem?_getD, mapT_get (Nat.le_refl _), ← List.getD_eq_getElem?_getD])
      have hd' := k' _ _ (ne_of hd M.ls (by intro z; cases z)) hd
      walk_at "w3"
      refine ⟨m, mx, l, ws', _, _, rfl, M', vw', .inl ⟨_, rfl⟩, .inl ⟨_, rfl⟩, ?_⟩
      rw [ek2]
      dsimp only
      rw [ek24, placeOf_int, if_pos ⟨by omega, by omega⟩, Int.toNat_natCast]
      dsimp only
      walk_at "w3"
      refine ⟨recv M'.ob, recv M'.ob, m, mx, l, ws', _, rfl, M', .inl ⟨_, rfl⟩, ?_⟩
      rw [placeOf_int, if_pos ⟨by omega, by omega⟩, Int.toNat_natCast]
      dsimp only
      rw [slt]
      refine ⟨_, d, ps, rfl, hd', (hw _ mw).1, (hw _ mw).2, ?_⟩
      have wi := turn_isSome (hw _ mw).1 (hw _ mw).2
      refine ⟨m, mx, l, ws', _, _, rfl, M', .inl ⟨_, rfl⟩, .inl ⟨_, rfl⟩, ?_⟩
      rw [placeOf_int, if_pos ⟨by omega, by omega⟩, wordV_int, if_pos wi, Int.toNat_natCast]
      dsimp only
      refine ⟨_, _, ws'.set (c.p + 1 + t) (turnW (goF ps) (c.ws.getD t 0)), rfl, M'.put _ (List.length_set ..), vw'.set wi, (List.length_set ..).trans el, ?_, fun b o nb g => (upd_ne nb).trans (k' b o nb g)⟩
      have z := cp'.put (n := turnW (goF ps) (c.ws.getD t 0)) mt' (j := t) (by show t < (mapT _ _ _).length; rw [mapT_len]; exact ht) (by show c.p + (mapT _ _ _).length < ws'.length; rw [mapT_len]; omega)
      have e2 : setC (tC (goF ps) (fun q => if q = c.p then t else n q) C) c.p t (turnW (goF ps) (c.ws.getD t 0)) = tC (goF ps) (fun q => if q = c.p then t + 1 else n q) C := by
        rw [tC_set (n := fun q => if q = c.p then t else n q) (p := c.p) (j := t) (if_pos rfl) fun b mb e => by rw [same_p b mb e]; exact ecw]
        refine congrArg (fun m => tC (goF ps) m C) ?_
        funext q
        by_cases e : q = c.p
        · rw [if_pos e, if_pos e]
        · rw [if_neg e, if_neg e, if_neg e]
      rw [e2] at z
      exact z
    · rintro σ H' ⟨o4, o5, ws', rfl, M', vw', el, cp', k'⟩
      exact q ws' H' M' vw' el cp' k'
theorem f_turn_roots (T : Tx K mg) : Fn P w K mg base 5 "turn_roots" ["roots", "where"] (sp_turn_roots K) := by
  have c_Hands_row := f_Hands_row (P := P) (w := w) (base := base) T
  have c_Hands_put := f_Hands_put (P := P) (w := w) (base := base) T
  have c_turned := f_turned (P := P) (w := w) (base := base) T
  have c_Weak_names := f_Weak_names (P := P) (w := w) (base := base) T
  have c_Weak_move := f_Weak_move (P := P) (w := w) (base := base) T
  have c_Weak_gone := f_Weak_gone (P := P) (w := w) (base := base) T
  have c_Lasts_pending := f_Lasts_pending (P := P) (w := w) (base := base) T
  have c_Lasts_move := f_Lasts_move (P := P) (w := w) (base := base) T
  have c_Lasts_say := f_Lasts_say (P := P) (w := w) (base := base) T
  refine T.mkFn 71 42 (d := d_turn_roots) (N := ["roots", "where", "words", "hand", "name", "at", "ticket", "number"]) (k := 4) rfl rfl rfl rfl rfl sc_turn_roots (fun _ _ _ _ _ _ us hl => match us, hl with | [_, _], _ => rfl) (fun vs H Q E h => ?len) (fun cdv A outer s H vs Q E hr h => ⟨_,
      (pss_cons (ps_set (i := 2) sc_turn_roots.nd rfl (Or.inl rfl) (pe_mt0 (K := K) rfl (takes_of rfl rfl rfl rfl) (pe_fldC (T.cls 164) (T.noat 167) (pv 0)) c_Hands_row (hr.mono (by decide))))
        (pss_cons (ps_for (passes_of rfl) rfl (pi_range1 rfl (T.free 79) (pa_cons (pe_callB (call_lenK (K := K) rfl) (by rfl) (T.free 77) PySem.boot_len (pa_cons (pv 2) pa_nil)) pa_nil)) (pg_name (i := 3) sc_turn_roots.nd rfl (Or.inl rfl)) (pss_one (ps_expr (pe_mt (K := K) rfl (takes_of rfl rfl rfl rfl) (pe_fldC (T.cls 164) (T.noat 167) (pv 0)) c_Hands_put (hr.mono (by decide)) (pa_cons (pv 3) (pa_cons (pe_fn (takes_of rfl rfl rfl rfl) c_turned (hr.mono (by decide)) (by rfl) (pa_cons (pe_ix (ix_seqK (K := K) rfl) (pv 2) (pv 3) (fun _ _ => rfl)) (pa_cons (pv 1) pa_nil))) pa_nil))))))
        (pss_cons (ps_for (passes_of rfl) rfl (pi_listK (K := K) rfl (pe_mt0 (K := K) rfl (takes_of rfl rfl rfl rfl) (pe_fldC (T.cls 164) (T.noat 169) (pv 0)) c_Weak_names (hr.mono (by decide)))) (pg_tup (n := 2) rfl (pgs_cons (pg_name (i := 4) sc_turn_roots.nd rfl (Or.inl rfl)) (pgs_cons (pg_name (i := 5) sc_turn_roots.nd rfl (Or.inl rfl)) pgs_nil))) (pss_one (ps_if (pt_cmp (pc_din (hu_of hr) (pv 5) (pv 1))) (pss_one (ps_expr (pe_mt (K := K) rfl (takes_of rfl rfl rfl rfl) (pe_fldC (T.cls 164) (T.noat 169) (pv 0)) c_Weak_move (hr.mono (by decide)) (pa_cons (pv 4) (pa_cons (pe_dget (hu_of hr) (pv 1) (pv 5) (fun _ _ => rfl)) pa_nil))))) (pss_one (ps_expr (pe_mt (K := K) rfl (takes_of rfl rfl rfl rfl) (pe_fldC (T.cls 164) (T.noat 169) (pv 0)) c_Weak_gone (hr.mono (by decide)) (pa_cons (pv 4) pa_nil)))))))
        (pss_one (ps_for (passes_of rfl) rfl (pi_listK (K := K) rfl (pe_mt0 (K := K) rfl (takes_of rfl rfl rfl rfl) (pe_fldC (T.cls 164) (T.noat 170) (pv 0)) c_Lasts_pending (hr.mono (by decide)))) (pg_tup (n := 3) rfl (pgs_cons (pg_name (i := 6) sc_turn_roots.nd rfl (Or.inl rfl)) (pgs_cons (pg_name (i := 5) sc_turn_roots.nd rfl (Or.inl rfl)) (pgs_cons (pg_name (i := 7) sc_turn_roots.nd rfl (Or.inl rfl)) pgs_nil)))) (pss_one (ps_if (pt_cmp (pc_din (hu_of hr) (pv 5) (pv 1))) (pss_one (ps_expr (pe_mt (K := K) rfl (takes_of rfl rfl rfl rfl) (pe_fldC (T.cls 164) (T.noat 170) (pv 0)) c_Lasts_move (hr.mono (by decide)) (pa_cons (pv 6) (pa_cons (pe_dget (hu_of hr) (pv 1) (pv 5) (fun _ _ => rfl)) pa_nil))))) (pss_one (ps_expr (pe_mt (K := K) rfl (takes_of rfl rfl rfl rfl) (pe_fldC (T.cls 164) (T.noat 170) (pv 0)) c_Lasts_say (hr.mono (by decide)) (pa_cons (pv 6) pa_nil))))))))))), ?rd⟩)
  case len => obtain ⟨_, _, _, _, _, _, rfl, _⟩ := h; rfl
  case rd =>
    obtain ⟨A, R, S, U, d, ps, rfl, I, hd, hw, hp, tl, fl, wl, sl, q⟩ := h
    have sz : 10000000 ≤ sizeLine := by rw [sizeLine_eq]; omega
    have hz := I.ro.ho.sz
    have vw := I.ro.ho.vw
    have ndt : ∀ {c kv}, H c = some (.dK kv) → c ≠ R.hl ∧ c ≠ R.wl ∧ c ≠ R.d ∧ c ≠ R.e := fun g => ⟨ne_of g I.ro.ho.ls (by intro z; cases z), ne_of g I.ro.wo.ls (by intro z; cases z), ne_of g I.ro.lo.wa (by intro z; cases z), ne_of g I.ro.lo.sk (by intro z; cases z)⟩
    have dn := ndt hd
    have gr : ∀ {x y}, goG ps x = some y → 0 ≤ y ∧ y ≤ 9999 := fun e => hp _ (goG_in e)
    walk_at "w3"
    refine ⟨_, fldIs I.ro.ob, recv I.ro.ho.ob, R.h, R.hx, R.hl, U.hs, rfl, I.ro.ho, fun r nr => ?_⟩
    have s1 := same_new (o := .lst (U.hs.map V.int)) nr
    have hr : upd H r (.lst (U.hs.map V.int)) r = some (.lst (U.hs.map V.int)) := upd_same
    have I1 := I.same s1
    have hd1 := s1 _ _ hd
    have rn : r ≠ R.hl ∧ r ≠ R.wl ∧ r ≠ R.d ∧ r ≠ R.e := ⟨(ne_of_none I.ro.ho.ls nr).symm, (ne_of_none I.ro.wo.ls nr).symm, (ne_of_none I.ro.lo.wa nr).symm, (ne_of_none I.ro.lo.sk nr).symm⟩
    generalize upd H r (.lst (U.hs.map V.int)) = H1 at s1 hr I1 hd1 ⊢
    refine r_lenL hr ?_
    walk_at "w3"
    rw [List.length_map]
    refine ⟨by omega, by omega, ?_⟩
    rw [Int.toNat_natCast]
    refine forW_range (lo := 0) (fun i σ H' => ∃ o3, σ = [some (.ref R.r), some (.ref d), some (.ref r), o3, none, none, none, none] ∧ PairO K H' A R S { U with hs := mapT (turnW (goF ps)) U.hs i } ∧ ∀ b o, b ≠ R.hl → H1 b = some o → H' b = some o) ⟨_, rfl, I1, fun b o _ g => g⟩ ?_ ?_
    · rintro i σ H' hi ⟨o3, rfl, I', k'⟩
      rw [Int.zero_add]
      have ei : U.hs[i]? = some (U.hs.getD i 0) := getD_at (d := 0) hi
      have mw := List.mem_of_getElem? ei
      walk_at "w3"
      refine ⟨_, fldIs I'.ro.ob, recv I'.ro.ho.ob, ?_⟩
      refine r_ixL (k' _ _ rn.1 hr) (by rw [List.getElem?_map, ei]; rfl) ?_
      refine ⟨_, d, ps, rfl, k' _ _ dn.1 hd1, vw _ mw, hw _ mw, ?_⟩
      have wi := turn_isSome (vw _ mw) (hw _ mw)
      refine ⟨_, _, _, _, _, _, rfl, I'.ro.ho, .inl ⟨_, rfl⟩, .inl ⟨_, rfl⟩, ?_⟩
      rw [placeOf_int, if_pos ⟨by omega, by show (i : Int) < ((mapT (turnW (goF ps)) U.hs i).length : Nat); rw [mapT_len]; omega⟩, wordV_int, if_pos wi, Int.toNat_natCast]
      dsimp only
      have J := I'.hput (i := i) wi
      dsimp only at J
      rw [mapT_set ei] at J ⊢
      exact ⟨_, rfl, J, fun b o n g => (upd_ne n).trans (k' b o n g)⟩
    rintro σ H2 ⟨o3, rfl, I2, k2⟩
    rw [mapT_all (Nat.le_refl _)] at I2
    have hd2 := k2 _ _ dn.1 hd1
    have f2 : ∀ b o, b ≠ R.hl → b ≠ R.wl → b ≠ R.d → b ≠ R.e → H b = some o → H2 b = some o := fun b o n _ _ _ g => k2 b o n (s1 _ _ g)
    clear k2 I1 hd1 s1 hr
    walk_at "w3"
    refine ⟨_, fldIs I2.ro.ob, recv I2.ro.wo.ob, R.w, R.wx, R.wl, U.ts, rfl, I2.ro.wo, by omega, fl, fun p rs H3 np s3 hp3 ta => ?_⟩
    have I3 := I2.same s3
    have hd3 := s3 _ _ hd2
    have pn : p ≠ R.wl := (ne_of_none I2.ro.wo.ls np).symm
    have f3 : ∀ b o, b ≠ R.hl → b ≠ R.wl → b ≠ R.d → b ≠ R.e → H b = some o → H3 b = some o := fun b o n1 n2 n3 n4 g => s3 _ _ (f2 b o n1 n2 n3 n4 g)
    clear hd2
    have tpk : ∀ {tp xs}, H3 tp = some (.tup xs) → tp ≠ R.wl := fun g => ne_of g I3.ro.wo.ls (by intro z; cases z)
    walk_at "w3"
    refine ⟨⟨_, .of hp3⟩, forW_list (xs := rs) (fun i σ H' => ∃ o3 o4 o5 m, σ = [some (.ref R.r), some (.ref d), some (.ref r), o3, o4, o5, none, none] ∧ m ≤ U.ts.length ∧ (pairsOf 0 U.ts).drop i = pairsOf m (U.ts.drop m) ∧ PairO K H' A R S { U with hs := U.hs.map (turnW (goF ps)), ts := mapT (nmG (goG ps)) U.ts m } ∧ ∀ b o, b ≠ R.wl → H3 b = some o → H' b = some o) ⟨_, _, _, 0, rfl, Nat.zero_le _, rfl, I3, fun b o _ g => g⟩ ?_ ?_ ?_⟩
    · rintro i σ H' _ ⟨o3, o4, o5, m, rfl, -, -, -, k'⟩
      exact .of (k' _ _ pn hp3)
    · rintro i x σ H' hx ⟨o3, o4, o5, m, rfl, hm, ed, I', k'⟩
      obtain ⟨tp, xs, rfl, htp, ex⟩ := tups_get ta hx
      rw [List.drop_eq_getElem_cons (List.getElem?_eq_some_iff.mp ex).1, (List.getElem?_eq_some_iff.mp ex).2] at ed
      obtain ⟨a, pl, ma, al, rfl, ea, er, em⟩ := pairs_step (g := goG ps) fl (Nat.le_refl _) ed.symm
      have htp' := k' _ _ (tpk htp) htp
      have hd' := k' _ _ dn.2.1 hd3
      have gm : (mapT (nmG (goG ps)) U.ts m).getD a .non = .int pl := by rw [List.getD_eq_getElem?_getD, mapT_get ma, ea]; rfl
      have lm : (mapT (nmG (goG ps)) U.ts m).length = U.ts.length := mapT_len
      have es := mapT_set (f := nmG (goG ps)) ea
      rw [em] at es
      have fin : ∀ us, us = nmG (goG ps) (.int pl) → ∃ o3 o4 o5 m', [some (V.ref R.r), some (.ref d), some (.ref r), o3, some (.int (a : Int)), some (.int pl), none, none] = [some (.ref R.r), some (.ref d), some (.ref r), o3, o4, o5, none, none] ∧ m' ≤ U.ts.length ∧ (pairsOf 0 U.ts).drop (i + 1) = pairsOf m' (U.ts.drop m') ∧ PairO K (upd H' R.wl (.lst ((mapT (nmG (goG ps)) U.ts m).set a us))) A R S { U with hs := U.hs.map (turnW (goF ps)), ts := mapT (nmG (goG ps)) U.ts m' } ∧ ∀ b o, b ≠ R.wl → H3 b = some o → upd H' R.wl (.lst ((mapT (nmG (goG ps)) U.ts m).set a us)) b = some o := by
        rintro us rfl
        have J := I'.wkput (us := (mapT (nmG (goG ps)) U.ts m).set a (nmG (goG ps) (.int pl)))
        rw [es] at J ⊢
        exact ⟨o3, _, _, a + 1, rfl, al, er, J, fun b o n g => (upd_ne n).trans (k' b o n g)⟩
      walk_at "w3"
      refine ⟨_, .inl (.inl htp'), rfl, ?_⟩
      walk_at "w3"
      have dg := dget_i (i := pl) hd'
      rw [goG_val] at dg
      refine ⟨_, dg, ?_⟩
      cases eg : goG ps pl with
      | none =>
        walk_at "w3"
        refine ⟨_, fldIs I'.ro.ob, recv I'.ro.wo.ob, R.w, R.wx, R.wl, _, _, rfl, I'.ro.wo, .inl ⟨_, rfl⟩, ?_⟩
        dsimp only
        rw [placeOf_int, lm, if_pos ⟨by omega, by omega⟩, Int.toNat_natCast]
        dsimp only
        rw [gm, if_neg (by intro z; cases z)]
        obtain ⟨o3', o4', o5', m', h1, h2⟩ := fin .non (by show _ = (match goG ps pl with | some q => V.int q | none => .non); rw [eg])
        exact ⟨_, _, _, m', rfl, h2⟩
      | some q' =>
        walk_at "w3"
        rw [eg] at dg
        refine ⟨_, fldIs I'.ro.ob, recv I'.ro.wo.ob, _, dg, ?_⟩
        obtain ⟨g0, g1⟩ := gr eg
        refine ⟨R.w, R.wx, R.wl, _, _, _, rfl, I'.ro.wo, .inl ⟨_, rfl⟩, .inl ⟨_, rfl⟩, ?_⟩
        dsimp only
        rw [placeOf_int, lm, if_pos ⟨by omega, by omega⟩, Int.toNat_natCast]
        dsimp only
        rw [gm, if_neg (by intro z; cases z), placeW_int, if_pos ⟨g0, g1⟩]
        obtain ⟨o3', o4', o5', m', h1, h2⟩ := fin (.int q') (by show _ = (match goG ps pl with | some q => V.int q | none => .non); rw [eg])
        exact ⟨_, _, _, m', rfl, h2⟩
    rintro σ H4 ⟨o3', o4, o5, m, rfl, hm, ed, I4, k4⟩
    have tlen := ta.len
    rw [tlen, List.drop_length] at ed
    rw [pairs_end (g := goG ps) fl (Nat.le_refl _) ed.symm] at I4
    have hd4 := k4 _ _ dn.2.1 hd3
    have f4 : ∀ b o, b ≠ R.hl → b ≠ R.wl → b ≠ R.d → b ≠ R.e → H b = some o → H4 b = some o := fun b o n1 n2 n3 n4 g => k4 b o n2 (f3 b o n1 n2 n3 n4 g)
    clear k4 f3 f2 I3 hd3 ta hp3 s3 I2
    walk_at "w3"
    refine ⟨_, fldIs I4.ro.ob, recv I4.ro.lo.ob, R.la, R.lax, R.d, R.e, _, U.ws, U.ss, rfl, I4.ro.lo, by omega, fun p rs H5 np s5 hp5 ta => ?_⟩
    have I5 := I4.same s5
    have hd5 := s5 _ _ hd4
    have pn : p ≠ R.d ∧ p ≠ R.e := ⟨(ne_of_none I4.ro.lo.wa np).symm, (ne_of_none I4.ro.lo.sk np).symm⟩
    have f5 : ∀ b o, b ≠ R.hl → b ≠ R.wl → b ≠ R.d → b ≠ R.e → H b = some o → H5 b = some o := fun b o n1 n2 n3 n4 g => s5 _ _ (f4 b o n1 n2 n3 n4 g)
    have tpk : ∀ {tp xs}, H5 tp = some (.tup xs) → tp ≠ R.d ∧ tp ≠ R.e := fun g => ⟨ne_of g I5.ro.lo.wa (by intro z; cases z), ne_of g I5.ro.lo.sk (by intro z; cases z)⟩
    walk_at "w3"
    refine ⟨⟨_, .of hp5⟩, forW_list (xs := rs) (fun i σ H' => ∃ o3 o4 o5 o6 o7 m rs', σ = [some (.ref R.r), some (.ref d), some (.ref r), o3, o4, o5, o6, o7] ∧ m ≤ U.ws.length ∧ (pendOf 0 U.ws).drop i = pendOf m (U.ws.drop m) ∧ PairO K H' A R S { U with hs := U.hs.map (turnW (goF ps)), ts := U.ts.map (nmG (goG ps)), rs := rs', ws := mapT (tkG (goG ps)) U.ws m, ss := U.ss ++ saidG (goG ps) (U.ws.take m) } ∧ ∀ b o, b ≠ R.d → b ≠ R.e → H5 b = some o → H' b = some o) ⟨_, _, _, _, _, 0, _, rfl, Nat.zero_le _, rfl, (by rw [show U.ss ++ saidG (goG ps) (U.ws.take 0) = U.ss from List.append_nil _]; exact I5), fun b o _ _ g => g⟩ ?_ ?_ ?_⟩
    · rintro i σ H' _ ⟨o3, o4, o5, o6, o7, m, rs', rfl, -, -, -, k'⟩
      exact .of (k' _ _ pn.1 pn.2 hp5)
    · rintro i x σ H' hx ⟨o3, o4, o5, o6, o7, m, rs', rfl, hm, ed, I', k'⟩
      obtain ⟨tp, xs, rfl, htp, ex⟩ := tups_get ta hx
      rw [List.drop_eq_getElem_cons (List.getElem?_eq_some_iff.mp ex).1, (List.getElem?_eq_some_iff.mp ex).2] at ed
      obtain ⟨a, pl, nb, ma, al, rfl, ea, er, em, es2⟩ := pend_step (g := goG ps) (Nat.le_refl _) ed.symm
      have htp' := k' _ _ (tpk htp).1 (tpk htp).2 htp
      have hd' := k' _ _ dn.2.2.1 dn.2.2.2 hd5
      have lm : (mapT (tkG (goG ps)) U.ws m).length = U.ws.length := mapT_len
      have es := mapT_set (f := tkG (goG ps)) ea
      rw [em] at es
      have et : tickOf (mapT (tkG (goG ps)) U.ws m) (.int (a : Int)) = some (a, pl, nb) := by
        unfold tickOf
        rw [placeOf_int, lm, if_pos ⟨by omega, by omega⟩, Int.toNat_natCast]
        dsimp only
        rw [List.getD_eq_getElem?_getD, mapT_get ma, ea]
        rfl
      have e7 : saidG (goG ps) (U.ws.take (a + 1)) = saidG (goG ps) (U.ws.take m) ++ sdG (goG ps) (some (pl, nb)) := by rw [saidG_snoc ea, es2]
      have sl2 := said_len (g := goG ps) (ws := U.ws.take m)
      have sl3 : (U.ws.take m).length ≤ U.ws.length := by rw [List.length_take]; omega
      walk_at "w3"
      refine ⟨_, .inl (.inl htp'), rfl, ?_⟩
      walk_at "w3"
      have dg := dget_i (i := pl) hd'
      rw [goG_val] at dg
      refine ⟨_, dg, ?_⟩
      cases eg : goG ps pl with
      | none =>
        walk_at "w3"
        refine ⟨_, fldIs I'.ro.ob, recv I'.ro.lo.ob, R.la, R.lax, R.d, R.e, _, _, _, _, rfl, I'.ro.lo, by show (U.ss ++ saidG _ _).length < _; rw [List.length_append]; omega, .inl ⟨_, rfl⟩, ?_⟩
        dsimp only
        rw [et]
        intro H6 rs6 L6 k6
        have e8 : tkG (goG ps) (some (pl, nb)) = none := by show (goG ps pl).map _ = none; rw [eg]; rfl
        have e9 : sdG (goG ps) (some (pl, nb)) = [nb] := by show (if (goG ps pl).isSome then [] else [nb]) = _; rw [eg]; rfl
        rw [e8] at es
        rw [e9] at e7
        rw [es, List.append_assoc, ← e7] at L6
        exact ⟨_, _, _, _, _, a + 1, rs6, rfl, al, er, I'.lsput L6 k6, fun b o n1 n2 g => k6 b o n1 n2 (k' b o n1 n2 g)⟩
      | some q' =>
        walk_at "w3"
        rw [eg] at dg
        refine ⟨_, fldIs I'.ro.ob, recv I'.ro.lo.ob, _, dg, ?_⟩
        obtain ⟨g0, g1⟩ := gr eg
        refine ⟨R.la, R.lax, R.d, R.e, _, _, _, _, _, rfl, I'.ro.lo, .inl ⟨_, rfl⟩, .inl ⟨_, rfl⟩, ?_⟩
        dsimp only
        rw [et, placeW_int, if_pos ⟨g0, g1⟩]
        intro H6 rs6 L6 k6
        have e8 : tkG (goG ps) (some (pl, nb)) = some (q', nb) := by show (goG ps pl).map _ = _; rw [eg]; rfl
        have e9 : sdG (goG ps) (some (pl, nb)) = [] := by show (if (goG ps pl).isSome then [] else [nb]) = _; rw [eg]; rfl
        rw [e8] at es
        rw [e9, List.append_nil] at e7
        rw [es, ← e7] at L6
        exact ⟨_, _, _, _, _, a + 1, rs6, rfl, al, er, I'.lsput L6 fun c o n1 _ g => k6 c o n1 g, fun b o n1 n2 g => k6 b o n1 (k' b o n1 n2 g)⟩
    rintro σ H7 ⟨o3'', o4', o5', o6, o7, m', rs', rfl, hm', ed', I7, k7⟩
    have tlen := ta.len
    rw [tlen, List.drop_length] at ed'
    obtain ⟨e1, e2⟩ := pend_end (g := goG ps) (Nat.le_refl _) ed'.symm
    rw [e1, e2] at I7
    exact q _ H7 I7 rfl rfl rfl rfl rfl rfl fun b o n1 n2 n3 n4 g => k7 b o n3 n4 (f5 b o n1 n2 n3 n4 g)
end

local macro_rules | `(tactic| walk_at "w3") => `(tactic| try simp only [↓x_var0, ↓x_varS, ↓x_c, ↓x_op, ↓x_un, ↓x_cb, ↓x_nil, ↓x_cons, ↓x_test, ↓x_b, ↓x_ex, ↓x_and, ↓x_or, ↓x_not, ↓x_andV, ↓x_orV, ↓x_notV, ↓x_tif, ↓x_chain, ↓x_menu, ↓x_menuI, ↓x_lst, ↓x_tup, ↓x_dnew, ↓x_callW, ↓x_callN, ↓x_seq, ↓x_next, ↓x_ret, ↓x_retN, ↓x_drop, ↓x_ifS, ↓x_asg, ↓x_name, ↓x_raise, ↓x_fld, ↓x_setF, ↓x_meth, ↓x_make, ↓x_sub, ↓r_min, ↓r_max, ↓x_yes, ↓x_for, ↓x_lock, ↓x_keys, ↓x_cut, ↓x_lc, ↓x_rng1, ↓x_rng2, ↓x_lst1, ↓x_itup, ↓x_rng3, ↓x_three, ↓x_lstg, ↓x_tupg, ↓x_adrS, ↓x_one, ↓x_two, ↓x_adr, ↓x_sl, ↓x_np, ↓x_pt, ↓x_int, ↓x_bm, ↓x_bm0, ↓x_consg, ↓x_nilg, ↓x_dget2, ↓x_dget1, ↓x_dgetN, ↓x_dget, ↓x_din, ↓x_dni, ↓x_dput, ↓x_dpop2, ↓r_isB, ↓r_notB, ↓x_enum, ↓x_zip, ↓x_str, ↓x_strE, ↓r_inS, ↓r_ninS, wipe, List.map_cons, List.map_nil, ↓x_isT, ↓r_isiII, ↓r_isiBB, ↓r_isiIB, ↓r_isiSS, ↓r_neNS, ↓r_neSN, ↓r_neNN, ↓r_eqNS, ↓r_eqSN, ↓r_eqNN, ↓r_eqIS, ↓r_neIS, ↓r_neSI, ↓r_neBS, ↓r_eqBB, ↓r_neBB, ↓x_start, ↓x_K, ↓x_start0, ↓r_i0, ↓r_i, ↓r_u, ↓r_addI, ↓r_addS, ↓r_mulI, ↓r_mulS, ↓r_eqI, ↓r_neI, ↓r_eqS, ↓r_neS, ↓r_absI, ↓r_intI, ↓r_intB, List.length_cons, List.length_nil, List.replicate, List.set_cons_zero, List.set_cons_succ, decide_eq_true_eq, Bool.not_eq_true', decide_eq_false_iff_not, if_true, if_false, Bool.false_eq_true, Bool.true_eq_false, ite_true, ite_false, Bool.not_true, Bool.not_false, c_div, n_ten, c_pow, not_true_eq_false, not_false_eq_true, decide_true, decide_false, true_and, and_true, and_self, true_or, or_true, Int.reduceLT, Int.reduceLE, Int.reduceMul, Int.reduceAdd, Int.reduceSub, Int.reducePow, Int.reduceNeg, Int.reduceDiv, Int.reduceMod, Nat.reducePow, Int.reduceToNat, Int.reduceEq, Int.reduceNe, Nat.reduceLT, Nat.reduceLeDiff, Nat.reduceAdd, ↓x_whole, ↓x_kind, Int.natCast_one, Int.natCast_one, Int.natCast_one, Int.natCast_one, Int.natCast_one, Int.natCast_one, Int.natCast_one, Int.natCast_one, Int.natCast_one, Int.natCast_one, Int.natCast_one])
/-- the goals of kept cells -/
abbrev goP (C : List CeL) (ss : List Int) : List (Int × Int) := goL (wC C) 0 ss
structure SlidR (S : ArS) (U : RoS) (C : List CeL) (ss : List Int) (D : List CeL) (S' : ArS) (U' : RoS) : Prop where
  pm : ss.Perm (reachC C (placesW U.hs))
  so : ss.Pairwise (· ≤ ·)
  dp : D.map (fun c => (c.p : Int)) = ss
  dw : ∀ d ∈ D, ∃ c ∈ C, c.p = d.p ∧ d.r = c.r ∧ d.ws = c.ws.map (turnW (goF (goP C ss)))
  dv : ∀ d ∈ D, ∀ w ∈ d.ws, (wordOf w).isSome = true
  ce : CelP S' (slC 0 D)
  ag : ∀ c ∈ slC 0 D, headAt (S'.ws.getD c.p 0) = some (4 * c.ws.length + 2)
  ot : S'.ot = sumW D
  n : S'.n = S.n
  k : S'.k = S.k
  fl : S'.fl = S.fl
  t : ∀ f, S'.t f = S'.b f
  hs : U'.hs = U.hs.map (turnW (goF (goP C ss)))
  bs : U'.bs = []
  ts : U'.ts = U.ts.map (nmG (goG (goP C ss)))
  ws : U'.ws = U.ws.map (tkG (goG (goP C ss)))
  ss : U'.ss = U.ss ++ saidG (goG (goP C ss)) U.ws
def sp_collect_all (K : PySem.W.Frag) : Sp := fun vs H Q _ => ∃ A R S U C, vs = [.ref A.a, .ref R.r] ∧ PairO K H A R S U ∧ CelP S C ∧ (∀ c ∈ C, ∀ w ∈ c.ws, ClW C w) ∧ (∀ w ∈ U.hs, ClW C w) ∧ C.length ≤ 1000 ∧ ((reachC C (placesW U.hs)).map (wC C)).sum ≤ S.n ∧
  U.ts.length < 100000 ∧ (∀ t ∈ U.ts, flatN t = true) ∧ U.ws.length < 100000 ∧ U.ss.length < 100000 ∧
  ∀ ss D S' U' H', SlidR S U C ss D S' U' → PairO K H' A R S' U' → H U'.bd = none → Kc A R U.bd H H' → Q (.int (sumW D : Int)) H'
theorem goP_mem {S : ArS} {C : List CeL} (cp : CelP S C) {ss : List Int} (nd : ss.Nodup) {k : Nat} {x : Int} (h : ss[k]? = some x) : goG (goP C ss) x = some (((ss.take k).map (wC C)).sum) := by
  have m := goL_at (w := wC C) (t := 0) h
  rw [Int.zero_add] at m
  exact goG_mem (kvI_pw (by rw [goL_fst]; exact nd)) m
theorem PairO.mem {K : PySem.W.Frag} {H H' : Hp} {A : ArA} {R : RoA} {S : ArS} {U : RoS} (h : PairO K H A R S U) {ws : List Int} (M : MemO K H' A.m A.mx A.l ws) (vw : Vw ws) (e : ws.length = S.ws.length) (k : ∀ b o, b ≠ A.l → H b = some o → H' b = some o) : PairO K H' A R { S with ws := ws } U :=
  h.arS (h.ar.words M k vw e) fun b o _ n _ _ _ g => k b o n g
theorem put_both : ∀ S : ArS, ((S.put S.fl (S.b S.fl)).put (!S.fl) (S.b (!S.fl))) = { S with t1 := S.n, t2 := S.n + S.k } := fun ⟨ws, n, k, ot, t1, t2, fl⟩ => by cases fl <;> rfl
theorem put_b {S : ArS} {f g : Bool} {t : Nat} : (S.put f t).b g = S.b g ∧ (S.put f t).k = S.k := by
  unfold ArS.put ArS.b
  cases f <;> exact ⟨rfl, rfl⟩
theorem ArO.ny {K : PySem.W.Frag} {H : Hp} {A : ArA} {S : ArS} (h : ArO K H A S) (f : Bool) : A.y (!f) ≠ A.y f := by
  cases f
  · exact h.npq.symm
  · exact h.npq
theorem Kc.none {K : PySem.W.Frag} {H H' : Hp} {A : ArA} {R : RoA} {S : ArS} {U : RoS} (h : PairO K H' A R S U) (k : Kc A R U.bd H H') {x : Addr} (e : H' x = none) : H x = none := by
  cases e2 : H x with
  | none => rfl
  | some o =>
    rw [k x o (ne_of_none h.ar.ob e).symm (ne_of_none h.ar.me.ls e).symm (ne_of_none h.ar.so e).symm (ne_of_none h.ar.sp e).symm (ne_of_none h.ar.sq e).symm (ne_of_none h.ro.ho.ls e).symm (ne_of_none h.ro.wo.ls e).symm (ne_of_none h.ro.lo.wa e).symm (ne_of_none h.ro.lo.sk e).symm (ne_of_none h.ro.bo.ob e).symm (ne_of_none h.ro.bo.ds e).symm e2] at e
    cases e
theorem sumI_take {w : Int → Int} (h : ∀ x, 0 ≤ w x) {xs : List Int} {k : Nat} : ((xs.take k).map w).sum ≤ (xs.map w).sum := by
  have e : (xs.map w).sum = ((xs.take k).map w).sum + ((xs.drop k).map w).sum := by
    rw [← List.sum_append, ← List.map_append, List.take_append_drop]
  have := sum_ge h (xs.drop k)
  omega
theorem pick {E : List CeL} : ∀ {ss : List Int}, (∀ x ∈ ss, ∃ c ∈ E, x = (c.p : Int)) → ∃ D : List CeL, D.map (fun c => (c.p : Int)) = ss ∧ ∀ d ∈ D, d ∈ E
  | [], _ => ⟨[], rfl, fun d m => (List.not_mem_nil m).elim⟩
  | x :: r, h => by
    obtain ⟨c, mc, e⟩ := h x List.mem_cons_self
    obtain ⟨D, h1, h2⟩ := pick (E := E) (ss := r) fun y m => h y (List.mem_cons_of_mem _ m)
    refine ⟨c :: D, by rw [List.map_cons, h1, e], fun d m => ?_⟩
    rcases List.mem_cons.mp m with rfl | m
    · exact mc
    · exact h2 d m
theorem wC_D {C D : List CeL} (h : ∀ d ∈ D, wC C d.p = (d.ws.length : Int) + 1) : ((D.map fun c => (c.p : Int)).map (wC C)).sum = (sumW D : Int) := by
  induction D with
  | nil => rfl
  | cons d r ih =>
    have e : sumW (d :: r) = (d.ws.length + 1) + sumW r := rfl
    rw [List.map_cons, List.map_cons, List.sum_cons, ih (fun c m => h c (List.mem_cons_of_mem _ m)), h d List.mem_cons_self, e]
    omega
theorem slide_end {ws : List Int} {D : List CeL} {S : ArS} (h : SlI ws D D.length) (ew : S.ws = ws) (eo : S.ot = sumW D) : CelP S (slC 0 D) ∧ ∀ c ∈ slC 0 D, headAt (S.ws.getD c.p 0) = some (4 * c.ws.length + 2) := by
  subst ew
  have key : ∀ b ∈ slC 0 D, ∃ k c, D[k]? = some c ∧ b.p = sumW (D.take k) ∧ b.ws = c.ws ∧ k < D.length := fun b m => by
    obtain ⟨k, c, ek, rfl⟩ := slC_mem m
    exact ⟨k, c, ek, Nat.zero_add _, rfl, (List.getElem?_eq_some_iff.mp ek).1⟩
  have hd : ∀ c ∈ slC 0 D, headAt (S.ws.getD c.p 0) = some (4 * c.ws.length + 2) := fun b m => by
    obtain ⟨k, c, ek, e1, e2, kl⟩ := key b m
    rw [e1, e2]
    exact (h.dn k c ek kl).1
  refine ⟨⟨fun b m => ⟨2, Nat.le_refl _, hd b m⟩, fun b m j hj => ?_, fun b m => ?_, ?_⟩, hd⟩
  · obtain ⟨k, c, ek, e1, e2, kl⟩ := key b m
    rw [e2] at hj
    rw [e1, e2]
    exact (h.dn k c ek kl).2 j hj
  · obtain ⟨k, c, ek, e1, e2, kl⟩ := key b m
    have := sum_take ek
    have := sum_all (D := D) (k := k + 1)
    rw [e1, e2, eo]
    exact .inl (by omega)
  · refine List.pairwise_iff_getElem.mpr fun i j hi hj hij => ?_
    have hi' : i < D.length := by rwa [slC_len] at hi
    have hj' : j < D.length := by rwa [slC_len] at hj
    have ei := slC_get (t := 0) (List.getElem?_eq_getElem hi')
    have ej := slC_get (t := 0) (List.getElem?_eq_getElem hj')
    have ei := (List.getElem?_eq_some_iff.mp ei).2
    have ej := (List.getElem?_eq_some_iff.mp ej).2
    rw [ei, ej]
    have s1 := sum_take (List.getElem?_eq_getElem hi')
    have s2 := sum_le (D := D) (show i + 1 ≤ j by omega)
    exact .inl (by show 0 + sumW (D.take i) + D[i].ws.length < 0 + sumW (D.take j); omega)
section
variable {P : Program} {w : World} {K : PySem.W.Frag} {mg : Str → Option Value} {base : Heap}
theorem f_collect_all (T : Tx K mg) : Fn P w K mg base 8 "collect_all" ["areas", "roots"] (sp_collect_all K) := by
  have c_reached := f_reached (P := P) (w := w) (base := base) T
  have c_Roots_starts := f_Roots_starts (P := P) (w := w) (base := base) T
  have c_goals := f_goals (P := P) (w := w) (base := base) T
  have c_turn_slots := f_turn_slots (P := P) (w := w) (base := base) T
  have c_turn_roots := f_turn_roots (P := P) (w := w) (base := base) T
  have c_words_of := f_words_of (P := P) (w := w) (base := base) T
  have c_Memory_copy := f_Memory_copy (P := P) (w := w) (base := base) T
  have c_aged := f_aged (P := P) (w := w) (base := base) T
  have c_Space_cut := f_Space_cut (P := P) (w := w) (base := base) T
  have c_Space_empty := f_Space_empty (P := P) (w := w) (base := base) T
  have c_Book_clear := f_Book_clear (P := P) (w := w) (base := base) T
  have c_Space_used := f_Space_used (P := P) (w := w) (base := base) T
  refine T.mkFn 72 43 (d := d_collect_all) (N := ["areas", "roots", "memory", "kept", "where", "at", "top", "many"]) (k := 7) rfl rfl rfl rfl rfl sc_collect_all (fun _ _ _ _ _ _ us hl => match us, hl with | [_, _], _ => rfl) (fun vs H Q E h => ?len) (fun cdv A outer s H vs Q E hr h => ⟨_,
      (pss_cons (ps_set (i := 2) sc_collect_all.nd rfl (Or.inl rfl) (pe_fldC (T.cls 119) (T.noat 125) (pv 0)))
        (pss_cons (ps_set (i := 3) sc_collect_all.nd rfl (Or.inl rfl) (pe_fn (takes_of rfl rfl rfl rfl) c_reached (hr.mono (by decide)) (by rfl) (pa_cons (pv 2) (pa_cons (pe_mt0 (K := K) rfl (takes_of rfl rfl rfl rfl) (pv 1) c_Roots_starts (hr.mono (by decide))) pa_nil))))
        (pss_cons (ps_set (i := 4) sc_collect_all.nd rfl (Or.inl rfl) (pe_fn (takes_of rfl rfl rfl rfl) c_goals (hr.mono (by decide)) (by rfl) (pa_cons (pv 0) (pa_cons (pv 3) pa_nil))))
        (pss_cons (ps_for (passes_of rfl) rfl (pi_listK (K := K) rfl (pv 3)) (pg_name (i := 5) sc_collect_all.nd rfl (Or.inl rfl)) (pss_one (ps_expr (pe_fn (takes_of rfl rfl rfl rfl) c_turn_slots (hr.mono (by decide)) (by rfl) (pa_cons (pv 2) (pa_cons (pv 5) (pa_cons (pv 4) pa_nil)))))))
        (pss_cons (ps_expr (pe_fn (takes_of rfl rfl rfl rfl) c_turn_roots (hr.mono (by decide)) (by rfl) (pa_cons (pv 1) (pa_cons (pv 4) pa_nil))))
        (pss_cons (ps_set (i := 6) sc_collect_all.nd rfl (Or.inl rfl) (pe_fldC (T.cls 107) (T.noat 116) (pe_fldC (T.cls 119) (T.noat 126) (pv 0))))
        (pss_cons (ps_for (passes_of rfl) rfl (pi_listK (K := K) rfl (pe_callB (call_sortedK (K := K) rfl) (by rfl) (T.free 80) (by decide +kernel) (pa_cons (pv 3) pa_nil))) (pg_name (i := 5) sc_collect_all.nd rfl (Or.inl rfl)) (pss_cons (ps_set (i := 7) sc_collect_all.nd rfl (Or.inl rfl) (pe_fn (takes_of rfl rfl rfl rfl) c_words_of (hr.mono (by decide)) (by rfl) (pa_cons (pv 2) (pa_cons (pv 5) pa_nil))))
        (pss_cons (ps_expr (pe_mt (K := K) rfl (takes_of rfl rfl rfl rfl) (pv 2) c_Memory_copy (hr.mono (by decide)) (pa_cons (pv 5) (pa_cons (pe_dget (hu_of hr) (pv 4) (pv 5) (fun _ _ => rfl)) (pa_cons (pv 7) pa_nil)))))
        (pss_cons (ps_expr (pe_fn (takes_of rfl rfl rfl rfl) c_aged (hr.mono (by decide)) (by rfl) (pa_cons (pv 2) (pa_cons (pe_dget (hu_of hr) (pv 4) (pv 5) (fun _ _ => rfl)) (pa_cons (pe_num (T.num 69) (by rfl)) pa_nil)))))
        (pss_one (ps_set (i := 6) sc_collect_all.nd rfl (Or.inl rfl) (pe_op op_gAdd (pe_dget (hu_of hr) (pv 4) (pv 5) (fun _ _ => rfl)) (pv 7))))))))
        (pss_cons (ps_expr (pe_mt (K := K) rfl (takes_of rfl rfl rfl rfl) (pe_fldC (T.cls 119) (T.noat 126) (pv 0)) c_Space_cut (hr.mono (by decide)) (pa_cons (pv 6) pa_nil)))
        (pss_cons (ps_expr (pe_mt0 (K := K) rfl (takes_of rfl rfl rfl rfl) (pe_fldC (T.cls 119) (T.noat 127) (pv 0)) c_Space_empty (hr.mono (by decide))))
        (pss_cons (ps_expr (pe_mt0 (K := K) rfl (takes_of rfl rfl rfl rfl) (pe_fldC (T.cls 119) (T.noat 128) (pv 0)) c_Space_empty (hr.mono (by decide))))
        (pss_cons (ps_expr (pe_mt0 (K := K) rfl (takes_of rfl rfl rfl rfl) (pe_fldC (T.cls 164) (T.noat 168) (pv 1)) c_Book_clear (hr.mono (by decide))))
        (pss_one (ps_ret (pe_mt0 (K := K) rfl (takes_of rfl rfl rfl rfl) (pe_fldC (T.cls 119) (T.noat 126) (pv 0)) c_Space_used (hr.mono (by decide)))))))))))))))), ?rd⟩)
  case len => obtain ⟨_, _, _, _, _, rfl, _⟩ := h; rfl
  case rd =>
    obtain ⟨A, R, S, U, C, rfl, I, cp, cw, hw, cl, sm, tl, fl, wl, sl, q⟩ := h
    have sz : 10000000 ≤ sizeLine := by rw [sizeLine_eq]; omega
    have gn := I.ar.gn
    have gk := I.ar.gk
    have ln := I.ar.ln
    have lo := I.ar.lo
    have lt := I.ar.lt S.fl
    have hlt := cp.lt ln lo lt.2
    have ksC : ∀ x ∈ placesW U.hs, x ∈ plcC C := fun x mx => by
      obtain ⟨w, mw, e⟩ := List.mem_filterMap.mp mx
      cases ew : wordOf w with
      | none => rw [ew] at e; cases e
      | some y =>
        rw [ew] at e
        cases y with
        | place p =>
          cases e
          obtain ⟨c, mc, rfl⟩ := (hw w mw).2 _ ew
          exact List.mem_map.mpr ⟨c, mc, rfl⟩
        | _ => cases e
    have RC := reachC_is cp cw ksC
    walk_at "w3"
    refine ⟨_, fldIs I.ar.ob, recv I.ro.ob, R.r, R.rx, R.h, R.hx, R.hl, U.hs, _, _, _, rfl, I.ro.ob, I.ro.ho, fun p1 H1 np1 s1 hp1 => ?_⟩
    have I1 := I.same s1
    refine ⟨A.m, A.mx, A.l, S, C, p1, placesW U.hs, rfl, I1.ar.me, I1.ar.vw, .of hp1, cp, hlt, cw, ksC, cl, fun p2 H2 np2 s2 hp2 => ?_⟩
    have I2 := I1.same s2
    have kl : (reachC C (placesW U.hs)).length ≤ 1000 := by
      have := nd_len (U := plcC C) RC.nd fun x mx => by
        obtain ⟨c, mc, e⟩ := RC.cl x mx
        exact List.mem_map.mpr ⟨c, mc, e.symm⟩
      have e : (plcC C).length = C.length := List.length_map ..
      omega
    refine ⟨A, S, C, p2, reachC C (placesW U.hs), rfl, I2.ar, .of hp2, cp, RC.cl, RC.nd, kl, fun ss d H3 pm so nd3 s3 hd3 => ?_⟩
    have I3 := I2.same s3
    have s03 := (s1.trans s2).trans s3
    have hp3 := s3 _ _ hp2
    have po := I1.offl np2
    have od := I2.offl nd3
    have pH : H p2 = none := none_of s1 np2
    have dH : H d = none := none_of (s1.trans s2) nd3
    clear I1 I2 hp1 s1 s2 s3 hp2
    obtain ⟨ps, eps⟩ : ∃ ps, ps = goP C ss := ⟨_, rfl⟩
    have hd3 : H3 d = some (.dK (kvI ps)) := by rw [eps]; exact hd3
    have nds : ss.Nodup := pm.nodup_iff.mpr RC.nd
    have tot : (ss.map (wC C)).sum ≤ S.n := by rw [sum_perm (pm.map _)]; exact sm
    have gK : ∀ k x, ss[k]? = some x → goG ps x = some (((ss.take k).map (wC C)).sum) := fun k x e => by rw [eps]; exact goP_mem cp nds e
    have gx : ∀ x ∈ reachC C (placesW U.hs), ∃ q, goG ps x = some q ∧ 0 ≤ q ∧ q ≤ 9999 := fun x mx => by
      obtain ⟨k, ek⟩ := List.getElem?_of_mem (pm.mem_iff.mpr mx)
      have h1 := sumI_take (w := wC C) (fun x => wC_ge) (xs := ss) (k := k)
      exact ⟨_, gK k x ek, sum_ge (fun x => wC_ge) _, by omega⟩
    have gp : ∀ p ∈ ps, 0 ≤ p.2 ∧ p.2 ≤ 9999 := fun p mp => by
      have mf : p.1 ∈ ss := by
        have := List.mem_map_of_mem (f := (·.1)) mp
        rwa [eps, goL_fst] at this
      have pw : ps.Pairwise fun a b => a.1 ≠ b.1 := kvI_pw (by rw [eps, goL_fst]; exact nds)
      obtain ⟨q, eq, h⟩ := gx p.1 (pm.mem_iff.mp mf)
      rw [goG_mem pw mp] at eq
      cases eq
      exact h
    have wkid : ∀ {w : Int} {ws : List Int}, w ∈ ws → (wordOf w).isSome = true → ∀ p, wordOf w = some (.place p) → p ∈ kidsL ws := fun mw hs p e => by
      refine List.mem_filterMap.mpr ⟨_, mw, ?_⟩
      rw [wd_place e]
    have gW : ∀ c ∈ C, (c.p : Int) ∈ reachC C (placesW U.hs) → ∀ w ∈ c.ws, (wordOf w).isSome = true ∧ GoW ps w := fun c mc mk w mw => ⟨(cw c mc w mw).1, fun p e => gx p (RC.kd c mc mk p (wkid mw (cw c mc w mw).1 p e))⟩
    have gH : ∀ w ∈ U.hs, GoW ps w := fun w mw p e => gx p (RC.st p (List.mem_filterMap.mpr ⟨w, mw, by rw [e]⟩))
    have c8 : ∀ c ∈ C, c.ws.length ≤ 8 := fun c mc => by
      obtain ⟨k, -, h1, h2⟩ := cp.head mc (hlt c mc)
      omega
    have dnl : d ≠ A.l := ne_of hd3 I3.ar.me.ls (by intro z; cases z)
    have pnl : p2 ≠ A.l := po.1.1
    walk_at "w3"
    refine ⟨⟨_, .of hp3⟩, forW_list (xs := (reachC C (placesW U.hs)).map V.int) (fun i σ H' => ∃ o5 ws', σ = [some (.ref A.a), some (.ref R.r), some (.ref A.m), some (.ref p2), some (.ref d), o5, none, none] ∧ MemO K H' A.m A.mx A.l ws' ∧ Vw ws' ∧ ws'.length = S.ws.length ∧ CelP { S with ws := ws' } (tC (goF ps) (fun q => if (q : Int) ∈ (reachC C (placesW U.hs)).take i then 100 else 0) C) ∧ ∀ b o, b ≠ A.l → H3 b = some o → H' b = some o) ⟨_, S.ws, rfl, I3.ar.me, I3.ar.vw, rfl, ?_, fun b o _ g => g⟩ ?_ ?_ ?_⟩
    · rw [tC_cong (m := fun _ => 0) fun c mc => by rw [List.take_zero, if_neg List.not_mem_nil], tC_zero]
      exact cp
    · rintro i σ H' _ ⟨o5, ws', rfl, -, -, -, -, k'⟩
      exact .of (k' _ _ pnl hp3)
    · rintro i x σ H' hx ⟨o5, ws', rfl, M', vw', el, cp', k'⟩
      obtain ⟨y, ey, rfl⟩ := ints_at hx
      have my := List.mem_of_getElem? ey
      obtain ⟨c, mc, rfl⟩ := RC.cl y my
      have nin : ¬ (c.p : Int) ∈ (reachC C (placesW U.hs)).take i := fun m => by
        have nd := RC.nd
        have tk : (reachC C (placesW U.hs)).take (i + 1) = (reachC C (placesW U.hs)).take i ++ [(c.p : Int)] := by rw [List.take_add_one, ey]; rfl
        have nd2 := List.Nodup.sublist (List.take_sublist (i + 1) _) nd
        rw [tk] at nd2
        exact (List.nodup_append.mp nd2).2.2 _ m _ (List.mem_singleton.mpr rfl) rfl
      walk_at "w3"
      refine ⟨A.m, A.mx, A.l, { S with ws := ws' }, C, ps, _, d, c, mc, rfl, M', vw', k' _ _ dnl hd3, cp', fun b mb => by show _ < ws'.length; rw [el]; exact hlt b mb, if_neg nin, gW c mc my, fun w2 H2' M2 vw2 el2 cp2 k2 => ?_⟩
      refine ⟨_, w2, rfl, M2, vw2, el2.trans el, ?_, fun b o n g => k2 b o n (k' b o n g)⟩
      have e2 := tC_cong (f := goF ps) (C := C) (n := fun q => if q = c.p then c.ws.length else if (q : Int) ∈ (reachC C (placesW U.hs)).take i then 100 else 0) (m := fun q => if (q : Int) ∈ (reachC C (placesW U.hs)).take (i + 1) then 100 else 0) fun b mb => by
        have tk : (reachC C (placesW U.hs)).take (i + 1) = (reachC C (placesW U.hs)).take i ++ [(c.p : Int)] := by rw [List.take_add_one, ey]; rfl
        by_cases e : b.p = c.p
        · have := cp.same_p mb mc e
          subst this
          rw [if_pos rfl, if_pos (by rw [tk]; exact List.mem_append_right _ (List.mem_singleton.mpr rfl)), mapT_all (Nat.le_refl _), mapT_all (by have := c8 b mb; omega)]
        · rw [if_neg e]
          have : (b.p : Int) ∈ (reachC C (placesW U.hs)).take (i + 1) ↔ (b.p : Int) ∈ (reachC C (placesW U.hs)).take i := by
            rw [tk, List.mem_append, List.mem_singleton]
            exact ⟨fun h => h.elim id fun z => absurd z (by omega), .inl⟩
          by_cases g : (b.p : Int) ∈ (reachC C (placesW U.hs)).take i
          · rw [if_pos g, if_pos (this.mpr g)]
          · rw [if_neg g, if_neg (fun z => g (this.mp z))]
      rw [e2] at cp2
      exact cp2
    rintro σ H4 ⟨o5, w4, rfl, M4, vw4, el4, cp4, k4⟩
    rw [List.length_map, List.take_length] at cp4
    have I4 := I3.mem M4 vw4 el4 k4
    have hp4 := k4 _ _ pnl hp3
    have hd4 := k4 _ _ dnl hd3
    walk_at "w3"
    refine ⟨A, R, _, U, d, ps, rfl, I4, hd4, gH, gp, tl, fl, wl, sl, fun U5 H5 I5 h5 bd5 bs5 ts5 ws5 ss5 k5 => ?_⟩
    have vw5 := I5.ar.vw
    have hp5 := k5 _ _ po.1.2.1 po.1.2.2.1 po.1.2.2.2.1 po.1.2.2.2.2 hp4
    have hd5 := k5 _ _ od.1.2.1 od.1.2.2.1 od.1.2.2.2.1 od.1.2.2.2.2 hd4
    have k15 : Kc A R U.bd H H5 := fun b o _ n2 _ _ _ n6 n7 n8 n9 _ _ g => k5 b o n6 n7 n8 n9 (k4 b o n2 (s03 _ _ g))
    -- the cells that go
    obtain ⟨D, dp, dC⟩ := pick (E := tC (goF ps) (fun q => if (q : Int) ∈ reachC C (placesW U.hs) then 100 else 0) C) (ss := ss) fun x mx => by
      obtain ⟨c, mc, e⟩ := RC.cl x (pm.mem_iff.mp mx)
      exact ⟨_, List.mem_map.mpr ⟨c, mc, rfl⟩, e⟩
    have dp' : ∀ (k : Nat) (x : CeL), D[k]? = some x → ss[k]? = some (x.p : Int) := fun k x e => by rw [← dp, List.getElem?_map, e]; rfl
    have dw : ∀ x ∈ D, ∃ c ∈ C, c.p = x.p ∧ x.r = c.r ∧ x.ws = c.ws.map (turnW (goF ps)) ∧ x.ws.length = c.ws.length ∧ (c.p : Int) ∈ reachC C (placesW U.hs) := fun x mx => by
      obtain ⟨c, mc, rfl⟩ := List.mem_map.mp (dC x mx)
      have mk : (c.p : Int) ∈ reachC C (placesW U.hs) := by
        rw [← pm.mem_iff, ← dp]
        exact List.mem_map_of_mem (f := fun c => (c.p : Int)) mx
      have e : mapT (turnW (goF ps)) c.ws (if (c.p : Int) ∈ reachC C (placesW U.hs) then 100 else 0) = c.ws.map (turnW (goF ps)) := by
        rw [if_pos mk, mapT_all (by have := c8 c mc; omega)]
      exact ⟨c, mc, rfl, rfl, e, mapT_len, mk⟩
    have wD : ∀ x ∈ D, wC C x.p = (x.ws.length : Int) + 1 := fun x mx => by
      obtain ⟨c, mc, e1, -, -, e3, -⟩ := dw x mx
      rw [← e1, wC_mem cp mc, e3]
    have sD : ∀ k, ((ss.take k).map (wC C)).sum = (sumW (D.take k) : Int) := fun k => by
      rw [← dp, ← List.map_take]
      exact wC_D fun x mx => wD x (List.mem_of_mem_take mx)
    have rise := cp.rise so nds fun x mx => RC.cl x (pm.mem_iff.mp mx)
    have sld : SlD D w4.length := by
      refine ⟨fun j k a b ea eb jk => ?_, fun k c ek => ?_, fun k c ek => ?_⟩
      · have h1 := dp' j a ea
        have h2 := dp' k b eb
        have pw := List.pairwise_iff_getElem.mp rise
        obtain ⟨l1, e1⟩ := List.getElem?_eq_some_iff.mp h1
        obtain ⟨l2, e2⟩ := List.getElem?_eq_some_iff.mp h2
        have := pw j k l1 l2 jk
        rw [e1, e2, wD a (List.mem_of_getElem? ea)] at this
        omega
      · have := go_le (w := wC C) (t := 0) rise (fun x mx => by obtain ⟨c, -, e⟩ := RC.cl x (pm.mem_iff.mp mx); omega) (dp' k c ek)
        rw [sD] at this
        omega
      · obtain ⟨b, mb, e1, -, -, e3, -⟩ := dw c (List.mem_of_getElem? ek)
        have := hlt b mb
        rw [el4]
        omega
    have sm5 : sumW D ≤ S.n := by
      have h := sD D.length
      rw [List.take_length, show ss.take D.length = ss from List.take_of_length_le (by rw [← dp, List.length_map]; exact Nat.le_refl _)] at h
      omega
    have sl0 : SlI w4 D 0 := ⟨fun k c _ hk => absurd hk (Nat.not_lt_zero k), fun k c ek _ => by
      have mE := dC c (List.mem_of_getElem? ek)
      exact ⟨cp4.hd c mE, cp4.sl c mE⟩⟩
    have d8 : ∀ x ∈ D, x.ws.length ≤ 8 := fun x mx => by
      obtain ⟨c, mc, -, -, -, e3, -⟩ := dw x mx
      have := c8 c mc
      omega
    walk_at "w3"
    refine ⟨_, fldIs I5.ar.ob, _, fldIs I5.ar.so, p2, _, rfl, .of hp5, fun ss2 r pm2 so2 nr => ?_⟩
    obtain rfl : ss2 = ss := sort_one RC.nd RC.nd (fun i => Iff.rfl) pm2 pm so2 so
    have s6 := same_new (o := .lst (ss2.map V.int)) nr
    have I6 := I5.same s6
    have hr6 : upd H5 r (.lst (ss2.map V.int)) r = some (.lst (ss2.map V.int)) := upd_same
    have hd6 := s6 _ _ hd5
    have rnl : r ≠ A.l := (I5.offl nr).1.1
    have k16 : Kc A R U.bd H (upd H5 r (.lst (ss2.map V.int))) := fun b o n1 n2 n3 n4 n5 n6 n7 n8 n9 n10 n11 g => s6 _ _ (k15 b o n1 n2 n3 n4 n5 n6 n7 n8 n9 n10 n11 g)
    generalize upd H5 r (.lst (ss2.map V.int)) = H6 at I6 hr6 hd6 k16 ⊢
    walk_at "w3"
    refine ⟨⟨_, .of hr6⟩, forW_list (xs := ss2.map V.int) (fun i σ H' => ∃ o5 o7 ws', σ = [some (.ref A.a), some (.ref R.r), some (.ref A.m), some (.ref p2), some (.ref d), o5, some (.int (sumW (D.take i) : Int)), o7] ∧ MemO K H' A.m A.mx A.l ws' ∧ Vw ws' ∧ ws'.length = S.ws.length ∧ SlI ws' D i ∧ ∀ b o, b ≠ A.l → H6 b = some o → H' b = some o) ⟨_, _, w4, rfl, I6.ar.me, I6.ar.vw, el4, sl0, fun b o _ g => g⟩ ?_ ?_ ?_⟩
    · rintro i σ H' _ ⟨o5, o7, ws', rfl, -, -, -, -, k'⟩
      exact .of (k' _ _ rnl hr6)
    · rintro i x σ H' hx ⟨o5, o7, ws', rfl, M', vw', el', sl', k'⟩
      obtain ⟨y, ey, rfl⟩ := ints_at hx
      obtain ⟨c, ec, eyp⟩ : ∃ c, D[i]? = some c ∧ y = (c.p : Int) := by
        rw [← dp, List.getElem?_map] at ey
        cases e : D[i]? with
        | none => rw [e] at ey; cases ey
        | some c => rw [e] at ey; cases ey; exact ⟨c, rfl, rfl⟩
      subst eyp
      have mD := List.mem_of_getElem? ec
      have gk' := gK i _ ey
      rw [sD] at gk'
      have dg := dget_i (i := (c.p : Int)) (k' _ _ od.1.1 hd6)
      rw [goG_val, gk'] at dg
      obtain ⟨⟨a, a2, eh⟩, -⟩ := sl'.st i c ec (Nat.le_refl _)
      have en := sld.en i c ec
      have le := sld.le i c ec
      have l8 := d8 c mD
      have stk := sum_take ec
      walk_at "w3"
      refine ⟨A.m, A.mx, A.l, ws', _, rfl, M', vw', .inl ⟨_, rfl⟩, ?_⟩
      rw [ans_head' (by omega) eh]
      dsimp only
      rw [show (4 * c.ws.length + a) / 4 = c.ws.length from by omega]
      walk_at "w3"
      refine ⟨recv M'.ob, _, dg, A.m, A.mx, A.l, ws', _, _, _, rfl, M', .inl ⟨_, rfl⟩, .inl ⟨_, rfl⟩, .inl ⟨_, rfl⟩, ?_⟩
      rw [cpOf_int, if_pos (by omega), stretchOf_int, if_pos ⟨by omega, by omega⟩, stretchOf_int, if_pos ⟨by omega, by omega⟩]
      dsimp only
      rw [Int.toNat_natCast, Int.toNat_natCast, Int.toNat_natCast]
      intro H8 M8 k8 _
      have vw8 := cpT_vw vw' (i := c.p) (j := sumW (D.take i)) (t := c.ws.length + 1) (by omega)
      have dg8 := dget_i (i := (c.p : Int)) (k8 _ _ od.1.1 (k' _ _ od.1.1 hd6))
      rw [goG_val, gk'] at dg8
      have gl : sumW (D.take i) + (c.ws.length + 1) ≤ ws'.length := by omega
      have eh8 : headAt ((cpT ws' c.p (sumW (D.take i)) (c.ws.length + 1)).getD (sumW (D.take i)) 0) = some (4 * c.ws.length + a) := by
        rw [cpT_at gl, if_pos (by omega), Nat.sub_self, Nat.add_zero]
        exact eh
      refine ⟨_, dg8, A.m, A.mx, A.l, _, _, _, rfl, M8, vw8, .inl ⟨_, rfl⟩, .inl ⟨_, rfl⟩, ?_⟩
      rw [ans_head' (by rw [cpT_len]; omega) eh8]
      dsimp only
      rw [show ageW (.int 2) = some 2 from rfl, show (4 * c.ws.length + a) / 4 = c.ws.length from by omega]
      dsimp only
      have dg9 := dget_i (H := upd H8 A.l (.lst (((cpT ws' c.p (sumW (D.take i)) (c.ws.length + 1)).set (sumW (D.take i)) (2 * ((4 * c.ws.length + 2 : Nat) : Int))).map V.int))) (i := (c.p : Int)) ((upd_ne od.1.1).trans (k8 _ _ od.1.1 (k' _ _ od.1.1 hd6)))
      rw [goG_val, gk'] at dg9
      refine ⟨_, dg9, ?_⟩
      walk_at "w3"
      have st1 := sl'.step (by rw [el', ← el4]; exact sld) ec l8
      rw [show (sumW (D.take i) : Int) + ((c.ws.length + 1 : Nat) : Int) = (sumW (D.take (i + 1)) : Int) from by rw [stk]; rfl]
      exact ⟨_, _, _, rfl, M8.put _ (by rw [List.length_set]), vw8.set (by rw [word_num (by omega)]; rfl), by rw [List.length_set, cpT_len]; exact el', st1, fun b o n g => (upd_ne n).trans (k8 b o n (k' b o n g))⟩
    rintro σ H7 ⟨o5', o7, ws', rfl, M7, vw7, el7, sl7, k7⟩
    rw [List.length_map, show (ss2.length) = D.length from by rw [← dp, List.length_map]] at sl7 ⊢
    rw [List.take_length]
    have I7 := I6.mem M7 vw7 (el7.trans el4.symm) k7
    have k17 : Kc A R U.bd H H7 := fun b o n1 n2 n3 n4 n5 n6 n7 n8 n9 n10 n11 g => k7 b o n2 (k16 b o n1 n2 n3 n4 n5 n6 n7 n8 n9 n10 n11 g)
    walk_at "w3"
    refine ⟨_, fldIs I7.ar.ob, recv I7.ar.so, A.o, A.ox, 0, S.n, S.ot, _, rfl, I7.ar.so, .inl ⟨_, rfl⟩, ?_⟩
    rw [cutW_int, if_pos ⟨by omega, by omega⟩, Int.toNat_natCast]
    dsimp only
    obtain ⟨S8, eS8⟩ : ∃ S8 : ArS, S8 = { S with ws := ws', ot := sumW D } := ⟨_, rfl⟩
    have I8 : PairO K (upd H7 A.o (SpV K A.ox 0 S.n (sumW D))) A R S8 U5 := by rw [eS8]; exact I7.topO (t := sumW D) sm5
    have k18 : Kc A R U.bd H (upd H7 A.o (SpV K A.ox 0 S.n (sumW D))) := fun b o n1 n2 n3 n4 n5 n6 n7 n8 n9 n10 n11 g => (upd_ne n3).trans (k17 b o n1 n2 n3 n4 n5 n6 n7 n8 n9 n10 n11 g)
    generalize upd H7 A.o (SpV K A.ox 0 S.n (sumW D)) = H8 at I8 k18 ⊢
    have hf8 := I8.ar.half S8.fl
    refine ⟨_, fldIs I8.ar.ob, recv hf8, _, _, _, _, _, rfl, hf8, ?_⟩
    have I9 := I8.topH (f := S8.fl) (t := S8.b S8.fl) (Nat.le_refl _) (Nat.le_add_right ..)
    have ny := I8.ar.ny S8.fl
    have ay := (I8.ar.na hf8).1
    have ob9 := (upd_ne (o := SpV K (A.yx S8.fl) (S8.b S8.fl) (S8.b S8.fl + S8.k) (S8.b S8.fl)) ay).trans I8.ar.ob
    have hs9 := (upd_ne (o := SpV K (A.yx S8.fl) (S8.b S8.fl) (S8.b S8.fl + S8.k) (S8.b S8.fl)) ny).trans (I8.ar.half (!S8.fl))
    have k19 : Kc A R U.bd H (upd H8 (A.y S8.fl) (SpV K (A.yx S8.fl) (S8.b S8.fl) (S8.b S8.fl + S8.k) (S8.b S8.fl))) := fun b o n1 n2 n3 n4 n5 n6 n7 n8 n9 n10 n11 g => (upd_ne (by unfold ArA.y; split <;> assumption)).trans (k18 b o n1 n2 n3 n4 n5 n6 n7 n8 n9 n10 n11 g)
    generalize upd H8 (A.y S8.fl) (SpV K (A.yx S8.fl) (S8.b S8.fl) (S8.b S8.fl + S8.k) (S8.b S8.fl)) = H9 at I9 ob9 hs9 k19 ⊢
    dsimp only
    refine ⟨_, fldIs ob9, recv hs9, _, _, _, _, _, rfl, hs9, ?_⟩
    have I10 := I9.topH (f := !S8.fl) (t := S8.b (!S8.fl)) (by rw [put_b.1]; exact Nat.le_refl _) (by rw [put_b.1, (put_b (g := true)).2]; exact Nat.le_add_right ..)
    rw [put_b.1, (put_b (g := true)).2] at I10
    rw [put_both S8] at I10
    have k20 : Kc A R U.bd H (upd H9 (A.y !S8.fl) (SpV K (A.yx !S8.fl) (S8.b !S8.fl) (S8.b (!S8.fl) + S8.k) (S8.b !S8.fl))) := fun b o n1 n2 n3 n4 n5 n6 n7 n8 n9 n10 n11 g => (upd_ne (by unfold ArA.y; split <;> assumption)).trans (k19 b o n1 n2 n3 n4 n5 n6 n7 n8 n9 n10 n11 g)
    generalize upd H9 (A.y !S8.fl) (SpV K (A.yx !S8.fl) (S8.b !S8.fl) (S8.b (!S8.fl) + S8.k) (S8.b !S8.fl)) = H10 at I10 k20 ⊢
    dsimp only
    refine ⟨_, fldIs I10.ro.ob, recv I10.ro.bo.ob, _, _, _, _, rfl, I10.ro.bo, fun d' H11 nd' B11 k11 => ?_⟩
    have I11 := I10.bnew B11 k11
    have k21 : Kc A R U.bd H H11 := fun b o n1 n2 n3 n4 n5 n6 n7 n8 n9 n10 n11 g => k11 b o n10 (k20 b o n1 n2 n3 n4 n5 n6 n7 n8 n9 n10 n11 g)
    refine ⟨_, fldIs I11.ar.ob, recv I11.ar.so, _, _, _, _, _, rfl, I11.ar.so, ?_⟩
    have e8 : S8.ot = sumW D := by rw [eS8]
    rw [show ((S8.ot : Int) - (0 : Nat)) = (sumW D : Int) from by rw [e8]; omega]
    obtain ⟨ce, ag⟩ := slide_end (S := { S8 with t1 := S8.n, t2 := S8.n + S8.k }) sl7 (by rw [eS8]) e8
    refine q ss2 D _ _ H11 { pm := pm, so := so, dp := dp, dw := fun x mx => ?_, dv := fun x mx w mw => ?_, ce := ce, ag := ag, ot := e8, n := by rw [eS8], k := by rw [eS8], fl := by rw [eS8], t := fun f => (by cases f <;> rfl), hs := by rw [← eps]; exact h5, bs := rfl, ts := by rw [← eps]; exact ts5, ws := by rw [← eps]; exact ws5, ss := by rw [← eps]; exact ss5 } I11 ?_ k21
    · obtain ⟨c, mc, e1, e2, e3, -⟩ := dw x mx
      exact ⟨c, mc, e1, e2, by rw [← eps]; exact e3⟩
    · obtain ⟨c, mc, e1, e2, e3, -, mk⟩ := dw x mx
      rw [e3] at mw
      obtain ⟨w0, m0, rfl⟩ := List.mem_map.mp mw
      obtain ⟨g1, g2⟩ := gW c mc mk w0 m0
      exact turn_isSome g1 g2
    · exact Kc.none (U := U5) I10 (by rw [bd5]; exact k20) nd'
end

local macro_rules | `(tactic| walk_at "w3") => `(tactic| try simp only [↓x_var0, ↓x_varS, ↓x_c, ↓x_op, ↓x_un, ↓x_cb, ↓x_nil, ↓x_cons, ↓x_test, ↓x_b, ↓x_ex, ↓x_and, ↓x_or, ↓x_not, ↓x_andV, ↓x_orV, ↓x_notV, ↓x_tif, ↓x_chain, ↓x_menu, ↓x_menuI, ↓x_lst, ↓x_tup, ↓x_dnew, ↓x_callW, ↓x_callN, ↓x_seq, ↓x_next, ↓x_ret, ↓x_retN, ↓x_drop, ↓x_ifS, ↓x_asg, ↓x_name, ↓x_raise, ↓x_fld, ↓x_setF, ↓x_meth, ↓x_make, ↓x_sub, ↓r_min, ↓r_max, ↓x_yes, ↓x_for, ↓x_lock, ↓x_keys, ↓x_cut, ↓x_lc, ↓x_rng1, ↓x_rng2, ↓x_lst1, ↓x_itup, ↓x_rng3, ↓x_three, ↓x_lstg, ↓x_tupg, ↓x_adrS, ↓x_one, ↓x_two, ↓x_adr, ↓x_sl, ↓x_np, ↓x_pt, ↓x_int, ↓x_bm, ↓x_bm0, ↓x_consg, ↓x_nilg, ↓x_dget2, ↓x_dget1, ↓x_dgetN, ↓x_dget, ↓x_din, ↓x_dni, ↓x_dput, ↓x_dpop2, ↓r_isB, ↓r_notB, ↓x_enum, ↓x_zip, ↓x_str, ↓x_strE, ↓r_inS, ↓r_ninS, wipe, List.map_cons, List.map_nil, ↓x_isT, ↓r_isiII, ↓r_isiBB, ↓r_isiIB, ↓r_isiSS, ↓r_neNS, ↓r_neSN, ↓r_neNN, ↓r_eqNS, ↓r_eqSN, ↓r_eqNN, ↓r_eqIS, ↓r_neIS, ↓r_neSI, ↓r_neBS, ↓r_eqBB, ↓r_neBB, ↓x_start, ↓x_K, ↓x_start0, ↓r_i0, ↓r_i, ↓r_u, ↓r_addI, ↓r_addS, ↓r_mulI, ↓r_mulS, ↓r_eqI, ↓r_neI, ↓r_eqS, ↓r_neS, ↓r_absI, ↓r_intI, ↓r_intB, List.length_cons, List.length_nil, List.replicate, List.set_cons_zero, List.set_cons_succ, decide_eq_true_eq, Bool.not_eq_true', decide_eq_false_iff_not, if_true, if_false, Bool.false_eq_true, Bool.true_eq_false, ite_true, ite_false, Bool.not_true, Bool.not_false, c_div, n_ten, c_pow, not_true_eq_false, not_false_eq_true, decide_true, decide_false, true_and, and_true, and_self, true_or, or_true, Int.reduceLT, Int.reduceLE, Int.reduceMul, Int.reduceAdd, Int.reduceSub, Int.reducePow, Int.reduceNeg, Int.reduceDiv, Int.reduceMod, Nat.reducePow, Int.reduceToNat, Int.reduceEq, Int.reduceNe, Nat.reduceLT, Nat.reduceLeDiff, Nat.reduceAdd, ↓x_whole, ↓x_kind, Int.natCast_one, Int.natCast_one, Int.natCast_one, Int.natCast_one, Int.natCast_one, Int.natCast_one, Int.natCast_one, Int.natCast_one, Int.natCast_one, Int.natCast_one, Int.natCast_one, Int.natCast_one])
/-! ## going over numbers, going over places -/
theorem addN_map {f : Int → Int} {U : List Int} (inj : ∀ x ∈ U, ∀ y ∈ U, f x = f y → x = y) : ∀ {xs a : List Int}, (∀ x ∈ xs, x ∈ U) → (∀ x ∈ a, x ∈ U) → (addN a xs).map f = addN (a.map f) (xs.map f)
  | [], _, _, _ => rfl
  | x :: r, a, h1, h2 => by
    show (addN a (x :: r)).map f = addN (a.map f) (f x :: r.map f)
    rw [addN_cons, addN_cons]
    have hx := h1 x List.mem_cons_self
    by_cases c : x ∈ a
    · rw [if_pos c, if_pos (List.mem_map.mpr ⟨x, c, rfl⟩)]
      exact addN_map inj (fun y m => h1 y (List.mem_cons_of_mem _ m)) h2
    · rw [if_neg c, if_neg fun m => let ⟨y, my, e⟩ := List.mem_map.mp m; c ((inj _ (h2 y my) _ hx e) ▸ my), addN_map inj (fun y m => h1 y (List.mem_cons_of_mem _ m)) fun y m => (List.mem_append.mp m).elim (h2 y) fun z => List.mem_singleton.mp z ▸ hx, List.map_append]
      rfl
theorem reach_map {f : Int → Int} {kids kidsP : Int → List Int} {U : List Int} (inj : ∀ x ∈ U, ∀ y ∈ U, f x = f y → x = y) (hk : ∀ x ∈ U, ∀ y ∈ kids x, y ∈ U) (hm : ∀ x ∈ U, kidsP (f x) = (kids x).map f) : ∀ {k : Nat} {F : List Int} {t : Nat}, (∀ x ∈ F, x ∈ U) → (reachR kids k F t).map f = reachR kidsP k (F.map f) t
  | 0, _, _, _ => rfl
  | k + 1, F, t, h => by
    by_cases c : t < F.length
    · rw [reachR_step c, reachR_step (by rwa [List.length_map])]
      have ht : F.getD t 0 ∈ U := h _ (List.mem_of_getElem? (getD_at (d := 0) c))
      have e : (F.map f).getD t 0 = f (F.getD t 0) := by
        rw [List.getD_eq_getElem?_getD, List.getD_eq_getElem?_getD, List.getElem?_map, List.getElem?_eq_getElem c]
        rfl
      rw [e, hm _ ht, ← addN_map inj (hk _ ht) h]
      exact reach_map inj hk hm fun x m => (addN_mem m).elim (h x) (hk _ ht x)
    · rw [reachR_end (by omega), reachR_end (by rw [List.length_map]; omega)]
theorem getD_of {α : Type} {l : List α} {k : Nat} {a d : α} (h : l[k]? = some a) : l.getD k d = a := by
  rw [List.getD_eq_getElem?_getD, h]
  rfl
theorem at_app {α : Type} {l : List α} {a b : α} {k : Nat} (h : (l ++ [a])[k]? = some b) : (k < l.length ∧ l[k]? = some b) ∨ (k = l.length ∧ b = a) := by
  have hk := (List.getElem?_eq_some_iff.mp h).1
  rw [List.length_append, List.length_singleton] at hk
  by_cases c : k < l.length
  · rw [List.getElem?_append_left c] at h
    exact .inl ⟨c, h⟩
  · have : k = l.length := by omega
    subst this
    rw [List.getElem?_append_right (Nat.le_refl _), Nat.sub_self] at h
    exact .inr ⟨rfl, (Option.some.inj h).symm⟩
theorem at_end {α : Type} {l : List α} {a : α} {k : Nat} (h : k = l.length) : (l ++ [a])[k]? = some a := by
  subst h
  rw [List.getElem?_append_right (Nat.le_refl _), Nat.sub_self]
  rfl
theorem r_ixEnd {K : PySem.W.Frag} {H : Hp} {Q : VK} {a : Addr} {xs : List V} {v : V} (h : H a = some (.lst (xs ++ [v]))) (q : Q v H) : rIx K (.ref a) (.int (-1)) H Q := .inl ⟨_, _, _, _, rfl, rfl, .of h, by
  unfold atI ixN
  rw [if_neg (by decide), if_pos (by rw [List.length_append]; show -((xs.length + 1 : Nat) : Int) ≤ -1; omega)]
  show (xs ++ [v])[(-1 + ((xs ++ [v]).length : Int)).toNat]? = some v
  rw [List.length_append, show (-1 + ((xs.length + [v].length : Nat) : Int)).toNat = xs.length from by (show (-1 + ((xs.length + 1 : Nat) : Int)).toNat = _); omega]
  exact at_end rfl, q⟩

local macro_rules | `(tactic| walk_at "w3") => `(tactic| try simp only [↓x_var0, ↓x_varS, ↓x_c, ↓x_op, ↓x_un, ↓x_cb, ↓x_nil, ↓x_cons, ↓x_test, ↓x_b, ↓x_ex, ↓x_and, ↓x_or, ↓x_not, ↓x_andV, ↓x_orV, ↓x_notV, ↓x_tif, ↓x_chain, ↓x_menu, ↓x_menuI, ↓x_lst, ↓x_tup, ↓x_dnew, ↓x_callW, ↓x_callN, ↓x_seq, ↓x_next, ↓x_ret, ↓x_retN, ↓x_drop, ↓x_ifS, ↓x_asg, ↓x_name, ↓x_raise, ↓x_fld, ↓x_setF, ↓x_meth, ↓x_make, ↓x_sub, ↓r_min, ↓r_max, ↓x_yes, ↓x_for, ↓x_lock, ↓x_keys, ↓x_cut, ↓x_lc, ↓x_rng1, ↓x_rng2, ↓x_lst1, ↓x_itup, ↓x_rng3, ↓x_three, ↓x_lstg, ↓x_tupg, ↓x_adrS, ↓x_one, ↓x_two, ↓x_adr, ↓x_sl, ↓x_np, ↓x_pt, ↓x_int, ↓x_bm, ↓x_bm0, ↓x_consg, ↓x_nilg, ↓x_dget2, ↓x_dget1, ↓x_dgetN, ↓x_dget, ↓x_din, ↓x_dni, ↓x_dput, ↓x_dpop2, ↓r_isB, ↓r_notB, ↓x_enum, ↓x_zip, ↓x_str, ↓x_strE, ↓r_inS, ↓r_ninS, wipe, List.map_cons, List.map_nil, ↓x_isT, ↓r_isiII, ↓r_isiBB, ↓r_isiIB, ↓r_isiSS, ↓r_neNS, ↓r_neSN, ↓r_neNN, ↓r_eqNS, ↓r_eqSN, ↓r_eqNN, ↓r_eqIS, ↓r_neIS, ↓r_neSI, ↓r_neBS, ↓r_eqBB, ↓r_neBB, ↓x_start, ↓x_K, ↓x_start0, ↓r_i0, ↓r_i, ↓r_u, ↓r_addI, ↓r_addS, ↓r_mulI, ↓r_mulS, ↓r_eqI, ↓r_neI, ↓r_eqS, ↓r_neS, ↓r_absI, ↓r_intI, ↓r_intB, List.length_cons, List.length_nil, List.replicate, List.set_cons_zero, List.set_cons_succ, decide_eq_true_eq, Bool.not_eq_true', decide_eq_false_iff_not, if_true, if_false, Bool.false_eq_true, Bool.true_eq_false, ite_true, ite_false, Bool.not_true, Bool.not_false, c_div, n_ten, c_pow, not_true_eq_false, not_false_eq_true, decide_true, decide_false, true_and, and_true, and_self, true_or, or_true, Int.reduceLT, Int.reduceLE, Int.reduceMul, Int.reduceAdd, Int.reduceSub, Int.reducePow, Int.reduceNeg, Int.reduceDiv, Int.reduceMod, Nat.reducePow, Int.reduceToNat, Int.reduceEq, Int.reduceNe, Nat.reduceLT, Nat.reduceLeDiff, Nat.reduceAdd, ↓x_whole, ↓x_kind, Int.natCast_one, Int.natCast_one, Int.natCast_one, Int.natCast_one, Int.natCast_one, Int.natCast_one, Int.natCast_one, Int.natCast_one, Int.natCast_one, Int.natCast_one, Int.natCast_one, Int.natCast_one, Int.natCast_one])
/-! ## pictures, without a program -/
inductive PT where
  | non | num (n : Int) | cell (k : Nat)
def PT.is (H : Hp) : PT → V → Prop
  | .non, v => v = .non
  | .num n, v => v = .int n
  | .cell k, v => ∃ a, v = .ref a ∧ H a = some (.tup [.str "cell", .int (k : Int)])
theorem PT.fr {H H' : Hp} (kt : ∀ c xs, H c = some (.tup xs) → H' c = some (.tup xs)) : ∀ {t : PT} {v : V}, t.is H v → t.is H' v
  | .non, _, h => h
  | .num _, _, h => h
  | .cell _, _, ⟨a, e, g⟩ => ⟨a, e, kt _ _ g⟩
def PTs (H : Hp) : List PT → List V → Prop
  | [], [] => True
  | t :: r, v :: s => t.is H v ∧ PTs H r s
  | _, _ => False
theorem PTs.fr {H H' : Hp} (kt : ∀ c xs, H c = some (.tup xs) → H' c = some (.tup xs)) : ∀ {ts : List PT} {vs : List V}, PTs H ts vs → PTs H' ts vs
  | [], [], _ => trivial
  | _ :: _, _ :: _, ⟨a, b⟩ => ⟨PT.fr kt a, PTs.fr kt b⟩
  | [], _ :: _, h => h.elim
  | _ :: _, [], h => h.elim
theorem PTs.same {H H' : Hp} (s : Same H H') {ts : List PT} {vs : List V} (h : PTs H ts vs) : PTs H' ts vs := h.fr fun c xs g => s _ _ g
theorem PTs.len {H : Hp} : ∀ {ts : List PT} {vs : List V}, PTs H ts vs → vs.length = ts.length
  | [], [], _ => rfl
  | _ :: _, _ :: _, ⟨_, b⟩ => congrArg (· + 1) (PTs.len b)
  | [], _ :: _, h => h.elim
  | _ :: _, [], h => h.elim
theorem PTs.get {H : Hp} : ∀ {ts : List PT} {vs : List V} {i : Nat} {v : V}, PTs H ts vs → vs[i]? = some v → ∃ t, ts[i]? = some t ∧ t.is H v
  | t :: _, v :: _, 0, _, ⟨a, _⟩, e => by cases e; exact ⟨t, rfl, a⟩
  | _ :: _, _ :: _, i + 1, _, ⟨_, b⟩, e => PTs.get (i := i) b e
  | [], [], _, _, _, e => by cases e
  | [], _ :: _, _, _, h, _ => h.elim
  | _ :: _, [], _, _, h, _ => h.elim
theorem PTs.snoc {H : Hp} {t : PT} {v : V} (h : t.is H v) : ∀ {ts : List PT} {vs : List V}, PTs H ts vs → PTs H (ts ++ [t]) (vs ++ [v])
  | [], [], _ => ⟨h, trivial⟩
  | _ :: _, _ :: _, ⟨a, b⟩ => ⟨a, PTs.snoc h b⟩
  | [], _ :: _, h => h.elim
  | _ :: _, [], h => h.elim
/-- a word by the cells' numbers -/
def drw (L : List Int) (w : Int) : PT := match placeIn w with
  | some p => .cell (L.idxOf p)
  | none => if w = -1 then .non else .num (w / 2)
def rwC (C : List CeL) (x : Int) : List Int := match C.find? fun c => decide ((c.p : Int) = x) with
  | some c => c.ws
  | none => []
theorem rwC_mem {S : ArS} {C : List CeL} (h : CelP S C) {c : CeL} (m : c ∈ C) : rwC C c.p = c.ws := by
  unfold rwC
  cases e : C.find? fun a => decide ((a.p : Int) = c.p) with
  | none =>
    have := List.find?_eq_none.mp e c m
    exact absurd (decide_eq_true rfl) this
  | some a =>
    have h1 := List.find?_some e
    have h2 := List.mem_of_find?_eq_some e
    rw [decide_eq_true_eq] at h1
    rw [h.same_p h2 m (by omega)]
theorem kC_rw {C : List CeL} {x : Int} : kC C x = kidsL (rwC C x) := by
  unfold kC rwC
  cases C.find? fun a => decide ((a.p : Int) = x) <;> rfl
def metC (C : List CeL) (hs : List Int) : List Int := reachC C (kidsL hs)
def picH (C : List CeL) (hs : List Int) : List PT := hs.map (drw (metC C hs))
def picR (C : List CeL) (hs : List Int) : List (List PT) := (metC C hs).map fun p => (rwC C p).map (drw (metC C hs))
theorem reach_more {kids : Int → List Int} {U : List Int} (hk : ∀ x ∈ U, ∀ y ∈ kids x, y ∈ U) : ∀ {k m : Nat} {F : List Int} {t : Nat}, F.Nodup → (∀ x ∈ F, x ∈ U) → U.length ≤ k + t → reachR kids k F t = reachR kids (k + m) F t
  | 0, m, F, t, nd, h, hl => by
    have := nd_len nd h
    rw [reachR_end (by omega), reachR_end (by omega)]
  | k + 1, m, F, t, nd, h, hl => by
    by_cases c : t < F.length
    · rw [show k + 1 + m = (k + m) + 1 from by omega, reachR_step c, reachR_step c]
      have ht : F.getD t 0 ∈ U := h _ (List.mem_of_getElem? (getD_at (d := 0) c))
      exact reach_more hk (addN_nd nd) (fun x mx => (addN_mem mx).elim (h x) (hk _ ht x)) (by omega)
    · rw [reachR_end (by omega), reachR_end (by omega)]
theorem idxOf_map {f : Int → Int} {U : List Int} (inj : ∀ x ∈ U, ∀ y ∈ U, f x = f y → x = y) {p : Int} (hp : p ∈ U) : ∀ {L : List Int}, (∀ x ∈ L, x ∈ U) → (L.map f).idxOf (f p) = L.idxOf p
  | [], _ => rfl
  | x :: r, h => by
    rw [List.map_cons, List.idxOf_cons, List.idxOf_cons, idxOf_map inj hp fun y m => h y (List.mem_cons_of_mem _ m)]
    by_cases c : x = p
    · subst c
      rw [beq_self_eq_true, beq_self_eq_true]
    · have c2 : f x ≠ f p := fun z => c (inj _ (h x List.mem_cons_self) _ hp z)
      rw [beq_false_of_ne c, beq_false_of_ne c2]
theorem turn_place {f : Int → Int} {w p : Int} (h : placeIn w = some p) (h0 : 0 ≤ f p) : placeIn (turnW f w) = some (f p) := by
  unfold turnW
  rw [h]
  exact placeIn_of h0
theorem turn_stay {f : Int → Int} {w : Int} (h : placeIn w = none) : turnW f w = w := by
  unfold turnW
  rw [h]
theorem kids_turn {f : Int → Int} {U : List Int} (h0 : ∀ x ∈ U, 0 ≤ f x) : ∀ {ws : List Int}, (∀ x ∈ kidsL ws, x ∈ U) → kidsL (ws.map (turnW f)) = (kidsL ws).map f
  | [], _ => rfl
  | w :: r, h => by
    unfold kidsL at h ⊢
    rw [List.map_cons, List.filterMap_cons, List.filterMap_cons]
    cases e : placeIn w with
    | none =>
      rw [turn_stay e, e]
      refine kids_turn h0 fun x m => h x ?_
      rw [List.filterMap_cons, e]
      exact m
    | some p =>
      rw [List.filterMap_cons, e] at h
      rw [turn_place e (h0 p (h p List.mem_cons_self))]
      show f p :: _ = f p :: _
      congr 1
      exact kids_turn h0 fun x m => h x (List.mem_cons_of_mem _ m)
/-- cells that went elsewhere give the same picture -/
theorem pic_move {C C' : List CeL} {f : Int → Int} {U hs : List Int} (inj : ∀ x ∈ U, ∀ y ∈ U, f x = f y → x = y) (ndU : U.Nodup) (h0 : ∀ x ∈ U, 0 ≤ f x) (hh : ∀ x ∈ kidsL hs, x ∈ U) (hk : ∀ x ∈ U, ∀ y ∈ kC C x, y ∈ U) (hr : ∀ x ∈ U, rwC C' (f x) = (rwC C x).map (turnW f))
    (l1 : U.length ≤ C.length) (l2 : U.length ≤ C'.length) : picH C' (hs.map (turnW f)) = picH C hs ∧ picR C' (hs.map (turnW f)) = picR C hs := by
  have inF : ∀ x ∈ addN [] (kidsL hs), x ∈ U := fun x m => (addN_mem m).elim (fun z => (List.not_mem_nil z).elim) (hh x)
  have km : ∀ x ∈ U, kC C' (f x) = (kC C x).map f := fun x mx => by
    rw [kC_rw, kC_rw, hr x mx]
    exact kids_turn h0 fun y my => hk x mx y (by rw [kC_rw]; exact my)
  have ml : metC C' (hs.map (turnW f)) = (metC C hs).map f := by
    unfold metC reachC
    rw [kids_turn h0 hh]
    have n1 : (addN [] (kidsL hs)).Nodup := addN_nd List.nodup_nil
    have e1 := reach_more hk (k := U.length) (m := C.length - U.length) (F := addN [] (kidsL hs)) (t := 0) n1 inF (by omega)
    rw [show U.length + (C.length - U.length) = C.length from by omega] at e1
    have inF2 : ∀ x ∈ addN [] ((kidsL hs).map f), x ∈ U.map f := fun x m => (addN_mem m).elim (fun z => (List.not_mem_nil z).elim) fun z => by
      obtain ⟨y, my, rfl⟩ := List.mem_map.mp z
      exact List.mem_map.mpr ⟨y, hh y my, rfl⟩
    have hk2 : ∀ x ∈ U.map f, ∀ y ∈ kC C' x, y ∈ U.map f := fun x mx y my => by
      obtain ⟨z, mz, rfl⟩ := List.mem_map.mp mx
      rw [km z mz] at my
      obtain ⟨v, mv, rfl⟩ := List.mem_map.mp my
      exact List.mem_map.mpr ⟨v, hk z mz v mv, rfl⟩
    have e2 := reach_more hk2 (k := U.length) (m := C'.length - U.length) (F := addN [] ((kidsL hs).map f)) (t := 0) (addN_nd List.nodup_nil) inF2 (by rw [List.length_map]; omega)
    rw [show U.length + (C'.length - U.length) = C'.length from by omega] at e2
    rw [← e1, ← e2, reach_map inj hk km inF, addN_map inj hh (fun x m => (List.not_mem_nil m).elim)]
    rfl
  have mU : ∀ x ∈ metC C hs, x ∈ U := reach_in hk inF
  have dr : ∀ {w : Int}, (∀ p, placeIn w = some p → p ∈ U) → drw (metC C' (hs.map (turnW f))) (turnW f w) = drw (metC C hs) w := fun {w} h => by
    unfold drw
    cases e : placeIn w with
    | none => rw [turn_stay e, e]
    | some p =>
      rw [turn_place e (h0 p (h p e)), ml]
      show PT.cell _ = PT.cell _
      rw [idxOf_map inj (h p e) mU]
  have inK : ∀ {ws : List Int} {w p : Int}, w ∈ ws → placeIn w = some p → p ∈ kidsL ws := fun mw e => List.mem_filterMap.mpr ⟨_, mw, e⟩
  refine ⟨?_, ?_⟩
  · unfold picH
    rw [List.map_map]
    exact List.map_congr_left fun w mw => dr fun p e => hh p (inK mw e)
  · unfold picR
    rw [ml] at dr ⊢
    rw [List.map_map]
    refine List.map_congr_left fun x mx => ?_
    show (rwC C' (f x)).map _ = _
    rw [hr x (mU x mx), List.map_map]
    exact List.map_congr_left fun w mw => dr fun p e => hk x (mU x mx) p (by rw [kC_rw]; exact inK mw e)
/-- behind a young collection -/
theorem pic_young {S S1 : ArS} {C qs : List CeL} {hs : List Int} (P : Y0 S C) (G : Yg S C qs S1) (dn : ∀ u x, SlY S C qs u x → Dn S qs x (S1.ws.getD u 0)) (hw : ∀ w ∈ hs, ClW C w) (dh : ∀ w ∈ hs, dnY S qs w) (cp' : CelP (flS S1) (newC S C qs)) :
    picH (newC S C qs) (hs.map (trY S qs)) = picH C hs ∧ picR (newC S C qs) (hs.map (trY S qs)) = picR C hs := by
  let U : List Int := (C.filter fun c => !decide ((S.b S.fl : Int) ≤ c.p ∧ (c.p : Int) < S.t S.fl) || decide ((goG (psY S qs) c.p).isSome)).map fun c => (c.p : Int)
  have uM : ∀ x : Int, x ∈ U ↔ ∃ c ∈ C, x = (c.p : Int) ∧ (Yng S c.p → ∃ y ∈ fwY S qs, y.1 = c) := fun x => by
    constructor
    · intro m
      obtain ⟨c, mc, rfl⟩ := List.mem_map.mp m
      obtain ⟨h1, h2⟩ := List.mem_filter.mp mc
      refine ⟨c, h1, rfl, fun y => ?_⟩
      rw [Bool.or_eq_true, Bool.not_eq_true', decide_eq_false_iff_not, decide_eq_true_iff] at h2
      rcases h2 with h2 | h2
      · exact absurd y h2
      · obtain ⟨q, eq⟩ := Option.isSome_iff_exists.mp h2
        obtain ⟨z, mz, e1, -, -⟩ := G.go_y eq
        exact ⟨z, mz, P.cp.same_p (G.mq _ (fw_mem mz)).1 h1 (by omega)⟩
    · rintro ⟨c, mc, rfl, h⟩
      refine List.mem_map.mpr ⟨c, List.mem_filter.mpr ⟨mc, ?_⟩, rfl⟩
      rw [Bool.or_eq_true, Bool.not_eq_true', decide_eq_false_iff_not, decide_eq_true_iff]
      by_cases y : Yng S c.p
      · obtain ⟨z, mz, e⟩ := h y
        refine .inr ?_
        have : (c, z.2) ∈ fwY S qs := by rw [← e]; exact mz
        obtain ⟨q, -, eq⟩ := G.go (fw_mem this)
        have eq : goG (psY S qs) (c.p : Int) = some (q : Int) := eq
        rw [eq]
        rfl
      · exact .inl y
  have goS : ∀ {z : CeL × Nat}, z ∈ fwY S qs → goG (psY S qs) z.1.p = some (z.2 : Int) := fun {z} mz => by
    obtain ⟨q, mq, e⟩ := G.go (fw_mem mz)
    have h1 := G.sn _ mz
    have h2 := G.sn _ mq
    have h2 : S1.ws.getD z.1.p 0 = 2 * (q : Int) + 1 := h2
    rw [e]
    congr 1
    omega
  have fo : ∀ {c : CeL}, ¬ Yng S c.p → (goG (psY S qs) c.p).getD (c.p : Int) = (c.p : Int) := fun y => by rw [G.go_n y]; rfl
  have fy : ∀ {z : CeL × Nat}, z ∈ fwY S qs → (goG (psY S qs) z.1.p).getD (z.1.p : Int) = (z.2 : Int) := fun mz => by rw [goS mz]; rfl
  have wU : ∀ {w p : Int}, ClW C w → dnY S qs w → placeIn w = some p → p ∈ U := fun {w p} cl d e => by
    obtain ⟨x, ex⟩ := Option.isSome_iff_exists.mp cl.1
    have ep := wd_place ex
    rw [e] at ep
    cases x with
    | place p' =>
      cases ep
      obtain ⟨c, mc, rfl⟩ := cl.2 _ ex
      refine (uM _).mpr ⟨c, mc, rfl, fun y => ?_⟩
      obtain ⟨q, eq⟩ := Option.isSome_iff_exists.mp (d _ e y)
      obtain ⟨z, mz, e1, -, -⟩ := G.go_y eq
      exact ⟨z, mz, P.cp.same_p (G.mq _ (fw_mem mz)).1 mc (by omega)⟩
    | _ => cases ep
  have rows : ∀ x ∈ U, (∀ w ∈ rwC C x, ClW C w ∧ dnY S qs w) ∧ rwC (newC S C qs) ((goG (psY S qs) x).getD x) = (rwC C x).map (trY S qs) := fun x mx => by
    obtain ⟨c, mc, rfl, h⟩ := (uM x).mp mx
    rw [rwC_mem P.cp mc]
    have gd : ∀ {w : Int}, w ∈ c.ws → ∃ j, j < c.ws.length ∧ c.ws.getD j 0 = w := fun {w} mw => by
      obtain ⟨j, ej⟩ := List.getElem?_of_mem mw
      exact ⟨j, (List.getElem?_eq_some_iff.mp ej).1, by rw [List.getD_eq_getElem?_getD, ej]; rfl⟩
    by_cases y : Yng S c.p
    · obtain ⟨z, mz, rfl⟩ := h y
      refine ⟨fun w mw => ⟨P.cw _ mc w mw, ?_⟩, ?_⟩
      · obtain ⟨j, hj, e⟩ := gd mw
        have := (dn (z.2 + 1 + j) (z.1.ws.getD j 0) (.inr ⟨z, mz, j, hj, rfl, rfl⟩)).1
        rw [e] at this
        exact this
      · rw [fy mz]
        exact rwC_mem cp' (newC_new (C := C) mz)
    · refine ⟨fun w mw => ⟨P.cw _ mc w mw, ?_⟩, ?_⟩
      · obtain ⟨j, hj, e⟩ := gd mw
        have := (dn (c.p + 1 + j) (c.ws.getD j 0) (.inl ⟨c, mc, y, j, hj, rfl, rfl⟩)).1
        rw [e] at this
        exact this
      · rw [fo y]
        exact rwC_mem cp' (newC_old mc y)
  have ndU : U.Nodup := by
    refine List.pairwise_map.mpr ((List.Pairwise.filter _ P.cp.dj).imp fun {a b} h e => ?_)
    omega
  have lk : ∀ {ws : List Int} {y : Int}, y ∈ kidsL ws → ∃ w ∈ ws, placeIn w = some y := fun m => List.mem_filterMap.mp m
  refine pic_move (U := U) (f := fun p => (goG (psY S qs) p).getD p) ?_ ndU ?_ (fun x mx => ?_) (fun x mx y my => ?_) (fun x mx => (rows x mx).2) ?_ ?_
  · intro x mx y my e
    obtain ⟨c, mc, rfl, hc⟩ := (uM x).mp mx
    obtain ⟨d, md, rfl, hd⟩ := (uM y).mp my
    have e : (goG (psY S qs) (c.p : Int)).getD (c.p : Int) = (goG (psY S qs) (d.p : Int)).getD (d.p : Int) := e
    by_cases yc : Yng S c.p
    · obtain ⟨z, mz, rfl⟩ := hc yc
      rw [fy mz] at e
      by_cases yd : Yng S d.p
      · obtain ⟨v, mv, rfl⟩ := hd yd
        rw [fy mv] at e
        have e2 := goS mz
        have e3 := goS mv
        by_cases c : z = v
        · rw [c]
        · have := pair_mem (R := fun a b : CeL × Nat => a.2 + a.1.ws.length < b.2 ∨ b.2 + b.1.ws.length < a.2) (fun _ _ q => q.symm) G.nj mz mv c
          omega
      · rw [fo yd] at e
        have := (G.nx P mz).1 d md
        omega
    · rw [fo yc] at e
      by_cases yd : Yng S d.p
      · obtain ⟨v, mv, rfl⟩ := hd yd
        rw [fy mv] at e
        have := (G.nx P mv).1 c mc
        omega
      · rw [fo yd] at e
        exact e
  · intro x mx
    obtain ⟨c, mc, rfl, hc⟩ := (uM x).mp mx
    show 0 ≤ (goG (psY S qs) (c.p : Int)).getD (c.p : Int)
    by_cases yc : Yng S c.p
    · obtain ⟨z, mz, rfl⟩ := hc yc
      rw [fy mz]
      omega
    · rw [fo yc]
      omega
  · obtain ⟨w, mw, e⟩ := lk mx
    exact wU (hw w mw) (dh w mw) e
  · rw [kC_rw] at my
    obtain ⟨w, mw, e⟩ := lk my
    obtain ⟨h1, h2⟩ := (rows x mx).1 w mw
    exact wU h1 h2 e
  · show (List.map _ _).length ≤ _
    rw [List.length_map]
    exact List.length_filter_le _ _
  · have : ∀ x ∈ U.map (fun p => (goG (psY S qs) p).getD p), x ∈ plcC (newC S C qs) := fun x mx => by
      obtain ⟨y, my, rfl⟩ := List.mem_map.mp mx
      obtain ⟨c, mc, rfl, hc⟩ := (uM y).mp my
      show (goG (psY S qs) (c.p : Int)).getD (c.p : Int) ∈ _
      by_cases yc : Yng S c.p
      · obtain ⟨z, mz, rfl⟩ := hc yc
        rw [fy mz]
        exact List.mem_map.mpr ⟨_, newC_new (C := C) mz, rfl⟩
      · rw [fo yc]
        exact List.mem_map.mpr ⟨_, newC_old mc yc, rfl⟩
    have nd2 : (U.map fun p => (goG (psY S qs) p).getD p).Nodup := by
      refine List.pairwise_map.mpr (List.Pairwise.imp_of_mem (fun {x y} mx my n e => n ?_) ndU)
      obtain ⟨c, mc, rfl, hc⟩ := (uM x).mp mx
      obtain ⟨d, md, rfl, hd⟩ := (uM y).mp my
      have e : (goG (psY S qs) (c.p : Int)).getD (c.p : Int) = (goG (psY S qs) (d.p : Int)).getD (d.p : Int) := e
      by_cases yc : Yng S c.p
      · obtain ⟨z, mz, rfl⟩ := hc yc
        rw [fy mz] at e
        by_cases yd : Yng S d.p
        · obtain ⟨v, mv, rfl⟩ := hd yd
          rw [fy mv] at e
          by_cases c : z = v
          · rw [c]
          · have := pair_mem (R := fun a b : CeL × Nat => a.2 + a.1.ws.length < b.2 ∨ b.2 + b.1.ws.length < a.2) (fun _ _ q => q.symm) G.nj mz mv c
            omega
        · rw [fo yd] at e
          have := (G.nx P mz).1 d md
          omega
      · rw [fo yc] at e
        by_cases yd : Yng S d.p
        · obtain ⟨v, mv, rfl⟩ := hd yd
          rw [fy mv] at e
          have := (G.nx P mv).1 c mc
          omega
        · rw [fo yd] at e
          exact e
    have := nd_len nd2 this
    have e1 : (U.map fun p => (goG (psY S qs) p).getD p).length = U.length := List.length_map ..
    have e2 : (plcC (newC S C qs)).length = (newC S C qs).length := List.length_map ..
    omega

local macro_rules | `(tactic| walk_at "w3") => `(tactic| try simp only [↓x_var0, ↓x_varS, ↓x_c, ↓x_op, ↓x_un, ↓x_cb, ↓x_nil, ↓x_cons, ↓x_test, ↓x_b, ↓x_ex, ↓x_and, ↓x_or, ↓x_not, ↓x_andV, ↓x_orV, ↓x_notV, ↓x_tif, ↓x_chain, ↓x_menu, ↓x_menuI, ↓x_lst, ↓x_tup, ↓x_dnew, ↓x_callW, ↓x_callN, ↓x_seq, ↓x_next, ↓x_ret, ↓x_retN, ↓x_drop, ↓x_ifS, ↓x_asg, ↓x_name, ↓x_raise, ↓x_fld, ↓x_setF, ↓x_meth, ↓x_make, ↓x_sub, ↓r_min, ↓r_max, ↓x_yes, ↓x_for, ↓x_lock, ↓x_keys, ↓x_cut, ↓x_lc, ↓x_rng1, ↓x_rng2, ↓x_lst1, ↓x_itup, ↓x_rng3, ↓x_three, ↓x_lstg, ↓x_tupg, ↓x_adrS, ↓x_one, ↓x_two, ↓x_adr, ↓x_sl, ↓x_np, ↓x_pt, ↓x_int, ↓x_bm, ↓x_bm0, ↓x_consg, ↓x_nilg, ↓x_dget2, ↓x_dget1, ↓x_dgetN, ↓x_dget, ↓x_din, ↓x_dni, ↓x_dput, ↓x_dpop2, ↓r_isB, ↓r_notB, ↓x_enum, ↓x_zip, ↓x_str, ↓x_strE, ↓r_inS, ↓r_ninS, wipe, List.map_cons, List.map_nil, ↓x_isT, ↓r_isiII, ↓r_isiBB, ↓r_isiIB, ↓r_isiSS, ↓r_neNS, ↓r_neSN, ↓r_neNN, ↓r_eqNS, ↓r_eqSN, ↓r_eqNN, ↓r_eqIS, ↓r_neIS, ↓r_neSI, ↓r_neBS, ↓r_eqBB, ↓r_neBB, ↓x_start, ↓x_K, ↓x_start0, ↓r_i0, ↓r_i, ↓r_u, ↓r_addI, ↓r_addS, ↓r_mulI, ↓r_mulS, ↓r_eqI, ↓r_neI, ↓r_eqS, ↓r_neS, ↓r_absI, ↓r_intI, ↓r_intB, List.length_cons, List.length_nil, List.replicate, List.set_cons_zero, List.set_cons_succ, decide_eq_true_eq, Bool.not_eq_true', decide_eq_false_iff_not, if_true, if_false, Bool.false_eq_true, Bool.true_eq_false, ite_true, ite_false, Bool.not_true, Bool.not_false, c_div, n_ten, c_pow, not_true_eq_false, not_false_eq_true, decide_true, decide_false, true_and, and_true, and_self, true_or, or_true, Int.reduceLT, Int.reduceLE, Int.reduceMul, Int.reduceAdd, Int.reduceSub, Int.reducePow, Int.reduceNeg, Int.reduceDiv, Int.reduceMod, Nat.reducePow, Int.reduceToNat, Int.reduceEq, Int.reduceNe, Nat.reduceLT, Nat.reduceLeDiff, Nat.reduceAdd, ↓x_whole, ↓x_kind, Int.natCast_one, Int.natCast_one, Int.natCast_one, Int.natCast_one, Int.natCast_one, Int.natCast_one, Int.natCast_one, Int.natCast_one, Int.natCast_one, Int.natCast_one, Int.natCast_one, Int.natCast_one, Int.natCast_one, Int.natCast_one])
/-! ## behind a whole collection -/
theorem places_kidsP {ws : List Int} (h : ∀ w ∈ ws, (wordOf w).isSome = true) : placesW ws = kidsL ws := by
  unfold placesW kidsL
  induction ws with
  | nil => rfl
  | cons w r ih =>
    rw [List.filterMap_cons, List.filterMap_cons, ih fun x m => h x (List.mem_cons_of_mem _ m)]
    have := h w List.mem_cons_self
    cases e : wordOf w with
    | none => rw [e] at this; cases this
    | some x =>
      have e2 := wd_place e
      rw [e2]
      cases x <;> rfl
theorem sumW_filter {p : CeL → Bool} : ∀ {D : List CeL}, sumW (D.filter p) + sumW (D.filter fun c => !p c) = sumW D
  | [] => rfl
  | c :: r => by
    have ih := sumW_filter (p := p) (D := r)
    have e : sumW (c :: r) = (c.ws.length + 1) + sumW r := rfl
    cases h : p c with
    | true =>
      rw [List.filter_cons_of_pos h, List.filter_cons_of_neg (by rw [h]; exact Bool.false_ne_true), e]
      have e2 : sumW (c :: r.filter p) = (c.ws.length + 1) + sumW (r.filter p) := rfl
      omega
    | false =>
      rw [List.filter_cons_of_neg (by rw [h]; exact Bool.false_ne_true), List.filter_cons_of_pos (by rw [h]; rfl), e]
      have e2 : sumW (c :: r.filter fun c => !p c) = (c.ws.length + 1) + sumW (r.filter fun c => !p c) := rfl
      omega
theorem Y0.fits {S : ArS} {C : List CeL} (P : Y0 S C) {ks : List Int} (nd : ks.Nodup) (hk : ∀ x ∈ ks, ∃ c ∈ C, x = (c.p : Int)) : (ks.map (wC C)).sum ≤ (S.n : Int) := by
  obtain ⟨D, h1, h2⟩ := pick hk
  have e := wC_D (C := C) (D := D) fun d md => wC_mem P.cp (h2 d md)
  rw [h1] at e
  rw [e]
  have ndD : D.Pairwise fun a b => a.p ≠ b.p := by
    rw [← h1] at nd
    exact (List.pairwise_map.mp nd).imp fun {a b} h z => h (by rw [z])
  have s1 := P.sum (qs := D.filter fun c => decide ((S.b S.fl : Int) ≤ c.p ∧ (c.p : Int) < S.t S.fl)) (fun c mc => by
    obtain ⟨m1, m2⟩ := List.mem_filter.mp mc
    rw [decide_eq_true_iff] at m2
    exact ⟨h2 c m1, m2⟩) (List.Pairwise.filter _ ndD)
  have s2 : sumW (D.filter fun c => !decide ((S.b S.fl : Int) ≤ c.p ∧ (c.p : Int) < S.t S.fl)) ≤ S.ot - 0 := by
    refine sum_in (List.Pairwise.imp_of_mem (fun {a b} ma mb h => P.cp.apart (h2 a (List.mem_filter.mp ma).1) (h2 b (List.mem_filter.mp mb).1) fun z => h (by rw [z])) (List.Pairwise.filter _ ndD)) fun c mc => ?_
    obtain ⟨m1, m2⟩ := List.mem_filter.mp mc
    rw [Bool.not_eq_true', decide_eq_false_iff_not] at m2
    rcases P.side (h2 c m1) with ⟨-, h⟩ | ⟨h, -⟩
    · omega
    · exact absurd h m2
  have := sumW_filter (p := fun c => decide ((S.b S.fl : Int) ≤ c.p ∧ (c.p : Int) < S.t S.fl)) (D := D)
  have := P.rm
  omega
theorem pic_slide {S S' : ArS} {U U' : RoS} {C D : List CeL} {ss : List Int} (R : SlidR S U C ss D S' U') (cp : CelP S C) (cw : ∀ c ∈ C, ∀ w ∈ c.ws, ClW C w) (hw : ∀ w ∈ U.hs, ClW C w) :
    picH (slC 0 D) U'.hs = picH C U.hs ∧ picR (slC 0 D) U'.hs = picR C U.hs := by
  have pk : placesW U.hs = kidsL U.hs := places_kidsP fun w mw => (hw w mw).1
  have inC : ∀ x ∈ kidsL U.hs, x ∈ plcC C := fun x m => by
    obtain ⟨w, mw, e⟩ := List.mem_filterMap.mp m
    obtain ⟨y, ey⟩ := Option.isSome_iff_exists.mp (hw w mw).1
    obtain ⟨c, mc, e2⟩ := (hw w mw).2 x ((kids_place ey).mp e)
    exact List.mem_map.mpr ⟨c, mc, e2.symm⟩
  have RC := reachC_is cp cw inC
  have pm := R.pm
  rw [pk] at pm
  have nds : ss.Nodup := pm.nodup_iff.mpr RC.nd
  have dl : D.length = ss.length := by
    rw [← R.dp, List.length_map]
  have dW : ∀ d ∈ D, wC C d.p = (d.ws.length : Int) + 1 := fun d md => by
    obtain ⟨c, mc, e1, e2, e3⟩ := R.dw d md
    rw [← e1, wC_mem cp mc, e3, List.length_map]
  have at_ : ∀ x ∈ ss, ∃ (k : Nat) (d c : CeL), D[k]? = some d ∧ k < D.length ∧ x = (d.p : Int) ∧ c ∈ C ∧ c.p = d.p ∧ d.ws = c.ws.map (turnW (goF (goP C ss))) ∧ goF (goP C ss) x = ((sumW (D.take k) : Nat) : Int) ∧ (⟨0 + sumW (D.take k), d.r, d.ws⟩ : CeL) ∈ slC 0 D := fun x mx => by
    obtain ⟨k, ek⟩ := List.getElem?_of_mem mx
    have ek2 := ek
    rw [← R.dp, List.getElem?_map] at ek2
    cases ed : D[k]? with
    | none => rw [ed] at ek2; cases ek2
    | some d =>
      rw [ed] at ek2
      have ex := (Option.some.inj ek2).symm
      obtain ⟨c, mc, e1, e2, e3⟩ := R.dw d (List.mem_of_getElem? ed)
      refine ⟨k, d, c, ed, (List.getElem?_eq_some_iff.mp ed).1, ex, mc, e1, e3, ?_, List.mem_of_getElem? (slC_get ed)⟩
      unfold goF
      rw [goP_mem cp nds ek]
      show ((ss.take k).map (wC C)).sum = _
      rw [← R.dp, ← List.map_take, wC_D fun d md => dW d (List.mem_of_mem_take md)]
  have mono : ∀ {j k : Nat} {d : CeL}, D[j]? = some d → j < k → sumW (D.take j) < sumW (D.take k) := fun {j k d} ed lt => by
    have h1 := sum_take ed
    have h2 := sum_le (D := D) (j := j + 1) (k := k) lt
    omega
  rw [R.hs]
  refine pic_move (U := ss) ?_ nds (fun x mx => ?_) (fun x mx => pm.mem_iff.mpr (RC.st x mx)) (fun x mx y my => ?_) (fun x mx => ?_) ?_ ?_
  · intro x mx y my e
    obtain ⟨k, d, c, ed, kl, rfl, -, -, -, e1, -⟩ := at_ x mx
    obtain ⟨j, d', c', ed', jl, rfl, -, -, -, e2, -⟩ := at_ y my
    rw [e1, e2] at e
    rcases Nat.lt_trichotomy k j with h | h | h
    · have := mono ed h
      omega
    · subst h
      rw [ed] at ed'
      cases ed'
      rfl
    · have := mono ed' h
      omega
  · obtain ⟨k, d, c, ed, kl, rfl, -, -, -, e1, -⟩ := at_ x mx
    omega
  · obtain ⟨k, d, c, ed, kl, rfl, mc, e0, -, e1, -⟩ := at_ x mx
    rw [← e0, kC_mem cp mc] at my
    exact pm.mem_iff.mpr (RC.kd c mc (pm.mem_iff.mp (by rw [e0]; exact mx)) y my)
  · obtain ⟨k, d, c, ed, kl, rfl, mc, e0, e3, e1, ms⟩ := at_ x mx
    rw [e1, ← e0, rwC_mem cp mc, ← e3]
    have := rwC_mem R.ce ms
    have this : rwC (slC 0 D) ((0 + sumW (D.take k) : Nat) : Int) = d.ws := this
    rwa [Nat.zero_add] at this
  · have := nd_len (U := plcC C) nds fun x mx => by
      obtain ⟨c, mc, e⟩ := RC.cl x (pm.mem_iff.mp mx)
      exact List.mem_map.mpr ⟨c, mc, e.symm⟩
    have e : (plcC C).length = C.length := List.length_map ..
    omega
  · rw [slC_len]
    omega

local macro_rules | `(tactic| walk_at "w3") => `(tactic| try simp only [↓x_var0, ↓x_varS, ↓x_c, ↓x_op, ↓x_un, ↓x_cb, ↓x_nil, ↓x_cons, ↓x_test, ↓x_b, ↓x_ex, ↓x_and, ↓x_or, ↓x_not, ↓x_andV, ↓x_orV, ↓x_notV, ↓x_tif, ↓x_chain, ↓x_menu, ↓x_menuI, ↓x_lst, ↓x_tup, ↓x_dnew, ↓x_callW, ↓x_callN, ↓x_seq, ↓x_next, ↓x_ret, ↓x_retN, ↓x_drop, ↓x_ifS, ↓x_asg, ↓x_name, ↓x_raise, ↓x_fld, ↓x_setF, ↓x_meth, ↓x_make, ↓x_sub, ↓r_min, ↓r_max, ↓x_yes, ↓x_for, ↓x_lock, ↓x_keys, ↓x_cut, ↓x_lc, ↓x_rng1, ↓x_rng2, ↓x_lst1, ↓x_itup, ↓x_rng3, ↓x_three, ↓x_lstg, ↓x_tupg, ↓x_adrS, ↓x_one, ↓x_two, ↓x_adr, ↓x_sl, ↓x_np, ↓x_pt, ↓x_int, ↓x_bm, ↓x_bm0, ↓x_consg, ↓x_nilg, ↓x_dget2, ↓x_dget1, ↓x_dgetN, ↓x_dget, ↓x_din, ↓x_dni, ↓x_dput, ↓x_dpop2, ↓r_isB, ↓r_notB, ↓x_enum, ↓x_zip, ↓x_str, ↓x_strE, ↓r_inS, ↓r_ninS, wipe, List.map_cons, List.map_nil, ↓x_isT, ↓r_isiII, ↓r_isiBB, ↓r_isiIB, ↓r_isiSS, ↓r_neNS, ↓r_neSN, ↓r_neNN, ↓r_eqNS, ↓r_eqSN, ↓r_eqNN, ↓r_eqIS, ↓r_neIS, ↓r_neSI, ↓r_neBS, ↓r_eqBB, ↓r_neBB, ↓x_start, ↓x_K, ↓x_start0, ↓r_i0, ↓r_i, ↓r_u, ↓r_addI, ↓r_addS, ↓r_mulI, ↓r_mulS, ↓r_eqI, ↓r_neI, ↓r_eqS, ↓r_neS, ↓r_absI, ↓r_intI, ↓r_intB, List.length_cons, List.length_nil, List.replicate, List.set_cons_zero, List.set_cons_succ, decide_eq_true_eq, Bool.not_eq_true', decide_eq_false_iff_not, if_true, if_false, Bool.false_eq_true, Bool.true_eq_false, ite_true, ite_false, Bool.not_true, Bool.not_false, c_div, n_ten, c_pow, not_true_eq_false, not_false_eq_true, decide_true, decide_false, true_and, and_true, and_self, true_or, or_true, Int.reduceLT, Int.reduceLE, Int.reduceMul, Int.reduceAdd, Int.reduceSub, Int.reducePow, Int.reduceNeg, Int.reduceDiv, Int.reduceMod, Nat.reducePow, Int.reduceToNat, Int.reduceEq, Int.reduceNe, Nat.reduceLT, Nat.reduceLeDiff, Nat.reduceAdd, ↓x_whole, ↓x_kind, Int.natCast_one, Int.natCast_one, Int.natCast_one, Int.natCast_one, Int.natCast_one, Int.natCast_one, Int.natCast_one, Int.natCast_one, Int.natCast_one, Int.natCast_one, Int.natCast_one, Int.natCast_one, Int.natCast_one, Int.natCast_one, Int.natCast_one])
/-! ## pictures -/
/-- numbers by places -/
def psN (L : List Int) (n : Nat) : List (Int × Int) := (List.range n).map fun j => (L.getD j 0, (j : Int))
theorem psN_succ {L : List Int} {n : Nat} : psN L (n + 1) = psN L n ++ [(L.getD n 0, (n : Int))] := by
  unfold psN
  rw [List.range_succ, List.map_append]
  rfl
theorem psN_fst {L : List Int} : (psN L L.length).map (·.1) = L := by
  unfold psN
  rw [List.map_map]
  exact getD_rangeI
theorem psN_get {L : List Int} (nd : L.Nodup) {p : Int} (m : p ∈ L) : goG (psN L L.length) p = some ((L.idxOf p : Nat) : Int) := by
  have hi := List.idxOf_lt_length_of_mem m
  have e : L.getD (L.idxOf p) 0 = p := by
    rw [List.getD_eq_getElem?_getD, List.getElem?_eq_getElem hi]
    exact List.getElem_idxOf hi
  have mm : (p, ((L.idxOf p : Nat) : Int)) ∈ psN L L.length := List.mem_map.mpr ⟨L.idxOf p, List.mem_range.mpr hi, by rw [e]⟩
  exact goG_mem (kvI_pw (by rw [psN_fst]; exact nd)) mm
theorem psN_new {L : List Int} (nd : L.Nodup) {n : Nat} (hn : n < L.length) : ∀ a ∈ psN L n, a.1 ≠ L.getD n 0 := fun a ma e => by
  obtain ⟨j, mj, rfl⟩ := List.mem_map.mp ma
  have hj := List.mem_range.mp mj
  have e : L.getD j 0 = L.getD n 0 := e
  rw [List.getD_eq_getElem?_getD, List.getD_eq_getElem?_getD, List.getElem?_eq_getElem (by omega), List.getElem?_eq_getElem hn] at e
  have := (List.getElem_inj nd).mp e
  omega
def sp_drawn (K : PySem.W.Frag) : Sp := fun vs H Q _ => ∃ w d L, vs = [.int w, .ref d] ∧ H d = some (.dK (kvI (psN L L.length))) ∧ L.Nodup ∧ (wordOf w).isSome = true ∧ (∀ p, placeIn w = some p → p ∈ L) ∧ ∀ v H', Same H H' → PT.is H' (drw L w) v → Q v H'
def sp_drawn_cell (K : PySem.W.Frag) : Sp := fun vs H Q _ => ∃ m mx l S C d L, ∃ c ∈ C, vs = [.ref m, .int (c.p : Int), .ref d] ∧ MemO K H m mx l S.ws ∧ Vw S.ws ∧ CelP S C ∧ c.p + c.ws.length < S.ws.length ∧ H d = some (.dK (kvI (psN L L.length))) ∧ L.Nodup ∧ (∀ w ∈ c.ws, (wordOf w).isSome = true ∧ ∀ p, placeIn w = some p → p ∈ L) ∧
  ∀ p us H', H p = none → Same H H' → H' p = some (.lst us) → PTs H' (c.ws.map (drw L)) us → Q (.ref p) H'
/-- a picture in the heap -/
structure PicO (H : Hp) (tp : Addr) (a b : Addr) (rr : List Addr) (ph : List PT) (pr : List (List PT)) : Prop where
  tp_ : H tp = some (.tup [.ref a, .ref b])
  ha : ∃ vs, H a = some (.lst vs) ∧ PTs H ph vs
  hb : H b = some (.lst (rr.map V.ref))
  el : rr.length = pr.length
  hr : ∀ (i : Nat) (r : Addr), rr[i]? = some r → ∃ q us, pr[i]? = some q ∧ H r = some (.lst us) ∧ PTs H q us
  nd : (a :: b :: rr).Nodup
theorem PicO.same {H H' : Hp} {tp a b : Addr} {rr : List Addr} {ph : List PT} {pr : List (List PT)} (h : PicO H tp a b rr ph pr) (s : Same H H') : PicO H' tp a b rr ph pr :=
  { h with tp_ := s _ _ h.tp_, ha := h.ha.elim fun vs z => ⟨vs, s _ _ z.1, z.2.same s⟩, hb := s _ _ h.hb, hr := fun i r e => (h.hr i r e).elim fun q z => z.elim fun us z => ⟨q, us, z.1, s _ _ z.2.1, z.2.2.same s⟩ }
def sp_picture (K : PySem.W.Frag) : Sp := fun vs H Q _ => ∃ A R S U C, vs = [.ref A.a, .ref R.r] ∧ PairO K H A R S U ∧ CelP S C ∧ (∀ c ∈ C, c.p + c.ws.length < S.ws.length) ∧ (∀ c ∈ C, ∀ w ∈ c.ws, ClW C w) ∧ (∀ w ∈ U.hs, ClW C w) ∧ C.length ≤ 1000 ∧
  ∀ tp a b rr H', PicO H' tp a b rr (picH C U.hs) (picR C U.hs) → Same H H' → H a = none → H b = none → (∀ r ∈ rr, H r = none) → Q (.ref tp) H'
theorem wd_num {w n : Int} (h : wordOf w = some (.num n)) : w = 2 * n := by
  unfold wordOf at h
  repeat' split at h
  all_goals first
    | (cases h; done)
    | (cases h; omega)
theorem wd_non {w : Int} (h : wordOf w = some .nothing) : w = -1 := by
  unfold wordOf at h
  repeat' split at h
  all_goals first
    | (cases h; done)
    | assumption
section
variable {P : Program} {w : World} {K : PySem.W.Frag} {mg : Str → Option Value} {base : Heap}
theorem f_drawn (T : Tx K mg) : Fn P w K mg base 4 "drawn" ["word", "numbers"] (sp_drawn K) := by
  have c_kind := f_kind (P := P) (w := w) (base := base) T
  have c_worth := f_worth (P := P) (w := w) (base := base) T
  refine T.mkFn 18 36 (d := d_drawn) (N := ["word", "numbers"]) (k := 3) rfl rfl rfl rfl rfl sc_drawn (fun _ _ _ _ _ _ us hl => match us, hl with | [_, _], _ => rfl) (fun vs H Q E h => ?len) (fun cdv A outer s H vs Q E hr h => ⟨_,
      (pss_cons (ps_if (pt_cmpR (op_eqK (K := K) rfl hr.units) (pe_fn (takes_of rfl rfl rfl rfl) c_kind (hr.mono (by decide)) (by rfl) (pa_cons (pv 0) pa_nil)) pe_str (nomark _)) (pss_one (ps_ret (pe_tup (pa_cons pe_str (pa_cons (pe_dget (hu_of hr) (pv 1) (pe_fn (takes_of rfl rfl rfl rfl) c_worth (hr.mono (by decide)) (by rfl) (pa_cons (pv 0) pa_nil)) (fun _ _ => rfl)) pa_nil))))) pss_nil)
        (pss_one (ps_ret (pe_fn (takes_of rfl rfl rfl rfl) c_worth (hr.mono (by decide)) (by rfl) (pa_cons (pv 0) pa_nil))))), ?rd⟩)
  case len => first | exact len_drawn h | (repeat (first | (obtain ⟨rfl, _⟩ := h; rfl; done) | obtain ⟨_, h⟩ := h))
  case rd =>
    obtain ⟨w, d, L, rfl, hd, nd, hw, hp, q⟩ := h
    have sz : 10000 ≤ sizeLine := by rw [sizeLine_eq]; omega
    obtain ⟨x, ex⟩ := Option.isSome_iff_exists.mp hw
    have ep := wd_place ex
    walk_at "w3"
    rw [ex]
    cases x with
    | place p =>
      simp only [x_worth, ex, k_pp, if_true, Wd.worth]
      have dg := dget_i (i := p) hd
      rw [goG_val, psN_get nd (hp p ep)] at dg
      refine ⟨_, dg, by omega, fun p1 np1 => q _ _ (same_new np1) ?_⟩
      unfold drw
      rw [ep]
      exact ⟨p1, rfl, upd_same⟩
    | num n =>
      simp only [x_worth, ex, k_Np, if_false, Wd.worth]
      refine q _ _ (Same.refl _) ?_
      have e := wd_num ex
      have ep : placeIn w = none := ep
      unfold drw
      rw [ep]
      dsimp only
      rw [if_neg (by omega)]
      show V.int n = V.int (w / 2)
      rw [e]
      congr 1
      omega
    | nothing =>
      simp only [x_worth, ex, k_np, if_false, Wd.worth]
      refine q _ _ (Same.refl _) ?_
      have e := wd_non ex
      have ep : placeIn w = none := ep
      unfold drw
      rw [ep]
      dsimp only
      rw [if_pos e]
      rfl
theorem f_drawn_cell (T : Tx K mg) : Fn P w K mg base 7 "drawn_cell" ["memory", "at", "numbers"] (sp_drawn_cell K) := by
  have c_slots_of := f_slots_of (P := P) (w := w) (base := base) T
  have c_drawn := f_drawn (P := P) (w := w) (base := base) T
  have c_Memory_read := f_Memory_read (P := P) (w := w) (base := base) T
  have c_slot_place := f_slot_place (P := P) (w := w) (base := base) T
  refine T.mkFn 19 37 (d := d_drawn_cell) (N := ["memory", "at", "numbers", "slot"]) (k := 6) rfl rfl rfl rfl rfl sc_drawn_cell (fun _ _ _ _ _ _ us hl => match us, hl with | [_, _, _], _ => rfl) (fun vs H Q E h => ?len) (fun cdv A outer s H vs Q E hr h => ⟨_,
      (pss_one (ps_ret (pe_lc (own := [("slot", 3)]) (g := gName 3) rfl sc_drawn_cell.nd (pi_range1 rfl (T.free 79) (pa_cons (pe_fn (takes_of rfl rfl rfl rfl) c_slots_of (hr.mono (by decide)) (by rfl) (pa_cons (pv 0) (pa_cons (pv 1) pa_nil))) pa_nil)) (blkOk_by (own := [("slot", 3)]) (N := ["memory", "at", "numbers", "slot"]) (sc := defScope s_drawn_cell) (by decide +kernel)) (fun _ _ _ _ _ => (pg_name (i := 3) sc_drawn_cell.nd rfl (Or.inl rfl))) (fun _ _ _ _ _ => pts_nil) (fun _ _ _ _ _ => (pe_fn takes0 c_drawn (hr.mono (by decide)) (by rfl) (pa_cons (pe_mt (K := K) rfl takes0 (pv 0) c_Memory_read (hr.mono (by decide)) (pa_cons (pe_fn takes0 c_slot_place (hr.mono (by decide)) (by rfl) (pa_cons (pv 0) (pa_cons (pv 1) (pa_cons (pv 3) pa_nil)))) pa_nil)) (pa_cons (pv 2) pa_nil))))))), ?rd⟩)
  case len => first | exact len_drawn_cell h | (repeat (first | (obtain ⟨rfl, _⟩ := h; rfl; done) | obtain ⟨_, h⟩ := h))
  case rd =>
    obtain ⟨m, mx, l, S, C, d, L, c, mc, rfl, M, vw, cp, hlt, hd, nd, hw, q⟩ := h
    have sz : 10000 ≤ sizeLine := by rw [sizeLine_eq]; omega
    obtain ⟨h, e1, e2, e3⟩ := cp.head mc hlt
    walk_at "w3"
    refine ⟨m, mx, l, S.ws, _, rfl, M, vw, .inl ⟨_, rfl⟩, ?_⟩
    rw [e1]
    dsimp only
    rw [e2]
    walk_at "w3"
    rw [Int.toNat_natCast]
    refine ⟨by omega, by omega, fun D nD => lc_range (fun i H' => ∃ us, Same H H' ∧ H' D = some (.lst us) ∧ PTs H' ((c.ws.take i).map (drw L)) us) ⟨[], same_new nD, upd_same, trivial⟩ (fun i Hx hi e => ?_) fun Hx e => ?_⟩
    · obtain ⟨us, s, hD, pt⟩ := e
      have ew := List.getElem?_eq_getElem hi
      walk_at "w3"
      simp only [Int.zero_add]
      have ul := pt.len
      rw [List.length_map, List.length_take] at ul
      have Mx := M.same s
      refine ⟨recv Mx.ob, m, mx, l, S.ws, _, _, rfl, Mx, vw, .inl ⟨_, rfl⟩, .inl ⟨_, rfl⟩, ?_⟩
      rw [e1]
      dsimp only
      rw [e2, placeOf_int, if_pos ⟨by omega, by omega⟩, Int.toNat_natCast]
      dsimp only
      refine ⟨m, mx, l, S.ws, _, rfl, Mx, .inl ⟨_, rfl⟩, ?_⟩
      have hm := M.sz
      rw [placeOf_int, if_pos ⟨by omega, by omega⟩, Int.toNat_natCast]
      dsimp only
      rw [cp.sl c mc i hi, getD_of ew]
      obtain ⟨w1, w2⟩ := hw _ (List.getElem_mem hi)
      refine ⟨_, d, L, rfl, s _ _ hd, nd, w1, w2, fun v H' s' pv => ?_⟩
      have et : (c.ws.take (i + 1)).map (drw L) = (c.ws.take i).map (drw L) ++ [drw L c.ws[i]] := by
        rw [List.take_add_one, ew, List.map_append]
        rfl
      rw [et]
      have f1 : ∀ b xs, H' b = some (.tup xs) → upd H' D (.lst (us ++ [v])) b = some (.tup xs) := fun b xs g => (upd_ne (ne_of g (s' _ _ hD) (by intro z; cases z))).trans g
      exact ⟨us, s' _ _ hD, by omega, us ++ [v], fun b x g => (upd_ne (ne_of_none g nD)).trans (s' _ _ (s _ _ g)), upd_same, ((pt.same s').fr f1).snoc (PT.fr f1 pv)⟩
    obtain ⟨us, s, hD, pt⟩ := e
    rw [List.take_length] at pt
    exact q D us Hx nD s hD pt
theorem f_picture (T : Tx K mg) : Fn P w K mg base 8 "picture" ["areas", "roots"] (sp_picture K) := by
  have c_reached := f_reached (P := P) (w := w) (base := base) T
  have c_Roots_starts := f_Roots_starts (P := P) (w := w) (base := base) T
  have c_Hands_row := f_Hands_row (P := P) (w := w) (base := base) T
  have c_drawn := f_drawn (P := P) (w := w) (base := base) T
  have c_drawn_cell := f_drawn_cell (P := P) (w := w) (base := base) T
  refine T.mkFn 20 38 (d := d_picture) (N := ["areas", "roots", "kept", "numbers", "k", "at", "hands", "word"]) (k := 7) rfl rfl rfl rfl rfl sc_picture (fun _ _ _ _ _ _ us hl => match us, hl with | [_, _], _ => rfl) (fun vs H Q E h => ?len) (fun cdv A outer s H vs Q E hr h => ⟨_,
      (pss_cons (ps_set (i := 2) sc_picture.nd rfl (Or.inl rfl) (pe_fn (takes_of rfl rfl rfl rfl) c_reached (hr.mono (by decide)) (by rfl) (pa_cons (pe_fldC (T.cls 119) (T.noat 125) (pv 0)) (pa_cons (pe_mt0 (K := K) rfl (takes_of rfl rfl rfl rfl) (pv 1) c_Roots_starts (hr.mono (by decide))) pa_nil))))
        (pss_cons (ps_set (i := 3) sc_picture.nd rfl (Or.inr rfl) pe_dnewK)
        (pss_cons (ps_for (passes_of rfl) rfl (pi_enum (by rfl) (T.free 81) (pa_cons (pv 2) pa_nil)) (pg_tup (n := 2) rfl (pgs_cons (pg_name (i := 4) sc_picture.nd rfl (Or.inl rfl)) (pgs_cons (pg_name (i := 5) sc_picture.nd rfl (Or.inl rfl)) pgs_nil))) (pss_one (ps_dput (hu_of hr) (pv 3) (pv 5) (pv 4) rfl)))
        (pss_cons (ps_setLc (i := 6) (own := [("word", 7)]) (g := gName 7) rfl sc_picture.nd rfl rfl (sw_true rfl rfl rfl (by decide +kernel)) (pi_listK (K := K) rfl (pe_mt0 (K := K) rfl (takes_of rfl rfl rfl rfl) (pe_fldC (T.cls 164) (T.noat 167) (pv 1)) c_Hands_row (hr.mono (by decide)))) (blkOk_by (own := [("word", 7)]) (N := ["areas", "roots", "kept", "numbers", "k", "at", "hands", "word"]) (sc := defScope s_picture) (by decide +kernel)) (fun _ _ _ _ _ => (pg_name (i := 7) sc_picture.nd rfl (Or.inl rfl))) (fun _ _ _ _ _ => pts_nil) (fun _ _ _ _ _ => (pe_fn takes0 c_drawn (hr.mono (by decide)) (by rfl) (pa_cons (pv 7) (pa_cons (pv 3) pa_nil)))))
        (pss_one (ps_ret (pe_tup (pa_cons (pv 6) (pa_cons (pe_lc (own := [("at", 5)]) (g := gName 5) rfl sc_picture.nd (pi_listK (K := K) rfl (pv 2)) (blkOk_by (own := [("at", 5)]) (N := ["areas", "roots", "kept", "numbers", "k", "at", "hands", "word"]) (sc := defScope s_picture) (by decide +kernel)) (fun _ _ _ _ _ => (pg_name (i := 5) sc_picture.nd rfl (Or.inl rfl))) (fun _ _ _ _ _ => pts_nil) (fun _ _ _ _ _ => (pe_fn takes0 c_drawn_cell (hr.mono (by decide)) (by rfl) (pa_cons (pe_fldC (T.cls 119) (T.noat 125) (pv 0)) (pa_cons (pv 5) (pa_cons (pv 3) pa_nil)))))) pa_nil))))))))), ?rd⟩)
  case len => first | exact len_picture h | (repeat (first | (obtain ⟨rfl, _⟩ := h; rfl; done) | obtain ⟨_, h⟩ := h))
  case rd =>
    obtain ⟨A, R, S, U, C, rfl, I, cp, hlt, cw, hw, cl, q⟩ := h
    have sz : 1000000 ≤ sizeLine := by rw [sizeLine_eq]; omega
    have pk : placesW U.hs = kidsL U.hs := places_kidsP fun w mw => (hw w mw).1
    have inC : ∀ x ∈ kidsL U.hs, x ∈ plcC C := fun x m => by
      obtain ⟨w, mw, e⟩ := List.mem_filterMap.mp m
      obtain ⟨y, ey⟩ := Option.isSome_iff_exists.mp (hw w mw).1
      obtain ⟨c, mc, e2⟩ := (hw w mw).2 x ((kids_place ey).mp e)
      exact List.mem_map.mpr ⟨c, mc, e2.symm⟩
    have RC := reachC_is cp cw inC
    have hz := I.ro.ho.sz
    walk_at "w3"
    refine ⟨_, fldIs I.ar.ob, recv I.ro.ob, R.r, R.rx, R.h, R.hx, R.hl, U.hs, _, _, _, rfl, I.ro.ob, I.ro.ho, fun p0 H0 np0 s0 hp0 => ?_⟩
    rw [pk] at hp0
    have I0 := I.same s0
    refine ⟨A.m, A.mx, A.l, S, C, p0, kidsL U.hs, rfl, I0.ar.me, I0.ar.vw, .of hp0, cp, hlt, cw, inC, cl, fun p1 H1 np1 s1 hp1 => ?_⟩
    have mL : reachC C (kidsL U.hs) = metC C U.hs := rfl
    rw [mL] at hp1 RC
    have nd := RC.nd
    have ll : (metC C U.hs).length ≤ C.length := by
      have := nd_len (U := plcC C) nd fun x mx => by
        obtain ⟨c, mc, e⟩ := RC.cl x mx
        exact List.mem_map.mpr ⟨c, mc, e.symm⟩
      have e : (plcC C).length = C.length := List.length_map ..
      omega
    have inL : ∀ {w p : Int}, ClW C w → (w ∈ U.hs ∨ ∃ c ∈ C, (c.p : Int) ∈ metC C U.hs ∧ w ∈ c.ws) → placeIn w = some p → p ∈ metC C U.hs := fun {w p} cl hh e => by
      rcases hh with hh | ⟨c, mc, mp, mw⟩
      · exact RC.st p (List.mem_filterMap.mpr ⟨w, hh, e⟩)
      · exact RC.kd c mc mp p (List.mem_filterMap.mpr ⟨w, mw, e⟩)
    have eH : picH C U.hs = U.hs.map (drw (metC C U.hs)) := rfl
    have eR : picR C U.hs = (metC C U.hs).map fun p => (rwC C p).map (drw (metC C U.hs)) := rfl
    rw [eH, eR] at q
    generalize metC C U.hs = L at hp1 nd ll inL RC q mL
    walk_at "w3"
    intro d nd_
    have s2 := same_new (o := .dK []) nd_
    have hd0 : upd H1 d (.dK []) d = some (.dK []) := upd_same
    have hp2 := s2 _ _ hp1
    have s02 := (s0.trans s1).trans s2
    have I2 := I.same s02
    generalize upd H1 d (.dK []) = H2 at s2 hd0 hp2 s02 I2 ⊢
    have ndH := none_of (s0.trans s1) nd_
    have pd : p1 ≠ d := ne_of_none hp1 nd_
    refine ⟨p1, _, rfl, .of hp2, for_it (walk_enum (xs := L.map V.int)) (fun i σ H' => ∃ o4 o5, σ = [some (.ref A.a), some (.ref R.r), some (.ref p1), some (.ref d), o4, o5, none, none] ∧ H' d = some (.dK (kvI (psN L i))) ∧ ∀ b x, b ≠ d → H2 b = some x → H' b = some x) ⟨_, _, rfl, hd0, fun b x _ g => g⟩ ?_ ?_ ?_⟩
    · rintro i σ H' _ ⟨o4, o5, rfl, -, k'⟩
      exact .of (k' _ _ pd hp2)
    · rintro i x σ H1' H' hi ⟨o4, o5, rfl, hd', k'⟩ ⟨T, y, z, rfl, hT, rfl, e1, e2⟩
      cases Option.some.inj e1
      obtain ⟨p, ep, rfl⟩ := ints_atY e2
      have hil := (List.getElem?_eq_some_iff.mp ep).1
      have sT := same_new (o := .tup [.int (i : Nat), .int p]) hT
      have gd : L.getD i 0 = p := getD_of ep
      walk_at "w3"
      refine ⟨_, .inl (.inl upd_same), rfl, ?_⟩
      walk_at "w3"
      have dp := dput_i (i := p) (v := .int (i : Int)) (sT _ _ hd') (by rw [kvI_len]; unfold psN; rw [List.length_map, List.length_range]; omega)
      have pk2 := kvI_put (ps := psN L i) (p := (p, (i : Int))) fun a ma => by rw [← gd]; exact psN_new nd hil a ma
      have pk2 : putK (kvI (psN L i)) (.inl p : Key) (.int (i : Int)) = kvI (psN L i ++ [(p, (i : Int))]) := pk2
      rw [pk2] at dp
      refine ⟨_, dp, ?_⟩
      refine ⟨_, _, rfl, by rw [upd_same, psN_succ, gd], fun b x n g => (upd_ne n).trans (sT _ _ (k' b x n g))⟩
    rintro σ H3 ⟨o4, o5, rfl, hd3, k3⟩
    rw [List.length_map] at hd3
    walk_at "w3"
    have s03 : Same H H3 := fun b x g => k3 b x (ne_of_none g ndH) (s02 _ _ g)
    have I3 := I.same s03
    have hp3 := k3 _ _ pd hp2
    refine ⟨_, fldIs I3.ro.ob, recv I3.ro.ho.ob, R.h, R.hx, R.hl, U.hs, rfl, I3.ro.ho, fun p4 np4 => ?_⟩
    have s4 := same_new (o := .lst (U.hs.map V.int)) np4
    have hp4 : upd H3 p4 (.lst (U.hs.map V.int)) p4 = some (.lst (U.hs.map V.int)) := upd_same
    have hd4 := s4 _ _ hd3
    have hp34 := s4 _ _ hp3
    have s04 := s03.trans s4
    have I4 := I.same s04
    generalize upd H3 p4 (.lst (U.hs.map V.int)) = H4 at s4 hp4 hd4 hp34 s04 I4 ⊢
    walk_at "w3"
    refine ⟨⟨_, .of hp4⟩, fun D nD => lc_list (xs := U.hs.map V.int) (fun i H' => ∃ us, Same H4 H' ∧ H' D = some (.lst us) ∧ PTs H' ((U.hs.take i).map (drw L)) us) ⟨[], same_new nD, upd_same, trivial⟩ (fun i Hx _ e => e.elim fun us z => .of (z.1 _ _ hp4)) (fun i x Hx hx e => ?_) fun Hx e => ?_⟩
    · obtain ⟨us, s, hD, pt⟩ := e
      obtain ⟨w, ew, rfl⟩ := ints_atY hx
      have ul := pt.len
      rw [List.length_map, List.length_take] at ul
      have mw := List.mem_of_getElem? ew
      walk_at "w3"
      refine ⟨_, d, L, rfl, s _ _ hd4, nd, (hw w mw).1, fun p e => inL (hw w mw) (.inl mw) e, fun v H' s' pv => ?_⟩
      have et : (U.hs.take (i + 1)).map (drw L) = (U.hs.take i).map (drw L) ++ [drw L w] := by
        rw [List.take_add_one, ew, List.map_append]
        rfl
      rw [et]
      have f1 : ∀ b xs, H' b = some (.tup xs) → upd H' D (.lst (us ++ [v])) b = some (.tup xs) := fun b xs g => (upd_ne (ne_of g (s' _ _ hD) (by intro z; cases z))).trans g
      exact ⟨us, s' _ _ hD, by omega, us ++ [v], fun b x g => (upd_ne (ne_of_none g nD)).trans (s' _ _ (s _ _ g)), upd_same, ((pt.same s').fr f1).snoc (PT.fr f1 pv)⟩
    obtain ⟨us, s5, hD, pt⟩ := e
    rw [List.length_map, List.take_length] at pt
    have nDH := none_of s04 nD
    have s05 := s04.trans s5
    have I5 := I.same s05
    have hd5 := s5 _ _ hd4
    have hp5 := s5 _ _ hp34
    walk_at "w3"
    refine ⟨⟨_, .of hp5⟩, fun D2 nD2 => lc_list (xs := L.map V.int) (fun i H' => ∃ rr : List Addr, Same Hx H' ∧ H' D2 = some (.lst (rr.map V.ref)) ∧ rr.length = i ∧ (∀ (j : Nat) (r : Addr), rr[j]? = some r → ∃ p vs, L[j]? = some p ∧ H' r = some (.lst vs) ∧ PTs H' ((rwC C p).map (drw L)) vs) ∧ rr.Nodup ∧ ∀ r ∈ rr, Hx r = none ∧ r ≠ D2) ⟨[], same_new nD2, upd_same, rfl, (fun j r e => by (cases e)), List.nodup_nil, fun r m => (List.not_mem_nil m).elim⟩ (fun i Hy _ e => e.elim fun rr z => .of (z.1 _ _ hp5)) (fun i x Hy hx e => ?_) fun Hy e => ?_⟩
    · obtain ⟨rr, s, hD2, rl, rows, ndr, nr⟩ := e
      obtain ⟨p, ep, rfl⟩ := ints_atY hx
      have mp := List.mem_of_getElem? ep
      have hil := (List.getElem?_eq_some_iff.mp ep).1
      obtain ⟨c, mc, rfl⟩ := RC.cl p mp
      have Iy := I5.same s
      walk_at "w3"
      refine ⟨_, fldIs Iy.ar.ob, A.m, A.mx, A.l, S, C, d, L, c, mc, rfl, Iy.ar.me, Iy.ar.vw, cp, hlt c mc, s _ _ hd5, nd, fun w mw => ⟨(cw c mc w mw).1, fun p e => inL (cw c mc w mw) (.inr ⟨c, mc, mp, mw⟩) e⟩, fun r vs H' nr' s' hr' pr' => ?_⟩
      have rD : r ≠ D2 := (ne_of_none hD2 nr').symm
      have f0 : ∀ {b xs}, b ≠ D2 → H' b = some (.lst xs) → upd H' D2 (.lst (rr.map V.ref ++ [V.ref r])) b = some (.lst xs) := fun n g => (upd_ne n).trans g
      have f1 : ∀ b xs, H' b = some (.tup xs) → upd H' D2 (.lst (rr.map V.ref ++ [V.ref r])) b = some (.tup xs) := fun b xs g => (upd_ne (ne_of g (s' _ _ hD2) (by intro z; cases z))).trans g
      refine ⟨_, s' _ _ hD2, by rw [List.length_map]; omega, rr ++ [r], fun b x g => (upd_ne (ne_of_none g nD2)).trans (s' _ _ (s _ _ g)), by rw [upd_same, List.map_append]; rfl, by rw [List.length_append, rl]; rfl, fun j r2 e2 => ?_, ?_, fun r2 m2 => ?_⟩
      · rcases at_app e2 with ⟨hj, e3⟩ | ⟨hj, e3⟩
        · obtain ⟨p2, vs2, g1, g2, g3⟩ := rows j r2 e3
          exact ⟨p2, vs2, g1, f0 (nr r2 (List.mem_of_getElem? e3)).2 (s' _ _ g2), (g3.same s').fr f1⟩
        · subst e3
          rw [hj, rl]
          exact ⟨_, vs, ep, f0 rD hr', by rw [rwC_mem cp mc]; exact pr'.fr f1⟩
      · refine List.nodup_append.mpr ⟨ndr, List.nodup_cons.mpr ⟨List.not_mem_nil, List.nodup_nil⟩, fun a ma b mb e => ?_⟩
        rw [List.mem_singleton.mp mb] at e
        subst e
        obtain ⟨j, ej⟩ := List.getElem?_of_mem ma
        obtain ⟨p2, vs2, g1, g2, g3⟩ := rows j a ej
        rw [nr'] at g2
        cases g2
      · rcases List.mem_append.mp m2 with m | m
        · exact nr r2 m
        · rw [List.mem_singleton.mp m]
          exact ⟨none_of s nr', rD⟩
    obtain ⟨rr, s6, hD2, rl, rows, ndr, nr⟩ := e
    rw [List.length_map] at rl
    have DD2 : D ≠ D2 := ne_of_none hD nD2
    have hD6 := s6 _ _ hD
    have pt6 := pt.same s6
    refine ⟨by omega, fun tp ntp => ?_⟩
    have s7 := same_new (o := .tup [.ref D, .ref D2]) ntp
    refine q tp D D2 rr _ ?_ ((s05.trans s6).trans s7) nDH (none_of s05 nD2) fun r m => none_of s05 (nr r m).1
    refine ⟨upd_same, ⟨us, s7 _ _ hD6, pt6.same s7⟩, s7 _ _ hD2, by rw [rl, List.length_map], fun i r e => ?_, ?_⟩
    · obtain ⟨p, vs, g1, g2, g3⟩ := rows i r e
      exact ⟨_, vs, by rw [List.getElem?_map, g1]; rfl, s7 _ _ g2, g3.same s7⟩
    · refine List.nodup_cons.mpr ⟨fun m => ?_, List.nodup_cons.mpr ⟨fun m => (nr D2 m).2 rfl, ndr⟩⟩
      rcases List.mem_cons.mp m with e | m
      · exact DD2 e
      · have := (nr D m).1
        rw [hD] at this
        cases this
end

local macro_rules | `(tactic| walk_at "w3") => `(tactic| try simp only [↓x_var0, ↓x_varS, ↓x_c, ↓x_op, ↓x_un, ↓x_cb, ↓x_nil, ↓x_cons, ↓x_test, ↓x_b, ↓x_ex, ↓x_and, ↓x_or, ↓x_not, ↓x_andV, ↓x_orV, ↓x_notV, ↓x_tif, ↓x_chain, ↓x_menu, ↓x_menuI, ↓x_lst, ↓x_tup, ↓x_dnew, ↓x_callW, ↓x_callN, ↓x_seq, ↓x_next, ↓x_ret, ↓x_retN, ↓x_drop, ↓x_ifS, ↓x_asg, ↓x_name, ↓x_raise, ↓x_fld, ↓x_setF, ↓x_meth, ↓x_make, ↓x_sub, ↓r_min, ↓r_max, ↓x_yes, ↓x_for, ↓x_lock, ↓x_keys, ↓x_cut, ↓x_lc, ↓x_rng1, ↓x_rng2, ↓x_lst1, ↓x_itup, ↓x_rng3, ↓x_three, ↓x_lstg, ↓x_tupg, ↓x_adrS, ↓x_one, ↓x_two, ↓x_adr, ↓x_sl, ↓x_np, ↓x_pt, ↓x_int, ↓x_bm, ↓x_bm0, ↓x_consg, ↓x_nilg, ↓x_dget2, ↓x_dget1, ↓x_dgetN, ↓x_dget, ↓x_din, ↓x_dni, ↓x_dput, ↓x_dpop2, ↓r_isB, ↓r_notB, ↓x_enum, ↓x_zip, ↓x_str, ↓x_strE, ↓r_inS, ↓r_ninS, wipe, List.map_cons, List.map_nil, ↓x_isT, ↓r_isiII, ↓r_isiBB, ↓r_isiIB, ↓r_isiSS, ↓r_neNS, ↓r_neSN, ↓r_neNN, ↓r_eqNS, ↓r_eqSN, ↓r_eqNN, ↓r_eqIS, ↓r_neIS, ↓r_neSI, ↓r_neBS, ↓r_eqBB, ↓r_neBB, ↓x_start, ↓x_K, ↓x_start0, ↓r_i0, ↓r_i, ↓r_u, ↓r_addI, ↓r_addS, ↓r_mulI, ↓r_mulS, ↓r_eqI, ↓r_neI, ↓r_eqS, ↓r_neS, ↓r_absI, ↓r_intI, ↓r_intB, List.length_cons, List.length_nil, List.replicate, List.set_cons_zero, List.set_cons_succ, decide_eq_true_eq, Bool.not_eq_true', decide_eq_false_iff_not, if_true, if_false, Bool.false_eq_true, Bool.true_eq_false, ite_true, ite_false, Bool.not_true, Bool.not_false, c_div, n_ten, c_pow, not_true_eq_false, not_false_eq_true, decide_true, decide_false, true_and, and_true, and_self, true_or, or_true, Int.reduceLT, Int.reduceLE, Int.reduceMul, Int.reduceAdd, Int.reduceSub, Int.reducePow, Int.reduceNeg, Int.reduceDiv, Int.reduceMod, Nat.reducePow, Int.reduceToNat, Int.reduceEq, Int.reduceNe, Nat.reduceLT, Nat.reduceLeDiff, Nat.reduceAdd, ↓x_whole, ↓x_kind, Int.natCast_one, Int.natCast_one, Int.natCast_one, Int.natCast_one, Int.natCast_one, Int.natCast_one, Int.natCast_one, Int.natCast_one, Int.natCast_one, Int.natCast_one, Int.natCast_one, Int.natCast_one, Int.natCast_one, Int.natCast_one, Int.natCast_one, Int.natCast_one])
abbrev kp : Nat → Int := fun p => (p : Int)
/-! ## cells by places, rows and sizes -/
abbrev sig (c : CeL) : Nat × Addr × Nat := (c.p, c.r, c.ws.length)
theorem setC_sig {C : List CeL} {p j : Nat} {n : Int} : (setC C p j n).map sig = C.map sig := by
  unfold setC
  rw [List.map_map]
  congr 1
  funext c
  show sig (if c.p = p then _ else c) = sig c
  split
  · show (c.p, c.r, (c.ws.set j n).length) = (c.p, c.r, c.ws.length)
    rw [List.length_set]
  · rfl
theorem sig_mem {C D : List CeL} (e : D.map sig = C.map sig) {c : CeL} (m : c ∈ C) : ∃ d ∈ D, d.p = c.p ∧ d.r = c.r ∧ d.ws.length = c.ws.length := by
  have : sig c ∈ D.map sig := by rw [e]; exact List.mem_map.mpr ⟨c, m, rfl⟩
  obtain ⟨d, md, ed⟩ := List.mem_map.mp this
  have e1 : d.p = c.p := congrArg (·.1) ed
  have e2 : d.r = c.r := congrArg (·.2.1) ed
  have e3 : d.ws.length = c.ws.length := congrArg (·.2.2) ed
  exact ⟨d, md, e1, e2, e3⟩
theorem sig_kvs {C D : List CeL} (e : D.map sig = C.map sig) : kvsOf kp D = kvsOf kp C := by
  have f : ∀ E : List CeL, kvsOf kp E = (E.map sig).map fun s => (.inl (s.1 : Int), .ref s.2.1) := fun E => by
    unfold kvsOf
    rw [List.map_map]
    rfl
  rw [f D, f C, e]
theorem sig_plc {C D : List CeL} (e : D.map sig = C.map sig) : plcC D = plcC C := by
  have f : ∀ E : List CeL, plcC E = (E.map sig).map fun s => (s.1 : Int) := fun E => by
    unfold plcC
    rw [List.map_map]
    rfl
  rw [f D, f C, e]
theorem ClW.sig {C D : List CeL} (e : D.map Pr.sig = C.map Pr.sig) {w : Int} (h : ClW C w) : ClW D w := h.mono fun c m => by
  obtain ⟨d, md, ed, -⟩ := sig_mem e m
  exact ⟨d, md, ed⟩
theorem kvs_keys {C : List CeL} : (kvsOf kp C).map (fun kv => kV kv.1) = (plcC C).map V.int := by
  unfold kvsOf plcC
  rw [List.map_map, List.map_map]
  rfl

local macro_rules | `(tactic| walk_at "w3") => `(tactic| try simp only [↓x_var0, ↓x_varS, ↓x_c, ↓x_op, ↓x_un, ↓x_cb, ↓x_nil, ↓x_cons, ↓x_test, ↓x_b, ↓x_ex, ↓x_and, ↓x_or, ↓x_not, ↓x_andV, ↓x_orV, ↓x_notV, ↓x_tif, ↓x_chain, ↓x_menu, ↓x_menuI, ↓x_lst, ↓x_tup, ↓x_dnew, ↓x_callW, ↓x_callN, ↓x_seq, ↓x_next, ↓x_ret, ↓x_retN, ↓x_drop, ↓x_ifS, ↓x_asg, ↓x_name, ↓x_raise, ↓x_fld, ↓x_setF, ↓x_meth, ↓x_make, ↓x_sub, ↓r_min, ↓r_max, ↓x_yes, ↓x_for, ↓x_lock, ↓x_keys, ↓x_cut, ↓x_lc, ↓x_rng1, ↓x_rng2, ↓x_lst1, ↓x_itup, ↓x_rng3, ↓x_three, ↓x_lstg, ↓x_tupg, ↓x_adrS, ↓x_one, ↓x_two, ↓x_adr, ↓x_sl, ↓x_np, ↓x_pt, ↓x_int, ↓x_bm, ↓x_bm0, ↓x_consg, ↓x_nilg, ↓x_dget2, ↓x_dget1, ↓x_dgetN, ↓x_dget, ↓x_din, ↓x_dni, ↓x_dput, ↓x_dpop2, ↓r_isB, ↓r_notB, ↓x_enum, ↓x_zip, ↓x_str, ↓x_strE, ↓r_inS, ↓r_ninS, wipe, List.map_cons, List.map_nil, ↓x_isT, ↓r_isiII, ↓r_isiBB, ↓r_isiIB, ↓r_isiSS, ↓r_neNS, ↓r_neSN, ↓r_neNN, ↓r_eqNS, ↓r_eqSN, ↓r_eqNN, ↓r_eqIS, ↓r_neIS, ↓r_neSI, ↓r_neBS, ↓r_eqBB, ↓r_neBB, ↓x_start, ↓x_K, ↓x_start0, ↓r_i0, ↓r_i, ↓r_u, ↓r_addI, ↓r_addS, ↓r_mulI, ↓r_mulS, ↓r_eqI, ↓r_neI, ↓r_eqS, ↓r_neS, ↓r_absI, ↓r_intI, ↓r_intB, List.length_cons, List.length_nil, List.replicate, List.set_cons_zero, List.set_cons_succ, decide_eq_true_eq, Bool.not_eq_true', decide_eq_false_iff_not, if_true, if_false, Bool.false_eq_true, Bool.true_eq_false, ite_true, ite_false, Bool.not_true, Bool.not_false, c_div, n_ten, c_pow, not_true_eq_false, not_false_eq_true, decide_true, decide_false, true_and, and_true, and_self, true_or, or_true, Int.reduceLT, Int.reduceLE, Int.reduceMul, Int.reduceAdd, Int.reduceSub, Int.reducePow, Int.reduceNeg, Int.reduceDiv, Int.reduceMod, Nat.reducePow, Int.reduceToNat, Int.reduceEq, Int.reduceNe, Nat.reduceLT, Nat.reduceLeDiff, Nat.reduceAdd, ↓x_whole, ↓x_kind, Int.natCast_one, Int.natCast_one, Int.natCast_one, Int.natCast_one, Int.natCast_one, Int.natCast_one, Int.natCast_one, Int.natCast_one, Int.natCast_one, Int.natCast_one, Int.natCast_one, Int.natCast_one, Int.natCast_one, Int.natCast_one, Int.natCast_one, Int.natCast_one, Int.natCast_one])
/-! ## the law's own: words, slots written -/
def nextW (s : Int) : Int := (s * 48271 + 11) % 2147483647
def sp_next (_ : PySem.W.Frag) : Sp := fun vs H Q _ => ∃ s, vs = [.int s] ∧ Q (.int (nextW s)) H
def RowsOff (A : ArA) (R : RoA) (C : List CeL) : Prop := ∀ c ∈ C, OffP A R c.r
theorem RowsOff.sig {A : ArA} {R : RoA} {C D : List CeL} (h : RowsOff A R C) (e : D.map Pr.sig = C.map Pr.sig) : RowsOff A R D := fun a ma => by
  obtain ⟨b, mb, -, g2, -⟩ := sig_mem e.symm ma
  rw [← g2]
  exact h b mb
/-- areas, roots, the law's cells -/
structure I21 (K : PySem.W.Frag) (H : Hp) (A : ArA) (R : RoA) (S : ArS) (U : RoS) (d : Addr) (C : List CeL) : Prop where
  I : PairO K H A R S U
  ce : CellsO kp H S d C
  ro : RowsOff A R C
  db : d ≠ U.bd
  y : Y0 S C
  b : BkY S C U.bs
  cl : C.length ≤ 10
  ts : U.ts = []
  ws : U.ws = []
  ss : U.ss = []
theorem I21.same {K : PySem.W.Frag} {H H' : Hp} {A : ArA} {R : RoA} {S : ArS} {U : RoS} {d : Addr} {C : List CeL} (J : I21 K H A R S U d C) (s : Same H H') : I21 K H' A R S U d C := { J with I := J.I.same s, ce := J.ce.same s }
theorem Y0.c8 {S : ArS} {C : List CeL} (P : Y0 S C) {c : CeL} (mc : c ∈ C) : c.ws.length ≤ 8 := by
  obtain ⟨a, ha, hh⟩ := P.cp.hd c mc
  obtain ⟨-, h34, -⟩ := headAt_some hh
  omega
theorem Y0.lt_ {S : ArS} {C : List CeL} (P : Y0 S C) {c : CeL} (mc : c ∈ C) : c.p + c.ws.length < S.ws.length ∧ S.ws.length ≤ 9999 := ⟨P.cp.lt P.ln P.lo P.lb.2 c mc, by rw [P.ln]; exact P.sz⟩
theorem setC_in {C : List CeL} {p j : Nat} {n : Int} {c : CeL} (mc : c ∈ C) : ∃ d ∈ setC C p j n, d.p = c.p ∧ d.ws.length = c.ws.length := by
  refine ⟨_, List.mem_map.mpr ⟨c, mc, rfl⟩, ?_⟩
  by_cases e : c.p = p
  · rw [if_pos e]
    exact ⟨rfl, List.length_set ..⟩
  · rw [if_neg e]
    exact ⟨rfl, rfl⟩
theorem Y0.put {S : ArS} {C : List CeL} (P : Y0 S C) {c : CeL} {t : Nat} {w : Int} (mc : c ∈ C) (ht : t < c.ws.length) (cw : ClW C w) : Y0 { S with ws := S.ws.set (c.p + 1 + t) w } (setC C c.p t w) := by
  refine ⟨P.cp.put mc ht (P.lt_ mc).1, fun a ma x mx => ?_, ?_, P.lo, P.sz, P.lb, P.es, P.rm⟩
  · have mono : ∀ {w}, ClW C w → ClW (setC C c.p t w) w → True := fun _ _ => trivial
    obtain ⟨b, mb, -, -, -, hh⟩ := setC_mem ma
    have mono : ∀ {x}, ClW C x → ClW (setC C c.p t w) x := fun g => g.mono fun b mb => let ⟨d, md, e, _⟩ := setC_in mb; ⟨d, md, e⟩
    rcases hh with ⟨-, e⟩ | ⟨-, e⟩
    · rw [e] at mx
      rcases List.mem_or_eq_of_mem_set mx with h | h
      · exact mono (P.cw b mb x h)
      · rw [h]
        exact mono cw
    · rw [e] at mx
      exact mono (P.cw b mb x mx)
  · show (S.ws.set _ _).length = _
    rw [List.length_set]
    exact P.ln
theorem BkY.put {S : ArS} {C : List CeL} {bs bs' : List Int} (P : Y0 S C) (B : BkY S C bs) {c : CeL} {t : Nat} {w : Int} (mc : c ∈ C) (ht : t < c.ws.length)
    (bk : ∀ x, x ∈ bs' ↔ if x = ((c.p + 1 + t : Nat) : Int) then (¬ Yng S c.p ∧ yk1 S w ≠ []) else x ∈ bs) : BkY { S with ws := S.ws.set (c.p + 1 + t) w } (setC C c.p t w) bs' := by
  refine ⟨fun b mb => ?_, fun a ma y i hi q eq yq => ?_⟩
  · have mb' := (bk b).mp mb
    by_cases e : b = ((c.p + 1 + t : Nat) : Int)
    · rw [if_pos e] at mb'
      obtain ⟨d, md, e1, e2⟩ := setC_in (p := c.p) (j := t) (n := w) mc
      exact ⟨d, md, (by rw [e1]; exact mb'.1), t, by rw [e2]; exact ht, by rw [e1]; exact e⟩
    · rw [if_neg e] at mb'
      obtain ⟨c', mc', y, i, hi, e3⟩ := B.s b mb'
      obtain ⟨d, md, e1, e2⟩ := setC_in (p := c.p) (j := t) (n := w) mc'
      exact ⟨d, md, (by rw [e1]; exact y), i, by rw [e2]; exact hi, by rw [e1]; exact e3⟩
  · obtain ⟨b, mb, e1, e2, e3, hh⟩ := setC_mem ma
    have y2 : ¬ Yng S b.p := by rw [e1] at y; exact y
    have yq2 : Yng S q := yq
    rw [bk]
    rw [e3] at hi
    rcases hh with ⟨e4, e5⟩ | ⟨e4, e5⟩
    · have eb : b = c := P.cp.same_p mb mc e4
      subst eb
      rw [e5, getD_set ht] at eq
      rw [e1]
      by_cases c : t = i
      · rw [if_pos c] at eq
        subst c
        rw [if_pos rfl]
        refine ⟨y2, ?_⟩
        rw [yk1_y eq yq2]
        intro z
        cases z
      · rw [if_neg c] at eq
        rw [if_neg (by omega)]
        exact B.a b mb y2 i hi q eq yq2
    · rw [e5] at eq
      have ap := P.cp.apart mb mc fun z => e4 (by rw [z])
      rw [e1, if_neg (by omega)]
      exact B.a b mb y2 i hi q eq yq2
theorem BkY.bl {S : ArS} {C : List CeL} {bs : List Int} (P : Y0 S C) (B : BkY S C bs) (nd : bs.Nodup) : bs.length ≤ 10000 := by
  have h : ∀ x ∈ bs, x ∈ (List.range 10000).map fun i : Nat => (i : Int) := fun x m => by
    obtain ⟨c, mc, y, j, hj, e⟩ := B.s x m
    have := P.lt_ mc
    exact List.mem_map.mpr ⟨c.p + 1 + j, List.mem_range.mpr (by omega), e.symm⟩
  have := nd_len nd h
  rwa [List.length_map, List.length_range] at this
def sp_word21 (_ : PySem.W.Frag) : Sp := fun vs H Q _ => ∃ S d C sd, vs = [.ref d, .int sd] ∧ CellsO kp H S d C ∧ C.length ≤ 1000 ∧ (∀ c ∈ C, c.p ≤ 9999) ∧ ∀ w H', Same H H' → ClW C w → Q (.int w) H'
def sp_write21 (K : PySem.W.Frag) : Sp := fun vs H Q _ => ∃ A R S U C d, ∃ c ∈ C, ∃ t : Nat, ∃ w : Int, vs = [.ref A.a, .ref R.r, .ref d, .int (c.p : Int), .int t, .int w] ∧ I21 K H A R S U d C ∧ t < c.ws.length ∧ ClW C w ∧
  ∀ bs' H', I21 K H' A R { S with ws := S.ws.set (c.p + 1 + t) w } { U with bs := bs' } d (setC C c.p t w) → (∀ b o, b ≠ A.l → b ≠ c.r → b ≠ U.bd → H b = some o → H' b = some o) → Q .non H'
section
variable {P : Program} {w : World} {K : PySem.W.Frag} {mg : Str → Option Value} {base : Heap}
theorem f__law_next (T : Tx K mg) : Fn P w K mg base 1 "_law_next" ["_law_seed"] (sp_next K) := by
  refine T.mkFn 84 55 (d := d__law_next) (N := ["_law_seed"]) (k := 0) rfl rfl rfl rfl rfl sc__law_next (fun _ _ _ _ _ _ us hl => match us, hl with | [_], _ => rfl) (fun vs H Q E h => ?len) (fun cdv A outer s H vs Q E hr h => ⟨_,
      (pss_one (ps_ret (pe_op op_mod (pe_op op_gAdd (pe_op op_gMul (pv 0) pe_int) pe_int) pe_int))), ?rd⟩)
  case len => first | exact len__law_next h | (repeat (first | (obtain ⟨rfl, _⟩ := h; rfl; done) | obtain ⟨_, h⟩ := h))
  case rd =>
    obtain ⟨s, rfl, q⟩ := h
    walk_at "w3"
    exact q
theorem f__law_word (T : Tx K mg) : Fn P w K mg base 1 "_law_word" ["_law_cells", "_law_seed"] (sp_word21 K) := by
  refine T.mkFn 86 57 (d := d__law_word) (N := ["_law_cells", "_law_seed", "_law_pick"]) (k := 0) rfl rfl rfl rfl rfl sc__law_word (fun _ _ _ _ _ _ us hl => match us, hl with | [_, _], _ => rfl) (fun vs H Q E h => ?len) (fun cdv A outer s H vs Q E hr h => ⟨_,
      (pss_cons (ps_set (i := 2) sc__law_word.nd rfl (Or.inl rfl) (pe_op op_mod (pe_op op_fdiv (pv 1) pe_int) pe_int))
        (pss_cons (ps_if (PW.pt (pw_or (pt_cmpR (op_eqK (K := K) rfl hr.units) (pv 2) pe_int (nomark _)) (pw_or1 (PW.pt (pw_and (pt_cmpR (op_eqDD (Nat.lt_of_succ_lt (hu_of hr))) (pv 0) pe_dnewK (nomark _)) (pw_and1 (pt_cmpR op_gt (pv 2) pe_int (nomark _)))))))) (pss_one (ps_ret (pe_un un_neg pe_int))) pss_nil)
        (pss_cons (ps_if (pt_cmpR (op_eqK (K := K) rfl hr.units) (pv 2) pe_int (nomark _)) (pss_one (ps_ret (pe_op op_gMul pe_int (pe_op op_sub (pe_op op_mod (pe_op op_gMul (pe_op op_fdiv (pv 1) pe_int) pe_int) pe_int) pe_int)))) pss_nil)
        (pss_one (ps_ret (pe_op op_gAdd (pe_op op_gMul pe_int (pe_ix (ix_seqK (K := K) rfl) (pe_callTy (call_listD rfl) (by rfl) (T.free 85) (by decide +kernel) (pa_cons (pv 0) pa_nil)) (pe_op op_mod (pe_op op_fdiv (pv 1) pe_int) (pe_callB call_lenDD (by rfl) (T.free 77) PySem.boot_len (pa_cons (pv 0) pa_nil))) (fun _ _ => rfl))) pe_int)))))), ?rd⟩)
  case len => first | exact len__law_word h | (repeat (first | (obtain ⟨rfl, _⟩ := h; rfl; done) | obtain ⟨_, h⟩ := h))
  case rd =>
    obtain ⟨S, d, C, sd, rfl, ce, hl, h9, q⟩ := h
    have sz : 10000 ≤ sizeLine := by rw [sizeLine_eq]; omega
    have kl : (kvsOf kp C).length = C.length := List.length_map ..
    walk_at "w3"
    by_cases c0 : sd / 11 % 6 = 0
    · rw [if_pos c0]
      exact q _ _ (Same.refl _) ClW.non
    rw [if_neg c0]
    intro p np
    have sp := same_new (o := .dK []) np
    have ce1 := ce.same sp
    cases C with
    | nil =>
      refine ⟨d, p, _, _, rfl, rfl, ce1.dd, upd_same, .inl ⟨rfl, List.nodup_nil, (fun _ m => (List.not_mem_nil m).elim), ?_⟩⟩
      walk_at "w3"
      split
      · exact q _ _ sp ClW.non
      · rw [if_pos (by omega)]
        exact q _ _ sp (ClW.num (by omega))
    | cons c0 r0 =>
      refine r_eqDL ce1.dd upd_same (by rw [kl]; show r0.length + 1 ≠ 0; omega) ?_
      walk_at "w3"
      split
      · exact q _ _ sp (ClW.num (by omega))
      refine ⟨d, _, rfl, .inl ce1.dd, fun p1 np1 => ?_⟩
      rw [kvs_keys]
      have s1 := same_new (o := .lst ((plcC (c0 :: r0)).map V.int)) np1
      have h1 : upd (upd H p (.dK [])) p1 (.lst ((plcC (c0 :: r0)).map V.int)) p1 = some (.lst ((plcC (c0 :: r0)).map V.int)) := upd_same
      refine r_lenDD (s1 _ _ ce1.dd) ?_
      rw [kl]
      have cl : (c0 :: r0).length = r0.length + 1 := rfl
      have m0 := Int.emod_nonneg (sd / 66) (show ((r0.length + 1 : Nat) : Int) ≠ 0 by omega)
      have m1 := Int.emod_lt_of_pos (sd / 66) (show (0 : Int) < ((r0.length + 1 : Nat) : Int) by omega)
      obtain ⟨o, eo⟩ := Int.eq_ofNat_of_zero_le m0
      walk_at "w3"
      rw [eo] at m1 ⊢
      have ho : o < (plcC (c0 :: r0)).length := by rw [plc_len]; omega
      refine ⟨by omega, r_ixL h1 (by rw [List.getElem?_map, List.getElem?_eq_getElem ho]; rfl) ?_⟩
      walk_at "w3"
      obtain ⟨c, mc, ec⟩ := List.mem_map.mp (List.getElem_mem ho)
      have ec : (c.p : Int) = (plcC (c0 :: r0))[o] := ec
      rw [← ec]
      exact q _ _ (sp.trans s1) (ClW.cell mc (h9 c mc))
theorem f__law_write (T : Tx K mg) : Fn P w K mg base 4 "_law_write" ["_law_areas", "_law_roots", "_law_cells", "_law_at", "_law_slot", "_law_word_here"] (sp_write21 K) := by
  have c_Memory_write := f_Memory_write (P := P) (w := w) (base := base) T
  have c_Book_rub := f_Book_rub (P := P) (w := w) (base := base) T
  have c_Areas_area_of := f_Areas_area_of (P := P) (w := w) (base := base) T
  have c_Book_write := f_Book_write (P := P) (w := w) (base := base) T
  refine T.mkFn 87 58 (d := d__law_write) (N := ["_law_areas", "_law_roots", "_law_cells", "_law_at", "_law_slot", "_law_word_here"]) (k := 3) rfl rfl rfl rfl rfl sc__law_write (fun _ _ _ _ _ _ us hl => match us, hl with | [_, _, _, _, _, _], _ => rfl) (fun vs H Q E h => ?len) (fun cdv A outer s H vs Q E hr h => ⟨_,
      (pss_cons (ps_asg (pv 5) (pg_sub (pe_dget (hu_of hr) (pv 2) (pv 3) (fun _ _ => rfl)) (pv 4) set_list))
        (pss_cons (ps_expr (pe_mt (K := K) rfl (takes_of rfl rfl rfl rfl) (pe_fldC (T.cls 119) (T.noat 125) (pv 0)) c_Memory_write (hr.mono (by decide)) (pa_cons (pe_op op_gAdd (pe_op op_gAdd (pv 3) pe_int) (pv 4)) (pa_cons (pv 5) pa_nil))))
        (pss_cons (ps_expr (pe_mt (K := K) rfl (takes_of rfl rfl rfl rfl) (pe_fldC (T.cls 164) (T.noat 168) (pv 1)) c_Book_rub (hr.mono (by decide)) (pa_cons (pe_op op_gAdd (pe_op op_gAdd (pv 3) pe_int) (pv 4)) pa_nil)))
        (pss_one (ps_if (PW.pt (pw_and (pt_cmpR (op_eqK (K := K) rfl hr.units) (pe_mt (K := K) rfl (takes_of rfl rfl rfl rfl) (pv 0) c_Areas_area_of (hr.mono (by decide)) (pa_cons (pv 3) pa_nil)) pe_str (nomark _)) (pw_and (pt_cmpR op_gt (pv 5) pe_int (nomark _)) (pw_and (pt_cmpR (op_eqK (K := K) rfl hr.units) (pe_op op_mod (pv 5) pe_int) pe_int (nomark _)) (pw_and1 (pt_cmpR (op_eqK (K := K) rfl hr.units) (pe_mt (K := K) rfl (takes_of rfl rfl rfl rfl) (pv 0) c_Areas_area_of (hr.mono (by decide)) (pa_cons (pe_op op_fdiv (pv 5) pe_int) pa_nil)) pe_str (nomark _))))))) (pss_one (ps_expr (pe_mt (K := K) rfl (takes_of rfl rfl rfl rfl) (pe_fldC (T.cls 164) (T.noat 168) (pv 1)) c_Book_write (hr.mono (by decide)) (pa_cons (pe_op op_gAdd (pe_op op_gAdd (pv 3) pe_int) (pv 4)) pa_nil)))) pss_nil))))), ?rd⟩)
  case len => first | exact len__law_write h | (repeat (first | (obtain ⟨rfl, _⟩ := h; rfl; done) | obtain ⟨_, h⟩ := h))
  case rd =>
    obtain ⟨A, R, S, U, C, d, c, mc, t, w, rfl, J, ht, cw, q⟩ := h
    have sz : 1000000 ≤ sizeLine := by rw [sizeLine_eq]; omega
    have kv := kvs_some (f := kp) (J.ce.keys fun a b (e : (a : Int) = b) => by omega) mc
    have dg := dget_i (i := (c.p : Int)) J.ce.dd
    rw [show kp c.p = (c.p : Int) from rfl] at kv
    rw [kv] at dg
    have hw := cw.1
    walk_at "w3"
    refine ⟨_, dg, ?_⟩
    have hr := J.ce.rw_ c mc
    refine r_setL hr (by omega) (by rw [List.length_map]; omega) ?_
    rw [Int.toNat_natCast, ← List.map_set]
    obtain ⟨lt, l9⟩ := J.y.lt_ mc
    have I1 := J.I.off (o := .lst ((c.ws.set t w).map V.int)) hr (J.ro c mc)
    have r1 : upd H c.r (.lst ((c.ws.set t w).map V.int)) c.r = some (.lst ((c.ws.set t w).map V.int)) := upd_same
    have k1 : ∀ b o, b ≠ c.r → H b = some o → upd H c.r (.lst ((c.ws.set t w).map V.int)) b = some o := fun b o n g => (upd_ne n).trans g
    generalize upd H c.r (.lst ((c.ws.set t w).map V.int)) = H1 at I1 r1 k1 ⊢
    refine ⟨_, fldIs I1.ar.ob, recv I1.ar.me.ob, A.m, A.mx, A.l, S.ws, _, _, rfl, I1.ar.me, .inl ⟨_, rfl⟩, .inl ⟨_, rfl⟩, ?_⟩
    rw [show (c.p : Int) + 1 + (t : Int) = ((c.p + 1 + t : Nat) : Int) from by omega, placeOf_int, if_pos ⟨by omega, by omega⟩, Int.toNat_natCast, wordV_int, if_pos hw]
    dsimp only
    have I2 := I1.wput (ws := S.ws.set (c.p + 1 + t) w) (J.I.ar.vw.set hw) (List.length_set ..)
    have k2 : ∀ b o, b ≠ A.l → b ≠ c.r → H b = some o → upd H1 A.l (.lst ((S.ws.set (c.p + 1 + t) w).map V.int)) b = some o := fun b o n1 n2 g => (upd_ne n1).trans (k1 b o n2 g)
    have r2 := (upd_ne (o := .lst ((S.ws.set (c.p + 1 + t) w).map V.int)) (J.ro c mc).1).trans r1
    generalize upd H1 A.l (.lst ((S.ws.set (c.p + 1 + t) w).map V.int)) = H2 at I2 k2 r2 ⊢
    have ce2 : CellsO kp H2 { S with ws := S.ws.set (c.p + 1 + t) w } d (setC C c.p t w) := J.ce.put mc ht lt ((k2 _ _ (ne_of J.ce.dd J.I.ar.me.ls (by intro z; cases z)) (ne_of J.ce.dd hr (by intro z; cases z)) J.ce.dd).trans J.ce.dd.symm) r2 fun a ma n => (k2 _ _ (J.ro a ma).1 n (J.ce.rw_ a ma)).trans (J.ce.rw_ a ma).symm
    have rb : ∀ a ∈ C, a.r ≠ U.bd := fun a ma => ne_of (J.ce.rw_ a ma) J.I.ro.bo.ds (by intro z; cases z)
    have keepB : ∀ {H3 : Hp}, (∀ b o, b ≠ U.bd → H2 b = some o → H3 b = some o) → CellsO kp H3 { S with ws := S.ws.set (c.p + 1 + t) w } d (setC C c.p t w) := fun {H3} k => ce2.keep fun b o m g => k b o (by
      rcases m with rfl | ⟨a, ma, rfl⟩
      · exact J.db
      · obtain ⟨a', ma', -, e, -⟩ := setC_mem ma
        rw [e]
        exact rb a' ma') g
    have nbd := J.I.ro.bo.nd
    have bl := J.b.bl J.y nbd
    have yk : ∀ {a : Int}, yk1 { S with ws := S.ws.set (c.p + 1 + t) w } a = yk1 S a := rfl
    have fin : ∀ bs' H3, (∀ x, x ∈ bs' ↔ if x = ((c.p + 1 + t : Nat) : Int) then (¬ Yng S c.p ∧ yk1 S w ≠ []) else x ∈ U.bs) → PairO K H3 A R { S with ws := S.ws.set (c.p + 1 + t) w } { U with bs := bs' } → (∀ b o, b ≠ U.bd → H2 b = some o → H3 b = some o) → Q .non H3 := fun bs' H3 bk I3 k3 => q bs' H3 { I := I3, ce := keepB k3, ro := J.ro.sig setC_sig, db := J.db, y := J.y.put mc ht cw, b := BkY.put J.y J.b mc ht bk, cl := by rw [setC_len]; exact J.cl, ts := J.ts, ws := J.ws, ss := J.ss } fun b o n1 n2 n3 g => k3 b o n3 (k2 b o n1 n2 g)
    have px : placeW (.int ((c.p + 1 + t : Nat) : Int)) = some ((c.p + 1 + t : Nat) : Int) := by rw [placeW_int, if_pos ⟨by omega, by omega⟩]
    refine ⟨_, fldIs I2.ro.ob, recv I2.ro.bo.ob, _, _, _, _, _, rfl, I2.ro.bo, .inl ⟨_, rfl⟩, ?_⟩
    rw [px]
    dsimp only
    have lo := J.y.lo
    have side := J.y.side mc
    have nb : S.n ≤ S.b S.fl := bb_of.2.1
    have core : ∀ H3, PairO K H3 A R { S with ws := S.ws.set (c.p + 1 + t) w } { U with bs := delP U.bs ((c.p + 1 + t : Nat) : Int) } → (∀ b o, b ≠ U.bd → H2 b = some o → H3 b = some o) →
        (Recv (He.ga K (Str.ofString "Areas")) (Str.ofString "area_of") (V.ref A.a) H3 ∧ sp_Areas_area_of K [V.ref A.a, V.int (c.p : Int)] H3 (fun x H1 => gEq K x (V.str (Str.ofString "old")) H1 fun x H1 => ∃ k, x = V.bl k ∧ if k = true then if 0 < w then if w % 2 = 1 then
          Recv (He.ga K (Str.ofString "Areas")) (Str.ofString "area_of") (V.ref A.a) H1 ∧ sp_Areas_area_of K [V.ref A.a, V.int (w / 2)] H1 (fun x H1 => gEq K x (V.str (Str.ofString "young")) H1 fun x H1 => ∃ k, x = V.bl k ∧ if k = true then ∃ v, FldIs (He.ga K (Str.ofString "Roots")) (Str.ofString "book") (V.ref R.r) H1 v ∧ Recv (He.ga K (Str.ofString "Book")) (Str.ofString "write") v H1 ∧ sp_Book_write K [v, V.int ((c.p + 1 + t : Nat) : Int)] H1 (fun x H1 => Q V.non H1) fun c d H3 => E c d H3 else Q V.non H1) fun c d H3 => E c d H3
          else Q V.non H1 else Q V.non H1 else Q V.non H1) fun c d H3 => E c d H3) := by
      intro H3 I3 k3
      have no : ¬ (¬ Yng S c.p ∧ yk1 S w ≠ []) → Q .non H3 := fun n => fin _ H3 (fun x => by
        rw [mem_delP]
        by_cases e : x = ((c.p + 1 + t : Nat) : Int)
        · rw [if_pos e]
          exact ⟨fun z => absurd e z.2, fun z => absurd z n⟩
        · rw [if_neg e]
          exact ⟨fun z => z.1, fun z => ⟨z, e⟩⟩) I3 k3
      refine ⟨recv I3.ar.ob, A, _, _, rfl, I3.ar, ?_⟩
      by_cases yc : Yng S c.p
      · have e : areaW { S with ws := S.ws.set (c.p + 1 + t) w } (c.p : Int) = .str "young" := (areaY (S := S) lo).1 yc
        rw [e]
        walk_at "w3"
        have : ¬ ("young" : Str) = "old" := by decide +kernel
        rw [if_neg this]
        exact no fun z => z.1 yc
      · have e : areaW { S with ws := S.ws.set (c.p + 1 + t) w } (c.p : Int) = .str "old" := by
          show areaW S (c.p : Int) = _
          unfold areaW
          rw [if_pos]
          rcases side with ⟨-, h⟩ | ⟨h, -⟩
          · omega
          · exact absurd h yc
        rw [e]
        walk_at "w3"
        by_cases c1 : 0 < w ∧ w % 2 = 1
        · rw [if_pos c1.1, if_pos c1.2]
          have ep : placeIn w = some (w / 2) := if_pos c1
          refine ⟨recv I3.ar.ob, A, _, _, rfl, I3.ar, ?_⟩
          by_cases yw : Yng S (w / 2)
          · have e2 : areaW { S with ws := S.ws.set (c.p + 1 + t) w } (w / 2) = .str "young" := (areaY (S := S) lo).1 yw
            rw [e2]
            walk_at "w3"
            have lb : (delP U.bs ((c.p + 1 + t : Nat) : Int)).length ≤ U.bs.length := len_delP
            refine ⟨_, fldIs I3.ro.ob, recv I3.ro.bo.ob, _, _, _, _, _, rfl, I3.ro.bo, by show (delP U.bs ((c.p + 1 + t : Nat) : Int)).length < 1000000; omega, .inl ⟨_, rfl⟩, ?_⟩
            rw [px]
            dsimp only
            refine fin _ _ (fun x => ?_) (I3.bput (nd_addP (i := ((c.p + 1 + t : Nat) : Int)) (nd_delP nbd))) fun b o n g => (upd_ne n).trans (k3 b o n g)
            rw [mem_addP, mem_delP]
            by_cases e : x = ((c.p + 1 + t : Nat) : Int)
            · rw [if_pos e]
              refine ⟨fun _ => ⟨yc, ?_⟩, fun _ => .inr e⟩
              rw [yk1_y ep yw]
              intro z
              cases z
            · rw [if_neg e]
              exact ⟨fun z => z.elim (fun z => z.1) fun z => absurd z e, fun z => .inl ⟨z, e⟩⟩
          · have n2 := no fun z => z.2 (yk1_n fun p' e' => by rw [ep] at e'; cases e'; exact yw)
            rcases (areaY (S := S) lo).2 yw with e2 | e2
            all_goals
              have e2 : areaW { S with ws := S.ws.set (c.p + 1 + t) w } (w / 2) = _ := e2
              rw [e2]
              walk_at "w3"
              first
                | exact n2
                | (have : ¬ ("old" : Str) = "young" := by decide +kernel
                   rw [if_neg this]
                   exact n2)
        · have ep : placeIn w = none := if_neg c1
          have n2 := no fun z => z.2 (yk1_n fun p' e' => by rw [ep] at e'; cases e')
          split
          · split
            · exact absurd ⟨by assumption, by assumption⟩ c1
            · exact n2
          · exact n2
    refine ⟨core _ (I2.bput (nd_delP (i := ((c.p + 1 + t : Nat) : Int)) nbd)) fun b o n g => (upd_ne n).trans g, fun ed => ?_⟩
    have I3 : PairO K H2 A R { S with ws := S.ws.set (c.p + 1 + t) w } { U with bs := delP U.bs ((c.p + 1 + t : Nat) : Int) } := by
      rw [ed]
      exact I2
    exact core H2 I3 fun b o _ g => g
end

local macro_rules | `(tactic| walk_at "w3") => `(tactic| try simp only [↓x_var0, ↓x_varS, ↓x_c, ↓x_op, ↓x_un, ↓x_cb, ↓x_nil, ↓x_cons, ↓x_test, ↓x_b, ↓x_ex, ↓x_and, ↓x_or, ↓x_not, ↓x_andV, ↓x_orV, ↓x_notV, ↓x_tif, ↓x_chain, ↓x_menu, ↓x_menuI, ↓x_lst, ↓x_tup, ↓x_dnew, ↓x_callW, ↓x_callN, ↓x_seq, ↓x_next, ↓x_ret, ↓x_retN, ↓x_drop, ↓x_ifS, ↓x_asg, ↓x_name, ↓x_raise, ↓x_fld, ↓x_setF, ↓x_meth, ↓x_make, ↓x_sub, ↓r_min, ↓r_max, ↓x_yes, ↓x_for, ↓x_lock, ↓x_keys, ↓x_cut, ↓x_lc, ↓x_rng1, ↓x_rng2, ↓x_lst1, ↓x_itup, ↓x_rng3, ↓x_three, ↓x_lstg, ↓x_tupg, ↓x_adrS, ↓x_one, ↓x_two, ↓x_adr, ↓x_sl, ↓x_np, ↓x_pt, ↓x_int, ↓x_bm, ↓x_bm0, ↓x_consg, ↓x_nilg, ↓x_dget2, ↓x_dget1, ↓x_dgetN, ↓x_dget, ↓x_din, ↓x_dni, ↓x_dput, ↓x_dpop2, ↓r_isB, ↓r_notB, ↓x_enum, ↓x_zip, ↓x_str, ↓x_strE, ↓r_inS, ↓r_ninS, wipe, List.map_cons, List.map_nil, ↓x_isT, ↓r_isiII, ↓r_isiBB, ↓r_isiIB, ↓r_isiSS, ↓r_neNS, ↓r_neSN, ↓r_neNN, ↓r_eqNS, ↓r_eqSN, ↓r_eqNN, ↓r_eqIS, ↓r_neIS, ↓r_neSI, ↓r_neBS, ↓r_eqBB, ↓r_neBB, ↓x_start, ↓x_K, ↓x_start0, ↓r_i0, ↓r_i, ↓r_u, ↓r_addI, ↓r_addS, ↓r_mulI, ↓r_mulS, ↓r_eqI, ↓r_neI, ↓r_eqS, ↓r_neS, ↓r_absI, ↓r_intI, ↓r_intB, List.length_cons, List.length_nil, List.replicate, List.set_cons_zero, List.set_cons_succ, decide_eq_true_eq, Bool.not_eq_true', decide_eq_false_iff_not, if_true, if_false, Bool.false_eq_true, Bool.true_eq_false, ite_true, ite_false, Bool.not_true, Bool.not_false, c_div, n_ten, c_pow, not_true_eq_false, not_false_eq_true, decide_true, decide_false, true_and, and_true, and_self, true_or, or_true, Int.reduceLT, Int.reduceLE, Int.reduceMul, Int.reduceAdd, Int.reduceSub, Int.reducePow, Int.reduceNeg, Int.reduceDiv, Int.reduceMod, Nat.reducePow, Int.reduceToNat, Int.reduceEq, Int.reduceNe, Nat.reduceLT, Nat.reduceLeDiff, Nat.reduceAdd, ↓x_whole, ↓x_kind, Int.natCast_one, Int.natCast_one, Int.natCast_one, Int.natCast_one, Int.natCast_one, Int.natCast_one, Int.natCast_one, Int.natCast_one, Int.natCast_one, Int.natCast_one, Int.natCast_one, Int.natCast_one, Int.natCast_one, Int.natCast_one, Int.natCast_one, Int.natCast_one, Int.natCast_one, Int.natCast_one])
/-! ## the law's own cells laid -/
def sp_laid21 (K : PySem.W.Frag) : Sp := fun vs H Q _ => ∃ A S z a, ∃ ns : List Int, vs = [.ref A.a, .ref z, .ref a] ∧ ArO K H A S ∧ S.ot = 0 ∧ (∀ f, S.t f = S.b f) ∧ H z = some (.lst [.int S.n, .int S.k]) ∧ SqL K H a (ns.map V.int) ∧ z ≠ A.l ∧
  ∀ d H' S' C, ArO K H' A S' → S'.n = S.n → S'.k = S.k → CellsO kp H' S' d C → Y0 S' C → (∀ c ∈ C, ∀ w ∈ c.ws, w = -1) → C.length ≤ 10 → (∀ c ∈ C, H c.r = none) → H d = none → (∀ c o, c ≠ A.l → c ≠ A.o → c ≠ A.p → c ≠ A.q → H c = some o → H' c = some o) → Q (.ref d) H'
section
variable {P : Program} {w : World} {K : PySem.W.Frag} {mg : Str → Option Value} {base : Heap}
theorem f__law_laid (T : Tx K mg) : Fn P w K mg base 8 "_law_laid" ["_law_areas", "_law_rooms", "_law_script"] (sp_laid21 K) := by
  have c__law_next := f__law_next (P := P) (w := w) (base := base) T
  have c__law_cell_at := f__law_cell_at (P := P) (w := w) (base := base) T
  have c_Areas_lay_old := f_Areas_lay_old (P := P) (w := w) (base := base) T
  have c_Areas_lay_young := f_Areas_lay_young (P := P) (w := w) (base := base) T
  refine T.mkFn 85 56 (d := d__law_laid) (N := ["_law_areas", "_law_rooms", "_law_script", "_law_cells", "_law_seed", "_law_used", "_law_k", "_law_slots", "_law_side", "_law_at", "_law_slot"]) (k := 7) rfl rfl rfl rfl rfl sc__law_laid (fun _ _ _ _ _ _ us hl => match us, hl with | [_, _, _], _ => rfl) (fun vs H Q E h => ?len) (fun cdv A outer s H vs Q E hr h => ⟨_,
      (pss_cons (ps_set (i := 3) sc__law_laid.nd rfl (Or.inl rfl) pe_dnewK)
        (pss_cons (ps_set (i := 4) sc__law_laid.nd rfl (Or.inl rfl) (pe_fn (takes_of rfl rfl rfl rfl) c__law_next (hr.mono (by decide)) (by rfl) (pa_cons (pe_fn (takes_of rfl rfl rfl rfl) c__law_cell_at (hr.mono (by decide)) (by rfl) (pa_cons (pv 2) (pa_cons pe_int pa_nil))) pa_nil)))
        (pss_cons (ps_set (i := 5) sc__law_laid.nd rfl (Or.inl rfl) (pe_lst (pa_cons pe_int (pa_cons pe_int pa_nil))))
        (pss_cons (ps_for (passes_of rfl) rfl (pi_range1 rfl (T.free 79) (pa_cons (pe_op op_gAdd pe_int (pe_op op_mod (pe_op op_fdiv (pe_fn (takes_of rfl rfl rfl rfl) c__law_cell_at (hr.mono (by decide)) (by rfl) (pa_cons (pv 2) (pa_cons pe_int pa_nil))) pe_int) pe_int)) pa_nil)) (pg_name (i := 6) sc__law_laid.nd rfl (Or.inl rfl)) (pss_cons (ps_set (i := 4) sc__law_laid.nd rfl (Or.inl rfl) (pe_fn (takes_of rfl rfl rfl rfl) c__law_next (hr.mono (by decide)) (by rfl) (pa_cons (pe_op op_gAdd (pv 4) (pv 6)) pa_nil)))
        (pss_cons (ps_set (i := 7) sc__law_laid.nd rfl (Or.inl rfl) (pe_op op_mod (pe_op op_fdiv (pv 4) pe_int) pe_int))
        (pss_cut (ps_if (pt_cmpR (op_eqK (K := K) rfl hr.units) (pe_op op_mod (pe_op op_fdiv (pv 4) pe_int) pe_int) pe_int (nomark _)) (pss_one (ps_set (i := 7) sc__law_laid.nd rfl (Or.inl rfl) (pe_op op_mod (pe_op op_fdiv (pv 4) pe_int) pe_int))) pss_nil)
        (pss_cons (ps_set (i := 8) sc__law_laid.nd rfl (Or.inl rfl) (pe_op op_mod (pe_op op_fdiv (pv 4) pe_int) pe_int))
        (pss_one (ps_if (PW.pt (pw_and (pt_cmpR op_le (pe_op op_gAdd (pe_op op_gAdd (pe_ix (ix_seqK (K := K) rfl) (pv 5) (pv 8) (fun _ _ => rfl)) (pv 7)) pe_int) (pe_ix (ix_seqK (K := K) rfl) (pv 1) (pv 8) (fun _ _ => rfl)) (nomark _)) (pw_and1 (pt_cmpR op_le (pe_op op_gAdd (pe_op op_gAdd (pe_op op_gAdd (pe_ix (ix_seqK (K := K) rfl) (pv 5) pe_int (fun _ _ => rfl)) (pe_ix (ix_seqK (K := K) rfl) (pv 5) pe_int (fun _ _ => rfl))) (pv 7)) pe_int) (pe_ix (ix_seqK (K := K) rfl) (pv 1) pe_int (fun _ _ => rfl)) (nomark _))))) (pss_cut (ps_if (pt_cmpR (op_eqK (K := K) rfl hr.units) (pv 8) pe_int (nomark _)) (pss_one (ps_set (i := 9) sc__law_laid.nd rfl (Or.inl rfl) (pe_mt (K := K) rfl (takes_of rfl rfl rfl rfl) (pv 0) c_Areas_lay_old (hr.mono (by decide)) (pa_cons (pv 7) pa_nil)))) (pss_one (ps_set (i := 9) sc__law_laid.nd rfl (Or.inl rfl) (pe_mt (K := K) rfl (takes_of rfl rfl rfl rfl) (pv 0) c_Areas_lay_young (hr.mono (by decide)) (pa_cons (pv 7) pa_nil)))))
        (pss_cons (ps_dput (hu_of hr) (pv 3) (pv 9) (pe_lc (own := [("_law_slot", 10)]) (g := gName 10) rfl sc__law_laid.nd (pi_range1 rfl (T.free 79) (pa_cons (pv 7) pa_nil)) (blkOk_by (own := [("_law_slot", 10)]) (N := ["_law_areas", "_law_rooms", "_law_script", "_law_cells", "_law_seed", "_law_used", "_law_k", "_law_slots", "_law_side", "_law_at", "_law_slot"]) (sc := defScope s__law_laid) (by decide +kernel)) (fun _ _ _ _ _ => (pg_name (i := 10) sc__law_laid.nd rfl (Or.inl rfl))) (fun _ _ _ _ _ => pts_nil) (fun _ _ _ _ _ => (pe_un un_neg pe_int))) rfl)
        (pss_one (ps_asg (pe_op op_gAdd (pe_op op_gAdd (pe_ix (ix_seqK (K := K) rfl) (pv 5) (pv 8) (fun _ _ => rfl)) (pv 7)) pe_int) (pg_sub (pv 5) (pv 8) set_list))))) pss_nil)))))))
        (pss_one (ps_ret (pv 3))))))), ?rd⟩)
  case len => first | exact len__law_laid h | (repeat (first | (obtain ⟨rfl, _⟩ := h; rfl; done) | obtain ⟨_, h⟩ := h))
  case rd =>
    obtain ⟨A, S0, z, a, ns, rfl, I, eot, et, hz, hS, zl, q⟩ := h
    have sz : 10000 ≤ sizeLine := by rw [sizeLine_eq]; omega
    have hbk := I.gk
    have hbn := I.gn
    walk_at "w3"
    intro p np
    have sp := same_new (o := .dK []) np
    refine ⟨a, _, ns, rfl, sp.seq hS, by omega, ?_⟩
    refine ⟨_, rfl, by omega, fun u nu => ?_⟩
    have su := same_new (o := .lst [.int 0, .int 0]) nu
    have s2 := sp.trans su
    have up : upd (upd H p (.dK [])) u (.lst [.int 0, .int 0]) p = some (.dK []) := su _ _ upd_same
    have uu : upd (upd H p (.dK [])) u (.lst [.int 0, .int 0]) u = some (.lst [.int 0, .int 0]) := upd_same
    have nuH := none_of sp nu
    have pu : p ≠ u := ne_of_none upd_same nu
    have ul : u ≠ A.l := (ne_of_none (sp _ _ I.me.ls) nu).symm
    generalize upd (upd H p (.dK [])) u (.lst [.int 0, .int 0]) = H2 at s2 up uu ⊢
    refine ⟨a, _, ns, rfl, s2.seq hS, by omega, ?_⟩
    walk_at "w3"
    obtain ⟨N, eN, hN⟩ : ∃ N : Nat, 1 + cell ns 0 / 1037 % 10 = (N : Int) ∧ N ≤ 10 := ⟨(1 + cell ns 0 / 1037 % 10).toNat, by omega, by omega⟩
    rw [eN, Int.toNat_natCast]
    refine ⟨by omega, by omega, ?_⟩
    let J : Hp → Nat → ArS → List CeL → Prop := fun H' t S C => ArO K H' A S ∧ S.n = S0.n ∧ S.k = S0.k ∧ CellsO kp H' S p C ∧ (∀ c ∈ C, ∀ w ∈ c.ws, w = -1) ∧ (∀ c ∈ C, H c.r = none ∧ c.r ≠ u) ∧ C.length ≤ t ∧ H' u = some (.lst [.int S.ot, .int ((S.t S.fl : Int) - S.b S.fl)]) ∧ S.t (!S.fl) = S.b (!S.fl) ∧ S.ot + (S.t S.fl - S.b S.fl) ≤ S.n ∧ ∀ c o, c ≠ A.l → c ≠ A.o → c ≠ A.p → c ≠ A.q → H c = some o → H' c = some o
    refine forW_range (lo := 0) (n := N) (fun t σ H' => ∃ S C seed o6 o7 o8 o9, σ = [some (.ref A.a), some (.ref z), some (.ref a), some (.ref p), some (.int seed), some (.ref u), o6, o7, o8, o9, none] ∧ J H' t S C) ⟨S0, [], _, _, _, _, _, rfl, I.same s2, rfl, rfl, ⟨up, (fun c m => (List.not_mem_nil m).elim), (fun c m => (List.not_mem_nil m).elim), (fun c m => (List.not_mem_nil m).elim), (fun c m => (List.not_mem_nil m).elim), .nil, .nil⟩, (fun c m => (List.not_mem_nil m).elim), (fun c m => (List.not_mem_nil m).elim), Nat.le_refl _, by rw [eot, et, Int.sub_self]; exact uu, et _, by rw [eot, et]; omega, fun c o _ _ _ _ g => s2 _ _ g⟩ ?_ ?_
    · rintro t σ H' ht ⟨S, C, seed, o6, o7, o8, o9, rfl, J1, jn, jk, ce, jw, jr, jl, ju, je, jm, jf⟩
      rw [Int.zero_add]
      walk_at "w3"
      refine ⟨_, rfl, ?_⟩
      walk_at "w3"
      generalize nextW (seed + (t : Int)) = sd
      refine ⟨fun σ H'' => H'' = H' ∧ ∃ s : Nat, s ≤ 8 ∧ σ = [some (.ref A.a), some (.ref z), some (.ref a), some (.ref p), some (.int sd), some (.ref u), some (.int (t : Int)), some (.int (s : Int)), o8, o9, none], ?_, ?_⟩
      · split
        · exact ⟨rfl, (sd / 175 % 9).toNat, by omega, by rw [Int.toNat_of_nonneg (by omega)]⟩
        · exact ⟨rfl, (sd / 5 % 5).toNat, by omega, by rw [Int.toNat_of_nonneg (by omega)]⟩
      rintro σ H'' ⟨rfl, s, s8, rfl⟩
      walk_at "w3"
      have stay : ∃ S C seed o6 o7' o8' o9', [some (V.ref A.a), some (.ref z), some (.ref a), some (.ref p), some (.int sd), some (.ref u), some (.int (t : Int)), some (.int (s : Int)), some (.int (sd / 7 % 2)), o9, none] = [some (V.ref A.a), some (.ref z), some (.ref a), some (.ref p), some (.int seed), some (.ref u), o6, o7', o8', o9', none] ∧ J H'' (t + 1) S C := ⟨S, C, sd, _, _, _, _, rfl, J1, jn, jk, ce, jw, jr, by omega, ju, je, jm, jf⟩
      have hlt := J1.lt S.fl
      have hlo := J1.lo
      have hln := J1.ln
      have zz := jf z _ zl (ne_of hz I.so fun z => spv_lst z.symm) (ne_of hz I.sp fun z => spv_lst z.symm) (ne_of hz I.sq fun z => spv_lst z.symm) hz
      rw [← jn, ← jk] at zz
      obtain ⟨b, ib, ub, zb, es, eb, eu, ez, ec, eS, eT⟩ : ∃ b : Bool, ∃ ib : Nat, ∃ ub zb : Int, sd / 7 % 2 = (ib : Int) ∧ (ib : Int) = (if b then 0 else 1) ∧ ([.int (S.ot : Int), .int ((S.t S.fl : Int) - S.b S.fl)] : List V)[ib]? = some (.int ub) ∧ ([.int (S.n : Int), .int (S.k : Int)] : List V)[ib]? = some (.int zb) ∧ (ub + s + 1 ≤ zb ↔ s + 1 ≤ endA S b - topA S b) ∧
          ([.int (S.ot : Int), .int ((S.t S.fl : Int) - S.b S.fl)] : List V).set ib (.int (ub + s + 1)) = [.int ((laidS S b s).ot : Int), .int (((laidS S b s).t (laidS S b s).fl : Int) - (laidS S b s).b (laidS S b s).fl)] ∧ (laidS S b s).ot + (laidS S b s).t (laidS S b s).fl = S.ot + S.t S.fl + (s + 1) := by
        have e0 : sd / 7 % 2 = 0 ∨ sd / 7 % 2 = 1 := by omega
        rcases e0 with e0 | e0
        · refine ⟨true, 0, _, _, e0, rfl, rfl, rfl, ?_, ?_, ?_⟩
          · show _ ↔ s + 1 ≤ S.n - S.ot
            omega
          · rw [laidS_same.1, laidS_t, laidS_same.2.2.2, laidS_ot]
            show [V.int _, V.int _] = [V.int ((S.ot + (s + 1) : Nat) : Int), V.int ((S.t S.fl : Int) - S.b S.fl)]
            congr 2 <;> omega
          · rw [laidS_same.1, laidS_t, laidS_ot]
            show S.ot + (s + 1) + S.t S.fl = _
            omega
        · refine ⟨false, 1, _, _, e0, rfl, rfl, rfl, ?_, ?_, ?_⟩
          · show _ ↔ s + 1 ≤ S.b S.fl + S.k - S.t S.fl
            omega
          · rw [laidS_same.1, laidS_t, laidS_same.2.2.2, laidS_ot]
            show [V.int _, V.int _] = [V.int (S.ot : Int), V.int (((S.t S.fl + (s + 1) : Nat) : Int) - S.b S.fl)]
            congr 3 <;> omega
          · rw [laidS_same.1, laidS_t, laidS_ot]
            show S.ot + (S.t S.fl + (s + 1)) = _
            omega
      rw [es] at stay ⊢
      refine r_ixL ju eu ?_
      walk_at "w3"
      refine r_ixL zz ez ?_
      walk_at "w3"
      by_cases c1 : ub + s + 1 ≤ zb
      · rw [if_pos c1]
        have fit := ec.mp c1
        refine r_ixL (i := 0) ju rfl (r_ixL (i := 1) ju rfl ?_)
        walk_at "w3"
        refine r_ixL (i := 0) zz rfl ?_
        walk_at "w3"
        by_cases c2 : (S.ot : Int) + ((S.t S.fl : Int) - S.b S.fl) + s + 1 ≤ S.n
        · rw [if_pos c2]
          have esl : slotsW (.int (s : Int)) = some s := by rw [slotsW_int, if_pos ⟨by omega, by omega⟩, Int.toNat_natCast]
          refine ⟨fun σ' H3 => σ' = [some (.ref A.a), some (.ref z), some (.ref a), some (.ref p), some (.int sd), some (.ref u), some (.int (t : Int)), some (.int (s : Int)), some (.int (ib : Int)), some (.int (topA S b : Int)), none] ∧ ArO K H3 A (laidS S b s) ∧ ∀ c o, c ≠ A.l → c ≠ A.o → c ≠ A.p → c ≠ A.q → H'' c = some o → H3 c = some o, ?_, ?_⟩
          · cases b with
            | true =>
              rw [show (ib : Int) = 0 from eb]
              walk_at "w3"
              refine ⟨recv J1.ob, A, S, _, rfl, J1, .inl ⟨_, rfl⟩, ?_⟩
              unfold laidW
              rw [esl]
              dsimp only
              rw [if_pos fit]
              exact fun H3 I3 k3 => ⟨rfl, I3, fun c o h1 h2 _ _ g => k3 c o h1 h2 g⟩
            | false =>
              rw [show (ib : Int) = 1 from eb]
              walk_at "w3"
              refine ⟨recv J1.ob, A, S, _, rfl, J1, .inl ⟨_, rfl⟩, ?_⟩
              unfold laidW
              rw [esl]
              dsimp only
              rw [if_pos fit]
              exact fun H3 I3 k3 => ⟨rfl, I3, fun c o h1 _ h3 h4 g => k3 c o h1 (by unfold ArA.y; split <;> assumption) g⟩
          rintro σ' H3 ⟨rfl, I3, k3⟩
          walk_at "w3"
          refine ⟨by omega, by omega, fun r nr => lc_mapR (fun _ => .int (-1)) (fun _ => rfl) (by omega) (fun i hi acc Q2 q2 => ?_) ?_⟩
          · walk_at "w3"
            exact q2
          have erep : (List.range (s : Int).toNat).map (fun _ => V.int (-1)) = (List.replicate s (-1 : Int)).map V.int := by
            rw [Int.toNat_natCast, List.map_const', List.length_range, List.map_replicate]
          rw [erep]
          have kl3 : ∀ {c xs}, c ≠ A.l → H'' c = some (.lst xs) → H3 c = some (.lst xs) := fun n g => k3 _ _ n (ne_of g J1.so fun z => spv_lst z.symm) (ne_of g J1.sp fun z => spv_lst z.symm) (ne_of g J1.sq fun z => spv_lst z.symm) g
          have kd3 := k3 _ _ (ne_of ce.dd J1.me.ls (by intro z; cases z)) (ne_of ce.dd J1.so (by intro z; cases z)) (ne_of ce.dd J1.sp (by intro z; cases z)) (ne_of ce.dd J1.sq (by intro z; cases z)) ce.dd
          have jf3 : ∀ c o, c ≠ A.l → c ≠ A.o → c ≠ A.p → c ≠ A.q → H c = some o → H3 c = some o := fun c o h1 h2 h3 h4 g => k3 c o h1 h2 h3 h4 (jf c o h1 h2 h3 h4 g)
          have rowL : ∀ c ∈ C, c.r ≠ A.l := fun c m e => by
            have h0 := (jr c m).1
            rw [e, I.me.ls] at h0
            cases h0
          have row3 : ∀ c ∈ C, H3 c.r = some (.lst (c.ws.map V.int)) := fun c m => kl3 (rowL c m) (ce.rw_ c m)
          have ju3 := kl3 ul ju
          have nrH : H r = none := by
            cases e : H r with
            | none => rfl
            | some o =>
              rw [jf3 r o (ne_of_none I3.me.ls nr).symm (ne_of_none I3.so nr).symm (ne_of_none I3.sp nr).symm (ne_of_none I3.sq nr).symm e] at nr
              cases nr
          have sr := same_new (o := .lst ((List.replicate s (-1 : Int)).map V.int)) nr
          have hr : upd H3 r (.lst ((List.replicate s (-1 : Int)).map V.int)) r = some (.lst ((List.replicate s (-1 : Int)).map V.int)) := upd_same
          have ru : r ≠ u := (ne_of_none ju3 nr).symm
          have rnew : ∀ c ∈ C, c.r ≠ r := fun c m => ne_of_none (row3 c m) nr
          have dr : p ≠ r := ne_of_none kd3 nr
          have I4 := I3.same sr
          have dd4 := sr _ _ kd3
          have ju4 := sr _ _ ju3
          have row4 : ∀ c ∈ C, upd H3 r (.lst ((List.replicate s (-1 : Int)).map V.int)) c.r = some (.lst (c.ws.map V.int)) := fun c m => sr _ _ (row3 c m)
          have jf4 : ∀ c o, c ≠ A.l → c ≠ A.o → c ≠ A.p → c ≠ A.q → H c = some o → upd H3 r (.lst ((List.replicate s (-1 : Int)).map V.int)) c = some o := fun c o h1 h2 h3 h4 g => sr _ _ (jf3 c o h1 h2 h3 h4 g)
          generalize upd H3 r (.lst ((List.replicate s (-1 : Int)).map V.int)) = H4 at sr hr I4 dd4 ju4 row4 jf4 ⊢
          have fr := ce.fresh (s := s) (old := b) hlo hlt.1 (by omega)
          have pk : putK (kvsOf kp C) (.inl (topA S b : Int) : Key) (.ref r) = kvsOf kp (C ++ [⟨topA S b, r, List.replicate s (-1)⟩]) := kvs_put (f := kp) (c := ⟨topA S b, r, List.replicate s (-1)⟩) fun c m e => by
            have e : (c.p : Int) = topA S b := e
            have := fr c m
            omega
          have dp := dput_i (i := (topA S b : Int)) (v := .ref r) dd4 (by unfold kvsOf; rw [List.length_map]; omega)
          rw [pk] at dp
          refine ⟨_, dp, ?_⟩
          have k5 : ∀ c o, c ≠ p → H4 c = some o → upd H4 p (.dK (kvsOf kp (C ++ [⟨topA S b, r, List.replicate s (-1)⟩]))) c = some o := fun c o h g => (upd_ne h).trans g
          have p5 : upd H4 p (.dK (kvsOf kp (C ++ [⟨topA S b, r, List.replicate s (-1)⟩]))) p = some (.dK (kvsOf kp (C ++ [⟨topA S b, r, List.replicate s (-1)⟩]))) := upd_same
          have I5 : ArO K (upd H4 p (.dK (kvsOf kp (C ++ [⟨topA S b, r, List.replicate s (-1)⟩])))) A (laidS S b s) := I4.off (ne_of I4.me.ls dd4 (by intro z; cases z)) fun C d fs g => by rw [dd4] at g; cases g
          generalize upd H4 p (.dK (kvsOf kp (C ++ [⟨topA S b, r, List.replicate s (-1)⟩]))) = H5 at k5 p5 I5 ⊢
          have ju5 := k5 _ _ pu.symm ju4
          refine r_ixL ju5 eu ?_
          walk_at "w3"
          refine r_setL ju5 (by omega) (by rw [← es]; show sd / 7 % 2 < 2; omega) ?_
          rw [Int.toNat_natCast, eS]
          have I6 := I5.off (c := u) (o := .lst [.int ((laidS S b s).ot : Int), .int (((laidS S b s).t (laidS S b s).fl : Int) - (laidS S b s).b (laidS S b s).fl)]) ul.symm fun C d fs g => by rw [ju5] at g; cases g
          have row6 : ∀ c ∈ C, upd H5 u (.lst [.int ((laidS S b s).ot : Int), .int (((laidS S b s).t (laidS S b s).fl : Int) - (laidS S b s).b (laidS S b s).fl)]) c.r = some (.lst (c.ws.map V.int)) := fun c m => by
            rw [upd_ne (jr c m).2]
            exact k5 _ _ (ne_of (row4 c m) dd4 (by intro z; cases z)) (row4 c m)
          have ce6 := ce.lay (H' := upd H5 u (.lst [.int ((laidS S b s).ot : Int), .int (((laidS S b s).t (laidS S b s).fl : Int) - (laidS S b s).b (laidS S b s).fl)])) (s := s) (old := b) (r := r) s8 hln hlo hlt.1 (by omega) ((upd_ne pu).trans p5) ((upd_ne ru).trans (k5 _ _ (ne_of hr dd4 (by intro z; cases z)) hr)) (fun c m => (row6 c m).trans (ce.rw_ c m).symm) rnew
          obtain ⟨f1, f2, f3, f4⟩ := laidS_same (S := S) (old := b) (s := s)
          have ft := laidS_t' (S := S) (old := b) (s := s)
          refine ⟨_, _, _, _, _, _, _, rfl, I6, f2.trans jn, f3.trans jk, ce6, fun c m w mw => ?_, fun c m => ?_, by rw [List.length_append]; show C.length + 1 ≤ _; omega, upd_same, by rw [f1, ft, f4]; exact je, ?_, fun c o h1 h2 h3 h4 g => ?_⟩
          · rcases List.mem_append.mp m with m | m
            · exact jw c m w mw
            · rw [List.mem_singleton.mp m] at mw
              exact (List.mem_replicate.mp mw).2
          · rcases List.mem_append.mp m with m | m
            · exact jr c m
            · rw [List.mem_singleton.mp m]
              exact ⟨nrH, ru⟩
          · have h6 := I6.lt (laidS S b s).fl
            rw [f2]
            rw [f4] at h6 ⊢
            rw [f1] at eT h6 ⊢
            omega
          · exact (upd_ne (ne_of_none g nuH)).trans (k5 _ _ (ne_of_none g np) (jf4 _ _ h1 h2 h3 h4 g))
        · rw [if_neg c2]
          exact stay
      · rw [if_neg c1]
        exact stay
    · rintro σ H' ⟨S, C, seed, o6, o7, o8, o9, rfl, J1, jn, jk, ce, jw, jr, jl, ju, je, jm, jf⟩
      walk_at "w3"
      have gn := J1.gn
      have gk := J1.gk
      exact q p H' S C J1 jn jk ce ⟨ce.cp, fun c mc w mw => by rw [jw c mc w mw]; exact ClW.non, J1.ln, J1.lo, by omega, J1.lt _, je, jm⟩ jw (by omega) (fun c m => (jr c m).1) np jf
end

local macro_rules | `(tactic| walk_at "w3") => `(tactic| try simp only [↓x_var0, ↓x_varS, ↓x_c, ↓x_op, ↓x_un, ↓x_cb, ↓x_nil, ↓x_cons, ↓x_test, ↓x_b, ↓x_ex, ↓x_and, ↓x_or, ↓x_not, ↓x_andV, ↓x_orV, ↓x_notV, ↓x_tif, ↓x_chain, ↓x_menu, ↓x_menuI, ↓x_lst, ↓x_tup, ↓x_dnew, ↓x_callW, ↓x_callN, ↓x_seq, ↓x_next, ↓x_ret, ↓x_retN, ↓x_drop, ↓x_ifS, ↓x_asg, ↓x_name, ↓x_raise, ↓x_fld, ↓x_setF, ↓x_meth, ↓x_make, ↓x_sub, ↓r_min, ↓r_max, ↓x_yes, ↓x_for, ↓x_lock, ↓x_keys, ↓x_cut, ↓x_lc, ↓x_rng1, ↓x_rng2, ↓x_lst1, ↓x_itup, ↓x_rng3, ↓x_three, ↓x_lstg, ↓x_tupg, ↓x_adrS, ↓x_one, ↓x_two, ↓x_adr, ↓x_sl, ↓x_np, ↓x_pt, ↓x_int, ↓x_bm, ↓x_bm0, ↓x_consg, ↓x_nilg, ↓x_dget2, ↓x_dget1, ↓x_dgetN, ↓x_dget, ↓x_din, ↓x_dni, ↓x_dput, ↓x_dpop2, ↓r_isB, ↓r_notB, ↓x_enum, ↓x_zip, ↓x_str, ↓x_strE, ↓r_inS, ↓r_ninS, wipe, List.map_cons, List.map_nil, ↓x_isT, ↓r_isiII, ↓r_isiBB, ↓r_isiIB, ↓r_isiSS, ↓r_neNS, ↓r_neSN, ↓r_neNN, ↓r_eqNS, ↓r_eqSN, ↓r_eqNN, ↓r_eqIS, ↓r_neIS, ↓r_neSI, ↓r_neBS, ↓r_eqBB, ↓r_neBB, ↓x_start, ↓x_K, ↓x_start0, ↓r_i0, ↓r_i, ↓r_u, ↓r_addI, ↓r_addS, ↓r_mulI, ↓r_mulS, ↓r_eqI, ↓r_neI, ↓r_eqS, ↓r_neS, ↓r_absI, ↓r_intI, ↓r_intB, List.length_cons, List.length_nil, List.replicate, List.set_cons_zero, List.set_cons_succ, decide_eq_true_eq, Bool.not_eq_true', decide_eq_false_iff_not, if_true, if_false, Bool.false_eq_true, Bool.true_eq_false, ite_true, ite_false, Bool.not_true, Bool.not_false, c_div, n_ten, c_pow, not_true_eq_false, not_false_eq_true, decide_true, decide_false, true_and, and_true, and_self, true_or, or_true, Int.reduceLT, Int.reduceLE, Int.reduceMul, Int.reduceAdd, Int.reduceSub, Int.reducePow, Int.reduceNeg, Int.reduceDiv, Int.reduceMod, Nat.reducePow, Int.reduceToNat, Int.reduceEq, Int.reduceNe, Nat.reduceLT, Nat.reduceLeDiff, Nat.reduceAdd, ↓x_whole, ↓x_kind, Int.natCast_one, Int.natCast_one, Int.natCast_one, Int.natCast_one, Int.natCast_one, Int.natCast_one, Int.natCast_one, Int.natCast_one, Int.natCast_one, Int.natCast_one, Int.natCast_one, Int.natCast_one, Int.natCast_one, Int.natCast_one, Int.natCast_one, Int.natCast_one, Int.natCast_one, Int.natCast_one, Int.natCast_one])
/-! ## what is due, by the law -/
def sp_met21 (K : PySem.W.Frag) : Sp := fun vs H Q _ => ∃ S d C a, ∃ hs : List Int, vs = [.ref d, .ref a] ∧ CellsO kp H S d C ∧ SqL K H a (hs.map V.int) ∧ (∀ c ∈ C, c.ws.length ≤ 8) ∧ (∀ c ∈ C, ∀ w ∈ c.ws, ClW C w) ∧ (∀ w ∈ hs, ClW C w) ∧ C.length ≤ 1000 ∧ hs.length ≤ 100 ∧
  ∀ p H', H p = none → Same H H' → H' p = some (.lst ((metC C hs).map V.int)) → Q (.ref p) H'
def gPl : V → Option V
  | .int w => (placeIn w).map V.int
  | _ => none
theorem gPl_row {ws : List Int} : (ws.map V.int).filterMap gPl = (kidsL ws).map V.int := by
  unfold kidsL
  rw [List.filterMap_map, List.map_filterMap]
  rfl
def sp_drawn21 (_ : PySem.W.Frag) : Sp := fun vs H Q _ => ∃ w m, ∃ L : List Int, vs = [.int w, .ref m] ∧ H m = some (.lst (L.map V.int)) ∧ (wordOf w).isSome = true ∧ (∀ p, placeIn w = some p → p ∈ L) ∧ ∀ v H', Same H H' → PT.is H' (drw L w) v → Q v H'
def sp_alike21 (_ : PySem.W.Frag) : Sp := fun vs H Q _ => ∃ a b xs ys ts, vs = [.ref a, .ref b] ∧ H a = some (.lst xs) ∧ H b = some (.lst ys) ∧ PTs H ts xs ∧ PTs H ts ys ∧ ts.length ≤ 100000 ∧ ∀ H', Same H H' → Q (.bl true) H'
theorem idxOf_first {p : Int} : ∀ {L : List Int} {m : Nat} {x : Int}, m < L.idxOf p → L[m]? = some x → x ≠ p
  | [], m, x, h, e => by cases e
  | y :: r, m, x, h, e => by
    rw [List.idxOf_cons] at h
    by_cases c : y = p
    · subst c
      rw [beq_self_eq_true] at h
      exact absurd h (Nat.not_lt_zero _)
    · rw [beq_false_of_ne c] at h
      have h : m < r.idxOf p + 1 := h
      cases m with
      | zero =>
        cases e
        exact c
      | succ m => exact idxOf_first (L := r) (m := m) (by omega) e
def dOf : PT → PyData
  | .non => .none
  | .num n => .int n
  | .cell k => .tuple [.str "cell", .int (k : Int)]
theorem PT.dp {K : PySem.W.Frag} {H : Hp} : ∀ {t : PT} {v : V}, t.is H v → Dp K H v (dOf t)
  | .non, _, h => by cases h; exact .non
  | .num n, _, h => by cases h; exact .int n
  | .cell k, _, ⟨a, e, g⟩ => by subst e; exact .tup (.inl (.inl g)) (.cons (.str _) (.cons (.int _) .nil))
theorem PTs.dp {K : PySem.W.Frag} {H : Hp} : ∀ {ts : List PT} {vs : List V}, PTs H ts vs → DpAll K H vs (ts.map dOf)
  | [], [], _ => .nil
  | _ :: _, _ :: _, ⟨a, b⟩ => .cons (PT.dp a) (PTs.dp b)
  | [], _ :: _, h => h.elim
  | _ :: _, [], h => h.elim
theorem dOf_sh {t : PT} : ShK 2 (dOf t) := by
  cases t with
  | non => exact ⟨by simp [dOf, PyData.canLay0], by simp [dOf, PyData.depth]⟩
  | num n => exact ⟨by simp [dOf, PyData.canLay0], by simp [dOf, PyData.depth]⟩
  | cell k =>
    refine (ShK.tup (k := 0) fun z h => ?_).up (by decide)
    simp only [List.mem_cons, List.not_mem_nil, or_false] at h
    rcases h with rfl | rfl
    · exact ⟨by simp only [PyData.canLay0]; decide +kernel, by simp [PyData.depth]⟩
    · exact ⟨by simp [PyData.canLay0], by simp [PyData.depth]⟩
section
variable {P : Program} {w : World} {K : PySem.W.Frag} {mg : Str → Option Value} {base : Heap}
theorem f__law_met (T : Tx K mg) : Fn P w K mg base 1 "_law_met" ["_law_cells", "_law_hands"] (sp_met21 K) := by
  refine T.mkFn 88 59 (d := d__law_met) (N := ["_law_cells", "_law_hands", "_law_found", "_law_row", "_law_word_here", "_law_at"]) (k := 0) rfl rfl rfl rfl rfl sc__law_met (fun _ _ _ _ _ _ us hl => match us, hl with | [_, _], _ => rfl) (fun vs H Q E h => ?len) (fun cdv A outer s H vs Q E hr h => ⟨_,
      (pss_cons (ps_set (i := 2) sc__law_met.nd rfl (Or.inl rfl) (pe_lst pa_nil))
        (pss_cons (ps_setLc (i := 3) (own := [("_law_word_here", 4)]) (g := gName 4) rfl sc__law_met.nd rfl rfl (sw_true rfl rfl rfl (by decide +kernel)) (pi_listK (K := K) rfl (pv 1)) (blkOk_by (own := [("_law_word_here", 4)]) (N := ["_law_cells", "_law_hands", "_law_found", "_law_row", "_law_word_here", "_law_at"]) (sc := defScope s__law_met) (by decide +kernel)) (fun _ _ _ _ _ => (pg_name (i := 4) sc__law_met.nd rfl (Or.inl rfl))) (fun _ _ _ _ _ => pts_one (PW.pt (pw_and (pt_cmpR op_gt (pv 4) pe_int (nomark _)) (pw_and1 (pt_cmpR (op_eqK (K := K) rfl hr.units) (pe_op op_mod (pv 4) pe_int) pe_int (nomark _)))))) (fun _ _ _ _ _ => (pe_op op_fdiv (pv 4) pe_int)))
        (pss_cons (ps_while (passes_of rfl) (pt_cmpR (op_neK (K := K) rfl hr.units) (pv 3) (pe_lst pa_nil) (nomark _)) (pss_cons (ps_set (i := 5) sc__law_met.nd rfl (Or.inl rfl) (pe_ix (ix_seqK (K := K) rfl) (pv 3) pe_int (fun _ _ => rfl)))
        (pss_cons (ps_set (i := 3) sc__law_met.nd rfl (Or.inl rfl) (pe_slice (sl_listK (K := K) rfl) (pv 3) (po_some pe_int) po_none))
        (pss_one (ps_if (pt_cmpR (op_ninK (K := K) rfl) (pv 5) (pv 2) (by rfl)) (pss_cons (ps_expr (pe_bm PySem.F.plainAttrs_list PySem.F.slot_list_append PySem.F.type_list_append mt_append (pv 2) (pa_cons (pv 5) pa_nil)))
        (pss_one (ps_set (i := 3) sc__law_met.nd rfl (Or.inl rfl) (pe_op op_gAdd (pv 3) (pe_lc (own := [("_law_word_here", 4)]) (g := gName 4) rfl sc__law_met.nd (pi_listK (K := K) rfl (pe_dget (hu_of hr) (pv 0) (pv 5) (fun _ _ => rfl))) (blkOk_by (own := [("_law_word_here", 4)]) (N := ["_law_cells", "_law_hands", "_law_found", "_law_row", "_law_word_here", "_law_at"]) (sc := defScope s__law_met) (by decide +kernel)) (fun _ _ _ _ _ => (pg_name (i := 4) sc__law_met.nd rfl (Or.inl rfl))) (fun _ _ _ _ _ => pts_one (PW.pt (pw_and (pt_cmpR op_gt (pv 4) pe_int (nomark _)) (pw_and1 (pt_cmpR (op_eqK (K := K) rfl hr.units) (pe_op op_mod (pv 4) pe_int) pe_int (nomark _)))))) (fun _ _ _ _ _ => (pe_op op_fdiv (pv 4) pe_int))))))) pss_nil)))))
        (pss_one (ps_ret (pv 2)))))), ?rd⟩)
  case len => first | exact len__law_met h | (repeat (first | (obtain ⟨rfl, _⟩ := h; rfl; done) | obtain ⟨_, h⟩ := h))
  case rd =>
    obtain ⟨S, d, C, a, hs, rfl, ce, hS, h8, hw, hws, hl, hk, q⟩ := h
    have sz : 20000 ≤ sizeLine := by rw [sizeLine_eq]; omega
    have cp := ce.cp
    have hm : ∀ x ∈ kidsL hs, x ∈ plcC C := fun x m => by
      obtain ⟨w, mw, e⟩ := List.mem_filterMap.mp m
      obtain ⟨y, ey⟩ := Option.isSome_iff_exists.mp (hws w mw).1
      obtain ⟨c, mc, e2⟩ := (hws w mw).2 x ((kids_place ey).mp e)
      exact List.mem_map.mpr ⟨c, mc, e2.symm⟩
    have lk0 : (kidsL hs).length ≤ hs.length := List.length_filterMap_le ..
    walk_at "w3"
    refine ⟨by omega, fun p np => ?_⟩
    have sp := same_new (o := .lst []) np
    have hp0 : upd H p (.lst []) p = some (.lst []) := upd_same
    have hS0 := sp.seq hS
    generalize upd H p (.lst []) = H0 at sp hp0 hS0 ⊢
    refine ⟨⟨_, hS0⟩, fun r nr => lc_iffL (xs := hs.map V.int) (g := gPl) (fun _ => rfl) (fun acc => (same_new nr).seq hS0) (by rw [List.length_map]; omega) (fun j y hy acc N n1 n2 => ?_) (fun j y u hy hu acc Q2 q2 => ?_) ?_⟩
    · obtain ⟨b, -, rfl⟩ := ints_at hy
      have e1 : (gPl (.int b)).isSome = decide (0 < b ∧ b % 2 = 1) := by
        show ((placeIn b).map V.int).isSome = _
        unfold placeIn
        split
        · rw [decide_eq_true ‹_›]; rfl
        · rw [decide_eq_false ‹_›]; rfl
      rw [e1] at n1 n2
      walk_at "w3"
      split
      · by_cases g : b % 2 = 1
        · rw [decide_eq_true g]
          exact n1 (decide_eq_true (by omega))
        · rw [decide_eq_false g]
          exact n2 (decide_eq_false (by omega))
      · exact n2 (decide_eq_false (by omega))
    · obtain ⟨b, -, rfl⟩ := ints_at hy
      have hu : (placeIn b).map V.int = some u := hu
      have eu : u = .int (b / 2) := by
        unfold placeIn at hu
        split at hu
        · exact (Option.some.inj hu).symm
        · cases hu
      subst eu
      walk_at "w3"
      exact q2
    rw [gPl_row]
    have sr := same_new (o := .lst ((kidsL hs).map V.int)) nr
    have pr : p ≠ r := ne_of_none hp0 nr
    have hp1 := sr _ _ hp0
    have hr1 : upd H0 r (.lst ((kidsL hs).map V.int)) r = some (.lst ((kidsL hs).map V.int)) := upd_same
    have s0 := sp.trans sr
    generalize upd H0 r (.lst ((kidsL hs).map V.int)) = H1 at hp1 hr1 s0 ⊢
    refine whW (fun k σ H' => ∃ fd row r o4 o5 kk, σ = [some (.ref d), some (.ref a), some (.ref p), some (.ref r), o4, o5] ∧ k = 9 * (C.length - fd.length) + row.length ∧ H' p = some (.lst (fd.map V.int)) ∧ H' r = some (.lst (row.map V.int)) ∧ p ≠ r ∧ fd.Nodup ∧ (∀ x ∈ fd, x ∈ plcC C) ∧ (∀ x ∈ row, x ∈ plcC C) ∧ row.length ≤ 1000 + 8 * fd.length ∧ kk + fd.length = C.length ∧ reachR (kC C) kk (addN fd row) fd.length = metC C hs ∧ Same H H') ⟨_, [], kidsL hs, r, _, _, C.length, rfl, rfl, hp1, hr1, pr, List.nodup_nil, (fun x m => (List.not_mem_nil m).elim), hm, by omega, rfl, rfl, s0⟩ ?_
    rintro k σ H' ⟨fd, row, r, o4, o5, kk, rfl, rfl, hp, hr, pr, nd, hf, hrow, lrow, ek, er, s⟩
    have lf : fd.length ≤ C.length := by
      have := nd_len nd hf
      rwa [plc_len] at this
    walk_at "w3"
    refine ⟨by omega, fun e ne => ?_⟩
    have se := same_new (o := .lst []) ne
    refine r_neNil (se _ _ hr) upd_same ?_
    have hp2 := se _ _ hp
    have hr2 := se _ _ hr
    have s2 := s.trans se
    generalize upd H' e (.lst []) = H2 at hp2 hr2 s2 ⊢
    cases row with
    | nil =>
      walk_at "w3"
      rw [addN_nil, reachR_end (Nat.le_refl _)] at er
      rw [er] at hp2
      exact q p H2 np s2 hp2
    | cons x rest =>
      rw [decide_eq_false (by intro z; cases z)]
      walk_at "w3"
      refine whB ?_
      walk_at "w3"
      refine r_ixL (i := 0) hr2 rfl ⟨r, _, rfl, .of hr2, fun r3 nr3 => ?_⟩
      rw [cutV_one]
      have s3 := same_new (o := .lst (rest.map V.int)) nr3
      have hr3 : upd H2 r3 (.lst (rest.map V.int)) r3 = some (.lst (rest.map V.int)) := upd_same
      have hp3 := s3 _ _ hp2
      have pr3 : p ≠ r3 := ne_of_none hp2 nr3
      have s03 := s2.trans s3
      rw [show (List.map V.int (x :: rest)).drop 1 = rest.map V.int from rfl]
      generalize upd H2 r3 (.lst (rest.map V.int)) = H3 at hr3 hp3 s03 ⊢
      have mx : x ∈ plcC C := hrow x List.mem_cons_self
      have mrest : ∀ y ∈ rest, y ∈ plcC C := fun y m => hrow y (List.mem_cons_of_mem _ m)
      have lr : rest.length + 1 ≤ 1000 + 8 * fd.length := lrow
      dsimp only
      refine ⟨p, _, rfl, .inl (.of hp3), rfl, all_flat, ?_⟩
      rw [in_ints, if_pos rfl]
      rw [addN_cons] at er
      by_cases cf : x ∈ fd
      · rw [decide_eq_true cf]
        walk_at "w3"
        rw [if_pos cf] at er
        refine ⟨_, ?_, fd, rest, r3, _, _, kk, rfl, rfl, hp3, hr3, pr3, nd, hf, mrest, by omega, ek, er, s03⟩
        omega
      · rw [decide_eq_false cf]
        walk_at "w3"
        rw [if_neg cf] at er
        have nd' : (fd ++ [x]).Nodup := by
          have := addN_nd (xs := [x]) nd
          rw [addN_cons, if_neg cf] at this
          exact this
        have hf' : ∀ y ∈ fd ++ [x], y ∈ plcC C := fun y m => by
          rcases List.mem_append.mp m with m | m
          · exact hf y m
          · rw [List.mem_singleton.mp m]
            exact mx
        have lf' : fd.length + 1 ≤ C.length := by
          have := nd_len nd' hf'
          rw [plc_len, List.length_append] at this
          exact this
        obtain ⟨kk, rfl⟩ : ∃ k', kk = k' + 1 := ⟨kk - 1, by omega⟩
        obtain ⟨t, et⟩ := addN_pre (xs := rest) (a := fd ++ [x])
        have lt : fd.length < (addN (fd ++ [x]) rest).length := by
          rw [et, List.length_append, List.length_append]
          show _ < fd.length + 1 + _
          omega
        have gx : (addN (fd ++ [x]) rest).getD fd.length 0 = x := by
          rw [et, List.append_assoc, List.getD_eq_getElem?_getD, List.getElem?_append_right (Nat.le_refl _), Nat.sub_self]
          rfl
        rw [reachR_step lt, gx, ← addN_app] at er
        refine ⟨.inl ⟨rfl, _, .of hp3⟩, p, _, _, rfl, rfl, hp3, by rw [List.length_map]; omega, ?_⟩
        have pd : p ≠ d := (ne_of_none ce.dd np).symm
        have k4 : ∀ b o, b ≠ p → H3 b = some o → upd H3 p (.lst (fd.map V.int ++ [V.int x])) b = some o := fun b o n g => (upd_ne n).trans g
        have hp4 : upd H3 p (.lst (fd.map V.int ++ [V.int x])) p = some (.lst ((fd ++ [x]).map V.int)) := by
          rw [upd_same, List.map_append]
          rfl
        have s04 : Same H (upd H3 p (.lst (fd.map V.int ++ [V.int x]))) := fun b o g => k4 b o (ne_of_none g np) (s03 _ _ g)
        have hr4 := k4 _ _ pr3.symm hr3
        generalize upd H3 p (.lst (fd.map V.int ++ [V.int x])) = H4 at hp4 s04 hr4 ⊢
        have ce4 := ce.same s04
        obtain ⟨c, mc, ex⟩ := List.mem_map.mp mx
        have ex : (c.p : Int) = x := ex
        subst ex
        have kv := kvs_some (f := kp) (ce4.keys fun a b (e : (a : Int) = b) => by omega) mc
        have dg := dget_i (i := (c.p : Int)) ce4.dd
        rw [kv] at dg
        have rw4 := ce4.rw_ c mc
        have c8 := h8 c mc
        refine ⟨_, dg, _, rfl, ⟨_, .of rw4⟩, fun e2 ne2 => lc_iffL (xs := c.ws.map V.int) (g := gPl) (fun _ => rfl) (fun acc => .of ((same_new ne2) _ _ rw4)) (by rw [List.length_map]; omega) (fun j y hy acc N n1 n2 => ?_) (fun j y u hy hu acc Q2 q2 => ?_) ?_⟩
        · obtain ⟨b, -, rfl⟩ := ints_at hy
          have e1 : (gPl (.int b)).isSome = decide (0 < b ∧ b % 2 = 1) := by
            show ((placeIn b).map V.int).isSome = _
            unfold placeIn
            split
            · rw [decide_eq_true ‹_›]; rfl
            · rw [decide_eq_false ‹_›]; rfl
          rw [e1] at n1 n2
          walk_at "w3"
          split
          · by_cases g : b % 2 = 1
            · rw [decide_eq_true g]
              exact n1 (decide_eq_true (by omega))
            · rw [decide_eq_false g]
              exact n2 (decide_eq_false (by omega))
          · exact n2 (decide_eq_false (by omega))
        · obtain ⟨b, -, rfl⟩ := ints_at hy
          have hu : (placeIn b).map V.int = some u := hu
          have eu : u = .int (b / 2) := by
            unfold placeIn at hu
            split at hu
            · exact (Option.some.inj hu).symm
            · cases hu
          subst eu
          walk_at "w3"
          exact q2
        · rw [gPl_row]
          have sk := same_new (o := .lst ((kidsL c.ws).map V.int)) ne2
          have hk2 : upd H4 e2 (.lst ((kidsL c.ws).map V.int)) e2 = some (.lst ((kidsL c.ws).map V.int)) := upd_same
          have hr5 := sk _ _ hr4
          have hp5 := sk _ _ hp4
          have s05 := s04.trans sk
          generalize upd H4 e2 (.lst ((kidsL c.ws).map V.int)) = H5 at sk hk2 hr5 hp5 s05 ⊢
          have lk : (kidsL c.ws).length ≤ c.ws.length := List.length_filterMap_le ..
          refine ⟨_, _, hr5, hk2, by rw [List.length_map, List.length_map]; omega, fun r6 nr6 => ?_⟩
          rw [← List.map_append]
          have s6 := same_new (o := .lst ((rest ++ kidsL c.ws).map V.int)) nr6
          rw [kC_mem cp mc] at er
          have kin := kC_in cp hw _ (List.mem_map.mpr ⟨c, mc, rfl⟩)
          rw [kC_mem cp mc] at kin
          refine ⟨_, ?_, fd ++ [(c.p : Int)], rest ++ kidsL c.ws, r6, _, _, kk, rfl, rfl, s6 _ _ hp5, upd_same, ne_of_none hp5 nr6, nd', hf', fun y m => ?_, ?_, ?_, ?_, s05.trans s6⟩
          · rw [List.length_append, List.length_append]
            show 9 * (C.length - (fd.length + 1)) + _ < _
            omega
          · rcases List.mem_append.mp m with m | m
            · exact mrest y m
            · exact kin y m
          · rw [List.length_append, List.length_append]
            show _ ≤ 1000 + 8 * (fd.length + 1)
            omega
          · rw [List.length_append]
            show kk + (fd.length + 1) = _
            omega
          · rw [List.length_append]
            exact er
theorem f__law_drawn (T : Tx K mg) : Fn P w K mg base 1 "_law_drawn" ["_law_word_here", "_law_met_here"] (sp_drawn21 K) := by
  refine T.mkFn 89 60 (d := d__law_drawn) (N := ["_law_word_here", "_law_met_here"]) (k := 0) rfl rfl rfl rfl rfl sc__law_drawn (fun _ _ _ _ _ _ us hl => match us, hl with | [_, _], _ => rfl) (fun vs H Q E h => ?len) (fun cdv A outer s H vs Q E hr h => ⟨_,
      (pss_cons (ps_if (pt_cmpR (op_eqK (K := K) rfl hr.units) (pv 0) (pe_un un_neg pe_int) (nomark _)) (pss_one (ps_ret pe_non)) pss_nil)
        (pss_cons (ps_if (pt_cmpR (op_eqK (K := K) rfl hr.units) (pe_op op_mod (pv 0) pe_int) pe_int (nomark _)) (pss_one (ps_ret (pe_op op_fdiv (pv 0) pe_int))) pss_nil)
        (pss_one (ps_ret (pe_tup (pa_cons pe_str (pa_cons (pe_bm PySem.F.plainAttrs_list PySem.F.slot_list_index PySem.F.type_list_index (mt_indexK (K := K) rfl) (pv 1) (pa_cons (pe_op op_fdiv (pv 0) pe_int) pa_nil)) pa_nil))))))), ?rd⟩)
  case len => first | exact len__law_drawn h | (repeat (first | (obtain ⟨rfl, _⟩ := h; rfl; done) | obtain ⟨_, h⟩ := h))
  case rd =>
    obtain ⟨w, m, L, rfl, hm, hw, hp, q⟩ := h
    have sz : 10000 ≤ sizeLine := by rw [sizeLine_eq]; omega
    obtain ⟨x, ex⟩ := Option.isSome_iff_exists.mp hw
    have ep := wd_place ex
    walk_at "w3"
    cases x with
    | nothing =>
      have e := wd_non ex
      have ep : placeIn w = none := ep
      rw [if_pos e]
      refine q _ _ (Same.refl _) ?_
      unfold drw
      rw [ep]
      dsimp only
      rw [if_pos e]
      rfl
    | num n =>
      have e := wd_num ex
      have ep : placeIn w = none := ep
      rw [if_neg (by omega), if_pos (by omega)]
      refine q _ _ (Same.refl _) ?_
      unfold drw
      rw [ep]
      dsimp only
      rw [if_neg (by omega)]
      rfl
    | place p =>
      have ep : placeIn w = some p := ep
      obtain ⟨e, h0⟩ := placeIn_is ep
      rw [if_neg (by omega), if_neg (by omega)]
      have mp := hp p ep
      have hi := List.idxOf_lt_length_of_mem mp
      have e2 : w / 2 = p := by omega
      rw [e2]
      refine ⟨.inl ⟨rfl, _, .of hm⟩, m, L.map V.int, .int p, L.idxOf p, .int p, rfl, rfl, .of hm, rfl, by rw [List.all_map]; exact List.all_eq_true.mpr fun _ _ => rfl, by rw [List.getElem?_map, List.getElem?_eq_getElem hi, List.getElem_idxOf hi]; rfl, by simp [eqV], fun i z hi' hz => ?_, by omega, fun p1 np1 => q _ _ (same_new np1) ?_⟩
      · obtain ⟨y, ey, rfl⟩ := ints_atY hz
        have := idxOf_first hi' ey
        simp [eqV, this]
      · unfold drw
        rw [ep]
        exact ⟨p1, rfl, upd_same⟩
theorem f__law_alike (T : Tx K mg) : Fn P w K mg base 1 "_law_alike" ["_law_found", "_law_due_here"] (sp_alike21 K) := by
  refine T.mkFn 90 61 (d := d__law_alike) (N := ["_law_found", "_law_due_here", "_law_one", "_law_other"]) (k := 0) rfl rfl rfl rfl rfl sc__law_alike (fun _ _ _ _ _ _ us hl => match us, hl with | [_, _], _ => rfl) (fun vs H Q E h => ?len) (fun cdv A outer s H vs Q E hr h => ⟨_,
      (pss_cons (ps_if (PW.pt (pw_or (pt_not (pt_val (pe_callB call_gIsi (by rfl) (T.free 76) (by decide +kernel) (pa_cons (pv 0) (pa_cons (pe_ty (T := "list") (T.free 85) (by decide +kernel) (by rfl)) pa_nil))))) (pw_or1 (pt_cmpR (op_neK (K := K) rfl hr.units) (pe_callB (call_lenK (K := K) rfl) (by rfl) (T.free 77) PySem.boot_len (pa_cons (pv 0) pa_nil)) (pe_callB (call_lenK (K := K) rfl) (by rfl) (T.free 77) PySem.boot_len (pa_cons (pv 1) pa_nil)) (nomark _))))) (pss_one (ps_ret pe_bl)) pss_nil)
        (pss_cons (ps_for (passes_of rfl) rfl (pi_zip (by rfl) (T.free 82) (pa_cons (pv 0) (pa_cons (pv 1) pa_nil))) (pg_tup (n := 2) rfl (pgs_cons (pg_name (i := 2) sc__law_alike.nd rfl (Or.inl rfl)) (pgs_cons (pg_name (i := 3) sc__law_alike.nd rfl (Or.inl rfl)) pgs_nil))) (pss_cons (ps_if (PW.pt (pw_and (pt_val (pe_callB call_gIsi (by rfl) (T.free 76) (by decide +kernel) (pa_cons (pv 3) (pa_cons (pe_ty (T := "int") (T.free 83) (by decide +kernel) (by rfl)) pa_nil)))) (pw_and1 (PW.pt (pw_or (pt_not (pt_val (pe_callB call_gIsi (by rfl) (T.free 76) (by decide +kernel) (pa_cons (pv 2) (pa_cons (pe_ty (T := "int") (T.free 83) (by decide +kernel) (by rfl)) pa_nil))))) (pw_or1 (pt_val (pe_callB call_gIsi (by rfl) (T.free 76) (by decide +kernel) (pa_cons (pv 2) (pa_cons (pe_ty (T := "bool") (T.free 84) (by decide +kernel) (by rfl)) pa_nil)))))))))) (pss_one (ps_ret pe_bl)) pss_nil)
        (pss_one (ps_if (pt_cmpR (op_neK (K := K) rfl hr.units) (pv 2) (pv 3) (nomark _)) (pss_one (ps_ret pe_bl)) pss_nil))))
        (pss_one (ps_ret pe_bl)))), ?rd⟩)
  case len => first | exact len__law_alike h | (repeat (first | (obtain ⟨rfl, _⟩ := h; rfl; done) | obtain ⟨_, h⟩ := h))
  case rd =>
    obtain ⟨a, b, xs, ys, ts, rfl, ha, hb, pa, pb, tl, q⟩ := h
    have sz : 1000000 ≤ sizeLine := by rw [sizeLine_eq]; omega
    walk_at "w3"
    refine r_isiL ha ?_
    walk_at "w3"
    refine r_lenL ha (r_lenL hb ?_)
    rw [pa.len, pb.len]
    walk_at "w3"
    refine ⟨a, b, xs, ys, rfl, .of ha, .of hb, forW_zip (fun i σ H' => ∃ o2 o3, σ = [some (.ref a), some (.ref b), o2, o3] ∧ Same H H') ⟨_, _, rfl, Same.refl _⟩ (fun i σ H' _ z => by obtain ⟨o2, o3, rfl, s⟩ := z; exact ⟨.of (s _ _ ha), .of (s _ _ hb)⟩) (fun i x y T σ H' hx hy nT z => ?_) fun σ H' z => ?_⟩
    · obtain ⟨o2, o3, rfl, s⟩ := z
      have sT := same_new (o := .tup [x, y]) nT
      obtain ⟨t, et, hx'⟩ := pa.get hx
      obtain ⟨t', et', hy'⟩ := pb.get hy
      rw [et] at et'
      cases et'
      have s2 := s.trans sT
      have hx2 := PT.fr (fun c xs g => s2 _ _ g) hx'
      have hy2 := PT.fr (fun c xs g => s2 _ _ g) hy'
      walk_at "w3"
      refine ⟨_, .inl (.inl upd_same), rfl, ?_⟩
      walk_at "w3"
      generalize upd H' T (.tup [x, y]) = H2 at s2 hx2 hy2 ⊢
      cases t with
      | non =>
        cases hx2
        cases hy2
        refine r_isi (t := "NoneType") rfl ?_
        rw [show isB "NoneType" "int" = false from by decide]
        walk_at "w3"
        exact ⟨_, _, rfl, s2⟩
      | num n =>
        cases hx2
        cases hy2
        walk_at "w3"
        exact ⟨_, _, rfl, s2⟩
      | cell k =>
        obtain ⟨p1, rfl, h1⟩ := hx2
        obtain ⟨p2, rfl, h2⟩ := hy2
        refine r_isi (t := "tuple") (by (have h3 : H2 p2 = some (.tup [.str "cell", .int (k : Int)]) := h2); show tyO (H2 p2) = _; rw [h3]; rfl) ?_
        rw [show isB "tuple" "int" = false from by decide]
        walk_at "w3"
        refine r_neSame (PT.dp (t := .cell k) ⟨p1, rfl, h1⟩) (PT.dp (t := .cell k) ⟨p2, rfl, h2⟩) (dOf_sh.ok (by decide)) ?_
        walk_at "w3"
        exact ⟨_, _, rfl, s2⟩
    · obtain ⟨o2, o3, rfl, s⟩ := z
      walk_at "w3"
      exact q _ s
end
def sp_due21 (_ : PySem.W.Frag) : Sp := fun vs H Q _ => ∃ S d C h tp a b rr, ∃ hs : List Int, vs = [.ref tp, .ref d, .ref h] ∧ CellsO kp H S d C ∧ H h = some (.lst (hs.map V.int)) ∧ (∀ c ∈ C, c.ws.length ≤ 8) ∧ (∀ c ∈ C, ∀ w ∈ c.ws, ClW C w) ∧ (∀ w ∈ hs, ClW C w) ∧ C.length ≤ 1000 ∧ hs.length ≤ 100 ∧ PicO H tp a b rr (picH C hs) (picR C hs) ∧ ∀ H', Same H H' → Q (.bl true) H'
def sp_apart21 (_ : PySem.W.Frag) : Sp := fun vs H Q _ => ∃ tp a b rr, ∃ vss : List (List V), vs = [.ref tp] ∧ H tp = some (.tup [.ref a, .ref b]) ∧ H b = some (.lst (rr.map V.ref)) ∧ rr.length = vss.length ∧ (∀ (i : Nat) (r : Addr), rr[i]? = some r → ∃ us, vss[i]? = some us ∧ H r = some (.lst us) ∧ us.length ≤ 1000) ∧ (b :: rr).Nodup ∧ rr.length ≤ 1000 ∧ ∀ H', (∀ x o, x ∉ rr → H x = some o → H' x = some o) → Q (.bl true) H'
section
variable {P : Program} {w : World} {K : PySem.W.Frag} {mg : Str → Option Value} {base : Heap}
theorem f__law_due (T : Tx K mg) : Fn P w K mg base 2 "_law_due" ["_law_found", "_law_cells", "_law_hands"] (sp_due21 K) := by
  have c__law_met := f__law_met (P := P) (w := w) (base := base) T
  have c__law_alike := f__law_alike (P := P) (w := w) (base := base) T
  have c__law_drawn := f__law_drawn (P := P) (w := w) (base := base) T
  refine T.mkFn 91 62 (d := d__law_due) (N := ["_law_found", "_law_cells", "_law_hands", "_law_met_here", "_law_word_here", "_law_row", "_law_at"]) (k := 1) rfl rfl rfl rfl rfl sc__law_due (fun _ _ _ _ _ _ us hl => match us, hl with | [_, _, _], _ => rfl) (fun vs H Q E h => ?len) (fun cdv A outer s H vs Q E hr h => ⟨_,
      (pss_cons (ps_set (i := 3) sc__law_due.nd rfl (Or.inr rfl) (pe_fn (takes_of rfl rfl rfl rfl) c__law_met (hr.mono (by decide)) (by rfl) (pa_cons (pv 1) (pa_cons (pv 2) pa_nil))))
        (pss_cons (ps_if (PW.pt (pw_or (pt_not (pt_val (pe_callB call_gIsi (by rfl) (T.free 76) (by decide +kernel) (pa_cons (pv 0) (pa_cons (pe_ty (T := "tuple") (T.free 86) (by decide +kernel) (by rfl)) pa_nil))))) (pw_or (pt_cmpR (op_neK (K := K) rfl hr.units) (pe_callB (call_lenK (K := K) rfl) (by rfl) (T.free 77) PySem.boot_len (pa_cons (pv 0) pa_nil)) pe_int (nomark _)) (pw_or (pt_not (pt_val (pe_callB call_gIsi (by rfl) (T.free 76) (by decide +kernel) (pa_cons (pe_ix (ix_seqK (K := K) rfl) (pv 0) pe_int (fun _ _ => rfl)) (pa_cons (pe_ty (T := "list") (T.free 85) (by decide +kernel) (by rfl)) pa_nil))))) (pw_or1 (pt_cmpR (op_neK (K := K) rfl hr.units) (pe_callB (call_lenK (K := K) rfl) (by rfl) (T.free 77) PySem.boot_len (pa_cons (pe_ix (ix_seqK (K := K) rfl) (pv 0) pe_int (fun _ _ => rfl)) pa_nil)) (pe_callB (call_lenK (K := K) rfl) (by rfl) (T.free 77) PySem.boot_len (pa_cons (pv 3) pa_nil)) (nomark _))))))) (pss_one (ps_ret pe_bl)) pss_nil)
        (pss_cons (ps_if (pt_not (pt_val (pe_fn (takes_of rfl rfl rfl rfl) c__law_alike (hr.mono (by decide)) (by rfl) (pa_cons (pe_ix (ix_seqK (K := K) rfl) (pv 0) pe_int (fun _ _ => rfl)) (pa_cons (pe_lc (own := [("_law_word_here", 4)]) (g := gName 4) rfl sc__law_due.nd (pi_listK (K := K) rfl (pv 2)) (blkOk_by (own := [("_law_word_here", 4)]) (N := ["_law_found", "_law_cells", "_law_hands", "_law_met_here", "_law_word_here", "_law_row", "_law_at"]) (sc := defScope s__law_due) (by decide +kernel)) (fun _ _ _ _ _ => (pg_name (i := 4) sc__law_due.nd rfl (Or.inl rfl))) (fun _ _ _ _ _ => pts_nil) (fun _ _ _ _ _ => (pe_fn takes0 c__law_drawn (hr.mono (by decide)) (by rfl) (pa_cons (pv 4) (pa_cons (pv 3) pa_nil))))) pa_nil))))) (pss_one (ps_ret pe_bl)) pss_nil)
        (pss_cons (ps_for (passes_of rfl) rfl (pi_zip (by rfl) (T.free 82) (pa_cons (pe_ix (ix_seqK (K := K) rfl) (pv 0) pe_int (fun _ _ => rfl)) (pa_cons (pv 3) pa_nil))) (pg_tup (n := 2) rfl (pgs_cons (pg_name (i := 5) sc__law_due.nd rfl (Or.inl rfl)) (pgs_cons (pg_name (i := 6) sc__law_due.nd rfl (Or.inl rfl)) pgs_nil))) (pss_one (ps_if (pt_not (pt_val (pe_fn (takes_of rfl rfl rfl rfl) c__law_alike (hr.mono (by decide)) (by rfl) (pa_cons (pv 5) (pa_cons (pe_lc (own := [("_law_word_here", 4)]) (g := gName 4) rfl sc__law_due.nd (pi_listK (K := K) rfl (pe_dget (hu_of hr) (pv 1) (pv 6) (fun _ _ => rfl))) (blkOk_by (own := [("_law_word_here", 4)]) (N := ["_law_found", "_law_cells", "_law_hands", "_law_met_here", "_law_word_here", "_law_row", "_law_at"]) (sc := defScope s__law_due) (by decide +kernel)) (fun _ _ _ _ _ => (pg_name (i := 4) sc__law_due.nd rfl (Or.inl rfl))) (fun _ _ _ _ _ => pts_nil) (fun _ _ _ _ _ => (pe_fn takes0 c__law_drawn (hr.mono (by decide)) (by rfl) (pa_cons (pv 4) (pa_cons (pv 3) pa_nil))))) pa_nil))))) (pss_one (ps_ret pe_bl)) pss_nil)))
        (pss_one (ps_ret pe_bl)))))), ?rd⟩)
  case len => first | exact len__law_due h | (repeat (first | (obtain ⟨rfl, _⟩ := h; rfl; done) | obtain ⟨_, h⟩ := h))
  case rd =>
    obtain ⟨S, d, C, h, tp, a, b, rr, hs, rfl, ce, hh, h8, cw, hws, hl, hk, pic, q⟩ := h
    have sz : 1000000 ≤ sizeLine := by rw [sizeLine_eq]; omega
    have cp := ce.cp
    have inC : ∀ x ∈ kidsL hs, x ∈ plcC C := fun x m => by
      obtain ⟨w, mw, e⟩ := List.mem_filterMap.mp m
      obtain ⟨y, ey⟩ := Option.isSome_iff_exists.mp (hws w mw).1
      obtain ⟨c, mc, e2⟩ := (hws w mw).2 x ((kids_place ey).mp e)
      exact List.mem_map.mpr ⟨c, mc, e2.symm⟩
    have RC := reachC_is cp cw inC
    have mL : reachC C (kidsL hs) = metC C hs := rfl
    rw [mL] at RC
    have ll : (metC C hs).length ≤ C.length := by
      have := nd_len (U := plcC C) RC.nd fun x mx => by
        obtain ⟨c, mc, e⟩ := RC.cl x mx
        exact List.mem_map.mpr ⟨c, mc, e.symm⟩
      have e : (plcC C).length = C.length := List.length_map ..
      omega
    have inL : ∀ {w p : Int}, (w ∈ hs ∨ ∃ c ∈ C, (c.p : Int) ∈ metC C hs ∧ w ∈ c.ws) → placeIn w = some p → p ∈ metC C hs := fun {w p} hh e => by
      rcases hh with hh | ⟨c, mc, mp, mw⟩
      · exact RC.st p (List.mem_filterMap.mpr ⟨w, hh, e⟩)
      · exact RC.kd c mc mp p (List.mem_filterMap.mpr ⟨w, mw, e⟩)
    have prl : (picR C hs).length = (metC C hs).length := List.length_map ..
    have pR : picR C hs = (metC C hs).map fun p => (rwC C p).map (drw (metC C hs)) := rfl
    have pH : picH C hs = hs.map (drw (metC C hs)) := rfl
    walk_at "w3"
    refine ⟨S, d, C, h, hs, rfl, ce, .of hh, h8, cw, hws, hl, hk, fun p1 H1 np1 s1 hp1 => ?_⟩
    have P1 := pic.same s1
    obtain ⟨vs, hva, pva⟩ := P1.ha
    walk_at "w3"
    refine r_isiT P1.tp_ ?_
    walk_at "w3"
    refine r_lenT P1.tp_ ?_
    walk_at "w3"
    refine r_ixT (i := 1) P1.tp_ rfl ?_
    refine r_isiL P1.hb ?_
    walk_at "w3"
    refine r_ixT (i := 1) P1.tp_ rfl ?_
    refine r_lenL P1.hb (r_lenL hp1 ?_)
    rw [List.length_map, List.length_map, P1.el, prl]
    walk_at "w3"
    rw [pH] at pva
    generalize metC C hs = L at hp1 RC inL ll pR pva
    refine r_ixT (i := 0) P1.tp_ rfl ?_
    have hh1 := s1 _ _ hh
    refine ⟨⟨_, .of hh1⟩, fun D nD => lc_list (xs := hs.map V.int) (fun i H' => ∃ us, Same H1 H' ∧ H' D = some (.lst us) ∧ PTs H' ((hs.take i).map (drw L)) us) ⟨[], same_new nD, upd_same, trivial⟩ (fun i Hx _ e => e.elim fun us z => .of (z.1 _ _ hh1)) (fun i x Hx hx e => ?_) fun Hx e => ?_⟩
    · obtain ⟨us, s, hD, pt⟩ := e
      obtain ⟨w, ew, rfl⟩ := ints_atY hx
      have ul := pt.len
      rw [List.length_map, List.length_take] at ul
      have mw := List.mem_of_getElem? ew
      walk_at "w3"
      refine ⟨_, p1, L, rfl, s _ _ hp1, (hws w mw).1, fun p e => inL (.inl mw) e, fun v H' s' pv => ?_⟩
      have et : (hs.take (i + 1)).map (drw L) = (hs.take i).map (drw L) ++ [drw L w] := by
        rw [List.take_add_one, ew, List.map_append]
        rfl
      rw [et]
      have f1 : ∀ b xs, H' b = some (.tup xs) → upd H' D (.lst (us ++ [v])) b = some (.tup xs) := fun b xs g => (upd_ne (ne_of g (s' _ _ hD) (by intro z; cases z))).trans g
      exact ⟨us, s' _ _ hD, by omega, us ++ [v], fun b x g => (upd_ne (ne_of_none g nD)).trans (s' _ _ (s _ _ g)), upd_same, ((pt.same s').fr f1).snoc (PT.fr f1 pv)⟩
    obtain ⟨us, s2, hD, pt⟩ := e
    rw [List.length_map, List.take_length] at pt
    refine ⟨_, _, _, _, _, rfl, s2 _ _ hva, hD, pva.same s2, pt, by rw [List.length_map]; omega, fun H3 s3 => ?_⟩
    walk_at "w3"
    have s13 := s2.trans s3
    have s03 := s1.trans s13
    have P3 := P1.same s13
    have hp3 := s13 _ _ hp1
    refine r_ixT (i := 1) P3.tp_ rfl ?_
    refine ⟨_, _, _, _, rfl, .of P3.hb, .of hp3, forW_zip (xs := rr.map V.ref) (ys := L.map V.int) (fun i σ H' => ∃ o5 o6, σ = [some (.ref tp), some (.ref d), some (.ref h), some (.ref p1), none, o5, o6] ∧ Same H3 H') ⟨_, _, rfl, Same.refl _⟩ (fun i σ H' _ z => by obtain ⟨o5, o6, rfl, s⟩ := z; exact ⟨.of (s _ _ P3.hb), .of (s _ _ hp3)⟩) (fun i x y T σ H' hx hy nT z => ?_) fun σ H' z => ?_⟩
    · obtain ⟨o5, o6, rfl, s⟩ := z
      have sT := same_new (o := .tup [x, y]) nT
      have s4 := s.trans sT
      obtain ⟨p, ep, rfl⟩ := ints_atY hy
      obtain ⟨r, er, rfl⟩ : ∃ r, rr[i]? = some r ∧ x = .ref r := by
        rw [List.getElem?_map] at hx
        cases e3 : rr[i]? with
        | none => rw [e3] at hx; cases hx
        | some k => rw [e3] at hx; cases hx; exact ⟨k, rfl, rfl⟩
      have mp := List.mem_of_getElem? ep
      obtain ⟨c, mc, rfl⟩ := RC.cl p mp
      obtain ⟨q', us', eq', hr', pr'⟩ := P3.hr i r er
      walk_at "w3"
      refine ⟨_, .inl (.inl upd_same), rfl, ?_⟩
      walk_at "w3"
      generalize upd H' T (.tup [.ref r, .int (c.p : Int)]) = H4 at sT s4 ⊢
      have ce4 := ce.same (s03.trans s4)
      have kv := kvs_some (f := kp) (ce4.keys fun a b (e : (a : Int) = b) => by omega) mc
      have dg := dget_i (i := (c.p : Int)) ce4.dd
      rw [show kp c.p = (c.p : Int) from rfl] at kv
      rw [kv] at dg
      have rw4 := ce4.rw_ c mc
      have c8 := h8 c mc
      have hp4 := s4 _ _ hp3
      refine ⟨_, dg, _, rfl, ⟨_, .of rw4⟩, fun D2 nD2 => lc_list (xs := c.ws.map V.int) (fun i H' => ∃ us, Same H4 H' ∧ H' D2 = some (.lst us) ∧ PTs H' ((c.ws.take i).map (drw L)) us) ⟨[], same_new nD2, upd_same, trivial⟩ (fun i Hx _ e => e.elim fun us z => .of (z.1 _ _ rw4)) (fun i x Hx hx e => ?_) fun Hx e => ?_⟩
      · obtain ⟨us, s, hD, pt⟩ := e
        obtain ⟨w, ew, rfl⟩ := ints_atY hx
        have ul := pt.len
        rw [List.length_map, List.length_take] at ul
        have mw := List.mem_of_getElem? ew
        walk_at "w3"
        refine ⟨_, p1, L, rfl, s _ _ hp4, (cw c mc w mw).1, fun p e => inL (.inr ⟨c, mc, mp, mw⟩) e, fun v H' s' pv => ?_⟩
        have et : (c.ws.take (i + 1)).map (drw L) = (c.ws.take i).map (drw L) ++ [drw L w] := by
          rw [List.take_add_one, ew, List.map_append]
          rfl
        rw [et]
        have f1 : ∀ b xs, H' b = some (.tup xs) → upd H' D2 (.lst (us ++ [v])) b = some (.tup xs) := fun b xs g => (upd_ne (ne_of g (s' _ _ hD) (by intro z; cases z))).trans g
        exact ⟨us, s' _ _ hD, by omega, us ++ [v], fun b x g => (upd_ne (ne_of_none g nD2)).trans (s' _ _ (s _ _ g)), upd_same, ((pt.same s').fr f1).snoc (PT.fr f1 pv)⟩
      obtain ⟨us, s5, hD, pt⟩ := e
      rw [List.length_map, List.take_length] at pt
      have eq2 : q' = c.ws.map (drw L) := by
        have h := eq'
        rw [pR] at h
        rw [List.getElem?_map, ep] at h
        have h := (Option.some.inj h).symm
        rw [h]
        show (rwC C (c.p : Int)).map (drw L) = _
        rw [rwC_mem cp mc]
      rw [eq2] at pr'
      refine ⟨_, _, _, _, _, rfl, (s4.trans s5) _ _ hr', hD, pr'.same (s4.trans s5), pt, by rw [List.length_map]; omega, fun H5 s6 => ?_⟩
      walk_at "w3"
      exact ⟨_, _, rfl, (s4.trans s5).trans s6⟩
    · obtain ⟨o5, o6, rfl, s⟩ := z
      walk_at "w3"
      exact q _ (s03.trans s)
theorem f__law_apart (T : Tx K mg) : Fn P w K mg base 1 "_law_apart" ["_law_found"] (sp_apart21 K) := by
  refine T.mkFn 92 63 (d := d__law_apart) (N := ["_law_found", "_law_k"]) (k := 0) rfl rfl rfl rfl rfl sc__law_apart (fun _ _ _ _ _ _ us hl => match us, hl with | [_], _ => rfl) (fun vs H Q E h => ?len) (fun cdv A outer s H vs Q E hr h => ⟨_,
      (pss_cons (ps_for (passes_of rfl) rfl (pi_range1 rfl (T.free 79) (pa_cons (pe_callB (call_lenK (K := K) rfl) (by rfl) (T.free 77) PySem.boot_len (pa_cons (pe_ix (ix_seqK (K := K) rfl) (pv 0) pe_int (fun _ _ => rfl)) pa_nil)) pa_nil)) (pg_name (i := 1) sc__law_apart.nd rfl (Or.inl rfl)) (pss_one (ps_expr (pe_bm PySem.F.plainAttrs_list PySem.F.slot_list_append PySem.F.type_list_append mt_append (pe_ix (ix_seqK (K := K) rfl) (pe_ix (ix_seqK (K := K) rfl) (pv 0) pe_int (fun _ _ => rfl)) (pv 1) (fun _ _ => rfl)) (pa_cons (pe_tup (pa_cons pe_str (pa_cons (pv 1) pa_nil))) pa_nil)))))
        (pss_one (ps_ret (pe_cmpR (op_eqK (K := K) rfl hr.units) (pe_lc (own := [("_law_k", 1)]) (g := gName 1) rfl sc__law_apart.nd (pi_range1 rfl (T.free 79) (pa_cons (pe_callB (call_lenK (K := K) rfl) (by rfl) (T.free 77) PySem.boot_len (pa_cons (pe_ix (ix_seqK (K := K) rfl) (pv 0) pe_int (fun _ _ => rfl)) pa_nil)) pa_nil)) (blkOk_by (own := [("_law_k", 1)]) (N := ["_law_found", "_law_k"]) (sc := defScope s__law_apart) (by decide +kernel)) (fun _ _ _ _ _ => (pg_name (i := 1) sc__law_apart.nd rfl (Or.inl rfl))) (fun _ _ _ _ _ => pts_one (pt_cmpR (op_neK (K := K) rfl hr.units) (pe_ix (ix_seqK (K := K) rfl) (pe_ix (ix_seqK (K := K) rfl) (pe_ix (ix_seqK (K := K) rfl) (pv 0) pe_int (fun _ _ => rfl)) (pv 1) (fun _ _ => rfl)) (pe_un un_neg pe_int) (fun _ _ => rfl)) (pe_tup (pa_cons pe_str (pa_cons (pv 1) pa_nil))) (nomark _))) (fun _ _ _ _ _ => (pv 1))) (pe_lst pa_nil) (nomark _))))), ?rd⟩)
  case len => first | exact len__law_apart h | (repeat (first | (obtain ⟨rfl, _⟩ := h; rfl; done) | obtain ⟨_, h⟩ := h))
  case rd =>
    obtain ⟨tp, a, b, rr, vss, rfl, ht, hb, el, rows, nd, rl, q⟩ := h
    have sz : 1000000 ≤ sizeLine := by rw [sizeLine_eq]; omega
    walk_at "w3"
    refine r_ixT (i := 1) ht rfl ?_
    refine r_lenL hb ?_
    rw [List.length_map]
    walk_at "w3"
    refine ⟨by omega, by omega, ?_⟩
    rw [Int.toNat_natCast]
    obtain ⟨nb, ndr⟩ := List.nodup_cons.mp nd
    have bnr : ∀ r ∈ rr, b ≠ r := fun r m e => nb (e ▸ m)
    have tnr : ∀ r ∈ rr, tp ≠ r := fun r m e => by
      obtain ⟨i, ei⟩ := List.getElem?_of_mem m
      obtain ⟨us, -, h, -⟩ := rows i r ei
      rw [← e, ht] at h
      cases h
    have ht' : ∀ {H' : Hp}, (∀ x o, x ∉ rr → H x = some o → H' x = some o) → H' tp = some (.tup [.ref a, .ref b]) := fun k => k _ _ (fun m => tnr _ m rfl) ht
    have hb' : ∀ {H' : Hp}, (∀ x o, x ∉ rr → H x = some o → H' x = some o) → H' b = some (.lst (rr.map V.ref)) := fun k => k _ _ nb hb
    refine forW_range (fun i σ H' => ∃ o1, σ = [some (.ref tp), o1] ∧ (∀ x o, x ∉ rr → H x = some o → H' x = some o) ∧ ∀ (j : Nat) (r : Addr), rr[j]? = some r → ∃ us, vss[j]? = some us ∧ us.length ≤ 1000 ∧ if j < i then ∃ p, H' r = some (.lst (us ++ [.ref p])) ∧ H' p = some (.tup [.str "mark", .int (j : Int)]) else H' r = some (.lst us)) ⟨_, rfl, (fun x o _ g => g), fun j r e => ?_⟩ ?_ ?_
    · obtain ⟨us, h1, h2, h3⟩ := rows j r e
      exact ⟨us, h1, h3, by rw [if_neg (Nat.not_lt_zero j)]; exact h2⟩
    · rintro i σ H' hi ⟨o1, rfl, k', rows'⟩
      have er := List.getElem?_eq_getElem hi
      obtain ⟨us, h1, h3, h2⟩ := rows' i _ er
      rw [if_neg (Nat.lt_irrefl i)] at h2
      walk_at "w3"
      simp only [Int.zero_add]
      refine r_ixT (i := 1) (ht' k') rfl ?_
      refine r_ixL (hb' k') (by rw [List.getElem?_map, er]; rfl) ?_
      walk_at "w3"
      refine ⟨.inl ⟨rfl, _, .of h2⟩, by omega, fun p np => ?_⟩
      have sp := same_new (o := .tup [.str "mark", .int (i : Int)]) np
      have h2' := sp _ _ h2
      refine ⟨_, _, _, rfl, rfl, h2', by omega, ?_⟩
      have pr : p ≠ rr[i] := (ne_of_none h2 np).symm
      refine ⟨_, rfl, fun x o n g => (upd_ne fun (e : x = rr[i]) => n (by rw [e]; exact List.getElem_mem hi)).trans (sp _ _ (k' x o n g)), fun j r e => ?_⟩
      obtain ⟨us', g1, g3, g2⟩ := rows' j r e
      refine ⟨us', g1, g3, ?_⟩
      by_cases c : j = i
      · subst c
        rw [er] at e
        cases e
        rw [h1] at g1
        cases g1
        rw [if_pos (Nat.lt_succ_self j)]
        exact ⟨p, upd_same, (upd_ne pr).trans upd_same⟩
      · have rne : r ≠ rr[i] := fun z => c (by
          obtain ⟨hj, e1⟩ := List.getElem?_eq_some_iff.mp e
          exact (List.getElem_inj ndr).mp (e1.trans z))
        by_cases lt : j < i
        · rw [if_pos lt] at g2
          obtain ⟨p', g4, g5⟩ := g2
          rw [if_pos (by omega)]
          exact ⟨p', (upd_ne rne).trans (sp _ _ g4), (upd_ne (ne_of (sp _ _ g5) h2' (by intro z; cases z))).trans (sp _ _ g5)⟩
        · rw [if_neg lt] at g2
          rw [if_neg (by omega)]
          exact (upd_ne rne).trans (sp _ _ g2)
    rintro σ H1 ⟨o1, rfl, k1, rows1⟩
    walk_at "w3"
    refine r_ixT (i := 1) (ht' k1) rfl ?_
    refine r_lenL (hb' k1) ?_
    rw [List.length_map]
    walk_at "w3"
    rw [Int.toNat_natCast]
    refine ⟨by omega, by omega, fun D nD => lc_range (fun i H' => Same H1 H' ∧ H' D = some (.lst [])) ⟨same_new nD, upd_same⟩ (fun i Hx hi e => ?_) fun Hx e => ?_⟩
    · obtain ⟨s, hD⟩ := e
      have er := List.getElem?_eq_getElem hi
      obtain ⟨us, h1, h3, h2⟩ := rows1 i _ er
      rw [if_pos hi] at h2
      obtain ⟨p, h4, h5⟩ := h2
      walk_at "w3"
      simp only [Int.zero_add]
      refine r_ixT (i := 1) (s _ _ (ht' k1)) rfl ?_
      refine r_ixL (s _ _ (hb' k1)) (by rw [List.getElem?_map, er]; rfl) ?_
      refine r_ixEnd (s _ _ h4) ?_
      refine ⟨by omega, fun p2 np2 => ?_⟩
      have s2 := same_new (o := .tup [.str "mark", .int (i : Int)]) np2
      have hp5 := s2 _ _ (s _ _ h5)
      refine r_neSame (d := .tuple [.str "mark", .int (i : Int)]) (.tup (.inl (.inl hp5)) (.cons (.str _) (.cons (.int _) .nil))) (.tup (.inl (.inl upd_same)) (.cons (.str _) (.cons (.int _) .nil))) ?_ ?_
      · refine (ShK.tup (k := 0) fun z h => ?_).ok (by decide)
        simp only [List.mem_cons, List.not_mem_nil, or_false] at h
        rcases h with rfl | rfl
        · exact ⟨by simp only [PyData.canLay0]; decide +kernel, by simp [PyData.depth]⟩
        · exact ⟨by simp [PyData.canLay0], by simp [PyData.depth]⟩
      walk_at "w3"
      exact ⟨s.trans s2, s2 _ _ hD⟩
    obtain ⟨s, hD⟩ := e
    refine ⟨by omega, fun p3 np3 => ?_⟩
    have s3 := same_new (o := .lst []) np3
    refine r_eqNil (ns := []) (s3 _ _ hD) upd_same ?_
    exact q _ fun x o n g => s3 _ _ (s _ _ (k1 x o n g))
end

local macro_rules | `(tactic| walk_at "w3") => `(tactic| try simp only [↓x_var0, ↓x_varS, ↓x_c, ↓x_op, ↓x_un, ↓x_cb, ↓x_nil, ↓x_cons, ↓x_test, ↓x_b, ↓x_ex, ↓x_and, ↓x_or, ↓x_not, ↓x_andV, ↓x_orV, ↓x_notV, ↓x_tif, ↓x_chain, ↓x_menu, ↓x_menuI, ↓x_lst, ↓x_tup, ↓x_dnew, ↓x_callW, ↓x_callN, ↓x_seq, ↓x_next, ↓x_ret, ↓x_retN, ↓x_drop, ↓x_ifS, ↓x_asg, ↓x_name, ↓x_raise, ↓x_fld, ↓x_setF, ↓x_meth, ↓x_make, ↓x_sub, ↓r_min, ↓r_max, ↓x_yes, ↓x_for, ↓x_lock, ↓x_keys, ↓x_cut, ↓x_lc, ↓x_rng1, ↓x_rng2, ↓x_lst1, ↓x_itup, ↓x_rng3, ↓x_three, ↓x_lstg, ↓x_tupg, ↓x_adrS, ↓x_one, ↓x_two, ↓x_adr, ↓x_sl, ↓x_np, ↓x_pt, ↓x_int, ↓x_bm, ↓x_bm0, ↓x_consg, ↓x_nilg, ↓x_dget2, ↓x_dget1, ↓x_dgetN, ↓x_dget, ↓x_din, ↓x_dni, ↓x_dput, ↓x_dpop2, ↓r_isB, ↓r_notB, ↓x_enum, ↓x_zip, ↓x_str, ↓x_strE, ↓r_inS, ↓r_ninS, wipe, List.map_cons, List.map_nil, ↓x_isT, ↓r_isiII, ↓r_isiBB, ↓r_isiIB, ↓r_isiSS, ↓r_neNS, ↓r_neSN, ↓r_neNN, ↓r_eqNS, ↓r_eqSN, ↓r_eqNN, ↓r_eqIS, ↓r_neIS, ↓r_neSI, ↓r_neBS, ↓r_eqBB, ↓r_neBB, ↓x_start, ↓x_K, ↓x_start0, ↓r_i0, ↓r_i, ↓r_u, ↓r_addI, ↓r_addS, ↓r_mulI, ↓r_mulS, ↓r_eqI, ↓r_neI, ↓r_eqS, ↓r_neS, ↓r_absI, ↓r_intI, ↓r_intB, List.length_cons, List.length_nil, List.replicate, List.set_cons_zero, List.set_cons_succ, decide_eq_true_eq, Bool.not_eq_true', decide_eq_false_iff_not, if_true, if_false, Bool.false_eq_true, Bool.true_eq_false, ite_true, ite_false, Bool.not_true, Bool.not_false, c_div, n_ten, c_pow, not_true_eq_false, not_false_eq_true, decide_true, decide_false, true_and, and_true, and_self, true_or, or_true, Int.reduceLT, Int.reduceLE, Int.reduceMul, Int.reduceAdd, Int.reduceSub, Int.reducePow, Int.reduceNeg, Int.reduceDiv, Int.reduceMod, Nat.reducePow, Int.reduceToNat, Int.reduceEq, Int.reduceNe, Nat.reduceLT, Nat.reduceLeDiff, Nat.reduceAdd, ↓x_whole, ↓x_kind, Int.natCast_one, Int.natCast_one, Int.natCast_one, Int.natCast_one, Int.natCast_one, Int.natCast_one, Int.natCast_one, Int.natCast_one, Int.natCast_one, Int.natCast_one, Int.natCast_one, Int.natCast_one, Int.natCast_one, Int.natCast_one, Int.natCast_one, Int.natCast_one, Int.natCast_one, Int.natCast_one, Int.natCast_one, Int.natCast_one])
def sp_law (K : PySem.W.Frag) : Sp := fun vs H Q _ => ∃ (a : Addr) (ns : List Int), vs = [.ref a] ∧ SqL K H a (ns.map V.int) ∧ ns.length ≤ 63 ∧ ∀ H', Q (.bl true) H'
theorem I21.hput {K : PySem.W.Frag} {H : Hp} {A : ArA} {R : RoA} {S : ArS} {U : RoS} {d : Addr} {C : List CeL} (J : I21 K H A R S U d C) {i : Nat} {n : Int} (hn : (wordOf n).isSome = true) : I21 K (upd H R.hl (.lst ((U.hs.set i n).map V.int))) A R S { U with hs := U.hs.set i n } d C :=
  { J with I := J.I.hput hn, ce := J.ce.keep fun b o m g => (upd_ne (by
      rcases m with rfl | ⟨c, mc, rfl⟩
      · exact ne_of J.ce.dd J.I.ro.ho.ls (by intro z; cases z)
      · exact (J.ro c mc).2.1)).trans g }
/-- what a picture holds -/
structure PicB (H : Hp) (a b : Addr) (rr : List Addr) (ph : List PT) (pr : List (List PT)) : Prop where
  ha : ∃ vs, H a = some (.lst vs) ∧ PTs H ph vs
  hb : H b = some (.lst (rr.map V.ref))
  el : rr.length = pr.length
  hr : ∀ (i : Nat) (r : Addr), rr[i]? = some r → ∃ q us, pr[i]? = some q ∧ H r = some (.lst us) ∧ PTs H q us
theorem PicO.bb {H : Hp} {tp a b : Addr} {rr : List Addr} {ph : List PT} {pr : List (List PT)} (h : PicO H tp a b rr ph pr) : PicB H a b rr ph pr := ⟨h.ha, h.hb, h.el, h.hr⟩
theorem PicB.fr {H H' : Hp} {a b : Addr} {rr : List Addr} {ph : List PT} {pr : List (List PT)} (h : PicB H a b rr ph pr) (k : ∀ c xs, (c = a ∨ c = b ∨ c ∈ rr) → H c = some (.lst xs) → H' c = some (.lst xs)) (kt : ∀ c xs, H c = some (.tup xs) → H' c = some (.tup xs)) : PicB H' a b rr ph pr :=
  { ha := h.ha.elim fun vs z => ⟨vs, k _ _ (.inl rfl) z.1, z.2.fr kt⟩, hb := k _ _ (.inr (.inl rfl)) h.hb, el := h.el, hr := fun i r e => (h.hr i r e).elim fun q z => z.elim fun us z => ⟨q, us, z.1, k _ _ (.inr (.inr (List.mem_of_getElem? e))) z.2.1, z.2.2.fr kt⟩ }
theorem PicB.same {H H' : Hp} {a b : Addr} {rr : List Addr} {ph : List PT} {pr : List (List PT)} (h : PicB H a b rr ph pr) (s : Same H H') : PicB H' a b rr ph pr := h.fr (fun c xs _ g => s _ _ g) fun c xs g => s _ _ g
def dPic (ph : List PT) (pr : List (List PT)) : PyData := .list [.list (ph.map dOf), .list (pr.map fun q => .list (q.map dOf))]
theorem metC_len {S : ArS} {C : List CeL} {hs : List Int} (cp : CelP S C) (cw : ∀ c ∈ C, ∀ w ∈ c.ws, ClW C w) (hw : ∀ w ∈ hs, ClW C w) : (picR C hs).length ≤ C.length := by
  have inC : ∀ x ∈ kidsL hs, x ∈ plcC C := fun x m => by
    obtain ⟨w, mw, e⟩ := List.mem_filterMap.mp m
    obtain ⟨y, ey⟩ := Option.isSome_iff_exists.mp (hw w mw).1
    obtain ⟨c, mc, e2⟩ := (hw w mw).2 x ((kids_place ey).mp e)
    exact List.mem_map.mpr ⟨c, mc, e2.symm⟩
  have RC := reachC_is cp cw inC
  have mL : reachC C (kidsL hs) = metC C hs := rfl
  rw [mL] at RC
  have := nd_len (U := plcC C) RC.nd fun x mx => by
    obtain ⟨c, mc, e⟩ := RC.cl x mx
    exact List.mem_map.mpr ⟨c, mc, e.symm⟩
  have e : (plcC C).length = C.length := List.length_map ..
  have e2 : (picR C hs).length = (metC C hs).length := List.length_map ..
  omega
/-- what was told at first, and its copy -/
structure Tol (H0 H : Hp) (tp fa fb : Addr) (frr : List Addr) (gd ga gb : Addr) (grr : List Addr) (ph : List PT) (pr : List (List PT)) : Prop where
  t1 : H tp = some (.tup [.ref fa, .ref fb])
  p1 : PicB H fa fb frr ph pr
  t2 : H gd = some (.lst [.ref ga, .ref gb])
  p2 : PicB H ga gb grr ph pr
  nn : ∀ c, (c = fa ∨ c = fb ∨ c ∈ frr) ∨ (c = ga ∨ c = gb ∨ c ∈ grr) ∨ c = gd → H0 c = none
theorem Tol.fr {H0 H H' : Hp} {tp fa fb : Addr} {frr : List Addr} {gd ga gb : Addr} {grr : List Addr} {ph : List PT} {pr : List (List PT)} (h : Tol H0 H tp fa fb frr gd ga gb grr ph pr) (k : ∀ c xs, H0 c = none → H c = some (.lst xs) → H' c = some (.lst xs)) (kt : ∀ c xs, H c = some (.tup xs) → H' c = some (.tup xs)) : Tol H0 H' tp fa fb frr gd ga gb grr ph pr :=
  ⟨kt _ _ h.t1, h.p1.fr (fun c xs m g => k c xs (h.nn c (.inl m)) g) kt, k _ _ (h.nn _ (.inr (.inr rfl))) h.t2, h.p2.fr (fun c xs m g => k c xs (h.nn c (.inr (.inl m))) g) kt, h.nn⟩
theorem Tol.same {H0 H H' : Hp} {tp fa fb : Addr} {frr : List Addr} {gd ga gb : Addr} {grr : List Addr} {ph : List PT} {pr : List (List PT)} (h : Tol H0 H tp fa fb frr gd ga gb grr ph pr) (s : Same H H') : Tol H0 H' tp fa fb frr gd ga gb grr ph pr := h.fr (fun c xs _ g => s _ _ g) fun c xs g => s _ _ g
/-- one thing changes that was there ahead -/
theorem Tol.put {H0 H : Hp} {tp fa fb : Addr} {frr : List Addr} {gd ga gb : Addr} {grr : List Addr} {ph : List PT} {pr : List (List PT)} (h : Tol H0 H tp fa fb frr gd ga gb grr ph pr) {x : Addr} {o o0 o1 : HO} (e0 : H0 x = some o0) (e1 : H x = some o1) (n : ∀ xs, o1 ≠ .tup xs) : Tol H0 (upd H x o) tp fa fb frr gd ga gb grr ph pr :=
  h.fr (fun c xs nc g => (upd_ne fun (e : c = x) => by rw [e, e0] at nc; cases nc).trans g) fun c xs g => (upd_ne fun (e : c = x) => n xs (by rw [e, e1] at g; exact Option.some.inj g)).trans g
theorem turn_cl21 {S : ArS} {C D : List CeL} {qs : List Int} (cp : CelP S C) (nd : qs.Nodup) (dp : D.map (fun c => (c.p : Int)) = qs) (dl : ∀ d ∈ D, wC C d.p = (d.ws.length : Int) + 1) (tot : sumW D ≤ 9999) {w : Int} (hw : (wordOf w).isSome = true) (hk : ∀ p, wordOf w = some (.place p) → p ∈ qs) : ClW (slC 0 D) (turnW (goF (goP C qs)) w) := by
  obtain ⟨x, ex⟩ := Option.isSome_iff_exists.mp hw
  cases x with
  | place p =>
    obtain ⟨k, ek⟩ := List.getElem?_of_mem (hk p ex)
    have gk := goP_mem cp nd ek
    obtain ⟨d, ed, epd⟩ : ∃ d, D[k]? = some d ∧ p = (d.p : Int) := by
      rw [← dp, List.getElem?_map] at ek
      cases e : D[k]? with
      | none => rw [e] at ek; cases ek
      | some d => rw [e] at ek; cases ek; exact ⟨d, rfl, rfl⟩
    have sd : ((qs.take k).map (wC C)).sum = (sumW (D.take k) : Int) := by
      rw [← dp, ← List.map_take]
      exact wC_D fun d m => dl d (List.mem_of_mem_take m)
    rw [turnW_place ex, show goF (goP C qs) p = (sumW (D.take k) : Int) from by unfold goF; rw [show goG (goP C qs) p = some _ from gk, ← sd]; rfl]
    have m := List.mem_of_getElem? (slC_get (t := 0) ed)
    have b := sum_all (D := D) (k := k)
    have := ClW.cell m (by show 0 + sumW (D.take k) ≤ 9999; omega)
    rw [show ((⟨0 + sumW (D.take k), d.r, d.ws⟩ : CeL).p : Int) = (sumW (D.take k) : Int) from by show ((0 + sumW (D.take k) : Nat) : Int) = _; rw [Nat.zero_add]] at this
    exact this
  | num n =>
    rw [turnW_other ex fun p z => by cases z]
    exact ⟨hw, fun p e => by rw [ex] at e; cases e⟩
  | nothing =>
    rw [turnW_other ex fun p z => by cases z]
    exact ⟨hw, fun p e => by rw [ex] at e; cases e⟩
theorem slid_cl {S S' : ArS} {U U' : RoS} {C D : List CeL} {ss : List Int} (R : SlidR S U C ss D S' U') (cp : CelP S C) (cw : ∀ c ∈ C, ∀ w ∈ c.ws, ClW C w) (hw : ∀ w ∈ U.hs, ClW C w) (tot : sumW D ≤ 9999) :
    (∀ c ∈ slC 0 D, ∀ w ∈ c.ws, ClW (slC 0 D) w) ∧ (∀ w ∈ U'.hs, ClW (slC 0 D) w) ∧ D.length ≤ C.length := by
  have pk : placesW U.hs = kidsL U.hs := places_kidsP fun w mw => (hw w mw).1
  have inC : ∀ x ∈ kidsL U.hs, x ∈ plcC C := fun x m => by
    obtain ⟨w, mw, e⟩ := List.mem_filterMap.mp m
    obtain ⟨y, ey⟩ := Option.isSome_iff_exists.mp (hw w mw).1
    obtain ⟨c, mc, e2⟩ := (hw w mw).2 x ((kids_place ey).mp e)
    exact List.mem_map.mpr ⟨c, mc, e2.symm⟩
  have RC := reachC_is cp cw inC
  have pm := R.pm
  rw [pk] at pm
  have nds : ss.Nodup := pm.nodup_iff.mpr RC.nd
  have dW : ∀ d ∈ D, wC C d.p = (d.ws.length : Int) + 1 := fun d md => by
    obtain ⟨c, mc, e1, e2, e3⟩ := R.dw d md
    rw [← e1, wC_mem cp mc, e3, List.length_map]
  have go : ∀ {w : Int}, (wordOf w).isSome = true → (∀ p, placeIn w = some p → p ∈ ss) → ClW (slC 0 D) (turnW (goF (goP C ss)) w) := fun {w} h1 h2 => turn_cl21 cp nds R.dp dW tot h1 fun p e => h2 p (by
    have e3 := wd_place e
    exact e3)
  have inL : ∀ {ws : List Int} {w p : Int}, w ∈ ws → placeIn w = some p → p ∈ kidsL ws := fun mw e => List.mem_filterMap.mpr ⟨_, mw, e⟩
  refine ⟨fun b mb w mw => ?_, fun w mw => ?_, ?_⟩
  · obtain ⟨k, d, ed, rfl⟩ := slC_mem mb
    have md := List.mem_of_getElem? ed
    obtain ⟨c, mc, e1, e2, e3⟩ := R.dw d md
    have mw : w ∈ d.ws := mw
    rw [e3] at mw
    obtain ⟨v, mv, rfl⟩ := List.mem_map.mp mw
    have mp : (c.p : Int) ∈ ss := by
      rw [← R.dp, e1]
      exact List.mem_map.mpr ⟨d, md, rfl⟩
    exact go (cw c mc v mv).1 fun p e => pm.mem_iff.mpr (RC.kd c mc (pm.mem_iff.mp mp) p (inL mv e))
  · rw [R.hs] at mw
    obtain ⟨v, mv, rfl⟩ := List.mem_map.mp mw
    exact go (hw v mv).1 fun p e => pm.mem_iff.mpr (RC.st p (inL mv e))
  · have h1 := nd_len (U := plcC C) nds fun x mx => by
      obtain ⟨c, mc, e⟩ := RC.cl x (pm.mem_iff.mp mx)
      exact List.mem_map.mpr ⟨c, mc, e.symm⟩
    have e : (plcC C).length = C.length := List.length_map ..
    have e2 : D.length = ss.length := by rw [← R.dp, List.length_map]
    omega
theorem newC_len {S S1 : ArS} {C qs : List CeL} (G : Yg S C qs S1) : (newC S C qs).length ≤ 2 * C.length := by
  have h1 := nd_len (f := qs.map fun c => (c.p : Int)) (U := plcC C) (List.pairwise_map.mpr (G.nd.imp fun {a b} h e => by omega)) fun x mx => by
    obtain ⟨c, mc, rfl⟩ := List.mem_map.mp mx
    exact List.mem_map.mpr ⟨c, (G.mq c mc).1, rfl⟩
  have e : (plcC C).length = C.length := List.length_map ..
  rw [List.length_map] at h1
  have h2 : (newC S C qs).length = ((C.filter fun c => !decide ((S.b S.fl : Int) ≤ c.p ∧ (c.p : Int) < S.t S.fl)).length) + (fwY S qs).length := by
    unfold newC
    rw [List.length_append, List.length_map, List.length_map]
  have h3 := List.length_filter_le (fun c : CeL => !decide ((S.b S.fl : Int) ≤ c.p ∧ (c.p : Int) < S.t S.fl)) C
  have h4 : (fwY S qs).length = qs.length := fwY_len
  omega
theorem picR_row {C : List CeL} {hs : List Int} (h8 : ∀ c ∈ C, c.ws.length ≤ 8) : ∀ q ∈ picR C hs, q.length ≤ 8 := fun q mq => by
  obtain ⟨p, -, rfl⟩ := List.mem_map.mp mq
  rw [List.length_map]
  unfold rwC
  cases e : C.find? fun c => decide ((c.p : Int) = p) with
  | none => exact Nat.zero_le _
  | some c => exact h8 c (List.mem_of_find?_eq_some e)
def rowOf (H : Hp) (r : Addr) : List V := match H r with
  | some (.lst us) => us
  | _ => []
theorem PicB.dpa {K : PySem.W.Frag} {H : Hp} {a b : Addr} {rr : List Addr} {ph : List PT} {pr : List (List PT)} (h : PicB H a b rr ph pr) : Dp K H (.ref a) (.list (ph.map dOf)) ∧ Dp K H (.ref b) (.list (pr.map fun q => .list (q.map dOf))) := by
  obtain ⟨vs, h1, h2⟩ := h.ha
  refine ⟨.lst (.of h1) (PTs.dp h2), .lst (.of h.hb) ?_⟩
  have go : ∀ {rr : List Addr} {pr : List (List PT)}, rr.length = pr.length → (∀ (i : Nat) (r : Addr), rr[i]? = some r → ∃ q us, pr[i]? = some q ∧ H r = some (.lst us) ∧ PTs H q us) → DpAll K H (rr.map V.ref) (pr.map fun q => .list (q.map dOf)) := by
    intro rr
    induction rr with
    | nil =>
      intro pr e _
      cases pr with
      | nil => exact .nil
      | cons q r => cases e
    | cons x rr ih =>
      intro pr e g
      cases pr with
      | nil => cases e
      | cons q r =>
        obtain ⟨q', us, e1, e2, e3⟩ := g 0 x rfl
        cases e1
        exact .cons (.lst (.of e2) (PTs.dp e3)) (ih (Nat.succ.inj e) fun i y ey => g (i + 1) y ey)
  exact go h.el h.hr
theorem dPic_sh {ph : List PT} {pr : List (List PT)} : SeqAt.shaped (dPic ph pr) = true := by
  refine (ShK.lst (k := 4) fun z h => ?_).ok (by decide)
  rcases List.mem_cons.mp h with rfl | h
  · refine (ShK.lst (k := 2) fun z h => ?_).up (by decide)
    obtain ⟨t, -, rfl⟩ := List.mem_map.mp h
    exact dOf_sh
  · rw [List.mem_singleton.mp h]
    refine ShK.lst fun z h => ?_
    obtain ⟨q, -, rfl⟩ := List.mem_map.mp h
    refine ShK.lst fun z h => ?_
    obtain ⟨t, -, rfl⟩ := List.mem_map.mp h
    exact dOf_sh
section
variable {P : Program} {w : World} {K : PySem.W.Frag} {mg : Str → Option Value} {base : Heap}
theorem f_law (T : Tx K mg) : Fn P w K mg base 12 "law" ["_law_script"] (sp_law K) := by
  have c__law_cell_at := f__law_cell_at (P := P) (w := w) (base := base) T
  have c_Areas___init__ := f_Areas___init__ (P := P) (w := w) (base := base) T
  have c_Areas_flip := f_Areas_flip (P := P) (w := w) (base := base) T
  have c__law_laid := f__law_laid (P := P) (w := w) (base := base) T
  have c__law_word := f__law_word (P := P) (w := w) (base := base) T
  have c__law_next := f__law_next (P := P) (w := w) (base := base) T
  have c_Roots___init__ := f_Roots___init__ (P := P) (w := w) (base := base) T
  have c__law_write := f__law_write (P := P) (w := w) (base := base) T
  have c_Hands_put := f_Hands_put (P := P) (w := w) (base := base) T
  have c_picture := f_picture (P := P) (w := w) (base := base) T
  have c__law_due := f__law_due (P := P) (w := w) (base := base) T
  have c_collect_young := f_collect_young (P := P) (w := w) (base := base) T
  have c_collect_all := f_collect_all (P := P) (w := w) (base := base) T
  have c__law_apart := f__law_apart (P := P) (w := w) (base := base) T
  refine T.mkFn 93 64 (d := d_law) (N := ["_law_script", "_law_rooms", "_law_areas", "_law_cells", "_law_many", "_law_hands", "_law_k", "_law_roots", "_law_seed", "_law_at", "_law_slot", "_law_hand", "_law_first", "_law_held", "_law_row", "_law_wide", "_law_last"]) (k := 11) rfl rfl rfl rfl rfl sc_law (fun _ _ _ _ _ _ us hl => match us, hl with | [_], _ => rfl) (fun vs H Q E h => ?len) (fun cdv A outer s H vs Q E hr h => ⟨_,
      (pss_cons (ps_set (i := 1) sc_law.nd rfl (Or.inl rfl) (pe_lst (pa_cons (pe_op op_gAdd pe_int (pe_op op_mod (pe_fn (takes_of rfl rfl rfl rfl) c__law_cell_at (hr.mono (by decide)) (by rfl) (pa_cons (pv 0) (pa_cons pe_int pa_nil))) pe_int)) (pa_cons (pe_op op_gAdd pe_int (pe_op op_mod (pe_op op_fdiv (pe_fn (takes_of rfl rfl rfl rfl) c__law_cell_at (hr.mono (by decide)) (by rfl) (pa_cons (pv 0) (pa_cons pe_int pa_nil))) pe_int) pe_int)) pa_nil))))
        (pss_cons (ps_set (i := 2) sc_law.nd rfl (Or.inl rfl) (pe_mk (K := K) rfl (takes_of rfl rfl rfl rfl) c_Areas___init__ (hr.mono (by decide)) (by rfl) (pa_cons (pe_ix (ix_seqK (K := K) rfl) (pv 1) pe_int (fun _ _ => rfl)) (pa_cons (pe_ix (ix_seqK (K := K) rfl) (pv 1) pe_int (fun _ _ => rfl)) pa_nil))))
        (pss_cut (ps_if (pt_cmpR (op_eqK (K := K) rfl hr.units) (pe_op op_mod (pe_fn (takes_of rfl rfl rfl rfl) c__law_cell_at (hr.mono (by decide)) (by rfl) (pa_cons (pv 0) (pa_cons pe_int pa_nil))) pe_int) pe_int (nomark _)) (pss_one (ps_expr (pe_mt0 (K := K) rfl (takes_of rfl rfl rfl rfl) (pv 2) c_Areas_flip (hr.mono (by decide))))) pss_nil)
        (pss_cons (ps_set (i := 3) sc_law.nd rfl (Or.inr rfl) (pe_fn (takes_of rfl rfl rfl rfl) c__law_laid (hr.mono (by decide)) (by rfl) (pa_cons (pv 2) (pa_cons (pv 1) (pa_cons (pv 0) pa_nil)))))
        (pss_cons (ps_set (i := 4) sc_law.nd rfl (Or.inl rfl) (pe_op op_gAdd pe_int (pe_op op_mod (pe_fn (takes_of rfl rfl rfl rfl) c__law_cell_at (hr.mono (by decide)) (by rfl) (pa_cons (pv 0) (pa_cons pe_int pa_nil))) pe_int)))
        (pss_cons (ps_setLc (i := 5) (own := [("_law_k", 6)]) (g := gName 6) rfl sc_law.nd rfl rfl (sw_true rfl rfl rfl (by decide +kernel)) (pi_range1 rfl (T.free 79) (pa_cons (pv 4) pa_nil)) (blkOk_by (own := [("_law_k", 6)]) (N := ["_law_script", "_law_rooms", "_law_areas", "_law_cells", "_law_many", "_law_hands", "_law_k", "_law_roots", "_law_seed", "_law_at", "_law_slot", "_law_hand", "_law_first", "_law_held", "_law_row", "_law_wide", "_law_last"]) (sc := defScope s_law) (by decide +kernel)) (fun _ _ _ _ _ => (pg_name (i := 6) sc_law.nd rfl (Or.inl rfl))) (fun _ _ _ _ _ => pts_nil) (fun _ _ _ _ _ => (pe_fn takes0 c__law_word (hr.mono (by decide)) (by rfl) (pa_cons (pv 3) (pa_cons (pe_fn takes0 c__law_next (hr.mono (by decide)) (by rfl) (pa_cons (pe_op op_gAdd (pe_fn takes0 c__law_cell_at (hr.mono (by decide)) (by rfl) (pa_cons (pv 0) (pa_cons pe_int pa_nil))) (pe_op op_gMul pe_int (pv 6))) pa_nil)) pa_nil)))))
        (pss_cons (ps_set (i := 7) sc_law.nd rfl (Or.inl rfl) (pe_mk (K := K) rfl (takes_of rfl rfl rfl rfl) c_Roots___init__ (hr.mono (by decide)) (by rfl) (pa_cons (pv 4) pa_nil)))
        (pss_cons (ps_set (i := 8) sc_law.nd rfl (Or.inl rfl) (pe_fn (takes_of rfl rfl rfl rfl) c__law_next (hr.mono (by decide)) (by rfl) (pa_cons (pe_fn (takes_of rfl rfl rfl rfl) c__law_cell_at (hr.mono (by decide)) (by rfl) (pa_cons (pv 0) (pa_cons pe_int pa_nil))) pa_nil)))
        (pss_cons (ps_for (passes_of rfl) rfl (pi_listK (K := K) rfl (pe_callTy (call_listD rfl) (by rfl) (T.free 85) (by decide +kernel) (pa_cons (pv 3) pa_nil))) (pg_name (i := 9) sc_law.nd rfl (Or.inl rfl)) (pss_one (ps_for (passes_of rfl) rfl (pi_range1 rfl (T.free 79) (pa_cons (pe_callB (call_lenK (K := K) rfl) (by rfl) (T.free 77) PySem.boot_len (pa_cons (pe_dget (hu_of hr) (pv 3) (pv 9) (fun _ _ => rfl)) pa_nil)) pa_nil)) (pg_name (i := 10) sc_law.nd rfl (Or.inl rfl)) (pss_cons (ps_set (i := 8) sc_law.nd rfl (Or.inl rfl) (pe_fn (takes_of rfl rfl rfl rfl) c__law_next (hr.mono (by decide)) (by rfl) (pa_cons (pe_op op_gAdd (pv 8) (pv 10)) pa_nil)))
        (pss_one (ps_expr (pe_fn (takes_of rfl rfl rfl rfl) c__law_write (hr.mono (by decide)) (by rfl) (pa_cons (pv 2) (pa_cons (pv 7) (pa_cons (pv 3) (pa_cons (pv 9) (pa_cons (pv 10) (pa_cons (pe_fn (takes_of rfl rfl rfl rfl) c__law_word (hr.mono (by decide)) (by rfl) (pa_cons (pv 3) (pa_cons (pv 8) pa_nil))) pa_nil)))))))))))))
        (pss_cons (ps_for (passes_of rfl) rfl (pi_range1 rfl (T.free 79) (pa_cons (pe_callB (call_lenK (K := K) rfl) (by rfl) (T.free 77) PySem.boot_len (pa_cons (pv 5) pa_nil)) pa_nil)) (pg_name (i := 11) sc_law.nd rfl (Or.inl rfl)) (pss_one (ps_expr (pe_mt (K := K) rfl (takes_of rfl rfl rfl rfl) (pe_fldC (T.cls 164) (T.noat 167) (pv 7)) c_Hands_put (hr.mono (by decide)) (pa_cons (pv 11) (pa_cons (pe_ix (ix_seqK (K := K) rfl) (pv 5) (pv 11) (fun _ _ => rfl)) pa_nil))))))
        (pss_cons (ps_set (i := 12) sc_law.nd rfl (Or.inl rfl) (pe_fn (takes_of rfl rfl rfl rfl) c_picture (hr.mono (by decide)) (by rfl) (pa_cons (pv 2) (pa_cons (pv 7) pa_nil))))
        (pss_cons (ps_if (pt_not (pt_val (pe_fn (takes_of rfl rfl rfl rfl) c__law_due (hr.mono (by decide)) (by rfl) (pa_cons (pv 12) (pa_cons (pv 3) (pa_cons (pv 5) pa_nil)))))) (pss_one (ps_ret pe_bl)) pss_nil)
        (pss_cons (ps_set (i := 13) sc_law.nd rfl (Or.inl rfl) (pe_lst (pa_cons (pe_callTy (call_listK (K := K) rfl) (by rfl) (T.free 85) (by decide +kernel) (pa_cons (pe_ix (ix_seqK (K := K) rfl) (pv 12) pe_int (fun _ _ => rfl)) pa_nil)) (pa_cons (pe_lc (own := [("_law_row", 14)]) (g := gName 14) rfl sc_law.nd (pi_listK (K := K) rfl (pe_ix (ix_seqK (K := K) rfl) (pv 12) pe_int (fun _ _ => rfl))) (blkOk_by (own := [("_law_row", 14)]) (N := ["_law_script", "_law_rooms", "_law_areas", "_law_cells", "_law_many", "_law_hands", "_law_k", "_law_roots", "_law_seed", "_law_at", "_law_slot", "_law_hand", "_law_first", "_law_held", "_law_row", "_law_wide", "_law_last"]) (sc := defScope s_law) (by decide +kernel)) (fun _ _ _ _ _ => (pg_name (i := 14) sc_law.nd rfl (Or.inl rfl))) (fun _ _ _ _ _ => pts_nil) (fun _ _ _ _ _ => (pe_callTy (call_listK (K := K) rfl) (by rfl) (T.free 85) (by decide +kernel) (pa_cons (pv 14) pa_nil)))) pa_nil))))
        (pss_cons (ps_set (i := 11) sc_law.nd rfl (Or.inl rfl) (pe_op op_mod (pe_fn (takes_of rfl rfl rfl rfl) c__law_cell_at (hr.mono (by decide)) (by rfl) (pa_cons (pv 0) (pa_cons pe_int pa_nil))) (pe_callB (call_lenK (K := K) rfl) (by rfl) (T.free 77) PySem.boot_len (pa_cons (pv 5) pa_nil))))
        (pss_cons (ps_asg (pe_fn (takes_of rfl rfl rfl rfl) c__law_word (hr.mono (by decide)) (by rfl) (pa_cons (pv 3) (pa_cons (pe_fn (takes_of rfl rfl rfl rfl) c__law_next (hr.mono (by decide)) (by rfl) (pa_cons (pe_fn (takes_of rfl rfl rfl rfl) c__law_cell_at (hr.mono (by decide)) (by rfl) (pa_cons (pv 0) (pa_cons pe_int pa_nil))) pa_nil)) pa_nil))) (pg_sub (pv 5) (pv 11) set_list))
        (pss_cons (ps_expr (pe_mt (K := K) rfl (takes_of rfl rfl rfl rfl) (pe_fldC (T.cls 164) (T.noat 167) (pv 7)) c_Hands_put (hr.mono (by decide)) (pa_cons (pv 11) (pa_cons (pe_ix (ix_seqK (K := K) rfl) (pv 5) (pv 11) (fun _ _ => rfl)) pa_nil))))
        (pss_cons (ps_lock (ps_setLc (i := 15) (own := [("_law_at", 9)]) (g := gName 9) rfl sc_law.nd rfl rfl (sw_true rfl rfl rfl (by decide +kernel)) (pi_keys (pv 3)) (blkOk_by (own := [("_law_at", 9)]) (N := ["_law_script", "_law_rooms", "_law_areas", "_law_cells", "_law_many", "_law_hands", "_law_k", "_law_roots", "_law_seed", "_law_at", "_law_slot", "_law_hand", "_law_first", "_law_held", "_law_row", "_law_wide", "_law_last"]) (sc := defScope s_law) (by decide +kernel)) (fun _ _ _ _ _ => (pg_name (i := 9) sc_law.nd rfl (Or.inl rfl))) (fun _ _ _ _ _ => pts_one (pt_cmpR (op_neK (K := K) rfl hr.units) (pe_dget (hu_of hr) (pv 3) (pv 9) (fun _ _ => rfl)) (pe_lst pa_nil) (nomark _))) (fun _ _ _ _ _ => (pv 9))))
        (pss_cut (ps_if (pt_cmpR (op_neK (K := K) rfl hr.units) (pv 15) (pe_lst pa_nil) (nomark _)) (pss_cons (ps_set (i := 9) sc_law.nd rfl (Or.inl rfl) (pe_ix (ix_seqK (K := K) rfl) (pv 15) (pe_op op_mod (pe_fn (takes_of rfl rfl rfl rfl) c__law_cell_at (hr.mono (by decide)) (by rfl) (pa_cons (pv 0) (pa_cons pe_int pa_nil))) (pe_callB (call_lenK (K := K) rfl) (by rfl) (T.free 77) PySem.boot_len (pa_cons (pv 15) pa_nil))) (fun _ _ => rfl)))
        (pss_cons (ps_set (i := 10) sc_law.nd rfl (Or.inl rfl) (pe_op op_mod (pe_op op_fdiv (pe_fn (takes_of rfl rfl rfl rfl) c__law_cell_at (hr.mono (by decide)) (by rfl) (pa_cons (pv 0) (pa_cons pe_int pa_nil))) pe_int) (pe_callB (call_lenK (K := K) rfl) (by rfl) (T.free 77) PySem.boot_len (pa_cons (pe_dget (hu_of hr) (pv 3) (pv 9) (fun _ _ => rfl)) pa_nil))))
        (pss_one (ps_expr (pe_fn (takes_of rfl rfl rfl rfl) c__law_write (hr.mono (by decide)) (by rfl) (pa_cons (pv 2) (pa_cons (pv 7) (pa_cons (pv 3) (pa_cons (pv 9) (pa_cons (pv 10) (pa_cons (pe_fn (takes_of rfl rfl rfl rfl) c__law_word (hr.mono (by decide)) (by rfl) (pa_cons (pv 3) (pa_cons (pe_fn (takes_of rfl rfl rfl rfl) c__law_next (hr.mono (by decide)) (by rfl) (pa_cons (pe_fn (takes_of rfl rfl rfl rfl) c__law_cell_at (hr.mono (by decide)) (by rfl) (pa_cons (pv 0) (pa_cons pe_int pa_nil))) pa_nil)) pa_nil))) pa_nil))))))))))) pss_nil)
        (pss_cons (ps_if (pt_not (pt_val (pe_fn (takes_of rfl rfl rfl rfl) c__law_due (hr.mono (by decide)) (by rfl) (pa_cons (pe_fn (takes_of rfl rfl rfl rfl) c_picture (hr.mono (by decide)) (by rfl) (pa_cons (pv 2) (pa_cons (pv 7) pa_nil))) (pa_cons (pv 3) (pa_cons (pv 5) pa_nil)))))) (pss_one (ps_ret pe_bl)) pss_nil)
        (pss_cons (ps_expr (pe_fn (takes_of rfl rfl rfl rfl) c_collect_young (hr.mono (by decide)) (by rfl) (pa_cons (pv 2) (pa_cons (pv 7) pa_nil))))
        (pss_cons (ps_if (pt_not (pt_val (pe_fn (takes_of rfl rfl rfl rfl) c__law_due (hr.mono (by decide)) (by rfl) (pa_cons (pe_fn (takes_of rfl rfl rfl rfl) c_picture (hr.mono (by decide)) (by rfl) (pa_cons (pv 2) (pa_cons (pv 7) pa_nil))) (pa_cons (pv 3) (pa_cons (pv 5) pa_nil)))))) (pss_one (ps_ret pe_bl)) pss_nil)
        (pss_cons (ps_expr (pe_fn (takes_of rfl rfl rfl rfl) c_collect_all (hr.mono (by decide)) (by rfl) (pa_cons (pv 2) (pa_cons (pv 7) pa_nil))))
        (pss_cons (ps_set (i := 16) sc_law.nd rfl (Or.inl rfl) (pe_fn (takes_of rfl rfl rfl rfl) c_picture (hr.mono (by decide)) (by rfl) (pa_cons (pv 2) (pa_cons (pv 7) pa_nil))))
        (pss_one (ps_ret (pe_and (pe_fn (takes_of rfl rfl rfl rfl) c__law_due (hr.mono (by decide)) (by rfl) (pa_cons (pv 16) (pa_cons (pv 3) (pa_cons (pv 5) pa_nil)))) (pe_and (pe_fn (takes_of rfl rfl rfl rfl) c__law_apart (hr.mono (by decide)) (by rfl) (pa_cons (pv 16) pa_nil)) (pe_one (pe_cmpR (op_eqK (K := K) rfl hr.units) (pe_lst (pa_cons (pe_ix (ix_seqK (K := K) rfl) (pv 12) pe_int (fun _ _ => rfl)) (pa_cons (pe_ix (ix_seqK (K := K) rfl) (pv 12) pe_int (fun _ _ => rfl)) pa_nil))) (pv 13) (nomark _)))))))))))))))))))))))))))))), ?rd⟩)
  case len => first | exact len_law h | (repeat (first | (obtain ⟨rfl, _⟩ := h; rfl; done) | obtain ⟨_, h⟩ := h))
  case rd =>
    obtain ⟨a, ns, rfl, hS, hl, q⟩ := h
    have sz : 1000000 ≤ sizeLine := by rw [sizeLine_eq]; omega
    walk_at "w3"
    refine ⟨a, _, ns, rfl, hS, by omega, ?_⟩
    walk_at "w3"
    refine ⟨a, _, ns, rfl, hS, by omega, ?_⟩
    walk_at "w3"
    obtain ⟨n, en, hn⟩ : ∃ n : Nat, 20 + cell ns 0 % 61 = (n : Int) ∧ 20 ≤ n ∧ n ≤ 80 := ⟨(20 + cell ns 0 % 61).toNat, by omega, by omega⟩
    obtain ⟨k, ek, hk⟩ : ∃ k : Nat, 4 + cell ns 0 / 61 % 17 = (k : Int) ∧ 4 ≤ k ∧ k ≤ 20 := ⟨(4 + cell ns 0 / 61 % 17).toNat, by omega, by omega⟩
    rw [en, ek]
    refine ⟨by omega, fun z nz => ?_⟩
    have s1 := same_new (o := .lst [.int (n : Int), .int (k : Int)]) nz
    have hz1 : upd H z (.lst [.int (n : Int), .int (k : Int)]) z = some (.lst [.int (n : Int), .int (k : Int)]) := upd_same
    have hS1 := s1.seq hS
    generalize upd H z (.lst [.int (n : Int), .int (k : Int)]) = H0 at hz1 hS1 ⊢
    refine r_ixL (i := 0) hz1 rfl ?_
    refine r_ixL (i := 1) hz1 rfl ?_
    intro g gx ng ngx nge
    have ev2 : oldV (.int (n : Int)) = some n := by rw [oldV_int, if_pos (by omega), Int.toNat_natCast]
    have ev3 : youngV (.int (k : Int)) = some k := by rw [youngV_int, if_pos (by omega), Int.toNat_natCast]
    refine ⟨g, gx, _, _, rfl, upd_same, .inl ⟨_, rfl⟩, .inl ⟨_, rfl⟩, ?_⟩
    rw [ev2]
    dsimp only
    rw [ev3]
    intro A H2 eg I2 nl no np nq nm k2
    subst eg
    have sm := same_mk (C := He.ga K "Areas") ng ngx nge
    have s02 : Same H0 H2 := fun b o e => k2 _ _ (ne_of_none e ng) (sm _ _ e)
    have nl0 := none_of sm nl
    have no0 := none_of sm no
    have np0 := none_of sm np
    have nq0 := none_of sm nq
    refine ⟨rfl, ?_⟩
    refine ⟨fun σ' H' => ∃ fl, σ' = [some (.ref a), some (.ref z), some (.ref A.a), none, none, none, none, none, none, none, none, none, none, none, none, none, none] ∧ ArO K H' A { arS n k with fl := fl } ∧ Same H0 H', ?_, ?_⟩
    · refine ⟨a, _, ns, rfl, s02.seq hS1, by omega, ?_⟩
      walk_at "w3"
      split
      · refine ⟨recv I2.ob, A, _, rfl, I2, fun H3 I3 k3 => ?_⟩
        exact ⟨_, I3, fun b o e => k3 _ _ (ne_of_none e ng) (s02 _ _ e)⟩
      · exact ⟨false, I2, s02⟩
    clear I2 s02 k2
    rintro σ' H3 ⟨fl, rfl, I3, s03⟩
    walk_at "w3"
    refine ⟨A, _, z, a, ns, rfl, I3, rfl, (by cases fl <;> exact fun f => by cases f <;> rfl), s03 _ _ hz1, s03.seq hS1, ne_of_none hz1 nl0, fun d H6 S6 C6 I6 n6 k6 ce6 y6 w6 l6 r6 dn6 kf6 => ?_⟩
    have s06 : Same H0 H6 := fun b o g => kf6 b o (ne_of_none g nl0) (ne_of_none g no0) (ne_of_none g np0) (ne_of_none g nq0) (s03 _ _ g)
    have c9 : ∀ c ∈ C6, c.p ≤ 9999 := fun c mc => by
      have := y6.lt_ mc
      omega
    refine ⟨a, _, ns, rfl, s06.seq hS1, by omega, ?_⟩
    walk_at "w3"
    obtain ⟨m, em, hm⟩ : ∃ m : Nat, 1 + cell ns 3 % 6 = (m : Int) ∧ 1 ≤ m ∧ m ≤ 6 := ⟨(1 + cell ns 3 % 6).toNat, by omega, by omega⟩
    rw [em]
    refine ⟨by omega, by omega, fun D nD => lc_range (fun i H' => ∃ hs : List Int, Same H6 H' ∧ H' D = some (.lst (hs.map V.int)) ∧ hs.length = i ∧ ∀ w ∈ hs, ClW C6 w) ⟨[], same_new nD, upd_same, rfl, (fun w m => (List.not_mem_nil m).elim)⟩ (fun i Hx hi e => ?_) fun H7 e => ?_⟩
    · obtain ⟨hs, s, hD, hl_, hc⟩ := e
      have ce := ce6.same s
      walk_at "w3"
      refine ⟨a, _, ns, rfl, (s06.trans s).seq hS1, by omega, ?_⟩
      walk_at "w3"
      refine ⟨_, rfl, S6, d, C6, _, rfl, ce, by omega, c9, fun w H' s' cw => ?_⟩
      refine ⟨_, s' _ _ hD, by rw [List.length_map]; omega, hs ++ [w], fun b x g => (upd_ne (ne_of_none g nD)).trans (s' _ _ (s _ _ g)), by rw [upd_same, List.map_append]; rfl, by rw [List.length_append, hl_]; rfl, fun w' m' => ?_⟩
      rcases List.mem_append.mp m' with m' | m'
      · exact hc w' m'
      · rw [List.mem_singleton.mp m']
        exact cw
    obtain ⟨hs, s67, hD7, hsl, hsc⟩ := e
    rw [Int.toNat_natCast] at hsl
    have s07 := s06.trans s67
    have ce7 := ce6.same s67
    have I7 := I6.same s67
    have nD0 := none_of s06 nD
    have dD : d ≠ D := ne_of_none ce6.dd nD
    have lD : A.l ≠ D := ne_of_none I6.me.ls nD
    have rD : ∀ c ∈ C6, c.r ≠ D := fun c mc => ne_of_none (ce6.rw_ c mc) nD
    clear s67
    walk_at "w3"
    intro r rx nr nrx nre
    have ev1 : handsV (.int (m : Int)) = some m := by rw [handsV_int, if_pos (by omega), Int.toNat_natCast]
    refine ⟨r, rx, _, rfl, upd_same, .inl ⟨_, rfl⟩, ?_⟩
    rw [ev1]
    intro R U H8 er eU R8 zz k8
    subst er
    have sr := same_mk (C := He.ga K "Roots") nr nrx nre
    have s78 : Same H7 H8 := fun b o e => k8 _ _ (ne_of_none e nr) (sr _ _ e)
    have zn : ∀ c, c = R.h ∨ c = R.hl ∨ c = R.b ∨ c = U.bd ∨ c = R.w ∨ c = R.wl ∨ c = R.la ∨ c = R.d ∨ c = R.e → H7 c = none := fun c mc => none_of sr (zz c mc)
    have s08 := s07.trans s78
    have hhl := zn R.hl (.inr (.inl rfl))
    have hb := zn R.b (.inr (.inr (.inl rfl)))
    have hbd := zn U.bd (.inr (.inr (.inr (.inl rfl))))
    have hwl := zn R.wl (.inr (.inr (.inr (.inr (.inr (.inl rfl))))))
    have hd := zn R.d (.inr (.inr (.inr (.inr (.inr (.inr (.inr (.inl rfl))))))))
    have he := zn R.e (.inr (.inr (.inr (.inr (.inr (.inr (.inr (.inr rfl))))))))
    have ehs : U.hs = List.replicate m (-1) := by rw [eU]
    have J8 : I21 K H8 A R S6 U d C6 :=
      { I := ⟨I7.same s78, R8, ne_of_none I7.me.ls hhl, ne_of_none I7.me.ls hwl, ne_of_none I7.me.ls hd, ne_of_none I7.me.ls he⟩
        ce := ce7.same s78
        ro := fun c mc => ⟨(ne_of_none I3.me.ls (r6 c mc)).symm, ne_of_none (ce7.rw_ c mc) hhl, ne_of_none (ce7.rw_ c mc) hwl, ne_of_none (ce7.rw_ c mc) hd, ne_of_none (ce7.rw_ c mc) he⟩
        db := ne_of_none ce7.dd hbd
        y := y6
        b := by
          rw [show U.bs = [] from by rw [eU]]
          refine ⟨fun b m => (List.not_mem_nil m).elim, fun c mc _ j hj p ep _ => ?_⟩
          rw [List.getD_eq_getElem?_getD, List.getElem?_eq_getElem hj, Option.getD_some, w6 c mc _ (List.getElem_mem hj)] at ep
          cases ep
        cl := l6
        ts := by rw [eU]
        ws := by rw [eU]
        ss := by rw [eU] }
    have hD8 := s78 _ _ hD7
    have oD : OffP A R D := ⟨lD.symm, ne_of_none hD7 hhl, ne_of_none hD7 hwl, ne_of_none hD7 hd, ne_of_none hD7 he⟩
    refine ⟨rfl, ?_⟩
    clear s78 hD7 I7 ce7 R8 k8 sr zz
    refine ⟨a, _, ns, rfl, s08.seq hS1, by omega, ?_⟩
    walk_at "w3"
    refine ⟨_, rfl, ?_⟩
    -- filled
    refine ⟨d, _, rfl, .inl J8.ce.dd, fun p np => ?_⟩
    rw [kvs_keys]
    have sp := same_new (o := .lst ((plcC C6).map V.int)) np
    have hp : upd H8 p (.lst ((plcC C6).map V.int)) p = some (.lst ((plcC C6).map V.int)) := upd_same
    have pl := J8.I.offl np
    have pr : ∀ c ∈ C6, p ≠ c.r := fun c m => (ne_of_none (J8.ce.rw_ c m) np).symm
    have J9 := J8.same sp
    have s09 := s08.trans sp
    have hD9 := sp _ _ hD8
    clear sp hD8 s08
    generalize upd H8 p (.lst ((plcC C6).map V.int)) = H9 at hp J9 s09 hD9 ⊢
    let JJ : Hp → List CeL → Prop := fun H' C' => (∃ S' bs', I21 K H' A R S' { U with bs := bs' } d C') ∧ C'.map Pr.sig = C6.map Pr.sig ∧ ∀ b o, b ≠ A.l → (∀ c ∈ C6, b ≠ c.r) → b ≠ U.bd → H9 b = some o → H' b = some o
    have pk : ∀ {H' C'}, JJ H' C' → H' p = some (.lst ((plcC C6).map V.int)) := fun j => j.2.2 _ _ pl.1.1 pr pl.2 hp
    refine ⟨⟨_, .of hp⟩, forW_list (xs := (plcC C6).map V.int) (fun i σ H' => ∃ C' sd o9 o10, σ = [some (.ref a), some (.ref z), some (.ref A.a), some (.ref d), some (.int (m : Int)), some (.ref D), none, some (.ref R.r), some (.int sd), o9, o10, none, none, none, none, none, none] ∧ JJ H' C') ⟨C6, _, _, _, rfl, ⟨_, _, J9⟩, rfl, fun b o _ _ _ g => g⟩ ?_ ?_ ?_⟩
    · rintro i σ H' hi ⟨C', sd, o4, o5, rfl, j⟩
      exact .of (pk j)
    · rintro i x σ H' hx ⟨C', sd, o4, o5, rfl, j⟩
      obtain ⟨y, hy, rfl⟩ := ints_at hx
      obtain ⟨c, mc, ey⟩ := List.mem_map.mp (List.mem_of_getElem? hy)
      have ey : (c.p : Int) = y := ey
      subst ey
      walk_at "w3"
      obtain ⟨⟨S1, bs1, J1⟩, sg, jf⟩ := j
      obtain ⟨c1, m1, e1, e2, e3⟩ := sig_mem sg mc
      have dg := dget_i (i := (c.p : Int)) J1.ce.dd
      have kv := kvs_some (f := kp) (J1.ce.keys fun a b (e : (a : Int) = b) => by omega) m1
      rw [show kp c1.p = (c.p : Int) from by rw [e1]] at kv
      rw [kv, e2] at dg
      refine ⟨_, dg, ?_⟩
      have r1 := J1.ce.rw_ c1 m1
      rw [e2] at r1
      refine r_lenL r1 ?_
      rw [List.length_map, e3]
      have hc8 := y6.c8 mc
      walk_at "w3"
      refine ⟨by omega, by omega, forW_range (lo := 0) (n := c.ws.length) (fun t σ H' => ∃ C' sd o10, σ = [some (.ref a), some (.ref z), some (.ref A.a), some (.ref d), some (.int (m : Int)), some (.ref D), none, some (.ref R.r), some (.int sd), some (.int (c.p : Int)), o10, none, none, none, none, none, none] ∧ JJ H' C') ⟨C', _, _, rfl, ⟨_, _, J1⟩, sg, jf⟩ ?_ ?_⟩
      · rintro t σ H2 ht ⟨C2, sd, o5, rfl, ⟨S2, bs2, J2⟩, sg2, jf2⟩
        rw [Int.zero_add]
        have cl2 := J2.cl
        walk_at "w3"
        refine ⟨_, rfl, ?_⟩
        walk_at "w3"
        refine ⟨S2, d, C2, _, rfl, J2.ce, by omega, fun c m => ?_, fun w H3 s3 cw => ?_⟩
        · have := J2.y.lt_ m
          omega
        obtain ⟨c2, m2, f1, f2, f3⟩ := sig_mem sg2 mc
        refine ⟨A, R, _, _, C2, d, c2, m2, t, w, by rw [f1], J2.same s3, by omega, cw, fun bs4 H4 J4 k4 => ?_⟩
        exact ⟨setC C2 c2.p t w, _, _, rfl, ⟨_, _, J4⟩, setC_sig.trans sg2, fun b o n1 n2 n3 g => k4 b o n1 (by rw [f2]; exact n2 c mc) n3 (s3 _ _ (jf2 b o n1 n2 n3 g))⟩
      · rintro σ H2 ⟨C2, sd, o5, rfl, j2⟩
        exact ⟨C2, _, _, _, rfl, j2⟩
    rintro σ H10 ⟨C10, sd, o9, o10, rfl, ⟨S10, bs10, J10⟩, sg10, jf10⟩
    walk_at "w3"
    have hDb : D ≠ U.bd := ne_of (jf10 D _ oD.1 (fun c mc => (rD c mc).symm) (by rintro rfl; exact ne_of hD9 J9.I.ro.bo.ds (by intro z; cases z) rfl) hD9) J10.I.ro.bo.ds (by intro z; cases z)
    have hD10 := jf10 D _ oD.1 (fun c mc => (rD c mc).symm) hDb hD9
    have s0a : Same H0 H10 := fun b o g => jf10 b o (ne_of_none g nl0) (fun c mc => ne_of_none g (none_of s03 (r6 c mc))) (ne_of_none g (none_of s07 hbd)) (s09 _ _ g)
    have hcA : ∀ w ∈ hs, ClW C10 w := fun w mw => (hsc w mw).mono fun b mb => let ⟨d, md, e, _⟩ := sig_mem sg10 mb; ⟨d, md, e⟩
    have rDA : ∀ c ∈ C10, c.r ≠ D := fun c mc => by
      obtain ⟨x, mx, -, e, -⟩ := sig_mem sg10.symm mc
      rw [← e]
      exact rD x mx
    have r0A : ∀ c ∈ C10, H0 c.r = none := fun c mc => by
      obtain ⟨x, mx, -, e, -⟩ := sig_mem sg10.symm mc
      rw [← e]
      exact none_of s03 (r6 x mx)
    clear jf10 pk JJ J9 hD9 s09 pl pr np hp J8
    refine r_lenL hD10 ?_
    rw [List.length_map]
    walk_at "w3"
    rw [hsl]
    refine ⟨by omega, by omega, ?_⟩
    rw [Int.toNat_natCast]
    refine forW_range (lo := 0) (n := m) (fun i σ H' => ∃ hs' o11, σ = [some (.ref a), some (.ref z), some (.ref A.a), some (.ref d), some (.int (m : Int)), some (.ref D), none, some (.ref R.r), some (.int sd), o9, o10, o11, none, none, none, none, none] ∧ I21 K H' A R S10 { U with bs := bs10, hs := hs' } d C10 ∧ hs'.length = m ∧ hs'.take i = hs.take i ∧ ∀ b o, b ≠ R.hl → H10 b = some o → H' b = some o) ⟨U.hs, _, rfl, J10, by rw [ehs, List.length_replicate], rfl, fun b o _ g => g⟩ ?_ ?_
    · rintro i σ H' hi ⟨hs', o11, rfl, J1, l1, t1, f1⟩
      rw [Int.zero_add]
      have hi' : i < hs.length := by omega
      have ei := List.getElem?_eq_getElem hi'
      walk_at "w3"
      refine ⟨_, fldIs J1.I.ro.ob, recv J1.I.ro.ho.ob, ?_⟩
      refine r_ixL (i := i) (f1 _ _ oD.2.1 hD10) (by rw [List.getElem?_map, ei]; rfl) ?_
      refine ⟨R.h, R.hx, R.hl, hs', _, _, rfl, J1.I.ro.ho, .inl ⟨_, rfl⟩, .inl ⟨_, rfl⟩, ?_⟩
      have cn := hcA _ (List.getElem_mem hi')
      rw [placeOf_int, if_pos ⟨by omega, by omega⟩, wordV_int, if_pos cn.1, Int.toNat_natCast]
      dsimp only
      refine ⟨hs'.set i hs[i], _, rfl, J1.hput (i := i) cn.1, by rw [List.length_set]; exact l1, ?_, fun b o n g => (upd_ne n).trans (f1 b o n g)⟩
      rw [List.take_add_one, List.getElem?_set_self (by omega), List.take_set_of_le (Nat.le_refl _), t1, List.take_add_one, ei]
    rintro σ H11 ⟨hs', o11, rfl, J11, l11, t11, f11⟩
    have eh : hs' = hs := by
      have e1 : hs'.take m = hs' := by rw [← l11]; exact List.take_length
      have e2 : hs.take m = hs := by rw [← hsl]; exact List.take_length
      rw [← e1, t11, e2]
    subst eh
    have hD11 := f11 _ _ oD.2.1 hD10
    have s0b : Same H0 H11 := fun b o g => f11 b o (ne_of_none g (none_of s07 hhl)) (s0a _ _ g)
    clear f11 t11 hD10 s0a J10
    walk_at "w3"
    refine ⟨A, R, _, _, C10, rfl, J11.I, J11.ce.cp, fun c mc => (J11.y.lt_ mc).1, J11.y.cw, hcA, by have := J11.cl; omega, fun tp fa fb frr H12 pic12 s12 n1 n2 nrr => ?_⟩
    walk_at "w3"
    have J12 := J11.same s12
    refine ⟨S10, d, C10, D, tp, fa, fb, frr, hs', rfl, J12.ce, s12 _ _ hD11, fun c mc => J12.y.c8 mc, J12.y.cw, hcA, by have := J12.cl; omega, by omega, pic12, fun H13 s13 => ?_⟩
    walk_at "w3"
    have P13 := pic12.same s13
    have s1d := s12.trans s13
    have J13 := J11.same s1d
    have hD13 := s1d _ _ hD11
    have pl13 : (picR C10 hs').length ≤ C10.length := metC_len J11.ce.cp J11.y.cw hcA
    have c10 := J11.cl
    obtain ⟨vs, hva, pva⟩ := P13.ha
    refine r_ixT (i := 0) P13.tp_ rfl ?_
    refine ⟨fa, vs, rfl, .inl (.of hva), fun ga nga => ?_⟩
    have s14 := same_new (o := .lst vs) nga
    have hg14 : upd H13 ga (.lst vs) ga = some (.lst vs) := upd_same
    have nga1 := none_of s1d nga
    generalize upd H13 ga (.lst vs) = H14 at s14 hg14 ⊢
    have P14 := P13.same s14
    have s1e := s1d.trans s14
    refine r_ixT (i := 1) P14.tp_ rfl ?_
    refine ⟨fb, rfl, ⟨_, .of P14.hb⟩, fun gb ngb => lc_list (xs := frr.map V.ref) (fun i H' => ∃ grr : List Addr, Same H14 H' ∧ H' gb = some (.lst (grr.map V.ref)) ∧ grr.length = i ∧ (∀ (j : Nat) (r : Addr), grr[j]? = some r → ∃ q us, (picR C10 hs')[j]? = some q ∧ H' r = some (.lst us) ∧ PTs H' q us) ∧ ∀ r ∈ grr, H14 r = none ∧ r ≠ gb) ⟨[], same_new ngb, upd_same, rfl, (fun j r e => by (cases e)), fun r m => (List.not_mem_nil m).elim⟩ (fun i Hy _ e => e.elim fun rr z => .of (z.1 _ _ P14.hb)) (fun i x Hy hx e => ?_) fun H15 e => ?_⟩
    · obtain ⟨grr, s, hgb, gl, rows, nr⟩ := e
      obtain ⟨r, er, rfl⟩ : ∃ r, frr[i]? = some r ∧ x = .ref r := by
        rw [List.getElem?_map] at hx
        cases e3 : frr[i]? with
        | none => rw [e3] at hx; cases hx
        | some k => rw [e3] at hx; cases hx; exact ⟨k, rfl, rfl⟩
      have il := (List.getElem?_eq_some_iff.mp er).1
      have fl_ : frr.length = (picR C10 hs').length := P14.el
      obtain ⟨q', us, eq, hr, pq⟩ := P14.hr i r er
      walk_at "w3"
      refine ⟨r, us, rfl, .inl (.of (s _ _ hr)), fun l nl' => ?_⟩
      have sl := same_new (o := .lst us) nl'
      have hl' : upd Hy l (.lst us) l = some (.lst us) := upd_same
      generalize upd Hy l (.lst us) = Hz at sl hl' ⊢
      have lgb : l ≠ gb := (ne_of_none hgb nl').symm
      have f0 : ∀ {b xs}, b ≠ gb → Hz b = some (.lst xs) → upd Hz gb (.lst (grr.map V.ref ++ [V.ref l])) b = some (.lst xs) := fun n g => (upd_ne n).trans g
      have f1 : ∀ b xs, Hz b = some (.tup xs) → upd Hz gb (.lst (grr.map V.ref ++ [V.ref l])) b = some (.tup xs) := fun b xs g => (upd_ne (ne_of g (sl _ _ hgb) (by intro z; cases z))).trans g
      refine ⟨_, sl _ _ hgb, by rw [List.length_map]; omega, grr ++ [l], fun b x g => (upd_ne (ne_of_none g ngb)).trans (sl _ _ (s _ _ g)), by rw [upd_same, List.map_append]; rfl, by rw [List.length_append, gl]; rfl, fun j r2 e2 => ?_, fun r2 m2 => ?_⟩
      · rcases at_app e2 with ⟨hj, e3⟩ | ⟨hj, e3⟩
        · obtain ⟨q2, vs2, g1, g2, g3⟩ := rows j r2 e3
          exact ⟨q2, vs2, g1, f0 (nr r2 (List.mem_of_getElem? e3)).2 (sl _ _ g2), (g3.same sl).fr f1⟩
        · subst e3
          rw [hj, gl]
          exact ⟨_, us, eq, f0 lgb hl', ((pq.same s).same sl).fr f1⟩
      · rcases List.mem_append.mp m2 with m | m
        · exact nr r2 m
        · rw [List.mem_singleton.mp m]
          exact ⟨none_of s nl', lgb⟩
    obtain ⟨grr, s15, hgb, gl, rows, nr⟩ := e
    rw [List.length_map] at gl
    have s1f := s1e.trans s15
    refine ⟨by omega, fun gd ngd => ?_⟩
    have s16 := same_new (o := .lst [.ref ga, .ref gb]) ngd
    have s1g := s1f.trans s16
    have T16 : Tol H11 (upd H15 gd (.lst [.ref ga, .ref gb])) tp fa fb frr gd ga gb grr (picH C10 hs') (picR C10 hs') := by
      refine ⟨s16 _ _ (s15 _ _ P14.tp_), (P14.bb.same s15).same s16, upd_same, ⟨⟨vs, s16 _ _ (s15 _ _ hg14), (pva.same s14).same (s15.trans s16)⟩, s16 _ _ hgb, gl.trans P14.el, fun j r e => ?_⟩, ?_⟩
      · obtain ⟨q2, vs2, g1, g2, g3⟩ := rows j r e
        exact ⟨q2, vs2, g1, s16 _ _ g2, g3.same s16⟩
      · rintro c ((rfl | rfl | m) | (rfl | rfl | m) | rfl)
        · exact n1
        · exact n2
        · exact nrr c m
        · exact nga1
        · exact none_of s1e ngb
        · exact none_of s1e (nr c m).1
        · exact none_of s1f ngd
    generalize upd H15 gd (.lst [.ref ga, .ref gb]) = HG at s1g T16 ⊢
    have JG := J11.same s1g
    have hDG := s1g _ _ hD11
    have s0G := s0b.trans s1g
    clear s1f s16 rows nr hgb ngd s15 s1e P14 hg14 s14 nga hva pva P13 pic12 s13 s12 J12 J13 hD13 s1d n1 n2 nrr s1g
    refine ⟨a, _, ns, rfl, s0G.seq hS1, by omega, ?_⟩
    walk_at "w3"
    refine r_lenL hDG ?_
    rw [List.length_map]
    walk_at "w3"
    have m0 := Int.emod_nonneg (cell ns 6) (show (hs'.length : Int) ≠ 0 by omega)
    have m1 := Int.emod_lt_of_pos (cell ns 6) (show (0 : Int) < hs'.length by omega)
    obtain ⟨ix, eix⟩ := Int.eq_ofNat_of_zero_le m0
    rw [eix]
    have hix : ix < hs'.length := by omega
    refine ⟨by omega, ?_⟩
    refine ⟨a, _, ns, rfl, s0G.seq hS1, by omega, ?_⟩
    walk_at "w3"
    refine ⟨_, rfl, S10, d, C10, _, rfl, JG.ce, by omega, fun c mc => (by have := JG.y.lt_ mc; omega), fun w HI sI cwI => ?_⟩
    have JI := JG.same sI
    have TI := T16.same sI
    have hDI := sI _ _ hDG
    have s0I := s0G.trans sI
    clear JG T16 hDG s0G sI
    refine r_setL hDI (by omega) (by rw [List.length_map]; omega) ?_
    rw [Int.toNat_natCast, ← List.map_set]
    have IK := JI.I.off (o := .lst ((hs'.set ix w).map V.int)) hDI oD
    have kD : ∀ b o, b ≠ D → HI b = some o → upd HI D (.lst ((hs'.set ix w).map V.int)) b = some o := fun b o n g => (upd_ne n).trans g
    have ceK := JI.ce.keep (H' := upd HI D (.lst ((hs'.set ix w).map V.int))) fun b o m g => kD b o (by
      rcases m with rfl | ⟨c, mc, rfl⟩
      · exact dD
      · exact rDA c mc) g
    have JK : I21 K (upd HI D (.lst ((hs'.set ix w).map V.int))) A R S10 { U with bs := bs10, hs := hs' } d C10 := { JI with I := IK, ce := ceK }
    have TK : Tol H11 (upd HI D (.lst ((hs'.set ix w).map V.int))) tp fa fb frr gd ga gb grr (picH C10 hs') (picR C10 hs') := TI.put hD11 hDI (by intro xs z; cases z)
    have hDK : upd HI D (.lst ((hs'.set ix w).map V.int)) D = some (.lst ((hs'.set ix w).map V.int)) := upd_same
    have s0K : Same H0 (upd HI D (.lst ((hs'.set ix w).map V.int))) := fun b o g => kD b o (ne_of_none g nD0) (s0I _ _ g)
    clear kD TI JI hDI s0I IK
    generalize upd HI D (.lst ((hs'.set ix w).map V.int)) = HK at JK TK hDK s0K ⊢
    refine ⟨_, fldIs JK.I.ro.ob, recv JK.I.ro.ho.ob, ?_⟩
    have lset : (hs'.set ix w).length = hs'.length := List.length_set ..
    refine r_ixL (i := ix) hDK (by rw [List.getElem?_map, List.getElem?_set_self hix]; rfl) ?_
    refine ⟨R.h, R.hx, R.hl, hs', _, _, rfl, JK.I.ro.ho, .inl ⟨_, rfl⟩, .inl ⟨_, rfl⟩, ?_⟩
    rw [placeOf_int, if_pos ⟨by omega, by omega⟩, wordV_int, if_pos cwI.1, Int.toNat_natCast]
    dsimp only
    have JL := JK.hput (i := ix) cwI.1
    have TL : Tol H11 (upd HK R.hl (.lst ((hs'.set ix w).map V.int))) tp fa fb frr gd ga gb grr (picH C10 hs') (picR C10 hs') := TK.put J11.I.ro.ho.ls JK.I.ro.ho.ls (by intro xs z; cases z)
    have hDL := (upd_ne (o := .lst ((hs'.set ix w).map V.int)) oD.2.1).trans hDK
    have s0L : Same H0 (upd HK R.hl (.lst ((hs'.set ix w).map V.int))) := fun b o g => (upd_ne (ne_of_none g (none_of s07 hhl))).trans (s0K _ _ g)
    have hcL : ∀ x ∈ hs'.set ix w, ClW C10 x := fun x mx => by
      rcases List.mem_or_eq_of_mem_set mx with h | h
      · exact hcA x h
      · rw [h]
        exact cwI
    clear JK TK hDK s0K
    generalize upd HK R.hl (.lst ((hs'.set ix w).map V.int)) = HL at JL TL hDL s0L ⊢
    rw [← lset] at hsl
    generalize hs'.set ix w = hL at JL TL hDL hcL hsl ⊢
    have clL := JL.cl
    refine lockD JL.ce.dd fun od => ?_
    have fz : upd HL d (.frz od (.dK (kvsOf kp C10))) d = some (.frz od (.dK (kvsOf kp C10))) := upd_same
    have fk : ∀ b o, b ≠ d → HL b = some o → upd HL d (.frz od (.dK (kvsOf kp C10))) b = some o := fun b o n g => (upd_ne n).trans g
    have unf : ∀ {Hx}, Same (upd HL d (.frz od (.dK (kvsOf kp C10)))) Hx → Same HL (upd Hx d (.dK (kvsOf kp C10))) := fun {Hx} m b o g => by
      by_cases e : b = d
      · subst e
        rw [JL.ce.dd] at g
        cases g
        exact upd_same
      · exact (upd_ne e).trans (m _ _ (fk b o e g))
    have rowL : ∀ c ∈ C10, upd HL d (.frz od (.dK (kvsOf kp C10))) c.r = some (.lst (c.ws.map V.int)) := fun c mc => fk _ _ (ne_of (JL.ce.rw_ c mc) JL.ce.dd (by intro z; cases z)) (JL.ce.rw_ c mc)
    generalize upd HL d (.frz od (.dK (kvsOf kp C10))) = HM at fz fk unf rowL ⊢
    walk_at "w3"
    refine ⟨od, .inl ⟨_, fz, fun D1 nD1 => ?_⟩⟩
    refine lc_it walk_keys (fun i Hx => ∃ acc : List Int, Same HM Hx ∧ Hx D1 = some (.lst (acc.map V.int)) ∧ acc.length ≤ i ∧ ∀ x ∈ acc, ∃ c ∈ C10, x = (c.p : Int) ∧ c.ws ≠ []) ⟨[], same_new nD1, upd_same, Nat.le_refl _, (fun x m => (List.not_mem_nil m).elim)⟩ (fun i Hx _ e => e.elim fun acc z => z.1 _ _ fz) (fun i x Hx Hy hi e y => ?_) fun Hx e => ?_
    · obtain ⟨rfl, key, v, hx, rfl⟩ := y
      obtain ⟨acc, sx, hD, al, am⟩ := e
      obtain ⟨b, hb, ek, ev⟩ : ∃ b, C10[i]? = some b ∧ key = .inl (kp b.p) ∧ v = .ref b.r := by
        unfold kvsOf at hx
        rw [List.getElem?_map] at hx
        cases e : C10[i]? with
        | none => rw [e] at hx; cases hx
        | some c => rw [e] at hx; cases hx; exact ⟨c, rfl, rfl, rfl⟩
      subst ek ev
      have mb := List.mem_of_getElem? hb
      have il := (List.getElem?_eq_some_iff.mp hb).1
      rw [show kV (.inl (kp b.p) : Key) = V.int (b.p : Int) from rfl]
      have kv := kvs_some (f := kp) (JL.ce.keys fun a b (e : (a : Int) = b) => by omega) mb
      have dg := dget_f (i := (b.p : Int)) (sx _ _ fz)
      rw [show (.inl (b.p : Int) : Key) = .inl (kp b.p) from rfl, kv] at dg
      have hr := sx _ _ (rowL b mb)
      walk_at "w3"
      refine ⟨_, dg, by omega, fun e ne => ?_⟩
      have se := same_new (o := .lst []) ne
      refine r_neNil (se _ _ hr) upd_same ?_
      walk_at "w3"
      by_cases e0 : b.ws = []
      · rw [if_neg (fun z => z e0)]
        exact ⟨acc, sx.trans se, se _ _ hD, by omega, am⟩
      · rw [if_pos e0]
        refine ⟨_, se _ _ hD, by rw [List.length_map]; omega, acc ++ [(b.p : Int)], fun x o g => (upd_ne (ne_of_none g nD1)).trans (se _ _ (sx _ _ g)), by rw [upd_same, List.map_append]; rfl, by rw [List.length_append]; show acc.length + 1 ≤ _; omega, fun x m => ?_⟩
        rcases List.mem_append.mp m with m | m
        · exact am x m
        · rw [List.mem_singleton.mp m]
          exact ⟨b, mb, rfl, e0⟩
    obtain ⟨acc, sx, hW, al, am⟩ := e
    walk_at "w3"
    refine ⟨sx _ _ fz, ?_⟩
    have sLN := unf sx
    have nDn : D1 ≠ d := (ne_of_none fz nD1).symm
    have hWN := (upd_ne (o := .dK (kvsOf kp C10)) nDn).trans hW
    have JN := JL.same sLN
    have TN := TL.same sLN
    have hDN := sLN _ _ hDL
    have s0N := s0L.trans sLN
    clear JL TL hDL s0L sLN hW sx rowL unf fk fz
    generalize upd Hx d (.dK (kvsOf kp C10)) = HN at hWN JN TN hDN s0N ⊢
    rw [show (kvsOf kp C10).length = C10.length from List.length_map ..] at al
    refine ⟨fun σ' H' => ∃ o9 o10 S' bs' C', σ' = [some (.ref a), some (.ref z), some (.ref A.a), some (.ref d), some (.int (m : Int)), some (.ref D), none, some (.ref R.r), some (.int sd), o9, o10, some (.int (ix : Int)), some (.ref tp), some (.ref gd), none, some (.ref D1), none] ∧ I21 K H' A R S' { U with bs := bs', hs := hL } d C' ∧ C'.map Pr.sig = C10.map Pr.sig ∧ Tol H11 H' tp fa fb frr gd ga gb grr (picH C10 hs') (picR C10 hs') ∧ H' D = some (.lst (hL.map V.int)), ?_, ?_⟩
    · refine ⟨by omega, fun e ne => ?_⟩
      have se := same_new (o := .lst []) ne
      refine r_neNil (se _ _ hWN) upd_same ?_
      have JO := JN.same se
      have TO := TN.same se
      have hDO := se _ _ hDN
      have s0O := s0N.trans se
      have hWO := se _ _ hWN
      generalize upd HN e (.lst []) = HO at JO TO hDO s0O hWO ⊢
      by_cases e0 : acc = []
      · rw [decide_eq_true e0]
        walk_at "w3"
        exact ⟨_, _, _, _, _, rfl, JO, rfl, TO, hDO⟩
      rw [decide_eq_false e0]
      walk_at "w3"
      have la : 0 < acc.length := List.length_pos_iff.mpr e0
      refine ⟨a, _, ns, rfl, s0O.seq hS1, by omega, ?_⟩
      walk_at "w3"
      refine r_lenL hWO ?_
      walk_at "w3"
      rw [List.length_map]
      have m0 := Int.emod_nonneg (cell ns 8) (show (acc.length : Int) ≠ 0 by omega)
      have m1 := Int.emod_lt_of_pos (cell ns 8) (show (0 : Int) < acc.length by omega)
      obtain ⟨iy, eiy⟩ := Int.eq_ofNat_of_zero_le m0
      rw [eiy]
      have hiy : iy < acc.length := by omega
      obtain ⟨b, mb, eb, nb⟩ := am (acc.getD iy 0) (List.mem_of_getElem? (getD_at (d := 0) hiy))
      refine ⟨by omega, r_ixL hWO (by rw [List.getElem?_map, getD_at (d := 0) hiy]; rfl) ?_⟩
      rw [eb]
      have kv := kvs_some (f := kp) (JO.ce.keys fun a b (e : (a : Int) = b) => by omega) mb
      have dg := dget_i (i := (b.p : Int)) JO.ce.dd
      rw [show (.inl (b.p : Int) : Key) = .inl (kp b.p) from rfl, kv] at dg
      have lb : 0 < b.ws.length := List.length_pos_iff.mpr nb
      have b8 := JO.y.c8 mb
      refine ⟨a, _, ns, rfl, s0O.seq hS1, by omega, ?_⟩
      walk_at "w3"
      refine ⟨_, dg, ?_⟩
      refine r_lenL (JO.ce.rw_ b mb) ?_
      walk_at "w3"
      rw [List.length_map]
      have t0 := Int.emod_nonneg (cell ns 8 / 10) (show (b.ws.length : Int) ≠ 0 by omega)
      have t1 := Int.emod_lt_of_pos (cell ns 8 / 10) (show (0 : Int) < b.ws.length by omega)
      obtain ⟨t, et'⟩ := Int.eq_ofNat_of_zero_le t0
      rw [et']
      refine ⟨by omega, ?_⟩
      refine ⟨a, _, ns, rfl, s0O.seq hS1, by omega, ?_⟩
      walk_at "w3"
      refine ⟨_, rfl, S10, d, C10, _, rfl, JO.ce, by omega, fun c mc => (by have := JO.y.lt_ mc; omega), fun w HP sP cwP => ?_⟩
      have ht : t < b.ws.length := by omega
      refine ⟨A, R, S10, _, C10, d, b, mb, t, w, rfl, JO.same sP, ht, cwP, fun bs4 H4 J4 k4 => ?_⟩
      have JP := JO.same sP
      refine ⟨_, _, _, _, _, rfl, J4, setC_sig, (TO.same sP).fr (fun c xs nc g => ?_) (fun c xs g => ?_), k4 _ _ oD.1 (rDA b mb).symm hDb (sP _ _ hDO)⟩
      · refine k4 c _ ?_ ?_ ?_ g
        · rintro rfl
          rw [J11.I.ar.me.ls] at nc
          cases nc
        · rintro rfl
          rw [J11.ce.rw_ b mb] at nc
          cases nc
        · rintro rfl
          rw [J11.I.ro.bo.ds] at nc
          cases nc
      · exact k4 c _ (ne_of g JP.I.ar.me.ls (by intro z; cases z)) (ne_of g (JP.ce.rw_ b mb) (by intro z; cases z)) (ne_of g JP.I.ro.bo.ds (by intro z; cases z)) g
    rintro σ' HQ ⟨p9, p10, SQ, bsQ, CQ, rfl, JQ, sgQ, TQ, hDQ⟩
    walk_at "w3"
    have hcQ : ∀ w ∈ hL, ClW CQ w := fun w mw => (hcL w mw).mono fun b mb => let ⟨d, md, e, _⟩ := sig_mem sgQ mb; ⟨d, md, e⟩
    have clQ := JQ.cl
    refine ⟨A, R, _, _, CQ, rfl, JQ.I, JQ.ce.cp, fun c mc => (JQ.y.lt_ mc).1, JQ.y.cw, hcQ, by omega, fun tq qa qb qrr H2q picQ s2 _ _ _ => ?_⟩
    refine ⟨SQ, d, CQ, D, tq, qa, qb, qrr, hL, rfl, JQ.ce.same s2, s2 _ _ hDQ, fun c mc => JQ.y.c8 mc, JQ.y.cw, hcQ, by omega, by omega, picQ, fun HR s3 => ?_⟩
    walk_at "w3"
    have s23 := s2.trans s3
    have JR := JQ.same s23
    have TR := TQ.same s23
    have hDR := s23 _ _ hDQ
    clear s23 s2 s3 picQ JQ TQ hDQ
    have bl := JR.b.bl JR.y JR.I.ro.bo.nd
    have Uts : U.ts = [] := JR.ts
    have Uws : U.ws = [] := JR.ws
    have Uss : U.ss = [] := JR.ss
    refine ⟨A, R, SQ, _, CQ, rfl, JR.I, JR.y, JR.b, by show bsQ.length < _; have bl : bsQ.length ≤ 10000 := bl; omega, hcQ, fun t m => ?_, ?_, fun p m => ?_, ?_, ?_, fun p n m => ?_, fun qs S1 rs' bs' ns' ns2 tt H5 G I5 pm so pm2 eo dn dh eb nt ht5 k5 => ?_⟩
    · have m : t ∈ U.ts := m
      rw [Uts] at m
      cases m
    · show U.ts.length < _
      rw [Uts]
      exact Nat.zero_lt_succ _
    · have m : .int p ∈ U.ts := m
      rw [Uts] at m
      cases m
    · show U.ws.length < _
      rw [Uws]
      exact Nat.zero_lt_succ _
    · show U.ss.length < _
      rw [Uss]
      exact Nat.zero_lt_succ _
    · have m : some (p, n) ∈ U.ws := m
      rw [Uws] at m
      cases m
    walk_at "w3"
    have y5 := newC_y0 JR.y G dn
    have hc5 : ∀ w ∈ hL.map (trY SQ qs), ClW (newC SQ CQ qs) w := fun w mw => by
      obtain ⟨v, mv, rfl⟩ := List.mem_map.mp mw
      exact newC_cl JR.y G (hcQ v mv) (dh v mv)
    obtain ⟨p5, r5⟩ := pic_young JR.y G dn hcQ dh y5.cp
    have l5 := newC_len G
    have nl : ∀ {c x xs o}, H11 c = none → H11 x = some o → (HO.lst xs = HO.lst xs) → c ≠ x := fun n g _ e => by rw [e, g] at n; cases n
    have nx : ∀ {c x : Addr} {o : HO}, H11 c = none → H11 x = some o → c ≠ x := fun n g e => by rw [e, g] at n; cases n
    have I11 := J11.I
    have kk5 : ∀ {b xs}, b ≠ A.l → b ≠ R.hl → b ≠ R.wl → b ≠ R.d → b ≠ R.e → HR b = some (.lst xs) → H5 b = some (.lst xs) := fun n1 n2 n3 n4 n5 g => k5 _ _ (ne_of g JR.I.ar.ob (by intro z; cases z)) n1 (ne_of g JR.I.ar.so fun z => spv_lst z.symm) (ne_of g JR.I.ar.sp fun z => spv_lst z.symm) (ne_of g JR.I.ar.sq fun z => spv_lst z.symm) n2 n3 n4 n5 (ne_of g JR.I.ro.bo.ds (by intro z; cases z)) g
    have ce5 : CellsO kp H5 SQ d CQ := JR.ce.keep fun b o m g => by
      rcases m with rfl | ⟨c, mc, rfl⟩
      · have g' := JR.ce.dd
        exact k5 _ _ (ne_of g' JR.I.ar.ob (by intro z; cases z)) (ne_of g' JR.I.ar.me.ls (by intro z; cases z)) (ne_of g' JR.I.ar.so (by intro z; cases z)) (ne_of g' JR.I.ar.sp (by intro z; cases z)) (ne_of g' JR.I.ar.sq (by intro z; cases z)) (ne_of g' JR.I.ro.ho.ls (by intro z; cases z)) (ne_of g' JR.I.ro.wo.ls (by intro z; cases z)) (ne_of g' JR.I.ro.lo.wa (by intro z; cases z)) (ne_of g' JR.I.ro.lo.sk (by intro z; cases z)) JR.db g
      · have g' := JR.ce.rw_ c mc
        rw [g'] at g
        cases g
        obtain ⟨o1, o2, o3, o4, o5⟩ := JR.ro c mc
        exact kk5 o1 o2 o3 o4 o5 g'
    have hD5 := kk5 oD.1 oD.2.1 oD.2.2.1 oD.2.2.2.1 oD.2.2.2.2 hDR
    have T5 : Tol H11 H5 tp fa fb frr gd ga gb grr (picH C10 hs') (picR C10 hs') := TR.fr (fun c xs nc g => kk5 (nx nc I11.ar.me.ls) (nx nc I11.ro.ho.ls) (nx nc I11.ro.wo.ls) (nx nc I11.ro.lo.wa) (nx nc I11.ro.lo.sk) g) fun c xs g => k5 _ _ (ne_of g JR.I.ar.ob (by intro z; cases z)) (ne_of g JR.I.ar.me.ls (by intro z; cases z)) (ne_of g JR.I.ar.so (by intro z; cases z)) (ne_of g JR.I.ar.sp (by intro z; cases z)) (ne_of g JR.I.ar.sq (by intro z; cases z)) (ne_of g JR.I.ro.ho.ls (by intro z; cases z)) (ne_of g JR.I.ro.wo.ls (by intro z; cases z)) (ne_of g JR.I.ro.lo.wa (by intro z; cases z)) (ne_of g JR.I.ro.lo.sk (by intro z; cases z)) (ne_of g JR.I.ro.bo.ds (by intro z; cases z)) g
    have lq8 : ∀ c ∈ CQ, c.ws.length ≤ 8 := fun c mc => JR.y.c8 mc
    have cwQ := JR.y.cw
    have roR := JR.ro
    have dbR := JR.db
    clear JR TR hDR k5 kk5 ht5 nt eb pm pm2 so eo J11 nl
    refine ⟨A, R, _, _, newC SQ CQ qs, rfl, I5, y5.cp, fun c mc => (y5.lt_ mc).1, y5.cw, hc5, by omega, fun tq qa qb qrr H6q picQ s6 _ _ _ => ?_⟩
    have picQ : PicO H6q tq qa qb qrr (picH CQ hL) (picR CQ hL) := by
      rw [← p5, ← r5]
      exact picQ
    refine ⟨SQ, d, CQ, D, tq, qa, qb, qrr, hL, rfl, ce5.same s6, s6 _ _ hD5, lq8, cwQ, hcQ, by omega, by omega, picQ, fun H7q s7 => ?_⟩
    walk_at "w3"
    have s67 := s6.trans s7
    have I7 := I5.same s67
    have ce7 := ce5.same s67
    have hD7 := s67 _ _ hD5
    have T7 := T5.same s67
    clear s6 s7 s67 I5 ce5 hD5 T5 picQ
    have pk5 : placesW (hL.map (trY SQ qs)) = kidsL (hL.map (trY SQ qs)) := places_kidsP fun w mw => (hc5 w mw).1
    have inC5 : ∀ x ∈ kidsL (hL.map (trY SQ qs)), x ∈ plcC (newC SQ CQ qs) := fun x m => by
      obtain ⟨w, mw, e⟩ := List.mem_filterMap.mp m
      obtain ⟨y, ey⟩ := Option.isSome_iff_exists.mp (hc5 w mw).1
      obtain ⟨c, mc, e2⟩ := (hc5 w mw).2 x ((kids_place ey).mp e)
      exact List.mem_map.mpr ⟨c, mc, e2.symm⟩
    have RC5 := reachC_is y5.cp y5.cw inC5
    refine ⟨A, R, flS S1, _, newC SQ CQ qs, rfl, I7, y5.cp, y5.cw, hc5, by omega, ?_, ?_, fun t m => ?_, ?_, ?_, fun ss2 D2 S8 U8 H8 SR I8 nbd kc => ?_⟩
    · show ((reachC (newC SQ CQ qs) (placesW (hL.map (trY SQ qs)))).map _).sum ≤ _
      rw [pk5]
      exact y5.fits RC5.nd RC5.cl
    · show (U.ts.map _).length < _
      rw [Uts]
      exact Nat.zero_lt_succ _
    · have m : t ∈ U.ts.map _ := m
      rw [Uts] at m
      cases m
    · show (U.ws.map _).length < _
      rw [Uws]
      exact Nat.zero_lt_succ _
    · show (U.ss ++ saidG _ U.ws).length < _
      rw [Uss, Uws]
      exact Nat.zero_lt_succ _
    walk_at "w3"
    obtain ⟨p8, r8⟩ := pic_slide SR y5.cp y5.cw hc5
    have n8 : S8.n = (flS S1).n := SR.n
    have k8 : S8.k = (flS S1).k := SR.k
    have sz5 := y5.sz
    have lo8 := I8.ar.lo
    have tot : sumW D2 ≤ 9999 := by
      rw [← SR.ot]
      have := y5.sz
      omega
    obtain ⟨cw8, hw8, dl8⟩ := slid_cl SR y5.cp y5.cw hc5 tot
    have lt8 : ∀ c ∈ slC 0 D2, c.p + c.ws.length < S8.ws.length := SR.ce.lt I8.ar.ln I8.ar.lo (I8.ar.lt _).2
    have kl8 : ∀ {b xs}, b ≠ A.l → b ≠ R.hl → b ≠ R.wl → b ≠ R.d → b ≠ R.e → H7q b = some (.lst xs) → H8 b = some (.lst xs) := fun n1 n2 n3 n4 n5 g => kc _ _ (ne_of g I7.ar.ob (by intro z; cases z)) n1 (ne_of g I7.ar.so fun z => spv_lst z.symm) (ne_of g I7.ar.sp fun z => spv_lst z.symm) (ne_of g I7.ar.sq fun z => spv_lst z.symm) n2 n3 n4 n5 (ne_of g I7.ro.bo.ob (by intro z; cases z)) (ne_of g I7.ro.bo.ds (by intro z; cases z)) g
    have ce8 : CellsO kp H8 SQ d CQ := ce7.keep fun b o m g => by
      rcases m with rfl | ⟨c, mc, rfl⟩
      · have g' := ce7.dd
        exact kc _ _ (ne_of g' I7.ar.ob (by intro z; cases z)) (ne_of g' I7.ar.me.ls (by intro z; cases z)) (ne_of g' I7.ar.so (by intro z; cases z)) (ne_of g' I7.ar.sp (by intro z; cases z)) (ne_of g' I7.ar.sq (by intro z; cases z)) (ne_of g' I7.ro.ho.ls (by intro z; cases z)) (ne_of g' I7.ro.wo.ls (by intro z; cases z)) (ne_of g' I7.ro.lo.wa (by intro z; cases z)) (ne_of g' I7.ro.lo.sk (by intro z; cases z)) (ne_of g' I7.ro.bo.ob (by intro z; cases z)) dbR g
      · have g' := ce7.rw_ c mc
        rw [g'] at g
        cases g
        obtain ⟨o1, o2, o3, o4, o5⟩ := roR c mc
        exact kl8 o1 o2 o3 o4 o5 g'
    have hD8 := kl8 oD.1 oD.2.1 oD.2.2.1 oD.2.2.2.1 oD.2.2.2.2 hD7
    have T8 : Tol H11 H8 tp fa fb frr gd ga gb grr (picH C10 hs') (picR C10 hs') := T7.fr (fun c xs nc g => kl8 (nx nc I11.ar.me.ls) (nx nc I11.ro.ho.ls) (nx nc I11.ro.wo.ls) (nx nc I11.ro.lo.wa) (nx nc I11.ro.lo.sk) g) fun c xs g => kc _ _ (ne_of g I7.ar.ob (by intro z; cases z)) (ne_of g I7.ar.me.ls (by intro z; cases z)) (ne_of g I7.ar.so (by intro z; cases z)) (ne_of g I7.ar.sp (by intro z; cases z)) (ne_of g I7.ar.sq (by intro z; cases z)) (ne_of g I7.ro.ho.ls (by intro z; cases z)) (ne_of g I7.ro.wo.ls (by intro z; cases z)) (ne_of g I7.ro.lo.wa (by intro z; cases z)) (ne_of g I7.ro.lo.sk (by intro z; cases z)) (ne_of g I7.ro.bo.ob (by intro z; cases z)) (ne_of g I7.ro.bo.ds (by intro z; cases z)) g
    clear I7 ce7 hD7 T7 kc kl8
    have sl8 : (slC 0 D2).length = D2.length := slC_len
    refine ⟨A, R, _, _, slC 0 D2, rfl, I8, SR.ce, lt8, cw8, hw8, by omega, fun tq qa qb qrr H9 pic9 s9 _ _ nrr9 => ?_⟩
    have pic9 : PicO H9 tq qa qb qrr (picH CQ hL) (picR CQ hL) := by
      rw [← p5, ← r5]
      have h := pic9
      rw [p8, r8] at h
      exact h
    refine ⟨SQ, d, CQ, D, tq, qa, qb, qrr, hL, rfl, ce8.same s9, s9 _ _ hD8, lq8, cwQ, hcQ, by omega, by omega, pic9, fun HA sA => ?_⟩
    walk_at "w3"
    have picA := pic9.same sA
    have plQ : (picR CQ hL).length ≤ CQ.length := metC_len ce8.cp cwQ hcQ
    have ql := picA.el
    refine ⟨tq, qa, qb, qrr, qrr.map (rowOf HA), rfl, picA.tp_, picA.hb, (List.length_map ..).symm, fun i r e => ?_, (List.nodup_cons.mp picA.nd).2, by omega, fun HB kB => ?_⟩
    · obtain ⟨q', us, e1, e2, e3⟩ := picA.hr i r e
      have e4 : rowOf HA r = us := by
        unfold rowOf
        rw [e2]
      refine ⟨us, by rw [List.getElem?_map, e, ← e4]; rfl, e2, ?_⟩
      rw [e3.len]
      have := picR_row lq8 q' (List.mem_of_getElem? e1)
      omega
    walk_at "w3"
    have s8A := s9.trans sA
    have TB : Tol H11 HB tp fa fb frr gd ga gb grr (picH C10 hs') (picR C10 hs') := T8.fr (fun c xs _ g => kB _ _ (fun m => by rw [nrr9 c m] at g; cases g) (s8A _ _ g)) fun c xs g => kB _ _ (fun m => by rw [nrr9 c m] at g; cases g) (s8A _ _ g)
    refine r_ixT (i := 0) TB.t1 rfl ?_
    refine r_ixT (i := 1) TB.t1 rfl ?_
    refine ⟨by omega, fun p np => ?_⟩
    have sp := same_new (o := .lst [.ref fa, .ref fb]) np
    have TC := TB.same sp
    obtain ⟨d1, d2⟩ := TC.p1.dpa (K := K)
    obtain ⟨d3, d4⟩ := TC.p2.dpa (K := K)
    exact r_eqSame (d := dPic (picH C10 hs') (picR C10 hs')) (.lst (.of upd_same) (.cons d1 (.cons d2 .nil))) (.lst (.of TC.t2) (.cons d3 (.cons d4 .nil))) dPic_sh (q _)
end

theorem facts {w : World} {K : PySem.W.Frag} {h : Heap} {mg : Str → Option Value} {f : Addr} (X : K.In h) (G : h.Ns mainGlobals mg) (hfa : mg ("law" : Str) = some (.ref f)) (c : He.SaysD fa fn K) (ce : exOk exL K = true) :
    ∃ fd : FuncData, (∀ (s : Shared) (v : Value), BindsTo s fd ⟨[v], []⟩ [("_law_script", v)]) ∧ ∀ base : Heap, K.In base → base.Ns mainGlobals mg → FnOk (PySem.Challenge.rw_cellkeep_k21_pictures).prog w K mg base CX0 12 f fd ["_law_script"] (sp_law K) := by
  have T : Tx K mg := ⟨⟨h, X, G⟩, c, ce⟩
  have e := hfa.symm.trans (T.glo 64)
  cases e
  have F : ∀ base : Heap, Fn (PySem.Challenge.rw_cellkeep_k21_pictures).prog w K mg base 12 "law" ["_law_script"] (sp_law K) := fun base => f_law T
  exact ⟨_, fun s v => (F h).bd s [v] rfl, fun base _ _ => quiet (F base).ok fun _ _ _ _ z => z⟩

end Pr
open PySem PySem.W PySem.Calls PyProof.Rows
theorem PySem.Challenge.cw_cellkeep_k21_pictures_holds : PySem.Challenge.rw_cellkeep_k21_pictures.Holds := by
  w_on; o_law
  refine HandSHeadRun.head_any (r := OpenLaw.row PySem.Challenge.rw_cellkeep_k21_pictures) (q := view (OpenLaw.row PySem.Challenge.rw_cellkeep_k21_pictures).prog [92]) (H := Pr.hk) (ob := Pr.ob) (M := 16000) (loose := Pr.loose) (d := HandSHeadRun.topDef (OpenLaw.row PySem.Challenge.rw_cellkeep_k21_pictures).prog 92) (kwd := []) Pr.ob_eq
    (by kernel_rfl) (fun s => by kernel_rfl) Pr.run (by kernel_rfl) (by kernel_rfl) (by kernel_rfl) (by rfl) (by first | assumption | decide +kernel) (by decide +kernel) ⟨rfl, rfl, rfl, rfl, rfl, by decide +kernel⟩ ?hw ?hc
  case hw => w_witness2
  case hc =>
    refine L2.walk_ofE (l := PySem.Challenge.rw_cellkeep_k21_pictures) (n := 63) (k := 12) (x := "_law_script") (CX := L2.CX0) rfl (by decide) (by kernel_rfl) ⟨rfl, by decide, by decide⟩ ?F (fun _ _ _ _ z => z)
    case F =>
      intro w mg fa h Y G hmg0
      obtain ⟨K, KX, c, ce⟩ := Y
      have hmg : mg ("law" : PySem.Str) = some (.ref fa) := by
        have e : (HandSHeadRun.topDef (OpenLaw.row PySem.Challenge.rw_cellkeep_k21_pictures).prog 92).name = ("law" : PySem.Str) := by kernel_rfl
        rw [← e]
        exact hmg0
      obtain ⟨fd, hb, hF⟩ := Pr.facts (w := w) KX G hmg c ce
      exact ⟨K, fd, Pr.sp_law K, KX, hb, fun H a ns hl _ hS => ⟨a, ns, rfl, hS, hl, fun _ => rfl⟩, hF⟩
#print axioms PySem.Challenge.cw_cellkeep_k21_pictures_holds

