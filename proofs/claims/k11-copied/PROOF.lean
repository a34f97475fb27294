import PyProof.Rows.All
import Wide.All
import OpenK.AllK
import Wide.FinOn
import KE.KStateDown
import HandS.Base
import HandS.Call
import HandS.List
import HandS.Comp
import HandS.Ends
import HandS.Dict
import HandS.Iter
import HandS.Walk
import HandS.Text
import HandS.Words
import HandS.WordsList
import HandS.WordsDict
import HandS.Exc
import HandS.TryOnly
import HandS.TryMany
import HandS.ExcOwn
import HandS.WordsExc
import HandS.IsInst
import HandS.ExcIs
import HandS.Flow
import HandS.More
import HandS.Wide
import HandS.SortInts
import HandS.Defaults
import HandS.Head0
import HandS.Head1
import HandS.Head2
import HandS.HeadEnd
import HandS.HeadHook1
import HandS.HeadHook2
import PySem.Challenge.RW_cellkeep_k11_a_cell_copied
set_option Elab.async false
set_option linter.all false
set_option maxRecDepth 100000
set_option maxHeartbeats 4000000
namespace G
open PySem PySem.Spec PyProof.Rows L2

/-! ## a caught exception as a tracked thing -/
/-- an exception object of class cls stands at a -/
def ExA (cls : Value) (a : Addr) : HO := .ext fun h => ∃ (o : Obj) (fv : Array Value), h.get? a = some o ∧ Zc cls none o ∧ o.data = .fields fv
theorem exA_ok {P : Program} {w : World} {H : Hp} {h : Heap} {a : Addr} {cls : Value} {o : Obj} {fv : Array Value} (e : h.get? a = some o) (z : Zc cls none o) (d : o.data = .fields fv) : ObjOk P w H h a (ExA cls a) :=
  ⟨⟨o, fv, e, z, d⟩, ⟨o, e⟩, fun _ _ ⟨o', fv', e', z', d'⟩ k => ⟨o', fv', k _ e', z', d'⟩⟩

section
variable {X : Cx} {pins : List (Addr × Obj)} {σ : L2.St} {H : Hp} {s : Shared}
/-- an object that stands untracked is tracked from now on -/
theorem track {a : Addr} {u : HO} (I : Inv X pins σ H s) (na : H a = none) (n0 : X.s_0.heap.get? a = none) (nL : a ≠ X.env.locals) (nC : ∀ x c, X.env.cells.lookup x = some c → c ≠ a)
    (nP : ∀ p ∈ X.pn ++ pins, p.1 ≠ a) (new : ObjOk X.prog X.w (upd H a u) s.heap a u) : Inv X pins σ (upd H a u) s := by
  have ne0 : ∀ b o, X.s_0.heap.get? b = some o → b ≠ a := fun b o e z => by rw [z, n0] at e; cases e
  have neH : ∀ b o, H b = some o → b ≠ a := fun b o e z => by rw [z, na] at e; cases e
  refine ⟨I.ok, I.os, I.bare, ⟨I.base.keep, I.base.slot, ?_, I.base.there, ?_, ?_, ?_⟩, I.loc, I.cell, ?_, ?_, ?_, ?_, I.len⟩
  · intro b o e n hx
    rw [upd_ne (ne0 b o e)]
    exact I.base.free b o e n hx
  · intro b xs e
    have q := I.base.tups b xs e
    rw [upd_ne (neH b _ q)]
    exact q
  · intro b o u' e
    have q := I.base.frzs b o u' e
    rw [upd_ne (neH b _ q)]
    exact q
  · intro b ps e
    obtain ⟨m, q⟩ := I.base.tbls b ps e
    exact ⟨m, by rw [upd_ne (neH b _ q)]; exact q⟩
  · rw [upd_ne (Ne.symm nL)]
    exact I.free
  · intro x c e
    rw [upd_ne (nC x c e)]
    exact I.freeC x c e
  · intro p hp
    obtain ⟨e, n, ne, nf, d⟩ := I.pin p hp
    exact ⟨e, by rw [upd_ne (nP p hp)]; exact n, ne, nf, d⟩
  · intro b o e
    by_cases hb : b = a
    · subst hb
      rw [upd_same] at e
      cases e
      exact new
    · rw [upd_ne hb] at e
      refine (I.hok b o e).stay (fun _ _ _ z => z) (fun c z => ?_) fun c xs z => ?_
      · rw [upd_ne (neH c _ z)]
        exact z
      · rw [upd_ne (neH c _ z)]
        exact z
/-- a list that was laid since the def began is forgotten -/
theorem forget {a : Addr} {xs : List V} (I : Inv X pins σ (upd H a (.lst xs)) s) (na : H a = none) (n0 : X.H_0 a = none) : Inv X pins σ H s := by
  have back : ∀ b, b ≠ a → upd H a (.lst xs) b = H b := fun b hb => upd_ne hb
  have nn : ∀ b, upd H a (.lst xs) b = none → H b = none := fun b e => by
    by_cases hb : b = a
    · rw [hb, upd_same] at e
      cases e
    · rw [upd_ne hb] at e
      exact e
  refine ⟨I.ok, I.os, I.bare, ⟨I.base.keep, I.base.slot, fun b o e n hx => nn b (I.base.free b o e n hx), I.base.there, ?_, ?_, ?_⟩, I.loc, I.cell, nn _ I.free, fun x c e => nn _ (I.freeC x c e), fun p hp => ?_, ?_, I.len⟩
  · intro b ys e
    rw [← back b (fun z => by rw [z, n0] at e; cases e)]
    exact I.base.tups b ys e
  · intro b o u' e
    rw [← back b (fun z => by rw [z, n0] at e; cases e)]
    exact I.base.frzs b o u' e
  · intro b ps e
    rw [← back b (fun z => by rw [z, n0] at e; cases e)]
    exact I.base.tbls b ps e
  · obtain ⟨e, n, r⟩ := I.pin p hp
    exact ⟨e, nn _ n, r⟩
  · intro b o e
    have hb : b ≠ a := fun z => by rw [z, na] at e; cases e
    have q : upd H a (.lst xs) b = some o := by rw [upd_ne hb]; exact e
    refine (I.hok b o q).stay (fun _ _ _ z => z) (fun c z => ?_) fun c ys z => ?_
    · rw [← back c (fun y => by rw [y, upd_same] at z; cases z)]
      exact z
    · rw [← back c (fun y => by rw [y, upd_same] at z; cases z)]
      exact z
/-- what a fresh address of now was ahead of the def -/
theorem fresh0 {a : Addr} (I : Inv X pins σ H s) (na : H a = none) (nt : ∀ o, X.H_0 a = some o → ∃ ob, X.s_0.heap.get? a = some ob) (hs : s.heap.objs.size ≤ a) : X.H_0 a = none := by
  cases e : X.H_0 a with
  | none => rfl
  | some o =>
    obtain ⟨ob, q⟩ := nt o e
    exact absurd (Nat.lt_of_lt_of_le (Heap.lt_size q) (Nat.le_trans I.sz hs)) (Nat.lt_irrefl _)
end
end G
namespace G
open PySem PySem.Spec PyProof.Rows L2
/-! ## a display that is subscripted at once -/
section
variable {X : Cx} {pins : List (Addr × Obj)} {σ : L2.St} {H : Hp} {s : Shared}
theorem itemAt {value slice : Expr} {E : Value → Shared → Prop} {Q : Value → Shared → Prop} {p : Addr} {xs : List V} {its : List Value} {i : Int} {t : Tok} {z : V} (r : Vals xs its) (pl : PlainL s.heap p its.toArray) (hz : xs.length ≤ sizeLine) (he : atI xs i = some z)
    (fin : ∀ w, RelV z w → Q w s) (hs : subscripted slice false (.ref p) (.int i t) = operate [.ref p, .int i t] (getItem (.ref p) (.int i t))) :
    wpAny (model X.prog X.w) X.A (subscriptTail value slice (.ref p) (.int i t)) Q E s := by
  obtain ⟨j, g1, g2, g3, g4, g5⟩ := atI_get he
  obtain ⟨u, eu, ru⟩ := r.get g2
  have ln := r.length
  have big := line63
  by_cases c : 0 ≤ i
  · have ej : i.toNat = j := Option.some.inj ((seqIndex_of c g5).symm.trans g1)
    exact item_listR pl.isList c (by omega) (by subst ej; simpa using eu) (fin u ru) hs
  · have ej : (i + (its.toArray.size : Int)).toNat = j := by
      have z1 := (seqIndex_neg (by omega) g4).symm.trans g1
      simp only [List.size_toArray, ← ln]
      exact Option.some.inj z1
    refine subscriptTail_builtinR (x := u) pl.isList.typeIs slot_list_getitem.lookup ?_ hs
    refine wpAny_getItem_list_neg (Q := fun r s' => r = u ∧ Q r s') pl.isList (by omega) ?_ (by omega) (by subst ej; simpa using eu) ⟨rfl, fin u ru⟩
    simp only [List.size_toArray]
    omega
/-- [a, b, ..][i]: the list is never seen again -/
def tMenu (ta : TA) (ti : TE) : TE := fun σ H Q => ta σ H fun xs H1 => xs.length ≤ sizeLine ∧ ti σ H1 fun y H2 => ∃ i v, y = .int i ∧ atI xs i = some v ∧ Q v H2
theorem pe_menu {es : List Expr} {b : Expr} {ta : TA} {tb : TE} {p1 pos : Pos} (ha : PA X es ta) (hb : PE X b tb) (hs : PlainIx b) : PE X (.Subscript (.List es p1) b pos) (tMenu ta tb) := by
  refine ⟨fun pins s σ H Q I h => ?_⟩
  refine Subscript_ (wpAny_List_spliced (thn (ha.run p1 pins s σ H _ I h) fun us s1 ⟨xs, H1, I1, r, z, q⟩ => ⟨by rw [← r.length]; exact z, ?_⟩))
  have hf : H1 s1.heap.objs.size = none := I1.hok.fresh (Nat.le_refl _)
  have I2 : Inv X pins σ H1 { s1 with heap := s1.heap.push { cls := .type "list", data := .seq us.toArray } } := I1.kept (t' := s1.toks) fun _ _ e => Heap.get?_push_of_some _ e
  have eo : (s1.heap.push { cls := .type "list", data := .seq us.toArray }).get? s1.heap.objs.size = some { cls := .type "list", data := .seq us.toArray } := Heap.get?_push_size _ rfl
  have I3 := I2.pinned (fp := [s1.heap.objs.size]) (fun b hb => by
    have e : b = s1.heap.objs.size := by simpa using hb
    subst e
    exact I1.fpOk (Nat.le_refl _) hf) fun b hb => by
    have e : b = s1.heap.objs.size := by simpa using hb
    subst e
    exact ⟨_, eo, fun v z => by cases z⟩
  refine thn (hb.run _ _ σ H1 _ I3 q) fun u s2 ⟨y, H2, I4, ry, i, v, ey, hv, q2⟩ => ?_
  subst ey
  obtain ⟨t, rfl⟩ := ry
  have e2 : s2.heap.get? s1.heap.objs.size = some { cls := .type "list", data := .seq us.toArray } :=
    (I4.pin (s1.heap.objs.size, _) (List.mem_append_right _ (List.mem_append_right _ (mem_pinsAt (List.mem_cons_self) eo)))).1
  exact itemAt r ⟨_, _, e2, rfl, rfl, rfl⟩ z hv (fun w rw' => ⟨v, H2, I4.unpinned, rw', q2⟩) (hs _ _)
end
/-! ## defs that may be called while an exception is handled: they raise nothing -/
structure RoomN (k : Nat) (A : Around) : Prop where
  dp : A.depth + 3 * k + 5 < recursionLimit
  un : A.units + 16 * k + 200 < cLine
theorem roomN_of {k : Nat} {A : Around} (r : Room k A) : RoomN k A := ⟨r.dp, r.un⟩
theorem roomN_mark {k : Nat} {A : Around} {v : Option Value} (r : Room k A) : RoomN k (A.mark v) := ⟨r.dp, r.un⟩
theorem RoomN.mono {j k : Nat} {A : Around} (r : RoomN k A) (h : j ≤ k) : RoomN j A := ⟨by have := r.dp; omega, by have := r.un; omega⟩
theorem RoomN.deeper {k : Nat} {A : Around} (r : RoomN (k + 1) A) (env : Env) : RoomN k (A.deeper env) :=
  ⟨by have h := r.dp; show A.depth + 1 + (3 * k + 5) < _; omega, by have h := r.un; show A.units + 3 + (16 * k + 200) < _; omega⟩
abbrev cxN (P : Program) (w : World) (K : PySem.W.Frag) (mg : Str → Option Value) (base : Heap) (N : List Str) (qual : Str) (scope : Scope) (f : Addr) (cd : Value) (A : Around) (outer : List Env) (s : Shared) (H : Hp) : Cx :=
  { cxOf CX0 P w K mg base N qual scope f cd A outer s H E0 with calm := false }
structure FnN (P : Program) (w : World) (K : PySem.W.Frag) (mg : Str → Option Value) (base : Heap) (k : Nat) (f : Addr) (fd : FuncData) (ps : List Str) (sp : Sp) : Prop where
  len : ∀ vs H Q E, sp vs H Q E → vs.length = ps.length
  run : ∀ (A : Around) (outer : List Env) (s : Shared) (H : Hp) (args : Args) (us : List Value) (vs : List V) (Q : VK), RoomN k A → Env0 P w K mg base A outer s H → BindsTo s fd args (ps.zip us) → Vals vs us → sp vs H Q E0 →
    codeAny (model P w) A (.call (.ref f) args) (CR CX0 outer P w H s Q E0) s
theorem FnN.mono {P : Program} {w : World} {K : PySem.W.Frag} {mg : Str → Option Value} {base : Heap} {j k : Nat} {f : Addr} {fd : FuncData} {ps : List Str} {sp : Sp} (F : FnN P w K mg base j f fd ps sp) (h : j ≤ k) : FnN P w K mg base k f fd ps sp :=
  ⟨F.len, fun A outer s H args us vs Q hr => F.run A outer s H args us vs Q (hr.mono h)⟩
section
variable {P : Program} {w : World} {K : PySem.W.Frag} {mg : Str → Option Value} {base : Heap}
theorem fn_ofN {x qual : Str} {params : Arguments} {body : List Stmt} {scope : Scope} {dvs : List V} {kws : List (Str × V)} {f : Addr} {fd : FuncData} {N ps : List Str} {k : Nat} {sp : Sp} (F : FunD K x qual params body scope dvs kws f fd) (S : FnScope N ps scope)
    (len : ∀ vs H Q E, sp vs H Q E → vs.length = ps.length)
    (hbody : ∀ (cdv : Value) (A : Around) (outer : List Env) (s : Shared) (H : Hp) (vs : List V) (Q : VK), RoomN k (A.deeper (envOfC qual scope s.heap.objs.size f cdv)) → sp vs H Q E0 →
      ∃ t, PSs (cxN P w K mg base N qual scope f cdv A outer s H) body t ∧ t { nx := fun _ H' => Q .non H', rt := Q } (start N vs) H) : FnN P w K mg base (k + 1) f fd ps sp := by
  obtain ⟨oc, od, dV, kV, doc, pm, an, cdv, ct, osl, rfl, lk, hcd, -, -⟩ := F.ex
  refine ⟨len, fun A outer s H args us vs Q hr e0 hb r hsp => ?_⟩
  have hl := len _ _ _ _ hsp
  have st : ∀ b o, base.get? b = some o → s.heap.get? b = some o := fun b o e => (e0.bs b o e).1
  have KX : K.In s.heap := e0.mod.kin.keeps st
  refine codeAny_call_function (by have := hr.dp; omega) (KX _ _ lk) rfl S.co S.gen rfl (PySem.W.codeRec_of KX hcd) (hb _ _ _ _ ?_)
  refine wpAny_newFunctionEnv_cells S.kind (fun y hy => ?_) fun env he s1 x => ?_
  · rcases S.par y.1 (List.of_mem_zip hy).1 with q | q
    · exact .inl q
    · exact .inr ⟨q, PySem.W.cellsFrom_some _ _ _ (.inl q)⟩
  subst he
  refine ⟨(e0.mod.nolimit.keeps st).keeps x.toInCall.keep, codeAny_func ?_⟩
  obtain ⟨t, ht, hq⟩ := hbody cdv A outer s H vs Q (hr.deeper _) hsp
  have J : Inv (cxOf CX0 P w K mg base N qual scope f cdv { A with handled := none } outer s H E0) [] (start N vs) H s1 := inv_start S rfl ⟨e0.frames, e0.mod, e0.bs, e0.bsz, e0.funs, e0.frf, e0.hok, e0.bare⟩ hl r x
  have I : Inv (cxN P w K mg base N qual scope f cdv A outer s H) [] (start N vs) H s1 :=
    ⟨⟨J.ok.mod, J.ok.kind, J.ok.glob, J.ok.blt, J.ok.above, J.ok.inj, J.ok.has, J.ok.cab, fun z => Bool.noConfusion (show false = true from z), Around.frames_deeper e0.frames, J.ok.stk, J.ok.exf, J.ok.bs, J.ok.bsz, J.ok.noex, J.ok.exfs, J.ok.funs, J.ok.frf⟩,
      J.os, J.bare, J.base, J.loc, J.cell, J.free, J.freeC, J.pin, J.hok, J.len⟩
  refine wpAny_mono (ht.run [] s1 (start N vs) H _ I hq) (fun fl s' hs => ?_) fun e s' hs => hs
  cases fl with
  | ret u =>
    obtain ⟨v, σ', H', J', rv, q⟩ := hs
    exact ⟨v, H', J'.os, J'.bare, J'.base, J'.hok, rv, q⟩
  | next =>
    obtain ⟨σ', H', J', q⟩ := hs
    exact ⟨.non, H', J'.os, J'.bare, J'.base, J'.hok, rfl, q⟩
  | brk => exact hs.elim fun _ z => z.elim fun _ y => y.2.elim
  | cont => exact hs.elim fun _ z => z.elim fun _ y => y.2.elim
/-- as any def -/
theorem FnN.ok {k : Nat} {f : Addr} {fd : FuncData} {ps : List Str} {sp : Sp} (F : FnN P w K mg base k f fd ps sp) (h0 : ∀ vs H Q E, sp vs H Q E → sp vs H Q E0) : FnOk P w K mg base (L2.CX P w) k f fd ps sp :=
  ⟨F.len, fun A outer s H args us vs Q E hr e0 hb r hsp => codeAny_mono (F.run A outer s H args us vs Q (roomN_of hr) e0 hb r (h0 _ _ _ _ hsp)) fun r s' hq => by
    cases r with
    | error e => exact hq.elim
    | ok fl => cases fl with
      | ret u => exact hq
      | next => exact hq.elim
      | brk => exact hq.elim
      | cont => exact hq.elim⟩
end
section
variable {X : Cx} {k : Nat} {f : Addr} {fd : FuncData} {ps : List Str} {sp : Sp} {x : Str} {q pos : Pos} {e : Expr} {es : List Expr} {t : TA}
def tCallN (sp : Sp) (t : TA) : TE := fun σ H Q => t σ H fun vs H1 => sp vs H1 Q E0
theorem pe_callN (F : FnN X.prog X.w X.K X.mg X.base k f fd ps sp) (hr : RoomN k X.A) (hg : Gl X x) (hm : X.mg x = some (.ref f)) (hk : PySem.W.keepIn X.K (.ref f) = true) (hb : Binds X.K fd ps [])
    (ha : PA X (e :: es) t) (hdb : (x == ("__debug__" : Str)) = false := by decide) (he : starEach (e :: es) X.env = (false, eval e X.env) :: starEach es X.env := by rfl) (hpl : (backTo pos (starEach es X.env)).any (·.1) = false := by rfl) :
    PE X (.Call (.Name x q) (e :: es) [] pos) (tCallN sp t) := by
  refine ⟨fun pins s σ H Q I h => ?_⟩
  refine wpAny_Call_Name_kw (ld_glob I hg hm ?_ hdb)
  refine PySem.W.callWith_K (h₀ := X.base) I.ok.mod.kin hk (thn (ha.run pos pins s σ H _ I h) fun us s1 hh => ?_) he hpl
  obtain ⟨vs, H1, I1, r, h2⟩ := hh
  refine ⟨I1.kIn, ?_⟩
  have hl : us.length = ps.length := by rw [← r.length]; exact F.len _ _ _ _ h2
  have b := hb s1 us I1.kIn (by rw [List.append_nil]; exact hl)
  rw [List.append_nil] at b
  refine wpAny_call (codeAny_mono (F.run X.A X.stack s1 H1 ⟨us, []⟩ us vs Q hr I1.env0 b r h2) fun r s' hq => ?_)
  cases r with
  | error e => exact hq.elim
  | ok fl => cases fl with
    | ret u => exact I1.after hq
    | next => exact hq.elim
    | brk => exact hq.elim
    | cont => exact hq.elim
end
end G
namespace G
open PySem PySem.Spec PyProof.Rows L2
/-! ## calls whose exceptions the surroundings take (W) -/
section
variable {X : Cx} {k : Nat} {f C : Addr} {fd : FuncData} {ps : List Str} {sp : Sp} {W : WX} {x m : Str} {p pos apos : Pos} {e o : Expr} {es : List Expr} {ta : TE} {t : TA}
/-- f(..) -/
def tCallW (sp : Sp) (W : WX) (t : TA) : TE := fun σ H Q => t σ H fun vs H1 => sp vs H1 Q fun c d H2 => W c d σ H2
theorem pe_callW (tk : Takes X W) (F : FnOk X.prog X.w X.K X.mg X.base (L2.CX X.prog X.w) k f fd ps sp) (hr : Room k X.A) (hg : Gl X x) (hm : X.mg x = some (.ref f)) (hk : PySem.W.keepIn X.K (.ref f) = true) (hb : Binds X.K fd ps [])
    (ha : PA X (e :: es) t) (hdb : (x == ("__debug__" : Str)) = false := by decide) (he : starEach (e :: es) X.env = (false, eval e X.env) :: starEach es X.env := by rfl) (hpl : (backTo pos (starEach es X.env)).any (·.1) = false := by rfl) :
    PE X (.Call (.Name x p) (e :: es) [] pos) (tCallW sp W t) := pe_callS F hr hg hm hk hb (fun σ => passAt tk σ) ha hdb he hpl
theorem pe_callW0 (tk : Takes X W) (F : FnOk X.prog X.w X.K X.mg X.base (L2.CX X.prog X.w) k f fd ps sp) (hr : Room k X.A) (hg : Gl X x) (hm : X.mg x = some (.ref f)) (hk : PySem.W.keepIn X.K (.ref f) = true) (hb : Binds X.K fd ps [])
    (hdb : (x == ("__debug__" : Str)) = false := by decide) : PE X (.Call (.Name x p) [] [] pos) (tCallW sp W tNil) := by
  refine ⟨fun pins s σ H Q I h => wpAny_Call_Name_kw (ld_glob I hg hm ?_ hdb)⟩
  exact PySem.W.callWith_K0 I.kIn hk (run_fnS (us := []) (E := WE W) F hr hb (passAt tk σ) I .nil h)
/-- o.m(..) -/
def tMethW (C : Addr) (m : Str) (sp : Sp) (W : WX) (ta : TE) (t : TA) : TE := fun σ H Q => ta σ H fun x H1 => ∃ a dx fs, x = .ref a ∧ H1 a = some (.ins C dx fs) ∧ fs.lookup m = none ∧ t σ H1 fun vs H2 => sp (x :: vs) H2 Q fun c d H3 => W c d σ H3
theorem pe_methW {pl : Sem Bool} (tk : Takes X W) (he : PE X o ta) (c : Cls X.K C) (hm : Meth X.K C m f) (F : FnOk X.prog X.w X.K X.mg X.base (L2.CX X.prog X.w) k f fd ps sp) (hr : Room k X.A) (hb : Binds X.K fd ps []) (ha : PA X (e :: es) t)
    (hst : starEach (e :: es) X.env = (false, eval e X.env) :: starEach es X.env := by rfl) (hpl : (backTo pos (starEach es X.env)).any (·.1) = false := by rfl)
    (ht : eval (.Call (.Attribute o m apos) (e :: es) [] pos) X.env = (do
      let z ← eval o X.env
      standAt apos.atName
      let (g, one) ← holding [z] (getMethod z m pl)
      callWith pos g one (backTo pos (starEach (e :: es) X.env)) (backToKw pos (keywordEach [] X.env))) := by rfl) :
    PE X (.Call (.Attribute o m apos) (e :: es) [] pos) (tMethW C m sp W ta t) := by
  refine ⟨fun pins s σ H Q I h => ?_⟩
  refine PySem.W.methodCall_KW (pl := pl) (thn (he.run pins s σ H _ I h) fun u s1 hh => ?_) ht
  obtain ⟨y, H1, I1, ry, a, dx, fs, ey, ea, l, q⟩ := hh
  subst ey
  obtain rfl : u = Value.ref a := ry
  refine getmeth_ok I1 ea c hm l ?_
  refine PySem.W.callWith_K (first := [.ref a]) (h₀ := X.base) I.ok.mod.kin hm.kp (thn (ha.run pos pins s1 σ H1 _ I1 q) fun us s2 h2 => ?_) hst hpl
  obtain ⟨vs, H2, I2, r, q2⟩ := h2
  exact ⟨I2.kIn, run_fnS (us := .ref a :: us) (vs := .ref a :: vs) (E := WE W) F hr hb (passAt tk σ) I2 (.cons rfl r) q2⟩
theorem pe_methW0 {pl : Sem Bool} (tk : Takes X W) (he : PE X o ta) (c : Cls X.K C) (hm : Meth X.K C m f) (F : FnOk X.prog X.w X.K X.mg X.base (L2.CX X.prog X.w) k f fd ps sp) (hr : Room k X.A) (hb : Binds X.K fd ps [])
    (ht : eval (.Call (.Attribute o m apos) [] [] pos) X.env = (do
      let z ← eval o X.env
      standAt apos.atName
      let (g, one) ← holding [z] (getMethod z m pl)
      callWith pos g one (backTo pos (starEach [] X.env)) (backToKw pos (keywordEach [] X.env))) := by rfl) :
    PE X (.Call (.Attribute o m apos) [] [] pos) (tMethW C m sp W ta tNil) := by
  refine ⟨fun pins s σ H Q I h => ?_⟩
  refine PySem.W.methodCall_KW (pl := pl) (thn (he.run pins s σ H _ I h) fun u s1 hh => ?_) ht
  obtain ⟨y, H1, I1, ry, a, dx, fs, ey, ea, l, q⟩ := hh
  subst ey
  obtain rfl : u = Value.ref a := ry
  refine getmeth_ok I1 ea c hm l ?_
  exact PySem.W.callWith_K0 (first := [.ref a]) I1.kIn hm.kp (run_fnS (us := [.ref a]) (vs := [.ref a]) (E := WE W) F hr hb (passAt tk σ) I1 (.cons rfl .nil) q)
/-- C(..) -/
def tMakeW (C : Addr) (sp : Sp) (W : WX) (t : TA) : TE := fun σ H Q => t σ H fun vs H1 => ∀ x dx, H1 x = none → H1 dx = none → dx ≠ x →
  sp (.ref x :: vs) (upd (upd H1 dx (.own x)) x (.ins C dx [])) (fun v H2 => v = .non ∧ Q (.ref x) H2) fun c d H3 => W c d σ H3
theorem run_makeW {pins : List (Addr × Obj)} {σ : L2.St} {H : Hp} {s : Shared} {Q : VK} {us : List Value} {vs : List V} (tk : Takes X W) (M : Mk X.K C f) (F : FnOk X.prog X.w X.K X.mg X.base (L2.CX X.prog X.w) k f fd ps sp) (hr : Room (k + 1) X.A) (hb : Binds X.K fd ps [])
    (I : Inv X pins σ H s) (r : Vals vs us)
    (h : ∀ x dx, H x = none → H dx = none → dx ≠ x → sp (.ref x :: vs) (upd (upd H dx (.own x)) x (.ins C dx [])) (fun v H2 => v = .non ∧ Q (.ref x) H2) fun c d H3 => W c d σ H3) :
    wpAny (model X.prog X.w) X.A (call (.ref C) us) (EP X pins σ Q) X.xe s := by
  have go := h (s.heap.objs.size + 1) s.heap.objs.size (I.hok.fresh (Nat.le_succ _)) (I.hok.fresh (Nat.le_refl _)) (Nat.ne_of_lt (Nat.lt_succ_self _))
  have J := Inv.made (C := C) I
  have r2 : Vals (V.ref (s.heap.objs.size + 1) :: vs) (Value.ref (s.heap.objs.size + 1) :: us) := .cons rfl r
  have hl : (Value.ref (s.heap.objs.size + 1) :: us).length = ps.length := r2.length.symm.trans (F.len _ _ _ _ go)
  have b := hb { s with heap := (s.heap.push PySem.W.emptyDict).push (PySem.W.instObj C s.heap.objs.size) } (Value.ref (s.heap.objs.size + 1) :: us) J.kIn (by rw [List.append_nil]; exact hl)
  rw [List.append_nil] at b
  refine wpAny_call (make_map (f := f) I.kIn M.makes M.init (beq_iff_eq.mp M.fn) (codeAny_mono (F.run _ X.stack _ _ ⟨Value.ref (s.heap.objs.size + 1) :: us, []⟩ _ _ _ _ (hr.make C us []) (J.env0.make C us []) b r2 go) fun r s' hq => ?_))
  cases r with
  | error e => exact passAt tk σ pins _ _ e s' J hq
  | ok fl =>
    cases fl with
    | ret u =>
      obtain ⟨v, H', I3, rv, ev, q3⟩ := J.after hq
      subst ev
      exact ⟨rv, V.ref (s.heap.objs.size + 1), H', I3, rfl, q3⟩
    | next => exact hq.elim
    | brk => exact hq.elim
    | cont => exact hq.elim
theorem pe_makeW (tk : Takes X W) (M : Mk X.K C f) (F : FnOk X.prog X.w X.K X.mg X.base (L2.CX X.prog X.w) k f fd ps sp) (hr : Room (k + 1) X.A) (hg : Gl X x) (hm : X.mg x = some (.ref C)) (hb : Binds X.K fd ps [])
    (ha : PA X (e :: es) t) (hdb : (x == ("__debug__" : Str)) = false := by decide) (he : starEach (e :: es) X.env = (false, eval e X.env) :: starEach es X.env := by rfl) (hpl : (backTo pos (starEach es X.env)).any (·.1) = false := by rfl) :
    PE X (.Call (.Name x p) (e :: es) [] pos) (tMakeW C sp W t) := by
  refine ⟨fun pins s σ H Q I h => wpAny_Call_Name_kw (ld_glob I hg hm ?_ hdb)⟩
  refine PySem.W.callWith_K (h₀ := X.base) I.ok.mod.kin M.kp (thn (ha.run pos pins s σ H _ I h) fun us s1 hh => ?_) he hpl
  obtain ⟨vs, H1, I1, r, q⟩ := hh
  exact ⟨I1.kIn, run_makeW tk M F hr hb I1 r q⟩
theorem pe_makeW0 (tk : Takes X W) (M : Mk X.K C f) (F : FnOk X.prog X.w X.K X.mg X.base (L2.CX X.prog X.w) k f fd ps sp) (hr : Room (k + 1) X.A) (hg : Gl X x) (hm : X.mg x = some (.ref C)) (hb : Binds X.K fd ps [])
    (hdb : (x == ("__debug__" : Str)) = false := by decide) : PE X (.Call (.Name x p) [] [] pos) (tMakeW C sp W tNil) := by
  refine ⟨fun pins s σ H Q I h => wpAny_Call_Name_kw (ld_glob I hg hm ?_ hdb)⟩
  exact PySem.W.callWith_K0 I.kIn M.kp (run_makeW (us := []) tk M F hr hb I .nil h)
end

/-! ## try .. except x as n, the exception a tracked thing in the suite -/
/-- what the clause wishes; slot i is n's -/
def wTr (K : PySem.W.Frag) (c : Value) (i : Nat) (ts : TS) (Wo : WX) (D : Ends) : WX := fun cls d σ H => ∃ b, PySem.W.exmOne K cls c = some b ∧
  (b = true → d = none ∧ ∀ a, H a = none → ts { nx := fun σ' H' => D.nx (σ'.set i none) H', rt := D.rt, bk := fun σ' H' => D.bk (σ'.set i none) H', ct := fun σ' H' => D.ct (σ'.set i none) H' } (σ.set i (some (.ref a))) (upd H a (ExA cls a))) ∧ (b = false → Wo cls d σ H)
section
variable {X : Cx} {x n : Str} {c : Value} {i : Nat} {body suite : List Stmt} {b0 : Stmt} {np pos pos' : Pos} {tb : WX → TS} {ts : TS} {Wo : WX}
theorem toSuite {pins : List (Addr × Obj)} {σ : L2.St} {H : Hp} {s : Shared} (I : Inv X pins σ H s) (a : Addr) : Inv (X.suite a (X.pn ++ pins)) [] σ H s :=
  ⟨I.ok.suite _ _, I.os, I.bare, I.base, I.loc, I.cell, I.free, I.freeC, fun p hp => I.pin p (by simpa using hp), I.hok, I.len⟩
theorem ofSuite {pins pl : List (Addr × Obj)} {σ : L2.St} {H : Hp} {s : Shared} {a : Addr} (ok : X.Ok) (I : Inv (X.suite a (X.pn ++ pins)) pl σ H s) : Inv X pins σ H s :=
  ⟨ok, I.os, I.bare, I.base, I.loc, I.cell, I.free, I.freeC, fun p hp => I.pin p (List.mem_append_left _ hp), I.hok, I.len⟩
theorem ps_tryT (hs : X.stack = X.env :: X.outer) (hf : X.env.frame = some X.env.locals) (hex : X.ex = []) (hN : X.N.Nodup) (hi : X.N[i]? = some n) (hln : X.env.kindOf n = some .local) (hc : Names X x c) (tk : Takes X Wo)
    (hb : ∀ (W : WX) (pn : List (Addr × Obj)) (xe : Value → Shared → Prop), Takes (X.tr pn xe) W → PassesOwn (model X.prog X.w) X.A X.env xe → PSs (X.tr pn xe) body (tb W))
    (hsu : ∀ (a : Addr) (pn : List (Addr × Obj)), PSs (X.suite a pn) (b0 :: suite) ts) :
    PS X (.Try body [.ExceptHandler (some (.Name x np)) (some n) (b0 :: suite) pos'] [] [] pos) (fun D σ H => tb (wTr X.K c i ts Wo D) D σ H) := by
  refine ⟨fun pins s σ H D I h => ?_⟩
  have ok := I.ok
  have hfr : X.A.frames = some (X.env :: X.outer) := by rw [ok.frames, hs]
  have lo : Loc X.env.scope n := .inl hln
  let rest : List ExceptHandler := [.ExceptHandler (some (.Name x np)) (some n) (b0 :: suite) pos']
  let M := model X.prog X.w
  let wish : Value → Shared → Prop := fun e u1 => wpAny M X.A (noteFrame e X.env) (fun _ u2 => wpAny M X.A (setFlight e none) (fun _ u3 => wpAny M X.A (handleBy e X.env rest) (SP X pins D) X.xe u3) X.xe u2) X.xe u1
  refine wpAny_Try_except (wpAny_mono ((hb (wTr X.K c i ts Wo D) (X.pn ++ pins) wish (fun u s' air => ?_) PassesOwn.looking).run [] s σ H D (I.toTry _) h) (fun fl s1 hsp => ?_) (fun e s1 he => he))
  · obtain ⟨a, B, sg, pi', σ1, H1, cls, d, rfl, Jt, nb, up, sky, na, os, ag, b, e1, yes, no⟩ := air
    have J : Inv X pins σ1 H1 sg := Jt.ofTry ok
    have sky' : Sky B (X.env :: X.outer) a (Zc cls d) X.env.locals s'.heap := by rw [← hs]; exact sky
    show wpAny M X.A (noteFrame (.ref a) X.env) _ _ _
    refine Sky.land Zc.steady hfr hf sky' fun h3 fl3 up3 => ?_
    have u3 := up.trans up3
    have J3 : Inv X pins σ1 H1 { s' with heap := h3 } := J.landed nb fl3.1 u3 os ag
    obtain ⟨o3, f3, g3, z3, d3⟩ := fl3.there
    have nfr : a ∉ frs (X.env :: X.outer) := fun hm => by
      obtain ⟨-, o', g', nf⟩ := fl3.2.2.1.mem hm
      rw [g3] at g'
      cases g'
      exact nf _ d3
    have nL : a ≠ X.env.locals := fun z => nfr (List.mem_filterMap.mpr ⟨X.env, List.mem_cons_self, by rw [hf, z]⟩)
    have nst : a ∉ frs X.stack := by rw [hs]; exact nfr
    have nB : B.get? a = none := fl3.2.1
    have ng : sg.heap.get? a = none := by
      cases e : sg.heap.get? a with
      | none => rfl
      | some o =>
        rw [nb a o e nst] at nB
        cases nB
    have n0 : X.s_0.heap.get? a = none := by
      cases e : X.s_0.heap.get? a with
      | none => rfl
      | some o =>
        obtain ⟨o', q⟩ := J.base.there a o e (by rw [hex]; exact List.not_mem_nil)
        rw [ng] at q
        cases q
    have nC : ∀ y z, X.env.cells.lookup y = some z → z ≠ a := fun y z e q => by
      obtain ⟨v, ob, e2, -⟩ := J.cell y z e
      rw [q, ng] at e2
      cases e2
    have nP : ∀ p ∈ X.pn ++ pins, p.1 ≠ a := fun p hp q => by
      have e2 := (J.pin p hp).1
      rw [q, ng] at e2
      cases e2
    have S3 := toSuite J3 a
    refine wpAny_handleBy_cons (codeAny_handlers_test ?_) (by intro q; cases q)
    have LT : PySem.W.Looks M h3 (typeOf (.ref a)) cls := fun _ _ _ _ k q => wpAny_typeOf_ref (k _ _ g3) (by rw [z3.1]; exact q)
    have LM := PySem.W.exm_one (M := M) J3.kIn LT e1
    have test : ∀ {Q : Value → Shared → Prop} {E : Value → Shared → Prop}, Q c { s' with heap := h3 } → wpAny M (X.A.mark (some (.ref a))) (eval (.Name x np) X.env) Q E { s' with heap := h3 } := fun {Q E} q => by
      obtain ⟨hg, hdb, hm | ⟨hm, hv, hnn⟩⟩ := hc
      · exact ld_glob (X := X.suite a (X.pn ++ pins)) S3 hg hm q hdb
      · exact ld_blt (X := X.suite a (X.pn ++ pins)) S3 hg hm hv q hnn hdb
    refine test (LM.here ?_)
    cases b with
    | true =>
      refine codeAny_handlers_suite_as (HandSPX.lands_againZ fl3 fun h4 fl4 up4 => ?_)
      have J4 : Inv X pins σ1 H1 { s' with heap := h4 } := J.landed nb fl4.1 (u3.trans up4) os ag
      obtain ⟨o4, f4, g4, z4, d4⟩ := fl4.there
      obtain ⟨ed, go⟩ := yes rfl
      subst ed
      have J5 := track (u := ExA cls a) J4 na n0 nL nC nP (exA_ok g4 z4 d4)
      refine store_ok (X := X.suite a (X.pn ++ pins)) (v := .ref a) (toSuite J5 a) hN hi lo rfl (fun s5 S5 => ?_) (.inr hln)
      refine wpAny_mono ((hsu a (X.pn ++ pins)).run [] s5 _ _ _ S5 (go a na)) (fun fl s6 hsp => ?_) (fun _ _ z => False.elim z)
      have out : ∀ {σ6 : L2.St} {H6 : Hp} {Q : Shared → Prop}, Inv (X.suite a (X.pn ++ pins)) [] σ6 H6 s6 → (∀ s7, Inv X pins (σ6.set i none) H6 s7 → Q s7) →
          wpAny M X.A (do bindName X.env n .none; unbindBehindTheSuite X.env n pos') (fun _ s7 => Q s7) X.xe s6 := fun S6 hq => gone_ok (ofSuite ok S6) hN hi hln hq
      cases fl with
      | next => exact hsp.elim fun _ z => z.elim fun _ q => out q.1 fun s7 J7 => ⟨_, _, J7, q.2⟩
      | brk => exact hsp.elim fun _ z => z.elim fun _ q => out q.1 fun s7 J7 => ⟨_, _, J7, q.2⟩
      | cont => exact hsp.elim fun _ z => z.elim fun _ q => out q.1 fun s7 J7 => ⟨_, _, J7, q.2⟩
      | ret u =>
        obtain ⟨v6, σ6, H6, S6, r6, q6⟩ := hsp
        exact out S6 fun s7 J7 => ⟨_, _, _, J7, r6, q6⟩
    | false =>
      show wpAny M X.A (handleBy (.ref a) X.env []) _ _ _
      refine wpAny_handleBy_nil ?_
      obtain ⟨-, -, -, oe, vs, T, oT, ts', he, hz, hd, h1, hr⟩ := id fl3
      unfold PySem.passOn
      refine wpAny_bind (wpAny_field he hd h1 ?_)
      rw [if_neg (show ¬ ((Value.ref T == Value.none) = true) from by simp)]
      have fin : wpAny M X.A (setFlight (.ref a) X.env.frame) (fun _ u4 => wpAny M X.A (throw (.ref a) : Sem Flow) (SP X pins D) X.xe u4) X.xe { s' with heap := h3 } := by
        rw [hf]
        refine HandSPX.setFlight_upZ fl3 fun h4 hh4 up4 => wpAny_throw (tk _ _ ?_)
        exact ⟨a, B, sg, pins, σ1, H1, cls, d, rfl, J, nb, u3.trans up4, .inr (.inr (by rw [hs]; exact hh4)), na, os, ag, no rfl⟩
      first
        | exact wpAny_bind (wpAny_pure (wpAny_bind fin))
        | exact wpAny_bind fin
  · cases fl with
    | next => exact hsp.elim fun σ1 z => z.elim fun H1 q => wpAny_execs_nil ⟨σ1, H1, q.1.ofTry ok, q.2⟩
    | brk => exact hsp.elim fun σ1 z => z.elim fun H1 q => ⟨σ1, H1, q.1.ofTry ok, q.2⟩
    | cont => exact hsp.elim fun σ1 z => z.elim fun H1 q => ⟨σ1, H1, q.1.ofTry ok, q.2⟩
    | ret u =>
      obtain ⟨v, σ1, H1, J, r, q⟩ := hsp
      exact ⟨v, σ1, H1, J.ofTry ok, r, q⟩
end
end G
namespace G
open PySem PySem.Spec PyProof.Rows L2
/-! ## isinstance -/
def tyO : Option HO → Option String
  | some (.lst _) => some "list"
  | some (.frz _ (.lst _)) => some "list"
  | some (.tup _) => some "tuple"
  | some (.dK _) => some "dict"
  | some (.dT _) => some "dict"
  | _ => none
def tyOf : V → Hp → Option String
  | .non, _ => some "NoneType"
  | .bl _, _ => some "bool"
  | .int _, _ => some "int"
  | .str _, _ => some "str"
  | .ref a, H => tyO (H a)
  | _, _ => none
theorem tyOf_ok {K : PySem.W.Frag} {x : V} {H : Hp} {t : String} (h : tyOf x H = some t) : TyX K H x (.type t) := by
  cases x with
  | non => cases h; exact .base .non
  | bl b => cases h; exact .base (.bl b)
  | int i => cases h; exact .base (.int i)
  | str z => cases h; exact .base (.str z)
  | byt z => cases h
  | flt z => cases h
  | ty z => cases h
  | ref a =>
    have h1 : tyO (H a) = some t := h
    unfold tyO at h1
    split at h1
    · rename_i e; cases h1; exact .base (.lst e)
    · rename_i e; cases h1; exact .base (.frz e)
    · rename_i e; cases h1; exact .base (.tup e)
    · rename_i e; cases h1; exact .base (.dK e)
    · rename_i e; cases h1; exact .base (.dT e)
    · cases h1
/-- the classes that are asked of plain things, and the answer -/
def isB (t n : String) : Bool := t == n || (t == "bool" && n == "int")
def tys : List String := ["NoneType", "bool", "int", "str", "list", "tuple", "dict"]
theorem isB_all : ∀ t ∈ tys, ∀ n ∈ (["int", "bool", "str", "list", "tuple", "dict"] : List String), kitB t n = some (isB t n) := by decide +kernel
theorem tyOf_in {x : V} {H : Hp} {t : String} (h : tyOf x H = some t) : t ∈ tys := by
  unfold tyOf at h
  split at h
  all_goals first
    | (cases h; decide)
    | (unfold tyO at h; split at h <;> first | (cases h; decide) | (cases h))
    | (cases h)
/-- isinstance(x, T) of a plain thing -/
def gIsi : List V → Hp → VK → Prop
  | [x, .ty n], H, Q => n ∈ (["int", "bool", "str", "list", "tuple", "dict"] : List String) ∧ ∃ t, tyOf x H = some t ∧ Q (.bl (isB t n)) H
  | _, _, _ => False
section
variable {X : Cx}
theorem call_gIsi : CallR X (.builtin "isinstance") gIsi := by
  intro pins s σ H xs us Q I r h
  unfold gIsi at h
  split at h
  · obtain ⟨hn, t, ht, q⟩ := h
    exact call_isi pins s σ _ _ us Q I r ⟨_, _, .type t, .type _, _, rfl, .ty _, tyOf_ok ht, kit_ty (isB_all t (tyOf_in ht) _ hn), q⟩
  · exact h.elim
/-- isinstance(e, C) of a caught error -/
def gIsE (K : PySem.W.Frag) : List V → Hp → VK → Prop
  | [.ref a, c], H, Q => ∃ D u b, H a = some (ExA (.ref D) a) ∧ ExcC K D ∧ ClsV c u ∧ PySem.W.kitOne K (.ref D) u = some b ∧ Q (.bl b) H
  | _, _, _ => False
theorem exA_kit {pins : List (Addr × Obj)} {σ : L2.St} {H : Hp} {s : Shared} {a D : Addr} (I : Inv X pins σ H s) (h : H a = some (ExA (.ref D) a)) (C : ExcC X.K D) : ∃ P : Heap → Prop, PySem.W.KitX X.K (.ref a) (.ref D) P ∧ P s.heap := by
  obtain ⟨⟨o, fv, e, z, d⟩, -, -⟩ := I.hok a _ h
  have J : PySem.W.InstAt s.heap a o D none := by
    obtain ⟨oc, od, dt, sl⟩ := o
    obtain ⟨z1, z2⟩ := z
    dsimp only at z1 z2 d
    subst z1 z2 d
    exact ⟨e, rfl, rfl, trivial⟩
  exact ⟨_, PySem.W.handS_kitx_exc C.hg C.hk C.hs C.hd C.ha C.hn C.ht C.hm, J⟩
theorem call_gIsE : CallR X (.builtin "isinstance") (gIsE X.K) := by
  intro pins s σ H xs us Q I r h
  unfold gIsE at h
  split at h
  · obtain ⟨D, u, b, ha, C, hc, hk, q⟩ := h
    obtain ⟨u1, u2, rfl, r1, r2⟩ := vals2 r
    have e2 := hc.eq r2
    subst e2
    cases (show u1 = Value.ref _ from r1)
    obtain ⟨P, Z, p⟩ := exA_kit I ha C
    exact PySem.W.kia_one Z I.kIn p hk (fun z => nomatch z) fun tk => ⟨.bl b, _, I.tok tk, rfl, q⟩
  · exact h.elim
/-- isinstance(e, (C1, C2, ..)) of a caught error: the tuple is never seen again -/
def tIsT (K : PySem.W.Frag) (ta : TE) (tc : TA) : TE := fun σ H Q => ta σ H fun x H1 => tc σ H1 fun cs H2 => cs.length ≤ sizeLine ∧ ∃ a D us b, x = .ref a ∧ H2 a = some (ExA (.ref D) a) ∧ ExcC K D ∧ Paired ClsV cs us ∧ PySem.W.kitAny K (.ref D) us = some b ∧ Q (.bl b) H2
theorem pe_isT {a : Expr} {es : List Expr} {x1} {ta : TE} {tc : TA} {p tp pos : Pos} (hg : Gl X "isinstance") (hm : X.mg "isinstance" = none) (ha : PE X a ta) (hc : PA X es tc)
    (he : starEach [a, .Tuple es x1 tp] X.env = [(false, eval a X.env), (false, eval (.Tuple es x1 tp) X.env)] := by rfl) : PE X (.Call (.Name "isinstance" p) [a, .Tuple es x1 tp] [] pos) (tIsT X.K ta tc) := by
  refine ⟨fun pins s σ H Q I h => ?_⟩
  refine wpAny_Call_Name_kw (ld_blt I hg hm (by decide +kernel : bootBuiltins "isinstance" = some (.builtin "isinstance")) ?_ (by decide) (by decide))
  refine PyProof.Rows.callWith_builtin1 (rest := [.Tuple es x1 tp]) ?_ he rfl
  rw [he]
  show wpAny _ _ (spliced [(false, eval a X.env), (false, eval (.Tuple es x1 tp) X.env)]) _ _ _
  refine Calls.spliced_cons (thn (ha.run pins s σ H _ I h) fun u s1 ⟨x, H1, I1, rx, q1⟩ => ?_)
  refine Calls.spliced_cons (wpAny_Tuple_spliced (x1 := x1) (thn (hc.run tp pins s1 σ H1 _ I1 q1) fun us s2 hh => ?_))
  obtain ⟨cs, H2, I2, rc, hz, y, D, ws, b, ex, hy, C, hcl, hk, q⟩ := hh
  subst ex
  cases (show u = Value.ref y from rx)
  refine ⟨by rw [← rc.length]; exact hz, Calls.spliced_nil ?_⟩
  have e3 := ClsV.all hcl rc
  subst e3
  have I3 : Inv X pins σ H2 { s2 with heap := s2.heap.push { cls := .type "tuple", data := .seq us.toArray } } := I2.kept (t' := s2.toks) fun _ _ e => Heap.get?_push_of_some _ e
  obtain ⟨P, Z, p⟩ := exA_kit I3 hy C
  exact PySem.W.kia_tup Z I3.kIn p (Heap.get?_push_size _ rfl) hk (fun z => nomatch z) fun tk => ⟨.bl b, H2, I3.tok tk, rfl, q⟩

/-! ## operators by the kinds of their values -/
def gAdd : R2
  | .int i, .int j, H, Q => Q (.int (i + j)) H
  | .str i, .str j, H, Q => i.length + j.length ≤ sizeLine ∧ Q (.str (i ++ j)) H
  | .ref a, .ref b, H, Q => ∃ xs zs, H a = some (.lst xs) ∧ H b = some (.lst zs) ∧ xs.length + zs.length ≤ sizeLine ∧ ∀ p, H p = none → Q (.ref p) (upd H p (.lst (xs ++ zs)))
  | _, _, _, _ => False
theorem op_gAdd : OpR X (binaryOp .Add) gAdd := by
  intro pins s σ H x y v u Q I rx ry h
  unfold gAdd at h
  split at h
  · exact op_add pins s σ _ _ _ v u Q I rx ry ⟨_, _, rfl, rfl, h⟩
  · exact op_add_str pins s σ _ _ _ v u Q I rx ry ⟨_, _, rfl, rfl, h.1, h.2⟩
  · obtain ⟨xs, zs, h1, h2, h3, h4⟩ := h
    exact op_cat pins s σ _ _ _ v u Q I rx ry ⟨_, _, xs, zs, rfl, rfl, h1, h2, h3, h4⟩
  · exact h.elim
def gMul : R2
  | .int i, .int j, H, Q => ((-(2 ^ 64) < i ∧ i < 2 ^ 64) ∨ (-(2 ^ 64) < j ∧ j < 2 ^ 64)) ∧ Q (.int (i * j)) H
  | .str z, .int n, H, Q => (n = 0 ∨ n = 1) ∧ Q (.str (if n = 1 then z else Str.empty)) H
  | .ref a, .int k, H, Q => ∃ xs, H a = some (.lst xs) ∧ -(2 ^ 63) ≤ k ∧ k < 2 ^ 63 ∧ xs.length * k.toNat ≤ sizeLine ∧ ∀ p, H p = none → Q (.ref p) (upd H p (.lst ((List.replicate k.toNat xs).flatten)))
  | _, _, _, _ => False
theorem op_gMul : OpR X (binaryOp .Mult) gMul := by
  intro pins s σ H x y v u Q I rx ry h
  unfold gMul at h
  split at h
  · exact op_mul pins s σ _ _ _ v u Q I rx ry ⟨_, _, rfl, rfl, h.1, h.2⟩
  · rename_i z n
    obtain ⟨hn, q⟩ := h
    obtain ⟨t, rfl⟩ := rx
    obtain ⟨t', rfl⟩ := ry
    rcases hn with rfl | rfl
    · exact PySem.P.mul_str_none (by decide) (by decide) ⟨.str Str.empty, _, I.tok _, ⟨_, rfl⟩, q⟩
    · refine PySem.P.mul_str (by decide) (fun _ z => by simp at z) (fun _ z => by simp at z) ?_
      exact ⟨.str z, _, I, ⟨_, rfl⟩, q⟩
  · obtain ⟨xs, h1, h2, h3, h4, h5⟩ := h
    exact op_rep pins s σ _ _ _ v u Q I rx ry ⟨_, _, xs, rfl, rfl, h1, h2, h3, h4, h5⟩
  · exact h.elim
/-- == : flat values; else data of any depth -/
def gEq (K : PySem.W.Frag) : R2 := fun x y H Q => if flatV x && flatV y then Q (.bl (eqV x y)) H else rEqD K x y H Q
def gNe (K : PySem.W.Frag) : R2 := fun x y H Q => if flatV x && flatV y then Q (.bl (!eqV x y)) H else rNeD K x y H Q
theorem flat_eqv {K : PySem.W.Frag} {H : Hp} {x y : V} (hx : flatV x = true) (hy : flatV y = true) :
    (scal x y = true ∧ decide (x = y) = eqV x y) ∨ ∃ d e, Dp K H x d ∧ Dp K H y e ∧ SeqAt.shaped d = true ∧ SeqAt.shaped e = true ∧ PyData.eqv d e = eqV x y := by
  cases x <;> first | (cases hx; done) | skip
  all_goals (cases y <;> first | (cases hy; done) | skip)
  case bl.int b i => exact .inr ⟨_, _, .bl b, .int i, by cases b <;> decide, rfl, rfl⟩
  case int.bl i b => exact .inr ⟨_, _, .int i, .bl b, rfl, by cases b <;> decide, rfl⟩
  all_goals refine .inl ⟨rfl, ?_⟩
  all_goals first
    | rfl
    | exact dec_int
    | exact dec_bl
    | exact dec_str
theorem op_gEq (hu : X.A.units + 64 < cLine) : OpR X (compareOp .Eq) (gEq X.K) := by
  intro pins s σ H x y v u Q I rx ry h
  unfold gEq at h
  split at h
  · rename_i c
    obtain ⟨c1, c2⟩ := Bool.and_eq_true_iff.mp c
    rcases flat_eqv (K := X.K) (H := H) c1 c2 with ⟨h1, h2⟩ | ⟨d, e, h1, h2, h3, h4, h5⟩
    · exact op_eq pins s σ _ _ _ v u Q I rx ry ⟨h1, by rw [h2]; exact h⟩
    · exact op_eqD hu pins s σ _ _ _ v u Q I rx ry ⟨d, e, h1, h2, h3, h4, by rw [h5]; exact h⟩
  · exact op_eqD hu pins s σ _ _ _ v u Q I rx ry h
theorem op_gNe (hu : X.A.units + 64 < cLine) : OpR X (compareOp .NotEq) (gNe X.K) := by
  intro pins s σ H x y v u Q I rx ry h
  unfold gNe at h
  split at h
  · rename_i c
    obtain ⟨c1, c2⟩ := Bool.and_eq_true_iff.mp c
    rcases flat_eqv (K := X.K) (H := H) c1 c2 with ⟨h1, h2⟩ | ⟨d, e, h1, h2, h3, h4, h5⟩
    · exact op_ne pins s σ _ _ _ v u Q I rx ry ⟨h1, by rw [h2]; exact h⟩
    · exact op_neD hu pins s σ _ _ _ v u Q I rx ry ⟨d, e, h1, h2, h3, h4, by rw [h5]; exact h⟩
  · exact op_neD hu pins s σ _ _ _ v u Q I rx ry h
/-- abs, int(..) -/
def gAbs : List V → Hp → VK → Prop
  | [.int i], H, Q => Q (.int (i.natAbs : Int)) H
  | _, _, _ => False
theorem call_gAbs : CallR X (.builtin "abs") gAbs := by
  intro pins s σ H xs us Q I r h
  unfold gAbs at h
  split at h
  · rename_i i
    refine call_abs pins s σ _ _ us Q I r ⟨i, rfl, ?_⟩
    have e : (if i < 0 then -i else i) = (i.natAbs : Int) := by split <;> omega
    rw [e]
    exact h
  · exact h.elim
def gInt : List V → Hp → VK → Prop
  | [.int i], H, Q => Q (.int i) H
  | [.bl k], H, Q => Q (.int (if k then 1 else 0)) H
  | _, _, _ => False
theorem call_gInt : CallR X (.type "int") gInt := by
  intro pins s σ H xs us Q I r h
  unfold gInt at h
  split at h
  · exact call_int1 pins s σ _ _ us Q I r (.inl ⟨_, rfl, h⟩)
  · exact call_int1 pins s σ _ _ us Q I r (.inr ⟨_, rfl, h⟩)
  · exact h.elim
end
end G
namespace G
open PySem PySem.Spec PyProof.Rows L2
open He (ga ma fAd Fa DefD SaysD)
/-! ## what the top has written, by names -/
/-- what isinstance asks of an error's class -/
def excB (K : PySem.W.Frag) (D : Addr) : Bool :=
  (decide (PySem.W.findIn K (.ref D) "__getattribute__" = some (some (.builtin "BaseException.__getattribute__"))) && (decide (PySem.W.findIn K (.ref D) "__getattr__" = some none) && (decide (PySem.W.subIn K (.ref D) (.type "BaseException") = some true) && PySem.W.hasDictIn K D))) &&
  (decide (PySem.W.findIn K (.ref D) "__class__" = some (some (.builtin "object.__class__"))) && (decide (PySem.W.specialIn K (.builtin "object.__class__") "__get__" = some (some (.builtin "getset_descriptor.__get__"))) &&
    (decide (PySem.W.takesIn K (.builtin "object.__class__") = some true) && decide (PySem.W.mroIn K D (.type "object") = some true))))
theorem excB_ok {K : PySem.W.Frag} {D : Addr} (h : excB K D = true) : ExcC K D := by
  obtain ⟨h1, h2⟩ := He.ba h
  obtain ⟨a1, h1⟩ := He.ba h1
  obtain ⟨a2, h1⟩ := He.ba h1
  obtain ⟨a3, a4⟩ := He.ba h1
  obtain ⟨b1, h2⟩ := He.ba h2
  obtain ⟨b2, h2⟩ := He.ba h2
  obtain ⟨b3, b4⟩ := He.ba h2
  exact ⟨of_decide_eq_true a1, of_decide_eq_true a2, of_decide_eq_true a3, a4, of_decide_eq_true b1, of_decide_eq_true b2, of_decide_eq_true b3, of_decide_eq_true b4⟩
/-- d is a class under c -/
def under (d c : Str) : Bool := d == c || c == "KeepError"
/-- a class of the module, no text -/
structure ClN (K : PySem.W.Frag) (C : Addr) : Prop where
  ha : PySem.W.findIn K (.ref C) "__class__" = some (some (.builtin "object.__class__"))
  hn : PySem.W.specialIn K (.builtin "object.__class__") "__get__" = some (some (.builtin "getset_descriptor.__get__"))
  htk : PySem.W.takesIn K (.builtin "object.__class__") = some true
  hm : PySem.W.mroIn K C (.type "object") = some true
  no : PySem.W.kitOne K (.ref C) (.type "str") = some false
def clB (K : PySem.W.Frag) (C : Addr) : Bool := (decide (PySem.W.findIn K (.ref C) "__class__" = some (some (.builtin "object.__class__"))) && (decide (PySem.W.specialIn K (.builtin "object.__class__") "__get__" = some (some (.builtin "getset_descriptor.__get__"))) &&
  (decide (PySem.W.takesIn K (.builtin "object.__class__") = some true) && (decide (PySem.W.mroIn K C (.type "object") = some true) && decide (PySem.W.kitOne K (.ref C) (.type "str") = some false)))))
theorem clB_ok {K : PySem.W.Frag} {C : Addr} (h : clB K C = true) : ClN K C := by
  obtain ⟨h1, h⟩ := He.ba h
  obtain ⟨h2, h⟩ := He.ba h
  obtain ⟨h3, h⟩ := He.ba h
  obtain ⟨h4, h5⟩ := He.ba h
  exact ⟨of_decide_eq_true h1, of_decide_eq_true h2, of_decide_eq_true h3, of_decide_eq_true h4, of_decide_eq_true h5⟩
structure XL where
  (ex cl : List Str)
/-- the errors' classes, and others -/
def exOk1 (L : List Str) (K : PySem.W.Frag) : Bool := L.all fun d => excB K (ga K d) && (decide (PySem.W.kitOne K (.ref (ga K d)) (.type "ValueError") = some true) &&
  (L.all fun c => decide (PySem.W.kitOne K (.ref (ga K d)) (.ref (ga K c)) = some (under d c)) && decide (PySem.W.exmOne K (.ref (ga K d)) (.ref (ga K c)) = some (under d c))))
def exOk (L : XL) (K : PySem.W.Frag) : Bool := exOk1 L.ex K && L.cl.all fun c => clB K (ga K c)
structure Told (fa : List Fa) (fn : List DefD) (xl : XL) (K : PySem.W.Frag) (mg : Str → Option Value) : Prop where
  ex : ∃ h : Heap, K.In h ∧ h.Ns mainGlobals mg
  says : SaysD fa fn K
  errs : exOk xl K = true
/-- what an object names, but for its class and the classes over it -/
def refsX (o : Obj) : List Addr := (match o.data with
  | .seq its _ => its.toList.flatMap He.refV
  | .dict es _ => es.toList.flatMap fun e => He.refV e.val
  | .func fd => He.refV fd.code ++ He.refV fd.defaults ++ He.refV fd.kwdefaults ++ fd.closure.map (·.2)
  | .cls cd => [cd.ns]
  | .fields vs => vs.toList.flatMap He.refV
  | .cell (some v) => He.refV v
  | _ => []) ++ match o.dict with
  | some d => [d]
  | none => []
def nextX (g : Addr → Option Obj) (as : List Addr) : List Addr := as.flatMap fun a => match g a with
  | some o => refsX o
  | none => []
/-- what the module's names lead to, level by level -/
def asX (g : Addr → Option Obj) : Nat → List Addr → List Addr
  | 0, as => as
  | n + 1, as => as ++ asX g n (nextX g as)
/-- the head's look -/
def lookG (n : Nat) (fa : List Fa) (fn : List DefD) (xl : XL) (g : Addr → Option Obj) : He.AlD × Bool := (He.obsD fa fn (He.frG g (asX g n [mainGlobals])), exOk xl (He.frG g (asX g n [mainGlobals])))
def hookG (n : Nat) (fa : List Fa) (fn : List DefD) (xl : XL) : PySem.W.Hook where
  α := He.AlD × Bool
  obs := fun s => lookG n fa fn xl s.heap.get?
  val := fun _ => (He.valD fn, true)
  says := fun _ h => ∃ K : PySem.W.Frag, K.In h ∧ SaysD fa fn K ∧ exOk xl K = true
  of := fun _ _ e => ⟨_, He.frG_in, congrArg (fun z : He.AlD × Bool => z.1) e, congrArg (fun z : He.AlD × Bool => z.2) e⟩
  keeps := fun _ _ _ ⟨K, hK, c⟩ k => ⟨K, PySem.W.Frag.In.keeps hK k, c⟩
theorem lookG_eq {n : Nat} {fa : List Fa} {fn : List DefD} {xl : XL} {g : Addr → Option Obj} {s : Shared} (h : ∀ a, g a = s.heap.get? a) : lookG n fa fn xl g = (hookG n fa fn xl).obs s := by
  have e : g = s.heap.get? := funext h
  rw [e]
  rfl
section
variable {fa : List Fa} {fn : List DefD} {xl : XL} {K : PySem.W.Frag} {mg : Str → Option Value}
theorem Told.glo (T : Told fa fn xl K mg) (i : Nat) {x : Str} (h : fa[i]? = some (.glo x) := by rfl) : mg x = some (.ref (ga K x)) := let ⟨_, X, N⟩ := T.ex; He.glo_ok X N (T.says.fact i h)
theorem Told.free (T : Told fa fn xl K mg) (i : Nat) {x : Str} (h : fa[i]? = some (.free x) := by rfl) : mg x = none := let ⟨_, X, N⟩ := T.ex; He.free_ok X N (T.says.fact i h)
theorem Told.num (T : Told fa fn xl K mg) (i : Nat) {x : Str} {n : Int} (h : fa[i]? = some (.int x n) := by rfl) : ∃ t, mg x = some (.int n t) := let ⟨_, X, N⟩ := T.ex; He.int_ok X N (T.says.fact i h)
theorem Told.txt (T : Told fa fn xl K mg) (i : Nat) {x z : Str} (h : fa[i]? = some (.str x z) := by rfl) : ∃ t, mg x = some (.str z t) := let ⟨_, X, N⟩ := T.ex; He.str_ok X N (T.says.fact i h)
theorem Told.err (T : Told fa fn xl K mg) {d : Str} (h : d ∈ xl.ex) : ExcC K (ga K d) ∧ PySem.W.kitOne K (.ref (ga K d)) (.type "ValueError") = some true ∧
    ∀ c ∈ xl.ex, PySem.W.kitOne K (.ref (ga K d)) (.ref (ga K c)) = some (under d c) ∧ PySem.W.exmOne K (.ref (ga K d)) (.ref (ga K c)) = some (under d c) := by
  obtain ⟨h1, h2⟩ := He.ba (List.all_eq_true.mp (He.ba T.errs).1 d h)
  obtain ⟨h3, h4⟩ := He.ba h2
  refine ⟨excB_ok h1, of_decide_eq_true h3, fun c hc => ?_⟩
  obtain ⟨h5, h6⟩ := He.ba (List.all_eq_true.mp h4 c hc)
  exact ⟨of_decide_eq_true h5, of_decide_eq_true h6⟩
theorem Told.cln (T : Told fa fn xl K mg) {c : Str} (h : c ∈ xl.cl) : ClN K (ga K c) := clB_ok (List.all_eq_true.mp (He.ba T.errs).2 c h)
/-- isinstance(e, c) of an error of class d -/
theorem Told.isE (T : Told fa fn xl K mg) {d c : Str} {a : Addr} {H : Hp} {Q : VK} (ha : H a = some (ExA (.ref (ga K d)) a)) (hd : d ∈ xl.ex) (hc : c ∈ xl.ex) (q : Q (.bl (under d c)) H) : gIsE K [.ref a, .ref (ga K c)] H Q :=
  ⟨_, _, _, ha, (T.err hd).1, .own _, ((T.err hd).2.2 c hc).1, q⟩
theorem Told.isY (T : Told fa fn xl K mg) {d c : Str} {a : Addr} {H : Hp} {Q : VK} (ha : H a = some (ExA (.ref (ga K d)) a)) (hd : d ∈ xl.ex) (hc : c ∈ xl.ex) (e : under d c = true) (q : Q (.bl true) H) : gIsE K [.ref a, .ref (ga K c)] H Q := T.isE ha hd hc (e ▸ q)
theorem Told.isN (T : Told fa fn xl K mg) {d c : Str} {a : Addr} {H : Hp} {Q : VK} (ha : H a = some (ExA (.ref (ga K d)) a)) (hd : d ∈ xl.ex) (hc : c ∈ xl.ex) (e : under d c = false) (q : Q (.bl false) H) : gIsE K [.ref a, .ref (ga K c)] H Q := T.isE ha hd hc (e ▸ q)
theorem Told.isV (T : Told fa fn xl K mg) {d : Str} {a : Addr} {H : Hp} {Q : VK} (ha : H a = some (ExA (.ref (ga K d)) a)) (hd : d ∈ xl.ex) (q : Q (.bl true) H) : gIsE K [.ref a, .ty "ValueError"] H Q :=
  ⟨_, _, _, ha, (T.err hd).1, .ty _, (T.err hd).2.1, q⟩
end
section
variable {fa : List Fa} {fn : List DefD} {xl : XL} {K : PySem.W.Frag} {mg : Str → Option Value}
/-- an error of class d reaches «except c», c over it -/
theorem Told.caught (T : Told fa fn xl K mg) {d c : Str} {i : Nat} {ts : TS} {Wo : WX} {D : Ends} {σ : L2.St} {H : Hp} (hd : d ∈ xl.ex) (hc : c ∈ xl.ex) (hu : under d c = true)
    (h : ∀ a, H a = none → ts { nx := fun σ' H' => D.nx (σ'.set i none) H', rt := D.rt, bk := fun σ' H' => D.bk (σ'.set i none) H', ct := fun σ' H' => D.ct (σ'.set i none) H' } (σ.set i (some (.ref a))) (upd H a (ExA (.ref (ga K d)) a))) :
    wTr K (.ref (ga K c)) i ts Wo D (.ref (ga K d)) none σ H :=
  ⟨true, by rw [((T.err hd).2.2 c hc).2, hu], fun _ => ⟨rfl, h⟩, fun z => by cases z⟩
end
/-- the function object at f -/
def fdAt (K : PySem.W.Frag) (f : Addr) : FuncData := match K.lookup f with
  | some ⟨_, _, .func fd, _⟩ => fd
  | _ => PySem.W.fnOf "" "" { posonlyargs := [], args := [], vararg := none, kwonlyargs := [], kw_defaults := [], kwarg := none, defaults := [] } [] { kind := .function, names := [], isGenerator := false, isCoroutine := false } .none .none .none .none none .none .none
theorem fdAt_of {K : PySem.W.Frag} {x qual : Str} {params : Arguments} {body : List Stmt} {scope : Scope} {dvs : List V} {kws : List (Str × V)} {f : Addr} {fd : FuncData} (F : FunD K x qual params body scope dvs kws f fd) : fd = fdAt K f := by
  obtain ⟨oc, od, dV, kV, doc, pm, an, cdv, ct, osl, rfl, lk, -⟩ := F.ex
  unfold fdAt
  rw [lk]
/-- every argument is given -/
def Bnd (fd : FuncData) (ps : List Str) : Prop := ∀ (s : Shared) (us : List Value), us.length = ps.length → BindsTo s fd ⟨us, []⟩ (ps.zip us)
theorem Bnd.to {K : PySem.W.Frag} {fd : FuncData} {ps : List Str} (b : Bnd fd ps) : Binds K fd ps [] := fun s us _ hl => by
  rw [List.append_nil] at hl ⊢
  exact b s us hl
/-- a def of the module: its promise sp -/
structure Fn (P : Program) (w : World) (K : PySem.W.Frag) (mg : Str → Option Value) (base : Heap) (k : Nat) (x : Str) (ps : List Str) (sp : Sp) : Prop where
  ok : FnOk P w K mg base (L2.CX P w) k (ga K x) (fdAt K (ga K x)) ps sp
  bd : Bnd (fdAt K (ga K x)) ps
  kp : PySem.W.keepIn K (.ref (ga K x)) = true
  at_ : mg x = some (.ref (ga K x))
/-- nothing is raised -/
theorem quiet {P : Program} {w : World} {K : PySem.W.Frag} {mg : Str → Option Value} {base : Heap} {k : Nat} {f : Addr} {fd : FuncData} {ps : List Str} {sp : Sp} (F : FnOk P w K mg base (L2.CX P w) k f fd ps sp) (h0 : ∀ vs H Q E, sp vs H Q E → sp vs H Q E0) : FnOk P w K mg base CX0 k f fd ps sp :=
  ⟨F.len, fun A outer s H args us vs Q E hr e0 hb r hsp => codeAny_mono (F.run A outer s H args us vs Q E0 hr e0 hb r (h0 _ _ _ _ hsp)) fun r s' hq => by
    cases r with
    | error e =>
      obtain ⟨_, _, _, _, _, _, _, _, _, _, _, _, y⟩ := hq
      exact y.elim
    | ok fl => cases fl with
      | ret u => exact hq
      | next => exact hq.elim
      | brk => exact hq.elim
      | cont => exact hq.elim⟩
/-- .. that may be called in an except suite, too -/
structure FnH (P : Program) (w : World) (K : PySem.W.Frag) (mg : Str → Option Value) (base : Heap) (k : Nat) (x : Str) (ps : List Str) (sp : Sp) : Prop where
  ok : FnN P w K mg base k (ga K x) (fdAt K (ga K x)) ps sp
  bd : Bnd (fdAt K (ga K x)) ps
  kp : PySem.W.keepIn K (.ref (ga K x)) = true
  at_ : mg x = some (.ref (ga K x))
section
variable {fa : List Fa} {fn : List DefD} {xl : XL} {P : Program} {w : World} {K : PySem.W.Frag} {mg : Str → Option Value} {base : Heap}
theorem Told.mkFn (T : Told fa fn xl K mg) (i j : Nat) {d : DefD} {x : Str} {N ps : List Str} {k : Nat} {sp : Sp} (hd : fn[i]? = some d) (hx : d.at_ = (x, none)) (h0 : d.dfl = []) (h1 : d.kwd = []) (hg : fa[j]? = some (.glo x)) (S : FnScope N ps d.scope)
    (bnd : ∀ (kV doc pm : Value) (an : Option Addr) (cdv ct : Value) (us : List Value), us.length = ps.length → bindArgs (PySem.W.fnOf d.name d.qual d.params d.body d.scope .none kV doc pm an cdv ct) ⟨us, []⟩ = pure (ps.zip us))
    (len : ∀ vs H Q E, sp vs H Q E → vs.length = ps.length)
    (body : ∀ (cdv : Value) (A : Around) (outer : List Env) (s : Shared) (H : Hp) (vs : List V) (Q : VK) (E : XK), Room k (A.deeper (envOfC d.qual d.scope s.heap.objs.size (ga K x) cdv)) → sp vs H Q E →
      ∃ t, PSs (cxOf (L2.CX P w) P w K mg base N d.qual d.scope (ga K x) cdv A outer s H E) d.body t ∧ t { nx := fun _ H' => Q .non H', rt := Q } (start N vs) H) : Fn P w K mg base (k + 1) x ps sp := by
  obtain ⟨fd, F⟩ := T.says.def_ i hd
  have e : fAd K d.at_ = ga K x := by rw [hx]; rfl
  have e0 : d.dvs K = [] := by unfold DefD.dvs; rw [h0]; rfl
  have e1 : d.kws K = [] := by unfold DefD.kws; rw [h1]; rfl
  rw [e, e0, e1] at F
  have ef := fdAt_of F
  subst ef
  exact ⟨F.ok S len body, F.bindsA bnd, F.kp, T.glo j hg⟩
theorem Told.mkFnH (T : Told fa fn xl K mg) (i j : Nat) {d : DefD} {x : Str} {N ps : List Str} {k : Nat} {sp : Sp} (hd : fn[i]? = some d) (hx : d.at_ = (x, none)) (h0 : d.dfl = []) (h1 : d.kwd = []) (hg : fa[j]? = some (.glo x)) (S : FnScope N ps d.scope)
    (bnd : ∀ (kV doc pm : Value) (an : Option Addr) (cdv ct : Value) (us : List Value), us.length = ps.length → bindArgs (PySem.W.fnOf d.name d.qual d.params d.body d.scope .none kV doc pm an cdv ct) ⟨us, []⟩ = pure (ps.zip us))
    (len : ∀ vs H Q E, sp vs H Q E → vs.length = ps.length)
    (body : ∀ (cdv : Value) (A : Around) (outer : List Env) (s : Shared) (H : Hp) (vs : List V) (Q : VK), RoomN k (A.deeper (envOfC d.qual d.scope s.heap.objs.size (ga K x) cdv)) → sp vs H Q E0 →
      ∃ t, PSs (cxN P w K mg base N d.qual d.scope (ga K x) cdv A outer s H) d.body t ∧ t { nx := fun _ H' => Q .non H', rt := Q } (start N vs) H) : FnH P w K mg base (k + 1) x ps sp := by
  obtain ⟨fd, F⟩ := T.says.def_ i hd
  have e : fAd K d.at_ = ga K x := by rw [hx]; rfl
  have e0 : d.dvs K = [] := by unfold DefD.dvs; rw [h0]; rfl
  have e1 : d.kws K = [] := by unfold DefD.kws; rw [h1]; rfl
  rw [e, e0, e1] at F
  have ef := fdAt_of F
  subst ef
  exact ⟨fn_ofN F S len body, F.bindsA bnd, F.kp, T.glo j hg⟩
end
section
variable {X : Cx} {k : Nat} {ps : List Str} {sp : Sp} {W : WX} {x : Str} {p pos : Pos} {e : Expr} {es : List Expr} {t : TA}
theorem pe_fn (tk : Takes X W) (F : Fn X.prog X.w X.K X.mg X.base k x ps sp) (hr : Room k X.A) (hg : Gl X x) (ha : PA X (e :: es) t) (hdb : (x == ("__debug__" : Str)) = false := by decide)
    (he : starEach (e :: es) X.env = (false, eval e X.env) :: starEach es X.env := by rfl) (hpl : (backTo pos (starEach es X.env)).any (·.1) = false := by rfl) : PE X (.Call (.Name x p) (e :: es) [] pos) (tCallW sp W t) := by
  exact pe_callW tk F.ok hr hg F.at_ F.kp F.bd.to ha hdb he hpl
theorem pe_fn0 (tk : Takes X W) (F : Fn X.prog X.w X.K X.mg X.base k x ps sp) (hr : Room k X.A) (hg : Gl X x) (hdb : (x == ("__debug__" : Str)) = false := by decide) : PE X (.Call (.Name x p) [] [] pos) (tCallW sp W tNil) := by
  exact pe_callW0 tk F.ok hr hg F.at_ F.kp F.bd.to hdb
theorem pe_fnH (F : FnH X.prog X.w X.K X.mg X.base k x ps sp) (hr : RoomN k X.A) (hg : Gl X x) (ha : PA X (e :: es) t) (hdb : (x == ("__debug__" : Str)) = false := by decide)
    (he : starEach (e :: es) X.env = (false, eval e X.env) :: starEach es X.env := by rfl) (hpl : (backTo pos (starEach es X.env)).any (·.1) = false := by rfl) : PE X (.Call (.Name x p) (e :: es) [] pos) (tCallN sp t) := by
  exact pe_callN F.ok hr hg F.at_ F.kp F.bd.to ha hdb he hpl
theorem call_gLen : CallR X (.builtin "len") (L2.rLen X.K) := call_len
theorem call_lenK {K : PySem.W.Frag} (hK : X.K = K) : CallR X (.builtin "len") (L2.rLen K) := hK ▸ call_len
theorem op_eqK {K : PySem.W.Frag} (hK : X.K = K) (hu : X.A.units + 64 < cLine) : OpR X (compareOp .Eq) (gEq K) := hK ▸ op_gEq hu
theorem op_neK {K : PySem.W.Frag} (hK : X.K = K) (hu : X.A.units + 64 < cLine) : OpR X (compareOp .NotEq) (gNe K) := hK ▸ op_gNe hu
theorem ix_seqK {K : PySem.W.Frag} (hK : X.K = K) : IxR X (rIx K) := hK ▸ ix_seq
theorem call_isEK {K : PySem.W.Frag} (hK : X.K = K) : CallR X (.builtin "isinstance") (gIsE K) := hK ▸ call_gIsE
theorem sl_listK {K : PySem.W.Frag} (hK : X.K = K) : SlR X (rSlL K) := hK ▸ sl_list
theorem pi_listK {K : PySem.W.Frag} {tg l : Expr} {tl : TE} (hK : X.K = K) (h : PE X l tl) : PI X tg l (iList K tl) := hK ▸ pi_list h
def rListG (K : PySem.W.Frag) : List V → Hp → VK → Prop := fun xs H Q => ∃ p ys, xs = [.ref p] ∧ (SqL K H p ys ∨ SqT K H p ys) ∧ ∀ l, H l = none → Q (.ref l) (upd H l (.lst ys))
theorem call_listK {K : PySem.W.Frag} (hK : X.K = K) : CallR X (.type "list") (rListG K) := hK ▸ call_list_of
theorem pe_clsK {K : PySem.W.Frag} (hK : X.K = K) (h : X.mg x = some (.ref (ga K x))) (hg : Gl X x) (hdb : (x == ("__debug__" : Str)) = false := by decide) : PE X (.Name x pos) (tC (.ref (ga K x))) := pe_glob hg h rfl hdb
/-- a constant of the module -/
theorem pe_num {n : Int} (h : ∃ t, X.mg x = some (.int n t)) (hg : Gl X x) (hdb : (x == ("__debug__" : Str)) = false := by decide) : PE X (.Name x pos) (tC (.int n)) := by
  obtain ⟨t, e⟩ := h
  exact pe_glob hg e ⟨t, rfl⟩ hdb
theorem pe_txt {z : Str} (h : ∃ t, X.mg x = some (.str z t)) (hg : Gl X x) (hdb : (x == ("__debug__" : Str)) = false := by decide) : PE X (.Name x pos) (tC (.str z)) := by
  obtain ⟨t, e⟩ := h
  exact pe_glob hg e ⟨t, rfl⟩ hdb
/-- a class of the module as a value; a built-in class -/
theorem pe_cls (h : X.mg x = some (.ref (ga X.K x))) (hg : Gl X x) (hdb : (x == ("__debug__" : Str)) = false := by decide) : PE X (.Name x pos) (tC (.ref (ga X.K x))) := pe_glob hg h rfl hdb
theorem pe_ty {T : String} (hm : X.mg x = none) (hv : bootBuiltins x = some (.type T)) (hg : Gl X x) (hn : x ≠ "__name__" := by decide) (hdb : (x == ("__debug__" : Str)) = false := by decide) : PE X (.Name x pos) (tC (.ty T)) := pe_bltn hg hm hv rfl hn hdb
/-- raise C('..') -/
def tRaise (C : Addr) (W : WX) : TS := fun _ σ H => W (.ref C) none σ H
theorem ps_raiseK {K : PySem.W.Frag} {m : Str} {j : Nat} {p2 pos2 : Pos} (hK : X.K = K) (hc : X.calm = true) (tk : Takes X W) (h : (Fa.exc x).ok K = true) (hm : X.mg x = some (.ref (ga K x))) (hg : Gl X x) (hdb : (x == ("__debug__" : Str)) = false := by decide) :
    PS X (.Raise (some (.Call (.Name x p) [.Constant (.str m) j p2] [] pos)) none pos2) (tRaise (ga K x) W) := by
  subst hK
  obtain ⟨h1, h2, h3, h4⟩ := He.exc_ok h
  exact ps_raise hc tk (pmk_own PySem.F.excBase_ValueError h1 hm h2 (raises_own h3 h4) hg hdb)
theorem ps_raiseW {m : Str} {j : Nat} {p2 pos2 : Pos} (hc : X.calm = true) (tk : Takes X W) (h : (Fa.exc x).ok X.K = true) (hm : X.mg x = some (.ref (ga X.K x))) (hg : Gl X x) (hdb : (x == ("__debug__" : Str)) = false := by decide) :
    PS X (.Raise (some (.Call (.Name x p) [.Constant (.str m) j p2] [] pos)) none pos2) (tRaise (ga X.K x) W) := by
  obtain ⟨h1, h2, h3, h4⟩ := He.exc_ok h
  exact ps_raise hc tk (pmk_own PySem.F.excBase_ValueError h1 hm h2 (raises_own h3 h4) hg hdb)
end

/-! ## readings, step by step -/
section
variable {σ : L2.St} {H : Hp} {Q : VK} {QT : Bool → Hp → Prop} {QA : List V → Hp → Prop} {D : Ends} {v x y z : V} {i : Nat} {o : Option V} {ta tb te tc : TE} {t u c : TT} {ts us : TS} {as : TA} {r r' : R2} {g : TG} {b : Bool}
theorem x_K {CX : CXT} {P : Program} {w : World} {K : PySem.W.Frag} {mg : Str → Option Value} {base : Heap} {N : List Str} {qual : Str} {scope : Scope} {f : Addr} {cd : Value} {A : Around} {outer : List Env} {s : Shared} {E : XK} : (cxOf CX P w K mg base N qual scope f cd A outer s H E).K = K := rfl
theorem x_var0 : tVar 0 (some v :: σ) H Q = Q v H := propext ⟨fun ⟨_, e, q⟩ => by cases e; exact q, fun q => ⟨v, rfl, q⟩⟩
theorem x_varS : tVar (i + 1) (o :: σ) H Q = tVar i σ H Q := rfl
theorem x_c : tC v σ H Q = Q v H := rfl
theorem x_op : tOp r ta tb σ H Q = ta σ H fun x H1 => tb σ H1 fun y H2 => r x y H2 Q := rfl
theorem x_un {r : V → Hp → VK → Prop} : tUn r ta σ H Q = ta σ H fun x H1 => r x H1 Q := rfl
theorem x_cb {r : List V → Hp → VK → Prop} : tCB r as σ H Q = as σ H fun vs H1 => r vs H1 Q := rfl
theorem x_nil : tNil σ H QA = QA [] H := rfl
theorem x_cons : tCons te as σ H QA = te σ H fun x H1 => as σ H1 fun xs H2 => QA (x :: xs) H2 := rfl
theorem x_test : tTest te σ H QT = te σ H fun x H1 => ∃ k, x = .bl k ∧ QT k H1 := rfl
theorem x_b : tB te σ H QT = te σ H fun x H1 => ∃ k, x = .bl k ∧ QT k H1 := rfl
theorem x_ex {P : Bool → Prop} : (∃ k, V.bl b = .bl k ∧ P k) = P b := propext ⟨fun ⟨_, e, q⟩ => by cases e; exact q, fun q => ⟨b, rfl, q⟩⟩
theorem x_and : tAnd t u σ H QT = t σ H fun c H1 => if c = true then u σ H1 QT else QT false H1 := rfl
theorem x_or : tOr t u σ H QT = t σ H fun c H1 => if c = true then QT true H1 else u σ H1 QT := rfl
theorem x_not : tNot t σ H QT = t σ H fun c H1 => QT (!c) H1 := rfl
theorem x_andV : tAndV ta tb σ H Q = ta σ H fun x H1 => ∃ c, x = .bl c ∧ if c = true then tb σ H1 Q else Q (.bl false) H1 := rfl
theorem x_orV : tOrV ta tb σ H Q = ta σ H fun x H1 => ∃ c, x = .bl c ∧ if c = true then Q (.bl true) H1 else tb σ H1 Q := rfl
theorem x_notV : tNotV ta σ H Q = ta σ H fun x H1 => ∃ c, x = .bl c ∧ Q (.bl (!c)) H1 := rfl
theorem x_tif : tIf t ta tb σ H Q = t σ H fun c H1 => if c = true then ta σ H1 Q else tb σ H1 Q := rfl
theorem x_chain : tChain r r' ta tb tc σ H Q = ta σ H fun x H1 => tb σ H1 fun y H2 => r x y H2 fun z H3 => ∃ k, z = .bl k ∧ (if k = true then tc σ H3 fun u H4 => r' y u H4 Q else Q (.bl false) H3) := rfl
theorem x_menu : tMenu as te σ H Q = as σ H fun xs H1 => xs.length ≤ sizeLine ∧ te σ H1 fun y H2 => ∃ i v, y = .int i ∧ atI xs i = some v ∧ Q v H2 := rfl
theorem x_menuI {xs : List V} {n : Int} {P : V → Prop} : (∃ i v, V.int n = .int i ∧ atI xs i = some v ∧ P v) = ∃ v, atI xs n = some v ∧ P v := propext ⟨fun ⟨_, w, e, q⟩ => by cases e; exact ⟨w, q⟩, fun ⟨w, q⟩ => ⟨n, w, rfl, q⟩⟩
theorem x_lst : tLst as σ H Q = as σ H fun xs H1 => xs.length ≤ sizeLine ∧ ∀ p, H1 p = none → Q (.ref p) (upd H1 p (.lst xs)) := rfl
theorem x_tup : tTup as σ H Q = as σ H fun xs H1 => xs.length ≤ sizeLine ∧ ∀ p, H1 p = none → Q (.ref p) (upd H1 p (.tup xs)) := rfl
theorem x_dnew : tDNewK σ H Q = ∀ p, H p = none → Q (.ref p) (upd H p (.dK [])) := rfl
theorem x_callW {sp : Sp} {W : WX} : tCallW sp W as σ H Q = as σ H fun vs H1 => sp vs H1 Q fun c d H2 => W c d σ H2 := rfl
theorem x_callN {sp : Sp} : tCallN sp as σ H Q = as σ H fun vs H1 => sp vs H1 Q E0 := rfl
theorem x_seq : tSeq ts us D σ H = ts { D with nx := us D } σ H := rfl
theorem x_next : tNext D σ H = D.nx σ H := rfl
theorem x_ret : tRet te D σ H = te σ H D.rt := rfl
theorem x_retN : tRetN D σ H = D.rt .non H := rfl
theorem x_drop : tDrop te D σ H = te σ H fun _ H1 => D.nx σ H1 := rfl
theorem x_ifS : tIfS c ts us D σ H = c σ H fun b H1 => if b = true then ts D σ H1 else us D σ H1 := rfl
theorem x_asg : tAsg te g D σ H = te σ H fun x H1 => g x σ H1 D.nx := rfl
theorem x_name {N : L2.St → Hp → Prop} : gName i v σ H N = N (σ.set i (some v)) H := rfl
theorem x_raise {C : Addr} {W : WX} : tRaise C W D σ H = W (.ref C) none σ H := rfl
theorem x_start {N : List Str} {n : Str} {vs : List V} : start (n :: N) (v :: vs) = some v :: start N vs := by
  unfold L2.start
  simp only [List.map_cons, List.length_cons, List.cons_append, Nat.add_sub_add_right]
theorem x_start0 {N : List Str} : start N [] = List.replicate N.length none := by
  unfold L2.start
  simp
theorem q_str {a b : Str} (q : Q (.str a) H) (e : a = b) : Q (.str b) H := e ▸ q
theorem r_i0 {g : Int → Int → V} {a b : Int} : rI0 g (.int a) (.int b) H Q = Q (g a b) H := propext ⟨fun ⟨_, _, e, e', q⟩ => by cases e; cases e'; exact q, fun q => ⟨a, b, rfl, rfl, q⟩⟩
theorem r_i {C : Int → Int → Prop} {g : Int → Int → V} {a b : Int} : rI C g (.int a) (.int b) H Q = (C a b ∧ Q (g a b) H) := propext ⟨fun ⟨_, _, e, e', q⟩ => by cases e; cases e'; exact q, fun q => ⟨a, b, rfl, rfl, q⟩⟩
theorem r_u {g : Int → V} {a : Int} : rU g (.int a) H Q = Q (g a) H := propext ⟨fun ⟨_, e, q⟩ => by cases e; exact q, fun q => ⟨a, rfl, q⟩⟩
theorem r_addI {a b : Int} : gAdd (.int a) (.int b) H Q = Q (.int (a + b)) H := rfl
theorem r_addS {a b : Str} : gAdd (.str a) (.str b) H Q = (a.length + b.length ≤ sizeLine ∧ Q (.str (a ++ b)) H) := rfl
theorem r_mulI {a b : Int} : gMul (.int a) (.int b) H Q = (((-(2 ^ 64) < a ∧ a < 2 ^ 64) ∨ (-(2 ^ 64) < b ∧ b < 2 ^ 64)) ∧ Q (.int (a * b)) H) := rfl
theorem r_mulS {a : Str} {b : Int} : gMul (.str a) (.int b) H Q = ((b = 0 ∨ b = 1) ∧ Q (.str (if b = 1 then a else Str.empty)) H) := rfl
theorem r_eqI {K : PySem.W.Frag} {a b : Int} : gEq K (.int a) (.int b) H Q = Q (.bl (decide (a = b))) H := by
  show (if true = true then Q (.bl (a == b)) H else rEqD K (.int a) (.int b) H Q) = _
  rw [if_pos (rfl : true = true), Bool.beq_eq_decide_eq]
theorem r_neI {K : PySem.W.Frag} {a b : Int} : gNe K (.int a) (.int b) H Q = Q (.bl (!decide (a = b))) H := by
  show (if true = true then Q (.bl (!(a == b))) H else rNeD K (.int a) (.int b) H Q) = _
  rw [if_pos (rfl : true = true), Bool.beq_eq_decide_eq]
theorem r_eqF {K : PySem.W.Frag} (hx : flatV x = true) (hy : flatV y = true) : gEq K x y H Q = Q (.bl (eqV x y)) H := by unfold gEq; rw [hx, hy]; rfl
theorem r_neF {K : PySem.W.Frag} (hx : flatV x = true) (hy : flatV y = true) : gNe K x y H Q = Q (.bl (!eqV x y)) H := by unfold gNe; rw [hx, hy]; rfl
theorem r_eqS {K : PySem.W.Frag} {a b : Str} : gEq K (.str a) (.str b) H Q = Q (.bl (decide (a = b))) H := by
  show (if true = true then Q (.bl (a == b)) H else rEqD K (.str a) (.str b) H Q) = _
  rw [if_pos (rfl : true = true), Bool.beq_eq_decide_eq]
theorem r_neS {K : PySem.W.Frag} {a b : Str} : gNe K (.str a) (.str b) H Q = Q (.bl (!decide (a = b))) H := by
  show (if true = true then Q (.bl (!(a == b))) H else rNeD K (.str a) (.str b) H Q) = _
  rw [if_pos (rfl : true = true), Bool.beq_eq_decide_eq]
theorem n_ten : Int.natAbs 10 < 18446744073709551616 := by decide
theorem c_div {i j : Int} : CDiv i j = (0 < j ∧ j < 1073741824) := rfl
theorem c_pow {i j : Int} : CPow i j = (0 ≤ j ∧ j ≤ 1000000 ∧ i.natAbs < 2 ^ 64) := rfl
theorem r_absI {a : Int} : gAbs [.int a] H Q = Q (.int (a.natAbs : Int)) H := rfl
theorem r_intI {a : Int} : gInt [.int a] H Q = Q (.int a) H := rfl
theorem r_intB {k : Bool} : gInt [.bl k] H Q = Q (.int (if k then 1 else 0)) H := rfl
theorem r_lenL {K : PySem.W.Frag} {a : Addr} {xs : List V} (h : H a = some (.lst xs)) (q : Q (.int (xs.length : Int)) H) : L2.rLen K [.ref a] H Q := ⟨_, _, rfl, .inl ⟨_, SqL.of h, rfl⟩, q⟩
end
end G
namespace G
open PySem PySem.Spec PyProof.Rows L2
open He (ga ma fAd Fa DefD SaysD)
/-! ## classes of the module: fields, methods, instances -/
section
variable {fa : List Fa} {fn : List DefD} {xl : XL} {K : PySem.W.Frag} {mg : Str → Option Value}
theorem Told.cls (T : Told fa fn xl K mg) (i : Nat) {x : Str} (h : fa[i]? = some (.cls x) := by rfl) : Cls K (ga K x) := He.cls_ok (T.says.fact i h)
theorem Told.noat (T : Told fa fn xl K mg) (i : Nat) {x f : Str} (h : fa[i]? = some (.noat x f) := by rfl) : NoAttr K (ga K x) f := He.noat_ok (T.says.fact i h)
end
/-- x holds v in its field f, an instance of the class at C -/
def FldIs (C : Addr) (f : Str) (x : V) (H : Hp) (v : V) : Prop := ∃ a dx fs, x = .ref a ∧ H a = some (.ins C dx fs) ∧ fs.lookup f = some v
theorem fldIs {C : Addr} {f : Str} {a dx : Addr} {H : Hp} {fs : List (Str × V)} {v : V} (h : H a = some (.ins C dx fs)) (e : fs.lookup f = some v := by rfl) : FldIs C f (.ref a) H v := ⟨a, dx, fs, rfl, h, e⟩
def gFld (C : Addr) (ta : TE) (f : Str) : TE := fun σ H Q => ta σ H fun x H1 => ∃ v, FldIs C f x H1 v ∧ Q v H1
def gSetF (C : Addr) (ta tv : TE) (f : Str) : TS := fun D σ H => tv σ H fun y H1 => ta σ H1 fun x H2 => ∃ a dx fs, x = .ref a ∧ H2 a = some (.ins C dx fs) ∧ fs.length < 1000 ∧ D.nx σ (upd H2 a (.ins C dx (putF f y fs)))
section
variable {X : Cx} {C : Addr} {o e value : Expr} {f : Str} {pos pos' : Pos} {ta tv : TE}
theorem pe_fldC (c : Cls X.K C) (n : NoAttr X.K C f) (he : PE X e ta) (hb : attributeBase e f X.env (eval e X.env) = eval e X.env := by rfl) : PE X (.Attribute e f pos) (gFld C ta f) := by
  refine ⟨fun pins s σ H Q I h => attr_of hb (thn (he.run pins s σ H _ I h) fun u s1 hh => ?_)⟩
  obtain ⟨x, H1, I1, rx, v, ⟨a, dx, fs, ex, ea, l⟩, q⟩ := hh
  subst ex
  obtain rfl : u = Value.ref a := rx
  exact getattr_ok I1 ea c n l fun _ _ I2 ru => ⟨v, H1, I2, ru, q⟩
theorem ps_fldC (c : Cls X.K C) (n : NoAttr X.K C f) (ha : PE X o ta) (hv : PE X value tv) (hs : swapsWith value (some (.Attribute o f pos')) pos.line X.env = pure false := by rfl) : PS X (.Assign [.Attribute o f pos'] value pos) (gSetF C ta tv f) := by
  refine ⟨fun pins s σ H D I h => plainObj_wpAny_Assign_Attribute (thn (hv.run pins s σ H _ I h) fun u s1 hh => ?_) hs⟩
  obtain ⟨y, H1, I1, ry, q⟩ := hh
  refine thn (ha.run pins s1 σ H1 _ I1 q) fun ov s2 h2 => ?_
  obtain ⟨x, H2, I2, rx, a, dx, fs, ex, ea, l, q2⟩ := h2
  subst ex
  obtain rfl : ov = Value.ref a := rx
  exact setattr_ok I2 ea c n l ry fun _ I3 => ⟨σ, _, I3, q2⟩
end
/-- a method of a class of the module: its promise -/
structure Mt (P : Program) (w : World) (K : PySem.W.Frag) (mg : Str → Option Value) (base : Heap) (k : Nat) (C m : Str) (ps : List Str) (sp : Sp) : Prop where
  ok : FnOk P w K mg base (L2.CX P w) k (ma K (ga K C) m) (fdAt K (ma K (ga K C) m)) ps sp
  bd : Bnd (fdAt K (ma K (ga K C) m)) ps
  me : Meth K (ga K C) m (ma K (ga K C) m)
  cl : Cls K (ga K C)
/-- the __init__ of a class -/
structure Mi (P : Program) (w : World) (K : PySem.W.Frag) (mg : Str → Option Value) (base : Heap) (k : Nat) (C : Str) (ps : List Str) (sp : Sp) : Prop where
  ok : FnOk P w K mg base (L2.CX P w) k (ma K (ga K C) "__init__") (fdAt K (ma K (ga K C) "__init__")) ps sp
  bd : Bnd (fdAt K (ma K (ga K C) "__init__")) ps
  mkr : Mk K (ga K C) (ma K (ga K C) "__init__")
  at_ : mg C = some (.ref (ga K C))
section
variable {fa : List Fa} {fn : List DefD} {xl : XL} {P : Program} {w : World} {K : PySem.W.Frag} {mg : Str → Option Value} {base : Heap}
theorem Told.mkAny (T : Told fa fn xl K mg) (i : Nat) {d : DefD} {f : Addr} {N ps : List Str} {k : Nat} {sp : Sp} (hd : fn[i]? = some d) (hx : fAd K d.at_ = f) (h0 : d.dfl = []) (h1 : d.kwd = []) (S : FnScope N ps d.scope)
    (bnd : ∀ (kV doc pm : Value) (an : Option Addr) (cdv ct : Value) (us : List Value), us.length = ps.length → bindArgs (PySem.W.fnOf d.name d.qual d.params d.body d.scope .none kV doc pm an cdv ct) ⟨us, []⟩ = pure (ps.zip us))
    (len : ∀ vs H Q E, sp vs H Q E → vs.length = ps.length)
    (body : ∀ (cdv : Value) (A : Around) (outer : List Env) (s : Shared) (H : Hp) (vs : List V) (Q : VK) (E : XK), Room k (A.deeper (envOfC d.qual d.scope s.heap.objs.size f cdv)) → sp vs H Q E →
      ∃ t, PSs (cxOf (L2.CX P w) P w K mg base N d.qual d.scope f cdv A outer s H E) d.body t ∧ t { nx := fun _ H' => Q .non H', rt := Q } (start N vs) H) : FnOk P w K mg base (L2.CX P w) (k + 1) f (fdAt K f) ps sp ∧ Bnd (fdAt K f) ps := by
  obtain ⟨fd, F⟩ := T.says.def_ i hd
  have e0 : d.dvs K = [] := by unfold DefD.dvs; rw [h0]; rfl
  have e1 : d.kws K = [] := by unfold DefD.kws; rw [h1]; rfl
  rw [hx, e0, e1] at F
  have ef := fdAt_of F
  subst ef
  exact ⟨F.ok S len body, F.bindsA bnd⟩
theorem Told.mkMt (T : Told fa fn xl K mg) (i j l : Nat) {d : DefD} {C m : Str} {N ps : List Str} {k : Nat} {sp : Sp} (hd : fn[i]? = some d) (hx : d.at_ = (C, some m)) (h0 : d.dfl = []) (h1 : d.kwd = []) (hg : fa[j]? = some (.meth C m)) (hc : fa[l]? = some (.cls C)) (S : FnScope N ps d.scope)
    (bnd : ∀ (kV doc pm : Value) (an : Option Addr) (cdv ct : Value) (us : List Value), us.length = ps.length → bindArgs (PySem.W.fnOf d.name d.qual d.params d.body d.scope .none kV doc pm an cdv ct) ⟨us, []⟩ = pure (ps.zip us))
    (len : ∀ vs H Q E, sp vs H Q E → vs.length = ps.length)
    (body : ∀ (cdv : Value) (A : Around) (outer : List Env) (s : Shared) (H : Hp) (vs : List V) (Q : VK) (E : XK), Room k (A.deeper (envOfC d.qual d.scope s.heap.objs.size (ma K (ga K C) m) cdv)) → sp vs H Q E →
      ∃ t, PSs (cxOf (L2.CX P w) P w K mg base N d.qual d.scope (ma K (ga K C) m) cdv A outer s H E) d.body t ∧ t { nx := fun _ H' => Q .non H', rt := Q } (start N vs) H) : Mt P w K mg base (k + 1) C m ps sp := by
  obtain ⟨a, b⟩ := T.mkAny (P := P) (w := w) (base := base) i hd (by rw [hx]; rfl) h0 h1 S bnd len body
  exact ⟨a, b, He.meth_ok (T.says.fact j hg), T.cls l hc⟩
theorem Told.mkMi (T : Told fa fn xl K mg) (i j l : Nat) {d : DefD} {C : Str} {N ps : List Str} {k : Nat} {sp : Sp} (hd : fn[i]? = some d) (hx : d.at_ = (C, some ("__init__" : Str))) (h0 : d.dfl = []) (h1 : d.kwd = []) (hg : fa[j]? = some (.mkr C)) (hc : fa[l]? = some (.glo C)) (S : FnScope N ps d.scope)
    (bnd : ∀ (kV doc pm : Value) (an : Option Addr) (cdv ct : Value) (us : List Value), us.length = ps.length → bindArgs (PySem.W.fnOf d.name d.qual d.params d.body d.scope .none kV doc pm an cdv ct) ⟨us, []⟩ = pure (ps.zip us))
    (len : ∀ vs H Q E, sp vs H Q E → vs.length = ps.length)
    (body : ∀ (cdv : Value) (A : Around) (outer : List Env) (s : Shared) (H : Hp) (vs : List V) (Q : VK) (E : XK), Room k (A.deeper (envOfC d.qual d.scope s.heap.objs.size (ma K (ga K C) "__init__") cdv)) → sp vs H Q E →
      ∃ t, PSs (cxOf (L2.CX P w) P w K mg base N d.qual d.scope (ma K (ga K C) "__init__") cdv A outer s H E) d.body t ∧ t { nx := fun _ H' => Q .non H', rt := Q } (start N vs) H) : Mi P w K mg base (k + 1) C ps sp := by
  obtain ⟨a, b⟩ := T.mkAny (P := P) (w := w) (base := base) i hd (by rw [hx]; rfl) h0 h1 S bnd len body
  exact ⟨a, b, He.mkr_ok (T.says.fact j hg), T.glo l hc⟩
end
/-- x is an instance of the class at C, its attributes none of the name m -/
def Recv (C : Addr) (m : Str) (x : V) (H : Hp) : Prop := ∃ a dx fs, x = .ref a ∧ H a = some (.ins C dx fs) ∧ fs.lookup m = none
theorem recv {C : Addr} {m : Str} {a dx : Addr} {H : Hp} {fs : List (Str × V)} (h : H a = some (.ins C dx fs)) (e : fs.lookup m = none := by rfl) : Recv C m (.ref a) H := ⟨a, dx, fs, rfl, h, e⟩
section
variable {X : Cx} {k : Nat} {C m : Str} {ps : List Str} {sp : Sp} {W : WX} {p pos apos : Pos} {o e : Expr} {es : List Expr} {ta : TE} {t : TA}
def gMeth (C : Addr) (m : Str) (sp : Sp) (W : WX) (ta : TE) (t : TA) : TE := fun σ H Q => ta σ H fun x H1 => Recv C m x H1 ∧ t σ H1 fun vs H2 => sp (x :: vs) H2 Q fun c d H3 => W c d σ H3
theorem pe_mt {pl : Sem Bool} {K : PySem.W.Frag} (hK : X.K = K) (tk : Takes X W) (he : PE X o ta) (F : Mt X.prog X.w K X.mg X.base k C m ps sp) (hr : Room k X.A) (ha : PA X (e :: es) t)
    (hst : starEach (e :: es) X.env = (false, eval e X.env) :: starEach es X.env := by rfl) (hpl : (backTo pos (starEach es X.env)).any (·.1) = false := by rfl)
    (ht : eval (.Call (.Attribute o m apos) (e :: es) [] pos) X.env = (do
      let z ← eval o X.env
      standAt apos.atName
      let (g, one) ← holding [z] (getMethod z m pl)
      callWith pos g one (backTo pos (starEach (e :: es) X.env)) (backToKw pos (keywordEach [] X.env))) := by rfl) :
    PE X (.Call (.Attribute o m apos) (e :: es) [] pos) (gMeth (ga K C) m sp W ta t) := by
  subst hK
  refine ⟨fun pins s σ H Q I h => ?_⟩
  refine PySem.W.methodCall_KW (pl := pl) (thn (he.run pins s σ H _ I h) fun u s1 hh => ?_) ht
  obtain ⟨y, H1, I1, ry, ⟨a, dx, fs, ey, ea, l⟩, q⟩ := hh
  subst ey
  obtain rfl : u = Value.ref a := ry
  refine getmeth_ok I1 ea F.cl F.me l ?_
  refine PySem.W.callWith_K (first := [.ref a]) (h₀ := X.base) I.ok.mod.kin F.me.kp (thn (ha.run pos pins s1 σ H1 _ I1 q) fun us s2 h2 => ?_) hst hpl
  obtain ⟨vs, H2, I2, r, q2⟩ := h2
  exact ⟨I2.kIn, run_fnS (us := .ref a :: us) (vs := .ref a :: vs) (E := WE W) F.ok hr F.bd.to (passAt tk σ) I2 (.cons rfl r) q2⟩
theorem pe_mt0 {pl : Sem Bool} {K : PySem.W.Frag} (hK : X.K = K) (tk : Takes X W) (he : PE X o ta) (F : Mt X.prog X.w K X.mg X.base k C m ps sp) (hr : Room k X.A)
    (ht : eval (.Call (.Attribute o m apos) [] [] pos) X.env = (do
      let z ← eval o X.env
      standAt apos.atName
      let (g, one) ← holding [z] (getMethod z m pl)
      callWith pos g one (backTo pos (starEach [] X.env)) (backToKw pos (keywordEach [] X.env))) := by rfl) :
    PE X (.Call (.Attribute o m apos) [] [] pos) (gMeth (ga K C) m sp W ta tNil) := by
  subst hK
  refine ⟨fun pins s σ H Q I h => ?_⟩
  refine PySem.W.methodCall_KW (pl := pl) (thn (he.run pins s σ H _ I h) fun u s1 hh => ?_) ht
  obtain ⟨y, H1, I1, ry, ⟨a, dx, fs, ey, ea, l⟩, q⟩ := hh
  subst ey
  obtain rfl : u = Value.ref a := ry
  refine getmeth_ok I1 ea F.cl F.me l ?_
  exact PySem.W.callWith_K0 (first := [.ref a]) I1.kIn F.me.kp (run_fnS (us := [.ref a]) (vs := [.ref a]) (E := WE W) F.ok hr F.bd.to (passAt tk σ) I1 (.cons rfl .nil) q)
theorem pe_mk {K : PySem.W.Frag} (hK : X.K = K) (tk : Takes X W) (F : Mi X.prog X.w K X.mg X.base k C ps sp) (hr : Room (k + 1) X.A) (hg : Gl X C) (ha : PA X (e :: es) t) (hdb : (C == ("__debug__" : Str)) = false := by decide)
    (he : starEach (e :: es) X.env = (false, eval e X.env) :: starEach es X.env := by rfl) (hpl : (backTo pos (starEach es X.env)).any (·.1) = false := by rfl) : PE X (.Call (.Name C p) (e :: es) [] pos) (tMakeW (ga K C) sp W t) := by
  subst hK
  exact pe_makeW tk F.mkr F.ok hr hg F.at_ F.bd.to ha hdb he hpl
theorem pe_mk0 {K : PySem.W.Frag} (hK : X.K = K) (tk : Takes X W) (F : Mi X.prog X.w K X.mg X.base k C ps sp) (hr : Room (k + 1) X.A) (hg : Gl X C) (hdb : (C == ("__debug__" : Str)) = false := by decide) : PE X (.Call (.Name C p) [] [] pos) (tMakeW (ga K C) sp W tNil) := by
  subst hK
  exact pe_makeW0 tk F.mkr F.ok hr hg F.at_ F.bd.to hdb
/-- least, greatest of two -/
def gMin : List V → Hp → VK → Prop
  | [.int i, .int j], H, Q => Q (.int (min i j)) H
  | _, _, _ => False
def gMax : List V → Hp → VK → Prop
  | [.int i, .int j], H, Q => Q (.int (max i j)) H
  | _, _, _ => False
theorem call_gMin (hc : X.calm = true) : CallR X (.builtin "min") gMin := by
  intro pins s σ H xs us Q I r h
  unfold gMin at h
  split at h
  · rename_i i j
    refine call_min2 hc pins s σ _ _ us Q I r ⟨i, j, rfl, ?_⟩
    have e : (if j < i then j else i) = min i j := by split <;> omega
    rw [e]
    exact h
  · exact h.elim
theorem call_gMax (hc : X.calm = true) : CallR X (.builtin "max") gMax := by
  intro pins s σ H xs us Q I r h
  unfold gMax at h
  split at h
  · rename_i i j
    refine call_max2 hc pins s σ _ _ us Q I r ⟨i, j, rfl, ?_⟩
    have e : (if j > i then j else i) = max i j := by split <;> omega
    rw [e]
    exact h
  · exact h.elim
end
section
variable {σ : L2.St} {H : Hp} {Q : VK} {D : Ends} {C : Addr} {f m : Str} {ta tv : TE} {as : TA} {sp : Sp} {W : WX} {a b : Int} {y x i : V} {S : TSet}
theorem x_fld : gFld C ta f σ H Q = ta σ H fun x H1 => ∃ v, FldIs C f x H1 v ∧ Q v H1 := rfl
theorem x_setF : gSetF C ta tv f D σ H = tv σ H fun y H1 => ta σ H1 fun x H2 => ∃ a dx fs, x = .ref a ∧ H2 a = some (.ins C dx fs) ∧ fs.length < 1000 ∧ D.nx σ (upd H2 a (.ins C dx (putF f y fs))) := rfl
theorem x_meth : gMeth C m sp W ta as σ H Q = ta σ H fun x H1 => Recv C m x H1 ∧ as σ H1 fun vs H2 => sp (x :: vs) H2 Q fun c d H3 => W c d σ H3 := rfl
theorem x_make : tMakeW C sp W as σ H Q = as σ H fun vs H1 => ∀ x dx, H1 x = none → H1 dx = none → dx ≠ x → sp (.ref x :: vs) (upd (upd H1 dx (.own x)) x (.ins C dx [])) (fun v H2 => v = .non ∧ Q (.ref x) H2) fun c d H3 => W c d σ H3 := rfl
theorem x_sub {to ti : TE} {N : L2.St → Hp → Prop} : gSub to ti S y σ H N = to σ H fun o H1 => ti σ H1 fun i H2 => S o i y H2 fun H3 => N σ H3 := rfl
theorem r_min : gMin [.int a, .int b] H Q = Q (.int (min a b)) H := rfl
theorem r_max : gMax [.int a, .int b] H Q = Q (.int (max a b)) H := rfl
/-- a store to a list at i -/
theorem r_setL {p : Addr} {xs : List V} {k : Int} {N : Hp → Prop} (h : H p = some (.lst xs)) (h0 : 0 ≤ k) (h1 : k < xs.length) (q : N (upd H p (.lst (xs.set k.toNat y)))) : rSetL (.ref p) (.int k) y H N :=
  ⟨p, xs, k, k.toNat, rfl, rfl, h, by unfold ixN; rw [if_pos h0, if_pos h1], q⟩
end
end G
namespace G
open PySem PySem.Spec PyProof.Rows L2
/-! ## comprehensions whose parts leave the heap as it is -/
section
variable {σ : L2.St} {vs : List Nat} {H1 : Hp} {D : Addr} {Qd : Hp → Prop} {te : TE} {tt : TT} {k : Nat} {f : Nat → V} {K : PySem.W.Frag} {a : Addr} {xs : List V}
theorem tYes_on {σ2 : L2.St} {H : Hp} {A B : Hp → Prop} (h : A H) : tYes σ2 H fun b H3 => if b = true then A H3 else B H3 := by
  show (if true = true then A H else B H)
  rw [if_pos (rfl : true = true)]
  exact h
/-- [e for x in range(..)] -/
theorem lc_mapR {lo : Int} {n : Nat} (f : Nat → V) (hw : ∀ v, wipe ((wipe σ vs).set k (some v)) vs = wipe σ vs) (hn : n ≤ sizeLine)
    (he : ∀ i, i < n → ∀ acc (Q : VK), Q (f i) (upd H1 D (.lst acc)) → te ((wipe σ vs).set k (some (.int (lo + i)))) (upd H1 D (.lst acc)) Q) (hd : Qd (upd H1 D (.lst ((List.range n).map f)))) :
    ∃ W : Nat → Nat → Hp → Prop, (∃ m, W 0 m (upd H1 D (.lst []))) ∧ ∀ i m H, W i m H →
      ((Itr lo n).stop i H ∧ Qd H) ∨ ((Itr lo n).go i H ∧ ∃ Nx : Hp → Prop, (∀ H', Nx H' → ∃ m', m' < m ∧ W (i + 1) m' H') ∧ ∀ x H', (Itr lo n).yld i H x H' → gName k x (wipe σ vs) H' fun σ2 H2 => wipe σ2 vs = wipe σ vs ∧ tYes σ2 H2 fun b H3 =>
        if b = true then te σ2 H3 fun y H4 => ∃ acc, H4 D = some (.lst acc) ∧ acc.length < sizeLine ∧ Nx (upd H4 D (.lst (acc ++ [y]))) else Nx H3) := by
  refine lc_range (Qd := Qd) (fun i H => H = upd H1 D (.lst ((List.range i).map f))) rfl ?_ fun H e => by rw [e]; exact hd
  rintro i H hi rfl
  refine ⟨hw _, tYes_on (he i hi _ _ ⟨_, upd_same, by rw [List.length_map, List.length_range]; omega, ?_⟩)⟩
  rw [upd_upd, List.range_succ, List.map_append]
  rfl
/-- [e for x in xs] -/
theorem lc_mapL {ys : List V} (hw : ∀ v, wipe ((wipe σ vs).set k (some v)) vs = wipe σ vs) (hl : ∀ acc, SqL K (upd H1 D (.lst acc)) a xs) (hn : xs.length ≤ sizeLine) (hy : ys.length = xs.length)
    (he : ∀ (i : Nat) (x y : V), xs[i]? = some x → ys[i]? = some y → ∀ acc (Q : VK), Q y (upd H1 D (.lst acc)) → te ((wipe σ vs).set k (some x)) (upd H1 D (.lst acc)) Q) (hd : Qd (upd H1 D (.lst ys))) :
    ∃ W : Nat → Nat → Hp → Prop, (∃ m, W 0 m (upd H1 D (.lst []))) ∧ ∀ i m H, W i m H →
      ((Itl K a).stop i H ∧ Qd H) ∨ ((Itl K a).go i H ∧ ∃ Nx : Hp → Prop, (∀ H', Nx H' → ∃ m', m' < m ∧ W (i + 1) m' H') ∧ ∀ x H', (Itl K a).yld i H x H' → gName k x (wipe σ vs) H' fun σ2 H2 => wipe σ2 vs = wipe σ vs ∧ tYes σ2 H2 fun b H3 =>
        if b = true then te σ2 H3 fun y H4 => ∃ acc, H4 D = some (.lst acc) ∧ acc.length < sizeLine ∧ Nx (upd H4 D (.lst (acc ++ [y]))) else Nx H3) := by
  refine lc_list (Qd := Qd) (xs := xs) (fun i H => H = upd H1 D (.lst (ys.take i))) (by rfl) (fun i H _ e => by rw [e]; exact hl _) ?_ fun H e => by
    rw [e, ← hy, List.take_length]
    exact hd
  rintro i x H hi rfl
  have hlt : i < ys.length := by rw [hy]; exact (List.getElem?_eq_some_iff.mp hi).1
  refine ⟨hw _, tYes_on (he i x ys[i] hi (List.getElem?_eq_getElem hlt) _ _ ⟨_, upd_same, by rw [List.length_take]; omega, ?_⟩)⟩
  rw [upd_upd, List.take_succ_eq_append_getElem hlt]
/-- [e for x in xs if t], ys the kept ones, by the places of what is kept -/
theorem lc_iffL {g : V → Option V} (hw : ∀ v, wipe ((wipe σ vs).set k (some v)) vs = wipe σ vs) (hl : ∀ acc, SqL K (upd H1 D (.lst acc)) a xs) (hn : xs.length ≤ sizeLine)
    (he : ∀ (i : Nat) (x : V), xs[i]? = some x → ∀ acc (N : Bool → Hp → Prop), ((g x).isSome = true → N true (upd H1 D (.lst acc))) → ((g x).isSome = false → N false (upd H1 D (.lst acc))) → tt ((wipe σ vs).set k (some x)) (upd H1 D (.lst acc)) N)
    (hy : ∀ (i : Nat) (x y : V), xs[i]? = some x → g x = some y → ∀ acc (Q : VK), Q y (upd H1 D (.lst acc)) → te ((wipe σ vs).set k (some x)) (upd H1 D (.lst acc)) Q) (hd : Qd (upd H1 D (.lst (xs.filterMap g)))) :
    ∃ W : Nat → Nat → Hp → Prop, (∃ m, W 0 m (upd H1 D (.lst []))) ∧ ∀ i m H, W i m H →
      ((Itl K a).stop i H ∧ Qd H) ∨ ((Itl K a).go i H ∧ ∃ Nx : Hp → Prop, (∀ H', Nx H' → ∃ m', m' < m ∧ W (i + 1) m' H') ∧ ∀ x H', (Itl K a).yld i H x H' → gName k x (wipe σ vs) H' fun σ2 H2 => wipe σ2 vs = wipe σ vs ∧ tt σ2 H2 fun b H3 =>
        if b = true then te σ2 H3 fun y H4 => ∃ acc, H4 D = some (.lst acc) ∧ acc.length < sizeLine ∧ Nx (upd H4 D (.lst (acc ++ [y]))) else Nx H3) := by
  refine lc_list (Qd := Qd) (xs := xs) (fun i H => H = upd H1 D (.lst ((xs.take i).filterMap g))) (by rfl) (fun i H _ e => by rw [e]; exact hl _) ?_ fun H e => by
    rw [e, List.take_length]
    exact hd
  rintro i x H hi rfl
  have hlt : i < xs.length := (List.getElem?_eq_some_iff.mp hi).1
  have ex : xs[i] = x := by rw [List.getElem?_eq_getElem hlt] at hi; exact Option.some.inj hi
  have small : ((xs.take i).filterMap g).length < sizeLine := Nat.lt_of_le_of_lt (List.length_filterMap_le _ _) (by rw [List.length_take]; omega)
  refine ⟨hw _, he i x hi _ _ (fun c => ?_) fun c => ?_⟩
  · obtain ⟨y, ey⟩ := Option.isSome_iff_exists.mp c
    rw [if_pos (rfl : true = true)]
    refine hy i x y hi ey _ _ ⟨_, upd_same, small, ?_⟩
    rw [upd_upd, List.take_succ_eq_append_getElem hlt, List.filterMap_append, ex]
    simp only [List.filterMap_cons, ey, List.filterMap_nil]
  · rw [if_neg Bool.false_ne_true, List.take_succ_eq_append_getElem hlt, List.filterMap_append, ex]
    have e0 : g x = none := by cases e : g x with
      | none => rfl
      | some y => rw [e] at c; cases c
    simp only [List.filterMap_cons, e0, List.filterMap_nil, List.append_nil]
end
/-- a statement, then the rest, by what holds between them -/
def tCut (t u : TS) : TS := fun D σ H => ∃ M : L2.St → Hp → Prop, t { D with nx := M } σ H ∧ ∀ σ' H', M σ' H' → u D σ' H'
theorem pss_cut {X : Cx} {st : Stmt} {rest : List Stmt} {t u : TS} (h1 : PS X st t) (h2 : PSs X rest u) : PSs X (st :: rest) (tCut t u) := by
  refine ⟨fun pins s σ H D I h => ?_⟩
  obtain ⟨M, a, b⟩ := h
  refine wpAny_execs_cons (thn (h1.run pins s σ H { D with nx := M } I a) fun f s1 q => ?_)
  cases f with
  | next => exact q.elim fun σ1 z => z.elim fun H1 y => h2.run pins s1 σ1 H1 D y.1 (b σ1 H1 y.2)
  | ret v => exact q
  | brk => exact q
  | cont => exact q
/-- what is wanted of a loop over J; of a comprehension -/
def ForW (J : It) (g : TG) (tb : TS) (D : Ends) (σ : L2.St) (H : Hp) : Prop := ∃ W : Nat → Nat → L2.St → Hp → Prop, (∃ m, W 0 m σ H) ∧ ∀ i m σ H, W i m σ H →
  (J.stop i H ∧ D.nx σ H) ∨ (J.go i H ∧ ∃ N : L2.St → Hp → Prop, (∀ σ' H', N σ' H' → ∃ m', m' < m ∧ W (i + 1) m' σ' H') ∧ ∀ x H', J.yld i H x H' → g x σ H' fun σ2 H2 => tb { D with nx := N, ct := N, bk := D.nx } σ2 H2)
def LcW (J : It) (g : TG) (tt : TT) (te : TE) (vs : List Nat) (σ : L2.St) (H1 : Hp) (Q : VK) : Prop := ∀ D, H1 D = none → ∃ W : Nat → Nat → Hp → Prop, (∃ m, W 0 m (upd H1 D (.lst []))) ∧ ∀ i m H, W i m H →
  (J.stop i H ∧ Q (.ref D) H) ∨ (J.go i H ∧ ∃ Nx : Hp → Prop, (∀ H', Nx H' → ∃ m', m' < m ∧ W (i + 1) m' H') ∧ ∀ x H', J.yld i H x H' → g x (wipe σ vs) H' fun σ2 H2 => wipe σ2 vs = wipe σ vs ∧ tt σ2 H2 fun b H3 =>
    if b = true then te σ2 H3 fun y H4 => ∃ acc, H4 D = some (.lst acc) ∧ acc.length < sizeLine ∧ Nx (upd H4 D (.lst (acc ++ [y]))) else Nx H3)
section
variable {σ : L2.St} {H : Hp} {Q : VK} {D : Ends} {wi : TI} {g : TG} {tb : TS} {tt : TT} {te : TE} {ta : TA} {vs : List Nat} {R : It → Hp → Prop} {K : PySem.W.Frag} {a b : Addr} {n m : Int}
theorem x_for : tFor wi g tb D σ H = wi σ H fun J H1 => ForW J g tb D σ H1 := rfl
theorem x_lc : tLc wi g tt te vs σ H Q = wi σ H fun J H1 => LcW J g tt te vs σ H1 Q := rfl
theorem x_rng1 : iRng1 ta σ H R = ta σ H fun vs H1 => ∃ j : Int, vs = [.int j] ∧ -(2 ^ 62) ≤ j ∧ j < 2 ^ 62 ∧ R (Itr 0 j.toNat) H1 := rfl
theorem x_rng2 : iRng2 ta σ H R = ta σ H fun vs H1 => ∃ i j : Int, vs = [.int i, .int j] ∧ (-(2 ^ 62) ≤ i ∧ i < 2 ^ 62 ∧ -(2 ^ 62) ≤ j ∧ j < 2 ^ 62) ∧ R (Itr i (j - i).toNat) H1 := rfl
theorem x_lst1 {tl : TE} : iList K tl σ H R = tl σ H fun x H1 => ∃ a, x = .ref a ∧ (∃ xs, SqL K H1 a xs) ∧ R (Itl K a) H1 := rfl
theorem x_one {P : Int → Prop} : (∃ j : Int, [V.int n] = [V.int j] ∧ P j) = P n := propext ⟨fun ⟨_, e, q⟩ => by cases e; exact q, fun q => ⟨n, rfl, q⟩⟩
theorem x_two {P : Int → Int → Prop} : (∃ i j : Int, [V.int n, V.int m] = [V.int i, V.int j] ∧ P i j) = P n m := propext ⟨fun ⟨_, _, e, q⟩ => by cases e; exact q, fun q => ⟨n, m, rfl, q⟩⟩
theorem x_adr {P : Addr → Prop} : (∃ b, V.ref a = V.ref b ∧ P b) = P a := propext ⟨fun ⟨_, e, q⟩ => by cases e; exact q, fun q => ⟨a, rfl, q⟩⟩
theorem x_sl {r : V → Option Int → Option Int → Hp → VK → Prop} {tl th : TO} : tSl r te tl th σ H Q = te σ H fun x H1 => tl σ H1 fun l H2 => th σ H2 fun u H3 => r x l u H3 Q := rfl
theorem x_np {QO : Option Int → Hp → Prop} : tNoPart σ H QO = QO none H := rfl
theorem x_pt {QO : Option Int → Hp → Prop} : tPart te σ H QO = te σ H fun x H1 => ∃ i, x = .int i ∧ QO (some i) H1 := rfl
theorem x_int {P : Int → Prop} : (∃ j : Int, V.int n = V.int j ∧ P j) = P n := propext ⟨fun ⟨_, e, q⟩ => by cases e; exact q, fun q => ⟨n, rfl, q⟩⟩
theorem x_bm {T : String} {r : V → List V → Hp → VK → Prop} : tBM K T r te ta σ H Q = te σ H fun x H1 => tyV K T x H1 ∧ ta σ H1 fun xs H2 => r x xs H2 Q := rfl
theorem x_bm0 {T : String} {r : V → List V → Hp → VK → Prop} : tBM0 K T r te σ H Q = te σ H fun x H1 => tyV K T x H1 ∧ r x [] H1 Q := rfl
theorem x_tupg {ts : TGs} {n : Nat} {v : V} {N : L2.St → Hp → Prop} : gTup K n ts v σ H N = ∃ a xs, v = .ref a ∧ SqT K H a xs ∧ xs.length = n ∧ ts xs σ H N := rfl
theorem x_consg {t : TG} {u : TGs} {v : V} {r : List V} {N : L2.St → Hp → Prop} : gCons t u (v :: r) σ H N = t v σ H fun σ' H' => u r σ' H' N := propext ⟨fun ⟨_, _, e, q⟩ => by cases e; exact q, fun q => ⟨v, r, rfl, q⟩⟩
theorem x_nilg {N : L2.St → Hp → Prop} : gNil [] σ H N = N σ H := propext ⟨fun z => z.2, fun z => ⟨rfl, z⟩⟩
theorem x_cut {t u : TS} : tCut t u D σ H = ∃ M : L2.St → Hp → Prop, t { D with nx := M } σ H ∧ ∀ σ' H', M σ' H' → u D σ' H' := rfl
theorem x_dget2 {td ty tx : TE} : tDGet2 td ty tx σ H Q = td σ H fun x H1 => ∃ a, x = .ref a ∧ IsD H1 a ∧ ty σ H1 fun y H2 => tx σ H2 fun z H3 => ∃ o, DGet H3 a y o ∧ Q (o.getD z) H3 := rfl
theorem x_dget1 {td ty : TE} : tDGet1 td ty σ H Q = td σ H fun x H1 => ∃ a, x = .ref a ∧ IsD H1 a ∧ ty σ H1 fun y H2 => ∃ o, DGet H2 a y o ∧ Q (o.getD .non) H2 := rfl
theorem x_dget {td ty : TE} : tDGet td ty σ H Q = td σ H fun x H1 => ty σ H1 fun y H2 => ∃ a v, x = .ref a ∧ DGet H2 a y (some v) ∧ Q v H2 := rfl
theorem x_din {td ty : TE} : tDIn ty td σ H Q = ty σ H fun y H1 => td σ H1 fun x H2 => ∃ a o, x = .ref a ∧ DGet H2 a y o ∧ Q (.bl o.isSome) H2 := rfl
theorem x_dni {td ty : TE} : tDNotIn ty td σ H Q = ty σ H fun y H1 => td σ H1 fun x H2 => ∃ a o, x = .ref a ∧ DGet H2 a y o ∧ Q (.bl (!o.isSome)) H2 := rfl
theorem x_dput {td ty tv : TE} : sDPut td ty tv D σ H = tv σ H fun v H1 => td σ H1 fun x H2 => ty σ H2 fun y H3 => ∃ a H4, x = .ref a ∧ DPut H3 a y v H4 ∧ D.nx σ H4 := rfl
theorem isD_k {kvs : List (Key × V)} (h : H a = some (.dK kvs)) : IsD H a := .inl ⟨kvs, .inl h⟩
theorem dget_i {kvs : List (Key × V)} {i : Int} (h : H a = some (.dK kvs)) : DGet H a (.int i) (valV kvs (.inl i : Key)) := DGet.k (k := .inl i) h
theorem dput_i {kvs : List (Key × V)} {i : Int} {v : V} (h : H a = some (.dK kvs)) (hl : kvs.length < sizeLine) : DPut H a (.int i) v (upd H a (.dK (putK kvs (.inl i : Key) v))) := DPut.k (k := .inl i) h hl
theorem forW_range {lo : Int} {n : Nat} (Pv : Nat → L2.St → Hp → Prop) (h0 : Pv 0 σ H) (hs : ∀ i σ H, i < n → Pv i σ H → g (.int (lo + i)) σ H fun σ2 H2 => tb { D with nx := Pv (i + 1), ct := Pv (i + 1), bk := D.nx } σ2 H2) (hd : ∀ σ H, Pv n σ H → D.nx σ H) : ForW (Itr lo n) g tb D σ H := for_range Pv h0 hs hd
theorem forW_list {xs : List V} (Pv : Nat → L2.St → Hp → Prop) (h0 : Pv 0 σ H) (hl : ∀ i σ H, i ≤ xs.length → Pv i σ H → SqL K H a xs) (hs : ∀ i x σ H, xs[i]? = some x → Pv i σ H → g x σ H fun σ2 H2 => tb { D with nx := Pv (i + 1), ct := Pv (i + 1), bk := D.nx } σ2 H2)
    (hd : ∀ σ H, Pv xs.length σ H → D.nx σ H) : ForW (Itl K a) g tb D σ H := for_list (xs := xs) Pv h0 hl hs hd
end
theorem x_yes {σ : L2.St} {H : Hp} {Q : Bool → Hp → Prop} : tYes σ H Q = Q true H := rfl
end G
namespace G
open PySem PySem.Spec PySem.Calls PyProof.Rows L2
/-! ### more shapes of loops, of targets -/
section
variable {σ : L2.St} {H : Hp} {Q : VK} {D : Ends} {g : TG} {tb : TS} {tl : TE} {ta : TA} {R : It → Hp → Prop} {K : PySem.W.Frag} {a : Addr}
theorem x_itup : iTup K tl σ H R = tl σ H fun x H1 => ∃ a, x = .ref a ∧ (∃ xs, SqT K H1 a xs) ∧ R (Itt K a) H1 := rfl
theorem x_rng3 : iRng3 ta σ H R = ta σ H fun vs H1 => ∃ (i j c : Int) (n : Nat), vs = [.int i, .int j, .int c] ∧ RgC i j c n ∧ R (Itc i c n) H1 := rfl
theorem x_three {x y z : Int} {P : Int → Int → Int → Nat → Prop} : (∃ (i j c : Int) (n : Nat), [V.int x, V.int y, V.int z] = [.int i, .int j, .int c] ∧ P i j c n) = ∃ n, P x y z n :=
  propext ⟨fun ⟨_, _, _, n, e, q⟩ => by cases e; exact ⟨n, q⟩, fun ⟨n, q⟩ => ⟨x, y, z, n, rfl, q⟩⟩
theorem x_lstg {ts : TGs} {n : Nat} {v : V} {N : L2.St → Hp → Prop} : gLst K n ts v σ H N = ∃ a xs, v = .ref a ∧ SqL K H a xs ∧ xs.length = n ∧ ts xs σ H N := rfl
theorem x_adrS {β : Type} {P : Addr → β → Prop} : (∃ b xs, V.ref a = V.ref b ∧ P b xs) = ∃ xs, P a xs := propext ⟨fun ⟨_, xs, e, q⟩ => by cases e; exact ⟨xs, q⟩, fun ⟨xs, q⟩ => ⟨a, xs, rfl, q⟩⟩
theorem forW_tup {xs : List V} (Pv : Nat → L2.St → Hp → Prop) (h0 : Pv 0 σ H) (hl : ∀ i σ H, i ≤ xs.length → Pv i σ H → SqT K H a xs) (hs : ∀ i x σ H, xs[i]? = some x → Pv i σ H → g x σ H fun σ2 H2 => tb { D with nx := Pv (i + 1), ct := Pv (i + 1), bk := D.nx } σ2 H2)
    (hd : ∀ σ H, Pv xs.length σ H → D.nx σ H) : ForW (Itt K a) g tb D σ H := for_tup (xs := xs) Pv h0 hl hs hd
theorem forW_step {lo c : Int} {n : Nat} (Pv : Nat → L2.St → Hp → Prop) (h0 : Pv 0 σ H) (hs : ∀ i σ H, i < n → Pv i σ H → g (.int (lo + (i : Nat) * c)) σ H fun σ2 H2 => tb { D with nx := Pv (i + 1), ct := Pv (i + 1), bk := D.nx } σ2 H2)
    (hd : ∀ σ H, Pv n σ H → D.nx σ H) : ForW (Itc lo c n) g tb D σ H := for_rangeC Pv h0 hs hd
end
end G
namespace G
open PySem PySem.Spec PySem.Calls PyProof.Rows L2 He
/-! ### is True, in, sorted, all -/
section
variable {X : Cx} {K : PySem.W.Frag}
def gIsB : R2 := fun x y H Q => ∃ b, y = .bl b ∧ Q (.bl (decide (x = .bl b))) H
def gNotB : R2 := fun x y H Q => ∃ b, y = .bl b ∧ Q (.bl (!decide (x = .bl b))) H
theorem relV_bl {x : V} {b : Bool} (r : RelV x (.bool b)) : x = .bl b := by
  cases x with
  | bl c => cases r; rfl
  | int i => obtain ⟨t, e⟩ := r; cases e
  | str i => obtain ⟨t, e⟩ := r; cases e
  | byt i => obtain ⟨t, e⟩ := r; cases e
  | flt i => obtain ⟨t, e⟩ := r; cases e
  | non => cases r
  | ref a => cases r
  | ty n => cases r
theorem relV_plain {x : V} {v : Value} {b : Bool} (r : RelV x v) : plainIs v (.bool b) = true := by
  cases x with
  | bl c => cases r; rfl
  | int i => obtain ⟨t, e⟩ := r; subst e; rfl
  | str i => obtain ⟨t, e⟩ := r; subst e; rfl
  | byt i => obtain ⟨t, e⟩ := r; subst e; rfl
  | flt i => obtain ⟨t, e⟩ := r; subst e; rfl
  | non => cases r; rfl
  | ref a => cases r; rfl
  | ty n => cases r; rfl
theorem op_gIsB : OpR X (compareOp .Is) gIsB := by
  intro pins s σ H x y v u Q I rx ry h
  obtain ⟨b, rfl, q⟩ := h
  cases (show u = Value.bool b from ry)
  by_cases e : v = .bool b
  · subst e
    have ex := relV_bl rx
    exact wpAny_is_self rfl ⟨.bl true, H, I, rfl, by rw [decide_eq_true ex] at q; exact q⟩
  · have ex : ¬ x = .bl b := fun z => e (by subst z; exact rx)
    exact wpAny_is_other (relV_plain rx) e ⟨.bl false, H, I, rfl, by rw [decide_eq_false ex] at q; exact q⟩
theorem op_gNotB : OpR X (compareOp .IsNot) gNotB := by
  intro pins s σ H x y v u Q I rx ry h
  obtain ⟨b, rfl, q⟩ := h
  cases (show u = Value.bool b from ry)
  by_cases e : v = .bool b
  · subst e
    have ex := relV_bl rx
    exact wpAny_isNot_self rfl ⟨.bl false, H, I, rfl, by rw [decide_eq_true ex] at q; exact q⟩
  · have ex : ¬ x = .bl b := fun z => e (by subst z; exact rx)
    exact wpAny_isNot_other (relV_plain rx) e ⟨.bl true, H, I, rfl, by rw [decide_eq_false ex] at q; exact q⟩
theorem op_inK (hK : X.K = K) : OpR X (compareOp .In) (rIn K false) := hK ▸ op_in_seq
theorem op_ninK (hK : X.K = K) : OpR X (compareOp .NotIn) (rIn K true) := hK ▸ op_notIn_seq
theorem call_sortedK (hK : X.K = K) : CallR X (.builtin "sorted") (rSortedI K) := hK ▸ cr_sortedI
theorem call_allK (hK : X.K = K) (hc : X.calm = true) : CallR X (.builtin "all") (rAll K) := hK ▸ cr_all hc
theorem call_anyK (hK : X.K = K) (hc : X.calm = true) : CallR X (.builtin "any") (rAny K) := hK ▸ cr_any hc
end
section
variable {σ : L2.St} {H : Hp} {Q : VK} {x : V} {b : Bool}
theorem r_isB : gIsB x (.bl b) H Q = Q (.bl (decide (x = .bl b))) H := propext ⟨fun ⟨_, e, q⟩ => by cases e; exact q, fun q => ⟨b, rfl, q⟩⟩
theorem r_notB : gNotB x (.bl b) H Q = Q (.bl (!decide (x = .bl b))) H := propext ⟨fun ⟨_, e, q⟩ => by cases e; exact q, fun q => ⟨b, rfl, q⟩⟩
theorem x_dpop2 {td ty tx : TE} : tDPop2 td ty tx σ H Q = td σ H fun x H1 => ∃ a, x = .ref a ∧ IsD H1 a ∧ ty σ H1 fun y H2 => tx σ H2 fun z H3 => ∃ kvs k, H3 a = some (.dK kvs) ∧ y = kV k ∧
  (∀ v, valV kvs k = some v → Q v (upd H3 a (.dK (dropK kvs k)))) ∧ (valV kvs k = none → Q z H3) := rfl
theorem r_isi {v : V} {T t : String} (e : tyOf v H = some t) (q : Q (.bl (isB t T)) H) (hT : T ∈ (["int", "bool", "str", "list", "tuple", "dict"] : List String) := by decide) : gIsi [v, .ty T] H Q := ⟨hT, t, e, q⟩
theorem r_isiL {a : Addr} {xs : List V} (h : H a = some (.lst xs)) (q : Q (.bl true) H) : gIsi [.ref a, .ty "list"] H Q := r_isi (t := "list") (by show tyO (H a) = _; rw [h]; rfl) q
theorem r_isiT {a : Addr} {xs : List V} (h : H a = some (.tup xs)) (q : Q (.bl true) H) : gIsi [.ref a, .ty "tuple"] H Q := r_isi (t := "tuple") (by show tyO (H a) = _; rw [h]; rfl) q
theorem r_isiII {n : Int} : gIsi [.int n, .ty "int"] H Q = Q (.bl true) H := propext ⟨fun ⟨_, t, e, q⟩ => by cases e; exact q, fun q => ⟨by decide, _, rfl, q⟩⟩
theorem r_isiBB : gIsi [.bl b, .ty "bool"] H Q = Q (.bl true) H := propext ⟨fun ⟨_, t, e, q⟩ => by cases e; exact q, fun q => ⟨by decide, _, rfl, q⟩⟩
theorem r_isiIB {n : Int} : gIsi [.int n, .ty "bool"] H Q = Q (.bl false) H := propext ⟨fun ⟨_, t, e, q⟩ => by cases e; exact q, fun q => ⟨by decide, _, rfl, q⟩⟩
theorem r_isiSS {z : Str} : gIsi [.str z, .ty "str"] H Q = Q (.bl true) H := propext ⟨fun ⟨_, t, e, q⟩ => by cases e; exact q, fun q => ⟨by decide, _, rfl, q⟩⟩
theorem r_neNS {K : PySem.W.Frag} {z : Str} : gNe K .non (.str z) H Q = Q (.bl true) H := rfl
theorem r_neSN {K : PySem.W.Frag} {z : Str} : gNe K (.str z) .non H Q = Q (.bl true) H := rfl
theorem r_neNN {K : PySem.W.Frag} : gNe K .non .non H Q = Q (.bl false) H := rfl
theorem r_eqNS {K : PySem.W.Frag} {z : Str} : gEq K .non (.str z) H Q = Q (.bl false) H := rfl
theorem r_eqSN {K : PySem.W.Frag} {z : Str} : gEq K (.str z) .non H Q = Q (.bl false) H := rfl
theorem r_eqNN {K : PySem.W.Frag} : gEq K .non .non H Q = Q (.bl true) H := rfl
theorem r_eqIS {K : PySem.W.Frag} {n : Int} {z : Str} : gEq K (.int n) (.str z) H Q = Q (.bl false) H := rfl
theorem r_neIS {K : PySem.W.Frag} {n : Int} {z : Str} : gNe K (.int n) (.str z) H Q = Q (.bl true) H := rfl
theorem r_neSI {K : PySem.W.Frag} {n : Int} {z : Str} : gNe K (.str z) (.int n) H Q = Q (.bl true) H := rfl
theorem r_neBS {K : PySem.W.Frag} {z : Str} : gNe K (.bl b) (.str z) H Q = Q (.bl true) H := rfl
theorem r_eqBB {K : PySem.W.Frag} {c : Bool} : gEq K (.bl b) (.bl c) H Q = Q (.bl (b == c)) H := rfl
theorem r_neBB {K : PySem.W.Frag} {c : Bool} : gNe K (.bl b) (.bl c) H Q = Q (.bl (!(b == c))) H := rfl
theorem r_ixL {K : PySem.W.Frag} {a : Addr} {xs : List V} {i : Nat} {v : V} (h : H a = some (.lst xs)) (e : xs[i]? = some v) (q : Q v H) : rIx K (.ref a) (.int (i : Int)) H Q := .inl ⟨_, _, _, _, rfl, rfl, .of h, by
  have hl := (List.getElem?_eq_some_iff.mp e).1
  unfold atI ixN
  rw [if_pos (by omega), if_pos (by omega), Int.toNat_natCast]
  exact e, q⟩
end
/-! ### isinstance(e, (C, D, ..)) of a caught error -/
def tIsQ (K : PySem.W.Frag) (x : V) (cs : List V) (H : Hp) (Q : VK) : Prop := cs.length ≤ sizeLine ∧ ∃ a D us b, x = .ref a ∧ H a = some (ExA (.ref D) a) ∧ ExcC K D ∧ Paired ClsV cs us ∧ PySem.W.kitAny K (.ref D) us = some b ∧ Q (.bl b) H
theorem x_isT {K : PySem.W.Frag} {σ : L2.St} {H : Hp} {Q : VK} {ta : TE} {tc : TA} : tIsT K ta tc σ H Q = ta σ H fun x H1 => tc σ H1 fun cs H2 => tIsQ K x cs H2 Q := rfl
inductive NamesK (K : PySem.W.Frag) : List V → List Str → Prop where
  | nil : NamesK K [] []
  | cons (c : Str) {cs : List V} {ns : List Str} (t : NamesK K cs ns) : NamesK K (.ref (ga K c) :: cs) (c :: ns)
theorem NamesK.len {K : PySem.W.Frag} {cs : List V} {ns : List Str} (h : NamesK K cs ns) : cs.length = ns.length := by
  induction h with
  | nil => rfl
  | cons c t ih => exact congrArg (· + 1) ih
theorem NamesK.pair {K : PySem.W.Frag} {cs : List V} {ns : List Str} (h : NamesK K cs ns) : Paired ClsV cs (ns.map fun c => Value.ref (ga K c)) := by
  induction h with
  | nil => exact .nil
  | cons c t ih => exact .cons (.own _) ih
theorem Told.anyOf {fa : List Fa} {fn : List DefD} {xl : XL} {K : PySem.W.Frag} {mg : Str → Option Value} (T : Told fa fn xl K mg) {d : Str} (hd : d ∈ xl.ex) : ∀ ns : List Str, (∀ c ∈ ns, c ∈ xl.ex) → PySem.W.kitAny K (.ref (ga K d)) (ns.map fun c => Value.ref (ga K c)) = some (ns.any (under d))
  | [], _ => rfl
  | c :: r, h => by
    show (match PySem.W.kitOne K (.ref (ga K d)) (.ref (ga K c)) with
      | some true => some true
      | some false => PySem.W.kitAny K (.ref (ga K d)) (r.map fun c => Value.ref (ga K c))
      | none => none) = some (under d c || r.any (under d))
    rw [((T.err hd).2.2 c (h c (List.mem_cons_self))).1]
    cases under d c with
    | true => rfl
    | false => exact T.anyOf hd r fun c hc => h c (List.mem_cons_of_mem _ hc)
theorem Told.isA {fa : List Fa} {fn : List DefD} {xl : XL} {K : PySem.W.Frag} {mg : Str → Option Value} (T : Told fa fn xl K mg) {d : Str} {a : Addr} {H : Hp} {Q : VK} {cs : List V} {ns : List Str} {b : Bool} (ha : H a = some (ExA (.ref (ga K d)) a)) (n : NamesK K cs ns)
    (hd : d ∈ xl.ex) (hc : (ns.all fun c => decide (c ∈ xl.ex)) = true) (hl : ns.length ≤ 1000) (e : ns.any (under d) = b) (q : Q (.bl b) H) : tIsQ K (.ref a) cs H Q :=
  ⟨by rw [n.len, sizeLine_eq]; omega, a, _, _, b, rfl, ha, (T.err hd).1, n.pair, (T.anyOf hd ns fun c h => of_decide_eq_true (List.all_eq_true.mp hc c h)).trans (congrArg some e), q⟩
end G
namespace G
open PySem PySem.Spec PySem.Calls PyProof.Rows L2 He
/-! ### == of data of some depth -/
def ShK (k : Nat) (d : PyData) : Prop := d.canLay0 = true ∧ d.depth ≤ k
theorem ShK.up {k n : Nat} {d : PyData} (h : ShK k d) (e : k ≤ n) : ShK n d := ⟨h.1, Nat.le_trans h.2 e⟩
theorem ShK.all {k : Nat} : ∀ {ds : List PyData}, (∀ z ∈ ds, ShK k z) → PyData.canLayAll0 ds = true ∧ PyData.depthAll ds ≤ k
  | [], _ => ⟨by simp [PyData.canLayAll0], by simp [PyData.depthAll]⟩
  | z :: zs, h => by
    have h1 := ShK.all (ds := zs) fun y hy => h y (List.mem_cons_of_mem _ hy)
    have h2 := h z (List.mem_cons_self)
    refine ⟨by simp [PyData.canLayAll0, h2.1, h1.1], ?_⟩
    have a := h2.2
    have b := h1.2
    simp only [PyData.depthAll]
    omega
theorem ShK.lst {k : Nat} {ds : List PyData} (h : ∀ z ∈ ds, ShK k z) : ShK (k + 1) (.list ds) := by
  have a := ShK.all h
  refine ⟨by simp [PyData.canLay0, a.1], ?_⟩
  have b := a.2
  simp only [PyData.depth]
  omega
theorem ShK.tup {k : Nat} {ds : List PyData} (h : ∀ z ∈ ds, ShK k z) : ShK (k + 1) (.tuple ds) := by
  have a := ShK.all h
  refine ⟨by simp [PyData.canLay0, a.1], ?_⟩
  have b := a.2
  simp only [PyData.depth]
  omega
theorem ShK.ok {k : Nat} {d : PyData} (h : ShK k d) (e : k ≤ 64) : SeqAt.shaped d = true := by
  show (d.canLay0 && decide (d.depth ≤ 64)) = true
  rw [h.1, decide_eq_true (Nat.le_trans h.2 e)]
  rfl
/-- flat things as data -/
def toD : V → PyData
  | .bl b => .bool b
  | .int i => .int i
  | _ => .none
def flatI : V → Bool
  | .non => true
  | .bl _ => true
  | .int _ => true
  | _ => false
theorem toD_sh {v : V} : ShK 0 (toD v) := by cases v <;> exact ⟨by simp [toD, PyData.canLay0], by simp [toD, PyData.depth]⟩
theorem toD_dp {K : PySem.W.Frag} {H : Hp} {v : V} (h : flatI v = true) : Dp K H v (toD v) := by
  cases v <;> first | (cases h; done) | skip
  · exact .non
  · exact .bl _
  · exact .int _
theorem toDs_dp {K : PySem.W.Frag} {H : Hp} : ∀ {xs : List V}, (∀ x ∈ xs, flatI x = true) → DpAll K H xs (xs.map toD)
  | [], _ => .nil
  | _ :: _, h => .cons (toD_dp (h _ (List.mem_cons_self))) (toDs_dp fun y hy => h y (List.mem_cons_of_mem _ hy))
theorem toDs_sh {xs : List V} : ∀ z ∈ xs.map toD, ShK 0 z := fun z h => by
  obtain ⟨v, -, e⟩ := List.mem_map.mp h
  subst e
  exact toD_sh
/-- lists of flat things; of tuples of flat things -/
theorem dp_flat {K : PySem.W.Frag} {H : Hp} {a : Addr} {xs : List V} (h : H a = some (.lst xs)) (f : ∀ x ∈ xs, flatI x = true) : Dp K H (.ref a) (.list (xs.map toD)) := .lst (.of h) (toDs_dp f)
theorem sh_flat {xs : List V} : SeqAt.shaped (.list (xs.map toD)) = true := (ShK.lst toDs_sh).ok (by decide)
inductive TupAll (H : Hp) : List V → List (List V) → Prop where
  | nil : TupAll H [] []
  | cons {tp : Addr} {xs : List V} {rs : List V} {yss : List (List V)} (h : H tp = some (.tup xs)) (f : ∀ x ∈ xs, flatI x = true) (t : TupAll H rs yss) : TupAll H (.ref tp :: rs) (xs :: yss)
def tupD (yss : List (List V)) : PyData := .list (yss.map fun xs => .tuple (xs.map toD))
theorem TupAll.dp {K : PySem.W.Frag} {H : Hp} : ∀ {rs : List V} {yss : List (List V)}, TupAll H rs yss → DpAll K H rs (yss.map fun xs => .tuple (xs.map toD))
  | _, _, .nil => .nil
  | _, _, .cons h f t => .cons (.tup (.inl (.inl h)) (toDs_dp f)) t.dp
theorem TupAll.same {H H' : Hp} {rs : List V} {yss : List (List V)} (h : TupAll H rs yss) (s : Same H H') : TupAll H' rs yss := by
  induction h with
  | nil => exact .nil
  | cons h f t ih => exact .cons (s _ _ h) f ih
theorem TupAll.snoc {H : Hp} {rs : List V} {yss : List (List V)} {tp : Addr} {xs : List V} (h : TupAll H rs yss) (e : H tp = some (.tup xs)) (f : ∀ x ∈ xs, flatI x = true) : TupAll H (rs ++ [.ref tp]) (yss ++ [xs]) := by
  induction h with
  | nil => exact .cons e f .nil
  | cons h f' t ih => exact .cons h f' ih
theorem TupAll.put {H : Hp} {rs : List V} {yss : List (List V)} {D : Addr} {o o' : HO} (h : TupAll H rs yss) (e : H D = some o) (n : ∀ xs, o ≠ .tup xs) : TupAll (upd H D o') rs yss := by
  induction h with
  | nil => exact .nil
  | cons h f t ih => exact .cons (by rw [upd_ne (ne_of h e fun z => n _ z.symm)]; exact h) f ih
theorem TupAll.len {H : Hp} {rs : List V} {yss : List (List V)} (h : TupAll H rs yss) : rs.length = yss.length := by
  induction h with
  | nil => rfl
  | cons h f t ih => exact congrArg (· + 1) ih
theorem TupAll.mem {H : Hp} {rs : List V} {yss : List (List V)} (h : TupAll H rs yss) : ∀ r ∈ rs, ∃ tp xs, r = .ref tp ∧ H tp = some (.tup xs) ∧ xs ∈ yss := by
  induction h with
  | nil => exact fun r h => (List.not_mem_nil h).elim
  | cons h f t ih =>
    intro r hr
    rcases List.mem_cons.mp hr with rfl | hr
    · exact ⟨_, _, rfl, h, List.mem_cons_self⟩
    · obtain ⟨tp, xs, e, h', m⟩ := ih r hr
      exact ⟨tp, xs, e, h', List.mem_cons_of_mem _ m⟩
theorem dp_tups {K : PySem.W.Frag} {H : Hp} {a : Addr} {rs : List V} {yss : List (List V)} (h : H a = some (.lst rs)) (t : TupAll H rs yss) : Dp K H (.ref a) (tupD yss) := .lst (.of h) t.dp
theorem sh_tups {yss : List (List V)} : SeqAt.shaped (tupD yss) = true := by
  refine (ShK.lst (k := 1) fun z h => ?_).ok (by decide)
  obtain ⟨xs, -, e⟩ := List.mem_map.mp h
  subst e
  exact ShK.tup toDs_sh
theorem shaped_refl {d : PyData} (s : SeqAt.shaped d = true) : PyData.eqv d d = true := PySem.SeqAt.eqv_refl d (SeqAt.canLay_of_shaped s)
theorem r_eqSame {K : PySem.W.Frag} {H : Hp} {Q : VK} {a b : Addr} {d : PyData} (h1 : Dp K H (.ref a) d) (h2 : Dp K H (.ref b) d) (s : SeqAt.shaped d = true) (q : Q (.bl true) H) : gEq K (.ref a) (.ref b) H Q := ⟨d, d, h1, h2, s, s, by rw [shaped_refl s]; exact q⟩
theorem r_neSame {K : PySem.W.Frag} {H : Hp} {Q : VK} {a b : Addr} {d : PyData} (h1 : Dp K H (.ref a) d) (h2 : Dp K H (.ref b) d) (s : SeqAt.shaped d = true) (q : Q (.bl false) H) : gNe K (.ref a) (.ref b) H Q := ⟨d, d, h1, h2, s, s, by rw [shaped_refl s]; exact q⟩
theorem getD_range {ts : List V} {d : V} : (List.range ts.length).map (fun i => ts.getD i d) = ts := by
  refine List.ext_getElem (by rw [List.length_map, List.length_range]) fun i h1 h2 => ?_
  rw [List.getElem_map, List.getElem_range, List.getD_eq_getElem?_getD, List.getElem?_eq_getElem h2]
  rfl
theorem getD_at {α : Type} {ts : List α} {d : α} {i : Nat} (h : i < ts.length) : ts[i]? = some (ts.getD i d) := by
  rw [List.getElem?_eq_getElem h, List.getD_eq_getElem?_getD, List.getElem?_eq_getElem h]
  rfl
theorem r_ixT {K : PySem.W.Frag} {H : Hp} {Q : VK} {a : Addr} {xs : List V} {i : Nat} {v : V} (h : H a = some (.tup xs)) (e : xs[i]? = some v) (q : Q v H) : rIx K (.ref a) (.int (i : Int)) H Q := .inr (.inl ⟨_, _, _, _, rfl, rfl, .inl (.inl h), by
  have hl := (List.getElem?_eq_some_iff.mp e).1
  unfold atI ixN
  rw [if_pos (by omega), if_pos (by omega), Int.toNat_natCast]
  exact e, q⟩)
theorem op_catTK {X : Cx} {K : PySem.W.Frag} (hK : X.K = K) : OpR X (binaryOp .Add) (rCatT K) := hK ▸ op_catT
theorem r_cat {K : PySem.W.Frag} {H : Hp} {Q : VK} {a b : Addr} {xs ys : List V} (h1 : H a = some (.tup xs)) (h2 : H b = some (.tup ys)) (nx : xs ≠ []) (ny : ys ≠ []) (hl : xs.length + ys.length ≤ sizeLine) (q : ∀ p, H p = none → Q (.ref p) (upd H p (.tup (xs ++ ys)))) : rCatT K (.ref a) (.ref b) H Q :=
  ⟨a, b, xs, ys, rfl, rfl, .inl (.inl h1), .inl (.inl h2), nx, hl, fun e => absurd e ny, fun _ => q⟩
/-- addresses that are in use -/
def Live (H : Hp) (L : List Addr) : Prop := L.Nodup ∧ ∀ c ∈ L, ∃ o, H c = some o
theorem Live.nil {H : Hp} : Live H [] := ⟨List.nodup_nil, fun c h => (List.not_mem_nil h).elim⟩
theorem Live.same {H H' : Hp} {L : List Addr} (h : Live H L) (s : Same H H') : Live H' L := ⟨h.1, fun c m => let ⟨o, e⟩ := h.2 c m; ⟨o, s _ _ e⟩⟩
theorem Live.cons {H H' : Hp} {L : List Addr} {x : Addr} {o : HO} (h : Live H L) (s : Same H H') (e : H x = none) (e' : H' x = some o) : Live H' (x :: L) := by
  refine ⟨List.nodup_cons.mpr ⟨fun m => ?_, h.1⟩, fun c m => ?_⟩
  · obtain ⟨o, g⟩ := h.2 x m
    rw [e] at g
    cases g
  · rcases List.mem_cons.mp m with rfl | m
    · exact ⟨_, e'⟩
    · obtain ⟨o, g⟩ := h.2 c m
      exact ⟨o, s _ _ g⟩
/-! ### enumerate -/
theorem x_enum {σ : L2.St} {H : Hp} {ta : TA} {R : It → Hp → Prop} {K : PySem.W.Frag} : iEnum K ta σ H R = ta σ H fun vs H1 => ∃ a xs, vs = [.ref a] ∧ SqL K H1 a xs ∧ R (Ite K a) H1 := rfl
end G
namespace G
open PySem PySem.Spec PySem.Calls PyProof.Rows L2 He
/-! ### while -/
def WhB (W : Nat → L2.St → Hp → Prop) (k : Nat) (tb : TS) (D : Ends) (σ : L2.St) (H : Hp) : Prop :=
  ∃ N : L2.St → Hp → Prop, (∀ σ' H', N σ' H' → ∃ m', m' < k ∧ W m' σ' H') ∧ tb { D with nx := N, ct := N, bk := D.nx } σ H
theorem whW {c : TT} {tb : TS} {D : Ends} {σ : L2.St} {H : Hp} (W : Nat → L2.St → Hp → Prop) (h0 : ∃ k, W k σ H) (hs : ∀ k σ H, W k σ H → c σ H fun b H1 => if b = true then WhB W k tb D σ H1 else D.nx σ H1) : tWhile c tb D σ H :=
  ⟨W, h0, hs⟩
theorem whB {W : Nat → L2.St → Hp → Prop} {k : Nat} {tb : TS} {D : Ends} {σ : L2.St} {H : Hp} (h : tb { D with nx := fun σ' H' => ∃ m', m' < k ∧ W m' σ' H', ct := fun σ' H' => ∃ m', m' < k ∧ W m' σ' H', bk := D.nx } σ H) : WhB W k tb D σ H :=
  ⟨_, fun _ _ q => q, h⟩
end G
namespace G
open PySem PySem.Spec PySem.Calls PyProof.Rows L2 He
theorem call_sumK {X : Cx} {K : PySem.W.Frag} (hK : X.K = K) (hc : X.calm = true) : CallR X (.builtin "sum") (rSum K) := hK ▸ cr_sum hc
theorem r_sumL {K : PySem.W.Frag} {H : Hp} {Q : VK} {a : Addr} {ns : List Int} (h : H a = some (.lst (ns.map V.int))) (q : Q (.int ns.sum) H) : rSum K [.ref a] H Q := ⟨a, ns, rfl, .of h, q⟩
/-- all of a list of truths is true -/
theorem r_allT {K : PySem.W.Frag} {H : Hp} {Q : VK} {a : Addr} {n : Nat} (h : H a = some (.lst (List.replicate n (.bl true)))) (q : Q (.bl true) H) : rAll K [.ref a] H Q := by
  refine ⟨a, List.replicate n true, rfl, .of (by rw [List.map_replicate]; exact h), ?_⟩
  rw [show (List.replicate n true).all id = true from List.all_eq_true.mpr fun b hb => (List.mem_replicate.mp hb).2]
  exact q
/-- [True for .. in xs] -/
theorem lc_trueL {σ : L2.St} {vs : List Nat} {H1 : Hp} {D : Addr} {Qd : Hp → Prop} {te : TE} {k : Nat} {K : PySem.W.Frag} {a : Addr} {xs : List V} (hw : ∀ v, wipe ((wipe σ vs).set k (some v)) vs = wipe σ vs) (hl : ∀ acc, SqL K (upd H1 D (.lst acc)) a xs) (hn : xs.length ≤ sizeLine)
    (he : ∀ (i : Nat) (x : V), xs[i]? = some x → ∀ acc (Q : VK), Q (.bl true) (upd H1 D (.lst acc)) → te ((wipe σ vs).set k (some x)) (upd H1 D (.lst acc)) Q) (hd : Qd (upd H1 D (.lst (List.replicate xs.length (.bl true))))) :
    ∃ W : Nat → Nat → Hp → Prop, (∃ m, W 0 m (upd H1 D (.lst []))) ∧ ∀ i m H, W i m H →
      ((Itl K a).stop i H ∧ Qd H) ∨ ((Itl K a).go i H ∧ ∃ Nx : Hp → Prop, (∀ H', Nx H' → ∃ m', m' < m ∧ W (i + 1) m' H') ∧ ∀ x H', (Itl K a).yld i H x H' → gName k x (wipe σ vs) H' fun σ2 H2 => wipe σ2 vs = wipe σ vs ∧ tYes σ2 H2 fun b H3 =>
        if b = true then te σ2 H3 fun y H4 => ∃ acc, H4 D = some (.lst acc) ∧ acc.length < sizeLine ∧ Nx (upd H4 D (.lst (acc ++ [y]))) else Nx H3) :=
  lc_mapL (ys := List.replicate xs.length (.bl true)) hw hl hn (List.length_replicate) (fun i x y hx hy acc Q q => by
    have e := (List.mem_replicate.mp (List.mem_of_getElem? hy)).2
    subst e
    exact he i x hx acc Q q) hd
/-- whole numbers in a list -/
theorem ints_mem {ns : List Int} {i : Nat} {x : V} (h : (ns.map V.int)[i]? = some x) : ∃ n, x = .int n ∧ n ∈ ns := by
  obtain ⟨n, m, e⟩ := List.mem_map.mp (List.mem_of_getElem? h)
  exact ⟨n, e.symm, m⟩
theorem ints_flat {ns : List Int} : ∀ x ∈ ns.map V.int, flatI x = true := fun x h => by
  obtain ⟨i, -, e⟩ := List.mem_map.mp h
  subst e
  rfl
theorem dp_ints {K : PySem.W.Frag} {H : Hp} {a : Addr} {ns : List Int} (h : H a = some (.lst (ns.map V.int))) : Dp K H (.ref a) (.list ((ns.map V.int).map toD)) := dp_flat h ints_flat
/-- two lists of the same whole numbers -/
theorem r_eqInts {K : PySem.W.Frag} {H : Hp} {Q : VK} {a b : Addr} {ns : List Int} (h1 : H a = some (.lst (ns.map V.int))) (h2 : H b = some (.lst (ns.map V.int))) (q : Q (.bl true) H) : gEq K (.ref a) (.ref b) H Q := r_eqSame (dp_ints h1) (dp_ints h2) sh_flat q
theorem r_neInts {K : PySem.W.Frag} {H : Hp} {Q : VK} {a b : Addr} {ns : List Int} (h1 : H a = some (.lst (ns.map V.int))) (h2 : H b = some (.lst (ns.map V.int))) (q : Q (.bl false) H) : gNe K (.ref a) (.ref b) H Q := r_neSame (dp_ints h1) (dp_ints h2) sh_flat q
/-- [text, thing]: what law's tries tell -/
inductive PlD : V → PyData → Prop where
  | non : PlD .non .none
  | bl (b : Bool) : PlD (.bl b) (.bool b)
  | int (i : Int) : PlD (.int i) (.int i)
  | str (z : Str) (h : PyData.strOk z = true) : PlD (.str z) (.str z)
theorem PlD.dp {K : PySem.W.Frag} {H : Hp} {v : V} {d : PyData} (h : PlD v d) : Dp K H v d := by
  cases h with
  | non => exact .non
  | bl b => exact .bl b
  | int i => exact .int i
  | str z h => exact .str z
theorem PlD.sh {v : V} {d : PyData} (h : PlD v d) : ShK 0 d := by
  cases h with
  | str z h => exact ⟨by simp only [PyData.canLay0]; exact h, by simp [PyData.depth]⟩
  | _ => exact ⟨by simp [PyData.canLay0], by simp [PyData.depth]⟩
inductive PlAll : List V → List PyData → Prop where
  | nil : PlAll [] []
  | cons {v : V} {d : PyData} {vs : List V} {ds : List PyData} (h : PlD v d) (t : PlAll vs ds) : PlAll (v :: vs) (d :: ds)
theorem PlAll.dp {K : PySem.W.Frag} {H : Hp} {vs : List V} {ds : List PyData} (h : PlAll vs ds) : DpAll K H vs ds := by
  induction h with
  | nil => exact .nil
  | cons h t ih => exact .cons h.dp ih
theorem PlAll.sh {vs : List V} {ds : List PyData} (h : PlAll vs ds) : ∀ z ∈ ds, ShK 0 z := by
  induction h with
  | nil => exact fun z h => (List.not_mem_nil h).elim
  | cons h t ih =>
    intro z m
    rcases List.mem_cons.mp m with rfl | m
    · exact h.sh
    · exact ih z m
/-- == of lists of plain things -/
theorem r_eqPl {K : PySem.W.Frag} {H : Hp} {Q : VK} {a b : Addr} {xs ys : List V} {ds es : List PyData} (h1 : H a = some (.lst xs)) (h2 : H b = some (.lst ys)) (p1 : PlAll xs ds) (p2 : PlAll ys es) (q : Q (.bl (PyData.eqv (.list ds) (.list es))) H) : gEq K (.ref a) (.ref b) H Q :=
  ⟨_, _, .lst (.of h1) p1.dp, .lst (.of h2) p2.dp, (ShK.lst p1.sh).ok (by decide), (ShK.lst p2.sh).ok (by decide), q⟩
theorem r_nePl {K : PySem.W.Frag} {H : Hp} {Q : VK} {a b : Addr} {xs ys : List V} {ds es : List PyData} (h1 : H a = some (.lst xs)) (h2 : H b = some (.lst ys)) (p1 : PlAll xs ds) (p2 : PlAll ys es) (q : Q (.bl (!PyData.eqv (.list ds) (.list es))) H) : gNe K (.ref a) (.ref b) H Q :=
  ⟨_, _, .lst (.of h1) p1.dp, .lst (.of h2) p2.dp, (ShK.lst p1.sh).ok (by decide), (ShK.lst p2.sh).ok (by decide), q⟩
theorem r_eqPlT {K : PySem.W.Frag} {H : Hp} {Q : VK} {a b : Addr} {xs : List V} {ds : List PyData} (h1 : H a = some (.lst xs)) (h2 : H b = some (.lst xs)) (p : PlAll xs ds) (q : Q (.bl true) H) : gEq K (.ref a) (.ref b) H Q :=
  r_eqSame (.lst (.of h1) p.dp) (.lst (.of h2) p.dp) ((ShK.lst p.sh).ok (by decide)) q
theorem r_nePlT {K : PySem.W.Frag} {H : Hp} {Q : VK} {a b : Addr} {xs : List V} {ds : List PyData} (h1 : H a = some (.lst xs)) (h2 : H b = some (.lst xs)) (p : PlAll xs ds) (q : Q (.bl false) H) : gNe K (.ref a) (.ref b) H Q :=
  r_neSame (.lst (.of h1) p.dp) (.lst (.of h2) p.dp) ((ShK.lst p.sh).ok (by decide)) q
end G
namespace G
open PySem PySem.Spec PySem.Calls PyProof.Rows L2 He
/-! ### isinstance of an own class's instance; in a written tuple -/
theorem call_isiK {X : Cx} {K : PySem.W.Frag} (hK : X.K = K) : CallR X (.builtin "isinstance") (rIsi K) := hK ▸ call_isi
theorem r_isiIns {K : PySem.W.Frag} {H : Hp} {Q : VK} {a C dx : Addr} {fs : List (Str × V)} (h : H a = some (.ins C dx fs)) (c : Cls K C) (n : ClN K C) (q : Q (.bl false) H) : rIsi K [.ref a, .ty "str"] H Q :=
  ⟨_, _, _, _, _, rfl, .ty _, .base (TyOf.ins h c n.ha n.hn n.htk n.hm), n.no, q⟩
theorem r_isiOwn {K : PySem.W.Frag} {H : Hp} {Q : VK} {a C dx : Addr} {fs : List (Str × V)} (h : H a = some (.ins C dx fs)) (c : Cls K C) (n : ClN K C) (q : Q (.bl true) H) : rIsi K [.ref a, .ref C] H Q :=
  ⟨_, _, _, _, _, rfl, .own _, .base (TyOf.ins h c n.ha n.hn n.htk n.hm), (by show (if (Value.ref C == Value.ref C) = true then some true else _) = _; rw [if_pos (beq_self_eq_true _)]), q⟩
theorem r_isiPl {K : PySem.W.Frag} {H : Hp} {Q : VK} {x : V} {t n : String} (h : tyOf x H = some t) (hn : n ∈ (["int", "bool", "str", "list", "tuple", "dict"] : List String)) (q : Q (.bl (isB t n)) H) : rIsi K [x, .ty n] H Q :=
  ⟨_, _, _, _, _, rfl, .ty _, tyOf_ok h, kit_ty (isB_all t (tyOf_in h) _ hn), q⟩
/-- x in a written tuple: flat things; data -/
def rInG (K : PySem.W.Frag) (neg : Bool) : R2 := fun x y H Q => rIn K neg x y H Q ∨ ∃ d ds, Dp K H x d ∧ Dp K H y (.tuple ds) ∧ SeqAt.shaped d = true ∧ SeqAt.shaped (.tuple ds) = true ∧ Q (.bl (if neg then !ds.any fun z => PyData.eqv z d else ds.any fun z => PyData.eqv z d)) H
theorem op_inTG {X : Cx} {K : PySem.W.Frag} (hK : X.K = K) (hu : X.A.units + 65 < cLine) : OpR X (compareOp .In) (rInG K false) := by
  subst hK
  intro pins s σ H x y v u Q I rx ry h
  rcases h with h | ⟨d, ds, hd, he, sd, se, q⟩
  · exact op_in_seq pins s σ H x y v u Q I rx ry h
  obtain ⟨as, r1⟩ := Dp.reads I d x v hd rx
  obtain ⟨bs, r2⟩ := Dp.reads I (.tuple ds) y u he ry
  exact SeqAt.in_tuple_reads r2 r1 (SeqAt.canLay_of_shaped se) (SeqAt.canLay_of_shaped sd) (room_in_shaped sd hu) ⟨.bl _, H, I, rfl, q⟩
theorem op_ninTG {X : Cx} {K : PySem.W.Frag} (hK : X.K = K) (hu : X.A.units + 65 < cLine) : OpR X (compareOp .NotIn) (rInG K true) := by
  subst hK
  intro pins s σ H x y v u Q I rx ry h
  rcases h with h | ⟨d, ds, hd, he, sd, se, q⟩
  · exact op_notIn_seq pins s σ H x y v u Q I rx ry h
  obtain ⟨as, r1⟩ := Dp.reads I d x v hd rx
  obtain ⟨bs, r2⟩ := Dp.reads I (.tuple ds) y u he ry
  exact SeqAt.notIn_tuple_reads r2 r1 (SeqAt.canLay_of_shaped se) (SeqAt.canLay_of_shaped sd) (room_in_shaped sd hu) ⟨.bl _, H, I, rfl, q⟩
end G
namespace G
open PySem PySem.Spec PySem.Calls PyProof.Rows L2 He
theorem hu65 {k : Nat} {A : Around} (r : Room k A) : A.units + 65 < cLine := by have := r.un; omega
theorem hu65N {k : Nat} {A : Around} (r : RoomN k A) : A.units + 65 < cLine := by have := r.un; omega
end G
namespace G
open PySem PySem.Spec PySem.Calls PyProof.Rows L2 He
/-! ### two named except clauses -/
section
variable {X : Cx} {x x2 n : Str} {c c2 : Value} {i : Nat} {body suite suite2 : List Stmt} {b0 b2 : Stmt} {np np2 pos pos' pos2' : Pos} {tb : WX → TS} {ts ts2 : TS} {Wo : WX}
theorem ps_tryT2 (hs : X.stack = X.env :: X.outer) (hf : X.env.frame = some X.env.locals) (hex : X.ex = []) (hN : X.N.Nodup) (hi : X.N[i]? = some n) (hln : X.env.kindOf n = some .local) (hc : Names X x c) (hc2 : Names X x2 c2) (tk : Takes X Wo)
    (hb : ∀ (W : WX) (pn : List (Addr × Obj)) (xe : Value → Shared → Prop), Takes (X.tr pn xe) W → PassesOwn (model X.prog X.w) X.A X.env xe → PSs (X.tr pn xe) body (tb W))
    (hsu : ∀ (a : Addr) (pn : List (Addr × Obj)), PSs (X.suite a pn) (b0 :: suite) ts) (hsu2 : ∀ (a : Addr) (pn : List (Addr × Obj)), PSs (X.suite a pn) (b2 :: suite2) ts2) :
    PS X (.Try body [.ExceptHandler (some (.Name x np)) (some n) (b0 :: suite) pos', .ExceptHandler (some (.Name x2 np2)) (some n) (b2 :: suite2) pos2'] [] [] pos) (fun D σ H => tb (wTr X.K c i ts (wTr X.K c2 i ts2 Wo D) D) D σ H) := by
  refine ⟨fun pins s σ H D I h => ?_⟩
  have ok := I.ok
  have hfr : X.A.frames = some (X.env :: X.outer) := by rw [ok.frames, hs]
  have lo : Loc X.env.scope n := .inl hln
  let rest : List ExceptHandler := [.ExceptHandler (some (.Name x np)) (some n) (b0 :: suite) pos', .ExceptHandler (some (.Name x2 np2)) (some n) (b2 :: suite2) pos2']
  let M := model X.prog X.w
  let wish : Value → Shared → Prop := fun e u1 => wpAny M X.A (noteFrame e X.env) (fun _ u2 => wpAny M X.A (setFlight e none) (fun _ u3 => wpAny M X.A (handleBy e X.env rest) (SP X pins D) X.xe u3) X.xe u2) X.xe u1
  refine wpAny_Try_except (wpAny_mono ((hb (wTr X.K c i ts (wTr X.K c2 i ts2 Wo D) D) (X.pn ++ pins) wish (fun u s' air => ?_) PassesOwn.looking).run [] s σ H D (I.toTry _) h) (fun fl s1 hsp => ?_) (fun e s1 he => he))
  · obtain ⟨a, B, sg, pi', σ1, H1, cls, d, rfl, Jt, nb, up, sky, na, os, ag, b, e1, yes, no⟩ := air
    have J : Inv X pins σ1 H1 sg := Jt.ofTry ok
    have sky' : Sky B (X.env :: X.outer) a (Zc cls d) X.env.locals s'.heap := by rw [← hs]; exact sky
    show wpAny M X.A (noteFrame (.ref a) X.env) _ _ _
    refine Sky.land Zc.steady hfr hf sky' fun h3 fl3 up3 => ?_
    have u3 := up.trans up3
    have J3 : Inv X pins σ1 H1 { s' with heap := h3 } := J.landed nb fl3.1 u3 os ag
    obtain ⟨o3, f3, g3, z3, d3⟩ := fl3.there
    have nfr : a ∉ frs (X.env :: X.outer) := fun hm => by
      obtain ⟨-, o', g', nf⟩ := fl3.2.2.1.mem hm
      rw [g3] at g'
      cases g'
      exact nf _ d3
    have nL : a ≠ X.env.locals := fun z => nfr (List.mem_filterMap.mpr ⟨X.env, List.mem_cons_self, by rw [hf, z]⟩)
    have nst : a ∉ frs X.stack := by rw [hs]; exact nfr
    have nB : B.get? a = none := fl3.2.1
    have ng : sg.heap.get? a = none := by
      cases e : sg.heap.get? a with
      | none => rfl
      | some o =>
        rw [nb a o e nst] at nB
        cases nB
    have n0 : X.s_0.heap.get? a = none := by
      cases e : X.s_0.heap.get? a with
      | none => rfl
      | some o =>
        obtain ⟨o', q⟩ := J.base.there a o e (by rw [hex]; exact List.not_mem_nil)
        rw [ng] at q
        cases q
    have nC : ∀ y z, X.env.cells.lookup y = some z → z ≠ a := fun y z e q => by
      obtain ⟨v, ob, e2, -⟩ := J.cell y z e
      rw [q, ng] at e2
      cases e2
    have nP : ∀ p ∈ X.pn ++ pins, p.1 ≠ a := fun p hp q => by
      have e2 := (J.pin p hp).1
      rw [q, ng] at e2
      cases e2
    have S3 := toSuite J3 a
    refine wpAny_handleBy_cons (codeAny_handlers_test ?_) (by intro q; cases q)
    have LT : PySem.W.Looks M h3 (typeOf (.ref a)) cls := fun _ _ _ _ k q => wpAny_typeOf_ref (k _ _ g3) (by rw [z3.1]; exact q)
    have LM := PySem.W.exm_one (M := M) J3.kIn LT e1
    have test : ∀ {Q : Value → Shared → Prop} {E : Value → Shared → Prop}, Q c { s' with heap := h3 } → wpAny M (X.A.mark (some (.ref a))) (eval (.Name x np) X.env) Q E { s' with heap := h3 } := fun {Q E} q => by
      obtain ⟨hg, hdb, hm | ⟨hm, hv, hnn⟩⟩ := hc
      · exact ld_glob (X := X.suite a (X.pn ++ pins)) S3 hg hm q hdb
      · exact ld_blt (X := X.suite a (X.pn ++ pins)) S3 hg hm hv q hnn hdb
    refine test (LM.here ?_)
    cases b with
    | true =>
      refine codeAny_handlers_suite_as (HandSPX.lands_againZ fl3 fun h4 fl4 up4 => ?_)
      have J4 : Inv X pins σ1 H1 { s' with heap := h4 } := J.landed nb fl4.1 (u3.trans up4) os ag
      obtain ⟨o4, f4, g4, z4, d4⟩ := fl4.there
      obtain ⟨ed, go⟩ := yes rfl
      subst ed
      have J5 := track (u := ExA cls a) J4 na n0 nL nC nP (exA_ok g4 z4 d4)
      refine store_ok (X := X.suite a (X.pn ++ pins)) (v := .ref a) (toSuite J5 a) hN hi lo rfl (fun s5 S5 => ?_) (.inr hln)
      refine wpAny_mono ((hsu a (X.pn ++ pins)).run [] s5 _ _ _ S5 (go a na)) (fun fl s6 hsp => ?_) (fun _ _ z => False.elim z)
      have out : ∀ {σ6 : L2.St} {H6 : Hp} {Q : Shared → Prop}, Inv (X.suite a (X.pn ++ pins)) [] σ6 H6 s6 → (∀ s7, Inv X pins (σ6.set i none) H6 s7 → Q s7) →
          wpAny M X.A (do bindName X.env n .none; unbindBehindTheSuite X.env n pos') (fun _ s7 => Q s7) X.xe s6 := fun S6 hq => gone_ok (ofSuite ok S6) hN hi hln hq
      cases fl with
      | next => exact hsp.elim fun _ z => z.elim fun _ q => out q.1 fun s7 J7 => ⟨_, _, J7, q.2⟩
      | brk => exact hsp.elim fun _ z => z.elim fun _ q => out q.1 fun s7 J7 => ⟨_, _, J7, q.2⟩
      | cont => exact hsp.elim fun _ z => z.elim fun _ q => out q.1 fun s7 J7 => ⟨_, _, J7, q.2⟩
      | ret u =>
        obtain ⟨v6, σ6, H6, S6, r6, q6⟩ := hsp
        exact out S6 fun s7 J7 => ⟨_, _, _, J7, r6, q6⟩
    | false =>
      obtain ⟨b', e1', yes', no'⟩ := no rfl
      refine wpAny_handleBy_cons (codeAny_handlers_test ?_) (by intro q; cases q)
      have LM2 := PySem.W.exm_one (M := M) J3.kIn LT e1'
      have test2 : ∀ {Q : Value → Shared → Prop} {E : Value → Shared → Prop}, Q c2 { s' with heap := h3 } → wpAny M (X.A.mark (some (.ref a))) (eval (.Name x2 np2) X.env) Q E { s' with heap := h3 } := fun {Q E} q => by
        obtain ⟨hg, hdb, hm | ⟨hm, hv, hnn⟩⟩ := hc2
        · exact ld_glob (X := X.suite a (X.pn ++ pins)) S3 hg hm q hdb
        · exact ld_blt (X := X.suite a (X.pn ++ pins)) S3 hg hm hv q hnn hdb
      refine test2 (LM2.here ?_)
      cases b' with
      | true =>
        refine codeAny_handlers_suite_as (HandSPX.lands_againZ fl3 fun h4 fl4 up4 => ?_)
        have J4 : Inv X pins σ1 H1 { s' with heap := h4 } := J.landed nb fl4.1 (u3.trans up4) os ag
        obtain ⟨o4, f4, g4, z4, d4⟩ := fl4.there
        obtain ⟨ed, go⟩ := yes' rfl
        subst ed
        have J5 := track (u := ExA cls a) J4 na n0 nL nC nP (exA_ok g4 z4 d4)
        refine store_ok (X := X.suite a (X.pn ++ pins)) (v := .ref a) (toSuite J5 a) hN hi lo rfl (fun s5 S5 => ?_) (.inr hln)
        refine wpAny_mono ((hsu2 a (X.pn ++ pins)).run [] s5 _ _ _ S5 (go a na)) (fun fl s6 hsp => ?_) (fun _ _ z => False.elim z)
        have out : ∀ {σ6 : L2.St} {H6 : Hp} {Q : Shared → Prop}, Inv (X.suite a (X.pn ++ pins)) [] σ6 H6 s6 → (∀ s7, Inv X pins (σ6.set i none) H6 s7 → Q s7) →
            wpAny M X.A (do bindName X.env n .none; unbindBehindTheSuite X.env n pos2') (fun _ s7 => Q s7) X.xe s6 := fun S6 hq => gone_ok (ofSuite ok S6) hN hi hln hq
        cases fl with
        | next => exact hsp.elim fun _ z => z.elim fun _ q => out q.1 fun s7 J7 => ⟨_, _, J7, q.2⟩
        | brk => exact hsp.elim fun _ z => z.elim fun _ q => out q.1 fun s7 J7 => ⟨_, _, J7, q.2⟩
        | cont => exact hsp.elim fun _ z => z.elim fun _ q => out q.1 fun s7 J7 => ⟨_, _, J7, q.2⟩
        | ret u =>
          obtain ⟨v6, σ6, H6, S6, r6, q6⟩ := hsp
          exact out S6 fun s7 J7 => ⟨_, _, _, J7, r6, q6⟩
      | false =>
        show wpAny M X.A (handleBy (.ref a) X.env []) _ _ _
        refine wpAny_handleBy_nil ?_
        obtain ⟨-, -, -, oe, vs, T, oT, ts', he, hz, hd, h1, hr⟩ := id fl3
        unfold PySem.passOn
        refine wpAny_bind (wpAny_field he hd h1 ?_)
        rw [if_neg (show ¬ ((Value.ref T == Value.none) = true) from by simp)]
        have fin : wpAny M X.A (setFlight (.ref a) X.env.frame) (fun _ u4 => wpAny M X.A (throw (.ref a) : Sem Flow) (SP X pins D) X.xe u4) X.xe { s' with heap := h3 } := by
          rw [hf]
          refine HandSPX.setFlight_upZ fl3 fun h4 hh4 up4 => wpAny_throw (tk _ _ ?_)
          exact ⟨a, B, sg, pins, σ1, H1, cls, d, rfl, J, nb, u3.trans up4, .inr (.inr (by rw [hs]; exact hh4)), na, os, ag, no' rfl⟩
        first
          | exact wpAny_bind (wpAny_pure (wpAny_bind fin))
          | exact wpAny_bind fin
  · cases fl with
    | next => exact hsp.elim fun σ1 z => z.elim fun H1 q => wpAny_execs_nil ⟨σ1, H1, q.1.ofTry ok, q.2⟩
    | brk => exact hsp.elim fun σ1 z => z.elim fun H1 q => ⟨σ1, H1, q.1.ofTry ok, q.2⟩
    | cont => exact hsp.elim fun σ1 z => z.elim fun H1 q => ⟨σ1, H1, q.1.ofTry ok, q.2⟩
    | ret u =>
      obtain ⟨v, σ1, H1, J, r, q⟩ := hsp
      exact ⟨v, σ1, H1, J.ofTry ok, r, q⟩
end

section
variable {fa : List Fa} {fn : List DefD} {xl : XL} {K : PySem.W.Frag} {mg : Str → Option Value}
theorem Told.missed (T : Told fa fn xl K mg) {d c : Str} {i : Nat} {ts : TS} {Wo : WX} {D : Ends} {σ : L2.St} {H : Hp} (hd : d ∈ xl.ex) (hc : c ∈ xl.ex) (hu : under d c = false) (h : Wo (.ref (ga K d)) none σ H) :
    wTr K (.ref (ga K c)) i ts Wo D (.ref (ga K d)) none σ H :=
  ⟨false, by rw [((T.err hd).2.2 c hc).2, hu], (fun z => by cases z), (fun _ => h)⟩
theorem Told.caughtU (T : Told fa fn xl K mg) {d c : Str} {ts : Addr → Value → Option Addr → TS} {r : List (Value × (Addr → Value → Option Addr → TS))} {Wo : WX} {D : Ends} {σ : L2.St} {H : Hp} (hd : d ∈ xl.ex) (hc : c ∈ xl.ex) (hu : under d c = true)
    (h : ∀ a, H a = none → ts a (.ref (ga K d)) none D σ H) : wMany K Wo D ((.ref (ga K c), ts) :: r) (.ref (ga K d)) none σ H :=
  ⟨true, by rw [((T.err hd).2.2 c hc).2, hu], (fun _ => h), (fun z => by cases z)⟩
theorem Told.missedU (T : Told fa fn xl K mg) {d c : Str} {ts : Addr → Value → Option Addr → TS} {r : List (Value × (Addr → Value → Option Addr → TS))} {Wo : WX} {D : Ends} {σ : L2.St} {H : Hp} (hd : d ∈ xl.ex) (hc : c ∈ xl.ex) (hu : under d c = false)
    (h : wMany K Wo D r (.ref (ga K d)) none σ H) : wMany K Wo D ((.ref (ga K c), ts) :: r) (.ref (ga K d)) none σ H :=
  ⟨false, by rw [((T.err hd).2.2 c hc).2, hu], (fun z => by cases z), (fun _ => h)⟩
end
end G
namespace G
open PySem PySem.Spec PySem.Calls PyProof.Rows L2 He
/-! ### for k in d -/
def LockW (t : TS) (D : Ends) (σ : L2.St) (H : Hp) : Prop := tLock t D σ H
section
variable {t : TS} {D : Ends} {σ : L2.St} {H : Hp} {d : Addr} {kvs : List (Key × V)} {td : TE} {R : It → Hp → Prop} {o : Obj} {g : TG} {tb : TS}
theorem x_lock : tLock t D σ H = LockW t D σ H := rfl
theorem lockD (hd : H d = some (.dK kvs)) (h : ∀ od, t ⟨fun σ' H' => H' d = some (.frz od (.dK kvs)) ∧ D.nx σ' (upd H' d (.dK kvs)), fun v H' => H' d = some (.frz od (.dK kvs)) ∧ D.rt v (upd H' d (.dK kvs)), fun σ' H' => H' d = some (.frz od (.dK kvs)) ∧ D.bk σ' (upd H' d (.dK kvs)), fun σ' H' => H' d = some (.frz od (.dK kvs)) ∧ D.ct σ' (upd H' d (.dK kvs))⟩ σ (upd H d (.frz od (.dK kvs)))) : LockW t D σ H := ⟨d, _, hd, trivial, h⟩
theorem x_keys : iKeys td σ H R = td σ H fun x H1 => ∃ d o, x = .ref d ∧ ((∃ kvs, H1 d = some (.frz o (.dK kvs)) ∧ R (Itk d o kvs) H1) ∨ ∃ kvs, H1 d = some (.frz o (.dT kvs)) ∧ R (Itkt d o kvs) H1) := rfl
theorem forW_keys (Pv : Nat → L2.St → Hp → Prop) (h0 : Pv 0 σ H) (hG : ∀ i σ H, i ≤ kvs.length → Pv i σ H → H d = some (.frz o (.dK kvs)))
    (hs : ∀ i k v σ H, kvs[i]? = some (k, v) → Pv i σ H → g (kV k) σ H fun σ2 H2 => tb { D with nx := Pv (i + 1), ct := Pv (i + 1), bk := D.nx } σ2 H2) (hd : ∀ σ H, Pv kvs.length σ H → D.nx σ H) : ForW (Itk d o kvs) g tb D σ H :=
  for_it walk_keys Pv h0 hG (fun i x σ H H' hi p y => by
    obtain ⟨rfl, k, v, e, rfl⟩ := y
    exact hs i k v σ _ e p) hd
theorem dget_f {i : Int} (h : H d = some (.frz o (.dK kvs))) : DGet H d (.int i) (valV kvs (.inl i : Key)) := .inl ⟨kvs, .inl i, .inr ⟨o, h⟩, rfl, rfl⟩
end
end G
namespace G
open PySem PySem.Spec PySem.Calls PyProof.Rows L2 He
/-! ### == of dicts, dict(d), xs.pop(i) -/
section
variable {X : Cx} {σ : L2.St} {H : Hp} {Q : VK}
def gEqDD : R2 := fun x y H Q => ∃ a b kvs kvs', x = .ref a ∧ y = .ref b ∧ H a = some (.dK kvs) ∧ H b = some (.dK kvs') ∧ ((kvs = kvs' ∧ (kvs.map (·.1)).Nodup ∧ (∀ p ∈ kvs, flatB p.2 = true) ∧ Q (.bl true) H) ∨ (kvs.length ≠ kvs'.length ∧ Q (.bl false) H))
def gNeDD : R2 := fun x y H Q => ∃ a b kvs kvs', x = .ref a ∧ y = .ref b ∧ H a = some (.dK kvs) ∧ H b = some (.dK kvs') ∧ ((kvs = kvs' ∧ (kvs.map (·.1)).Nodup ∧ (∀ p ∈ kvs, flatB p.2 = true) ∧ Q (.bl false) H) ∨ (kvs.length ≠ kvs'.length ∧ Q (.bl true) H))
theorem op_eqDD (hu : X.A.units < cLine) : OpR X (compareOp .Eq) gEqDD := by
  intro pins s σ H x y v u Q I rx ry h
  obtain ⟨a, b, kvs, kvs', rfl, rfl, ea, eb, h⟩ := h
  obtain rfl : v = Value.ref a := rx
  obtain rfl : u = Value.ref b := ry
  obtain ⟨_, ya, va, ra, da⟩ := (show ObjOk X.prog X.w H s.heap a (.dK kvs) from I.hok a _ ea)
  obtain ⟨_, yb, vb, rb, db⟩ := (show ObjOk X.prog X.w H s.heap b (.dK kvs') from I.hok b _ eb)
  rcases h with ⟨rfl, nd, fl, q⟩ | ⟨ne, q⟩
  · have hl : va.length = vb.length := ra.length.symm.trans rb.length
    exact PySem.W.keq_eq (knd := mixKind X.prog X.w) (r := true) ya yb da db hu (fun _ => hits_all rb ra fun p hp => ⟨val_nodup nd p hp, fl p hp⟩) (fin_bl I q (by simp [hl]))
  · have hl : va.length ≠ vb.length := fun z => ne (ra.length.trans (z.trans rb.length.symm))
    exact PySem.W.keq_eq (knd := mixKind X.prog X.w) (r := true) ya yb da db hu (fun z => absurd z hl) (fin_bl I q (by simp [hl]))
theorem op_neDD (hu : X.A.units < cLine) : OpR X (compareOp .NotEq) gNeDD := by
  intro pins s σ H x y v u Q I rx ry h
  obtain ⟨a, b, kvs, kvs', rfl, rfl, ea, eb, h⟩ := h
  obtain rfl : v = Value.ref a := rx
  obtain rfl : u = Value.ref b := ry
  obtain ⟨_, ya, va, ra, da⟩ := (show ObjOk X.prog X.w H s.heap a (.dK kvs) from I.hok a _ ea)
  obtain ⟨_, yb, vb, rb, db⟩ := (show ObjOk X.prog X.w H s.heap b (.dK kvs') from I.hok b _ eb)
  rcases h with ⟨rfl, nd, fl, q⟩ | ⟨ne, q⟩
  · have hl : va.length = vb.length := ra.length.symm.trans rb.length
    exact PySem.W.keq_ne (knd := mixKind X.prog X.w) (r := true) ya yb da db hu (fun _ => hits_all rb ra fun p hp => ⟨val_nodup nd p hp, fl p hp⟩) (fin_bl I q (by simp [hl]))
  · have hl : va.length ≠ vb.length := fun z => ne (ra.length.trans (z.trans rb.length.symm))
    exact PySem.W.keq_ne (knd := mixKind X.prog X.w) (r := true) ya yb da db hu (fun z => absurd z hl) (fin_bl I q (by simp [hl]))
theorem r_eqDD {a b : Addr} {kvs : List (Key × V)} (h1 : H a = some (.dK kvs)) (h2 : H b = some (.dK kvs)) (nd : (kvs.map (·.1)).Nodup) (fl : ∀ p ∈ kvs, flatB p.2 = true) (q : Q (.bl true) H) : gEqDD (.ref a) (.ref b) H Q := ⟨a, b, kvs, kvs, rfl, rfl, h1, h2, .inl ⟨rfl, nd, fl, q⟩⟩
theorem r_neDD {a b : Addr} {kvs : List (Key × V)} (h1 : H a = some (.dK kvs)) (h2 : H b = some (.dK kvs)) (nd : (kvs.map (·.1)).Nodup) (fl : ∀ p ∈ kvs, flatB p.2 = true) (q : Q (.bl false) H) : gNeDD (.ref a) (.ref b) H Q := ⟨a, b, kvs, kvs, rfl, rfl, h1, h2, .inl ⟨rfl, nd, fl, q⟩⟩
theorem r_eqDL {a b : Addr} {kvs kvs' : List (Key × V)} (h1 : H a = some (.dK kvs)) (h2 : H b = some (.dK kvs')) (ne : kvs.length ≠ kvs'.length) (q : Q (.bl false) H) : gEqDD (.ref a) (.ref b) H Q := ⟨a, b, kvs, kvs', rfl, rfl, h1, h2, .inr ⟨ne, q⟩⟩
def rDictD : List V → Hp → VK → Prop := fun xs H Q => ∃ (a : Addr) (kvs : List (Key × V)), xs = [.ref a] ∧ Rd H a (.dK kvs) ∧ ∀ p, H p = none → Q (.ref p) (upd H p (.dK kvs))
theorem call_dictDK : CallR X (.type "dict") rDictD := call_dictD
theorem r_isiD {a : Addr} {kvs : List (Key × V)} (h : H a = some (.dK kvs)) (q : Q (.bl true) H) : gIsi [.ref a, .ty "dict"] H Q := r_isi (t := "dict") (by show tyO (H a) = _; rw [h]; rfl) q
def rLenDD : List V → Hp → VK → Prop := fun xs H Q => ∃ a kvs, xs = [V.ref a] ∧ H a = some (.dK kvs) ∧ Q (.int kvs.length) H
theorem call_lenDD : CallR X (.builtin "len") rLenDD := call_lenD
theorem r_lenDD {a : Addr} {kvs : List (Key × V)} (h : H a = some (.dK kvs)) (q : Q (.int (kvs.length : Int)) H) : rLenDD [.ref a] H Q := ⟨_, _, rfl, h, q⟩
theorem r_popAt {a : Addr} {xs : List V} {i : Nat} {y : V} (h : H a = some (.lst xs)) (hi : xs[i]? = some y) (hs : xs.length ≤ sizeLine) (q : Q y (upd H a (.lst (xs.eraseIdx i)))) : rPopAt (.ref a) [.int (i : Int)] H Q := by
  have hl := (List.getElem?_eq_some_iff.mp hi).1
  have sz := sizeLine_eq
  refine ⟨a, xs, _, i, y, rfl, rfl, h, by omega, by omega, ?_, hi, q⟩
  unfold seqIndex?
  simp only [if_neg (show ¬ ((i : Int) < 0) by omega)]
  rw [if_pos (by rw [Bool.and_eq_true, decide_eq_true_eq, decide_eq_true_eq]; omega), Int.toNat_natCast]
theorem cutV_one {xs : List V} : cutV xs (some 1) none = xs.drop 1 := by
  have e : HT.sIx xs.length 0 (some 1) = min 1 xs.length := HT.sIx_nat _ _ 1
  unfold cutV
  rw [e, HT.sIx_none]
  cases xs with
  | nil => rfl
  | cons x r =>
    have e : min 1 (x :: r).length = 1 := by rw [List.length_cons]; omega
    rw [e]
    show (r.take (r.length + 1 - 1)) = r
    rw [Nat.add_sub_cancel, List.take_length]
/-! ### zip -/
theorem x_zip {ta : TA} {R : It → Hp → Prop} {K : PySem.W.Frag} : iZip K ta σ H R = ta σ H fun vs H1 => ∃ a b xs ys, vs = [.ref a, .ref b] ∧ SqL K H1 a xs ∧ SqL K H1 b ys ∧ R (Itz K a b) H1 := rfl
theorem forW_zip {K : PySem.W.Frag} {g : TG} {tb : TS} {D : Ends} {a b : Addr} {xs ys : List V} (Pv : Nat → L2.St → Hp → Prop) (h0 : Pv 0 σ H) (hG : ∀ i σ H, i ≤ min xs.length ys.length → Pv i σ H → SqL K H a xs ∧ SqL K H b ys)
    (hs : ∀ i x y T σ H, xs[i]? = some x → ys[i]? = some y → H T = none → Pv i σ H → g (.ref T) σ (upd H T (.tup [x, y])) fun σ2 H2 => tb { D with nx := Pv (i + 1), ct := Pv (i + 1), bk := D.nx } σ2 H2) (hd : ∀ σ H, Pv (min xs.length ys.length) σ H → D.nx σ H) : ForW (Itz K a b) g tb D σ H :=
  for_it (walk_zip rfl) Pv h0 hG (fun i x σ H H' hi p y => by
    obtain ⟨T, u, v, rfl, nT, rfl, e1, e2⟩ := y
    exact hs i u v T σ H e1 e2 nT p) hd
end
end G
namespace Pr
open PySem PySem.Spec PyProof.Rows L2 G
local macro_rules | `(tactic| walk_at "x") => `(tactic| try simp only [↓x_var0, ↓x_varS, ↓x_c, ↓x_op, ↓x_un, ↓x_cb, ↓x_nil, ↓x_cons, ↓x_test, ↓x_b, ↓x_ex, ↓x_and, ↓x_or, ↓x_not, ↓x_andV, ↓x_orV, ↓x_notV, ↓x_tif, ↓x_chain, ↓x_menu, ↓x_menuI, ↓x_lst, ↓x_tup, ↓x_dnew, ↓x_callW, ↓x_callN, ↓x_seq, ↓x_next, ↓x_ret, ↓x_retN, ↓x_drop, ↓x_ifS, ↓x_asg, ↓x_name, ↓x_raise, ↓x_fld, ↓x_setF, ↓x_meth, ↓x_make, ↓x_sub, ↓r_min, ↓r_max, ↓x_yes, ↓x_for, ↓x_lock, ↓x_keys, ↓x_cut, ↓x_lc, ↓x_rng1, ↓x_rng2, ↓x_lst1, ↓x_itup, ↓x_rng3, ↓x_three, ↓x_lstg, ↓x_tupg, ↓x_adrS, ↓x_one, ↓x_two, ↓x_adr, ↓x_sl, ↓x_np, ↓x_pt, ↓x_int, ↓x_bm, ↓x_bm0, ↓x_consg, ↓x_nilg, ↓x_dget2, ↓x_dget1, ↓x_dget, ↓x_din, ↓x_dni, ↓x_dput, ↓x_dpop2, ↓r_isB, ↓r_notB, ↓x_enum, ↓x_zip, wipe, List.map_cons, List.map_nil, ↓x_isT, ↓r_isiII, ↓r_isiBB, ↓r_isiIB, ↓r_isiSS, ↓r_neNS, ↓r_neSN, ↓r_neNN, ↓r_eqNS, ↓r_eqSN, ↓r_eqNN, ↓r_eqIS, ↓r_neIS, ↓r_neSI, ↓r_neBS, ↓r_eqBB, ↓r_neBB, ↓x_start, ↓x_K, ↓x_start0, ↓r_i0, ↓r_i, ↓r_u, ↓r_addI, ↓r_addS, ↓r_mulI, ↓r_mulS, ↓r_eqI, ↓r_neI, ↓r_eqS, ↓r_neS, ↓r_absI, ↓r_intI, ↓r_intB, List.length_cons, List.length_nil, List.replicate, List.set_cons_zero, List.set_cons_succ, decide_eq_true_eq, Bool.not_eq_true', decide_eq_false_iff_not, if_true, if_false, Bool.false_eq_true, Bool.true_eq_false, ite_true, ite_false, Bool.not_true, Bool.not_false, c_div, n_ten, c_pow, not_true_eq_false, not_false_eq_true, decide_true, decide_false, true_and, and_true, and_self, true_or, or_true, Int.reduceLT, Int.reduceLE, Int.reduceMul, Int.reduceAdd, Int.reduceSub, Int.reducePow, Int.reduceNeg, Int.reduceDiv, Int.reduceMod, Nat.reducePow, Int.reduceToNat, Int.reduceEq, Int.reduceNe, Nat.reduceLT, Nat.reduceLeDiff, Nat.reduceAdd])

/-! ## the text by places -/
def top (i : Nat) : Stmt := PySem.Challenge.pw_cellkeep_k11_a_cell_copied.main.body.getD i (.Pass ⟨0, 0, 0, 0⟩)
abbrev s__wall : Stmt := top 0
abbrev s_is_whole : Stmt := top 20
abbrev s_number_word : Stmt := top 21
abbrev s_place_word : Stmt := top 22
abbrev s_kind : Stmt := top 23
abbrev s_worth : Stmt := top 24
abbrev s_need_slots : Stmt := top 28
abbrev s_lay : Stmt := top 29
abbrev s_head_of : Stmt := top 30
abbrev s_slots_of : Stmt := top 31
abbrev s_age_of : Stmt := top 32
abbrev s_words_of : Stmt := top 33
abbrev s_aged : Stmt := top 34
abbrev s_send : Stmt := top 35
abbrev s_sent_to : Stmt := top 36
abbrev s_copied : Stmt := top 38
abbrev s_moved : Stmt := top 39
abbrev s_Memory___init__ : Stmt := inClass (top 42) 0
abbrev s_Memory_need : Stmt := inClass (top 42) 1
abbrev s_Memory_read : Stmt := inClass (top 42) 2
abbrev s_Memory_write : Stmt := inClass (top 42) 3
abbrev s_Memory_need_stretch : Stmt := inClass (top 42) 4
abbrev s_Memory_copy : Stmt := inClass (top 42) 5
abbrev s_Space___init__ : Stmt := inClass (top 44) 0
abbrev s_Space_room : Stmt := inClass (top 44) 1
abbrev s_Space_used : Stmt := inClass (top 44) 2
abbrev s_Space_has : Stmt := inClass (top 44) 3
abbrev s_Space_take : Stmt := inClass (top 44) 4
abbrev s_Space_empty : Stmt := inClass (top 44) 5
abbrev s_Space_cut : Stmt := inClass (top 44) 6
abbrev s_Space_cells : Stmt := inClass (top 44) 7
abbrev s_Areas___init__ : Stmt := inClass (top 50) 0
abbrev s_Areas_flip : Stmt := inClass (top 50) 1
abbrev s_Areas_area_of : Stmt := inClass (top 50) 2
abbrev s_Areas_lay_young : Stmt := inClass (top 50) 3
abbrev s_Areas_lay_old : Stmt := inClass (top 50) 4
abbrev s__law_at : Stmt := top 52
abbrev s__law_whole : Stmt := top 53
abbrev s__law_kinds : Stmt := top 54
abbrev s__law_told : Stmt := top 55
abbrev s__law_word : Stmt := top 56
abbrev s__law_built : Stmt := top 57
abbrev s__law_words : Stmt := top 58
abbrev s__law_due : Stmt := top 59
abbrev s__law_stands : Stmt := top 60
abbrev s__law_step : Stmt := top 61
abbrev s__law_no_head : Stmt := top 62
abbrev s_law : Stmt := top 63
def F_Memory (v0 v1 : V) : List (Str × V) := [("size", v0), ("words", v1)]
theorem pi_Memory_size {x  : V} : putF "size" x ([] : List (Str × V)) = ([("size", x)] : List (Str × V)) := rfl
theorem pf_Memory_size {x v0 v1 : V} : putF "size" x (F_Memory v0 v1) = F_Memory x v1 := rfl
theorem pi_Memory_words {x v0 : V} : putF "words" x ([("size", v0)] : List (Str × V)) = F_Memory v0 x := rfl
theorem pf_Memory_words {x v0 v1 : V} : putF "words" x (F_Memory v0 v1) = F_Memory v0 x := rfl
def F_Space (v0 v1 v2 : V) : List (Str × V) := [("begin", v0), ("end", v1), ("top", v2)]
theorem pi_Space_begin {x  : V} : putF "begin" x ([] : List (Str × V)) = ([("begin", x)] : List (Str × V)) := rfl
theorem pf_Space_begin {x v0 v1 v2 : V} : putF "begin" x (F_Space v0 v1 v2) = F_Space x v1 v2 := rfl
theorem pi_Space_end {x v0 : V} : putF "end" x ([("begin", v0)] : List (Str × V)) = ([("begin", v0), ("end", x)] : List (Str × V)) := rfl
theorem pf_Space_end {x v0 v1 v2 : V} : putF "end" x (F_Space v0 v1 v2) = F_Space v0 x v2 := rfl
theorem pi_Space_top {x v0 v1 : V} : putF "top" x ([("begin", v0), ("end", v1)] : List (Str × V)) = F_Space v0 v1 x := rfl
theorem pf_Space_top {x v0 v1 v2 : V} : putF "top" x (F_Space v0 v1 v2) = F_Space v0 v1 x := rfl
def F_Areas (v0 v1 v2 v3 : V) : List (Str × V) := [("memory", v0), ("old", v1), ("young", v2), ("spare", v3)]
theorem pi_Areas_memory {x  : V} : putF "memory" x ([] : List (Str × V)) = ([("memory", x)] : List (Str × V)) := rfl
theorem pf_Areas_memory {x v0 v1 v2 v3 : V} : putF "memory" x (F_Areas v0 v1 v2 v3) = F_Areas x v1 v2 v3 := rfl
theorem pi_Areas_old {x v0 : V} : putF "old" x ([("memory", v0)] : List (Str × V)) = ([("memory", v0), ("old", x)] : List (Str × V)) := rfl
theorem pf_Areas_old {x v0 v1 v2 v3 : V} : putF "old" x (F_Areas v0 v1 v2 v3) = F_Areas v0 x v2 v3 := rfl
theorem pi_Areas_young {x v0 v1 : V} : putF "young" x ([("memory", v0), ("old", v1)] : List (Str × V)) = ([("memory", v0), ("old", v1), ("young", x)] : List (Str × V)) := rfl
theorem pf_Areas_young {x v0 v1 v2 v3 : V} : putF "young" x (F_Areas v0 v1 v2 v3) = F_Areas v0 v1 x v3 := rfl
theorem pi_Areas_spare {x v0 v1 v2 : V} : putF "spare" x ([("memory", v0), ("old", v1), ("young", v2)] : List (Str × V)) = F_Areas v0 v1 v2 x := rfl
theorem pf_Areas_spare {x v0 v1 v2 v3 : V} : putF "spare" x (F_Areas v0 v1 v2 v3) = F_Areas v0 v1 v2 x := rfl
/-! ## the facts -/
def fa : List He.Fa := [.glo "KeepError", .glo "BadNumber", .glo "BadWord", .glo "BadCount", .glo "NoPlace", .glo "NoRoom", .glo "NoSlot", .glo "NoCell", .glo "NoHand", .glo "NothingHeld", .glo "NoName", .glo "NoDeed", .glo "NoImage", .glo "NoProgram", .glo "Memory", .glo "Space", .glo "Areas", .glo "_wall", .glo "is_whole", .glo "number_word", .glo "place_word", .glo "kind", .glo "worth", .glo "need_slots", .glo "lay", .glo "head_of", .glo "slots_of", .glo "age_of", .glo "words_of", .glo "aged", .glo "send", .glo "sent_to", .glo "copied", .glo "moved", .glo "_law_at", .glo "_law_whole", .glo "_law_kinds", .glo "_law_told", .glo "_law_word", .glo "_law_built", .glo "_law_words", .glo "_law_due", .glo "_law_stands", .glo "_law_step", .glo "_law_no_head", .glo "law", .int "MOST_NUMBER" (1000000000000), .int "MOST_PLACE" (9999), .int "NOTHING" (-1), .int "MOST_SLOTS" (8), .int "MOST_AGE" (2), .int "MOST_SIZE" (4000), .int "LEAST_OLD" (4), .int "MOST_OLD" (2000), .int "LEAST_YOUNG" (2), .int "MOST_YOUNG" (500), .free "isinstance", .free "len", .free "abs", .free "range", .free "int", .free "bool", .free "list", .free "ValueError", .exc "KeepError", .exc "BadNumber", .exc "BadWord", .exc "BadCount", .exc "NoPlace", .exc "NoRoom", .exc "NoSlot", .exc "NoCell", .exc "NoHand", .exc "NothingHeld", .exc "NoName", .exc "NoDeed", .exc "NoImage", .exc "NoProgram", .cls "Memory", .mkr "Memory", .meth "Memory" "need", .meth "Memory" "read", .meth "Memory" "write", .meth "Memory" "need_stretch", .meth "Memory" "copy", .noat "Memory" "size", .noat "Memory" "words", .cls "Space", .mkr "Space", .meth "Space" "room", .meth "Space" "used", .meth "Space" "has", .meth "Space" "take", .meth "Space" "empty", .meth "Space" "cut", .meth "Space" "cells", .noat "Space" "begin", .noat "Space" "end", .noat "Space" "top", .cls "Areas", .mkr "Areas", .meth "Areas" "flip", .meth "Areas" "area_of", .meth "Areas" "lay_young", .meth "Areas" "lay_old", .noat "Areas" "memory", .noat "Areas" "old", .noat "Areas" "young", .noat "Areas" "spare"]
def d__wall : He.DefD := ⟨("_wall", none), "_wall", "_wall", defArgs s__wall, defBody s__wall, defScope s__wall, [], []⟩
def d_is_whole : He.DefD := ⟨("is_whole", none), "is_whole", "is_whole", defArgs s_is_whole, defBody s_is_whole, defScope s_is_whole, [], []⟩
def d_number_word : He.DefD := ⟨("number_word", none), "number_word", "number_word", defArgs s_number_word, defBody s_number_word, defScope s_number_word, [], []⟩
def d_place_word : He.DefD := ⟨("place_word", none), "place_word", "place_word", defArgs s_place_word, defBody s_place_word, defScope s_place_word, [], []⟩
def d_kind : He.DefD := ⟨("kind", none), "kind", "kind", defArgs s_kind, defBody s_kind, defScope s_kind, [], []⟩
def d_worth : He.DefD := ⟨("worth", none), "worth", "worth", defArgs s_worth, defBody s_worth, defScope s_worth, [], []⟩
def d_need_slots : He.DefD := ⟨("need_slots", none), "need_slots", "need_slots", defArgs s_need_slots, defBody s_need_slots, defScope s_need_slots, [], []⟩
def d_lay : He.DefD := ⟨("lay", none), "lay", "lay", defArgs s_lay, defBody s_lay, defScope s_lay, [], []⟩
def d_head_of : He.DefD := ⟨("head_of", none), "head_of", "head_of", defArgs s_head_of, defBody s_head_of, defScope s_head_of, [], []⟩
def d_slots_of : He.DefD := ⟨("slots_of", none), "slots_of", "slots_of", defArgs s_slots_of, defBody s_slots_of, defScope s_slots_of, [], []⟩
def d_age_of : He.DefD := ⟨("age_of", none), "age_of", "age_of", defArgs s_age_of, defBody s_age_of, defScope s_age_of, [], []⟩
def d_words_of : He.DefD := ⟨("words_of", none), "words_of", "words_of", defArgs s_words_of, defBody s_words_of, defScope s_words_of, [], []⟩
def d_aged : He.DefD := ⟨("aged", none), "aged", "aged", defArgs s_aged, defBody s_aged, defScope s_aged, [], []⟩
def d_send : He.DefD := ⟨("send", none), "send", "send", defArgs s_send, defBody s_send, defScope s_send, [], []⟩
def d_sent_to : He.DefD := ⟨("sent_to", none), "sent_to", "sent_to", defArgs s_sent_to, defBody s_sent_to, defScope s_sent_to, [], []⟩
def d_copied : He.DefD := ⟨("copied", none), "copied", "copied", defArgs s_copied, defBody s_copied, defScope s_copied, [], []⟩
def d_moved : He.DefD := ⟨("moved", none), "moved", "moved", defArgs s_moved, defBody s_moved, defScope s_moved, [], []⟩
def d_Memory___init__ : He.DefD := ⟨("Memory", some "__init__"), "__init__", "Memory.__init__", defArgs s_Memory___init__, defBody s_Memory___init__, defScope s_Memory___init__, [], []⟩
def d_Memory_need : He.DefD := ⟨("Memory", some "need"), "need", "Memory.need", defArgs s_Memory_need, defBody s_Memory_need, defScope s_Memory_need, [], []⟩
def d_Memory_read : He.DefD := ⟨("Memory", some "read"), "read", "Memory.read", defArgs s_Memory_read, defBody s_Memory_read, defScope s_Memory_read, [], []⟩
def d_Memory_write : He.DefD := ⟨("Memory", some "write"), "write", "Memory.write", defArgs s_Memory_write, defBody s_Memory_write, defScope s_Memory_write, [], []⟩
def d_Memory_need_stretch : He.DefD := ⟨("Memory", some "need_stretch"), "need_stretch", "Memory.need_stretch", defArgs s_Memory_need_stretch, defBody s_Memory_need_stretch, defScope s_Memory_need_stretch, [], []⟩
def d_Memory_copy : He.DefD := ⟨("Memory", some "copy"), "copy", "Memory.copy", defArgs s_Memory_copy, defBody s_Memory_copy, defScope s_Memory_copy, [], []⟩
def d_Space___init__ : He.DefD := ⟨("Space", some "__init__"), "__init__", "Space.__init__", defArgs s_Space___init__, defBody s_Space___init__, defScope s_Space___init__, [], []⟩
def d_Space_room : He.DefD := ⟨("Space", some "room"), "room", "Space.room", defArgs s_Space_room, defBody s_Space_room, defScope s_Space_room, [], []⟩
def d_Space_used : He.DefD := ⟨("Space", some "used"), "used", "Space.used", defArgs s_Space_used, defBody s_Space_used, defScope s_Space_used, [], []⟩
def d_Space_has : He.DefD := ⟨("Space", some "has"), "has", "Space.has", defArgs s_Space_has, defBody s_Space_has, defScope s_Space_has, [], []⟩
def d_Space_take : He.DefD := ⟨("Space", some "take"), "take", "Space.take", defArgs s_Space_take, defBody s_Space_take, defScope s_Space_take, [], []⟩
def d_Space_empty : He.DefD := ⟨("Space", some "empty"), "empty", "Space.empty", defArgs s_Space_empty, defBody s_Space_empty, defScope s_Space_empty, [], []⟩
def d_Space_cut : He.DefD := ⟨("Space", some "cut"), "cut", "Space.cut", defArgs s_Space_cut, defBody s_Space_cut, defScope s_Space_cut, [], []⟩
def d_Space_cells : He.DefD := ⟨("Space", some "cells"), "cells", "Space.cells", defArgs s_Space_cells, defBody s_Space_cells, defScope s_Space_cells, [], []⟩
def d_Areas___init__ : He.DefD := ⟨("Areas", some "__init__"), "__init__", "Areas.__init__", defArgs s_Areas___init__, defBody s_Areas___init__, defScope s_Areas___init__, [], []⟩
def d_Areas_flip : He.DefD := ⟨("Areas", some "flip"), "flip", "Areas.flip", defArgs s_Areas_flip, defBody s_Areas_flip, defScope s_Areas_flip, [], []⟩
def d_Areas_area_of : He.DefD := ⟨("Areas", some "area_of"), "area_of", "Areas.area_of", defArgs s_Areas_area_of, defBody s_Areas_area_of, defScope s_Areas_area_of, [], []⟩
def d_Areas_lay_young : He.DefD := ⟨("Areas", some "lay_young"), "lay_young", "Areas.lay_young", defArgs s_Areas_lay_young, defBody s_Areas_lay_young, defScope s_Areas_lay_young, [], []⟩
def d_Areas_lay_old : He.DefD := ⟨("Areas", some "lay_old"), "lay_old", "Areas.lay_old", defArgs s_Areas_lay_old, defBody s_Areas_lay_old, defScope s_Areas_lay_old, [], []⟩
def d__law_at : He.DefD := ⟨("_law_at", none), "_law_at", "_law_at", defArgs s__law_at, defBody s__law_at, defScope s__law_at, [], []⟩
def d__law_whole : He.DefD := ⟨("_law_whole", none), "_law_whole", "_law_whole", defArgs s__law_whole, defBody s__law_whole, defScope s__law_whole, [], []⟩
def d__law_kinds : He.DefD := ⟨("_law_kinds", none), "_law_kinds", "_law_kinds", defArgs s__law_kinds, defBody s__law_kinds, defScope s__law_kinds, [], []⟩
def d__law_told : He.DefD := ⟨("_law_told", none), "_law_told", "_law_told", defArgs s__law_told, defBody s__law_told, defScope s__law_told, [], []⟩
def d__law_word : He.DefD := ⟨("_law_word", none), "_law_word", "_law_word", defArgs s__law_word, defBody s__law_word, defScope s__law_word, [], []⟩
def d__law_built : He.DefD := ⟨("_law_built", none), "_law_built", "_law_built", defArgs s__law_built, defBody s__law_built, defScope s__law_built, [], []⟩
def d__law_words : He.DefD := ⟨("_law_words", none), "_law_words", "_law_words", defArgs s__law_words, defBody s__law_words, defScope s__law_words, [], []⟩
def d__law_due : He.DefD := ⟨("_law_due", none), "_law_due", "_law_due", defArgs s__law_due, defBody s__law_due, defScope s__law_due, [], []⟩
def d__law_stands : He.DefD := ⟨("_law_stands", none), "_law_stands", "_law_stands", defArgs s__law_stands, defBody s__law_stands, defScope s__law_stands, [], []⟩
def d__law_step : He.DefD := ⟨("_law_step", none), "_law_step", "_law_step", defArgs s__law_step, defBody s__law_step, defScope s__law_step, [], []⟩
def d__law_no_head : He.DefD := ⟨("_law_no_head", none), "_law_no_head", "_law_no_head", defArgs s__law_no_head, defBody s__law_no_head, defScope s__law_no_head, [], []⟩
def d_law : He.DefD := ⟨("law", none), "law", "law", defArgs s_law, defBody s_law, defScope s_law, [], []⟩
def fn : List He.DefD := [d__wall, d_is_whole, d_number_word, d_place_word, d_kind, d_worth, d_need_slots, d_lay, d_head_of, d_slots_of, d_age_of, d_words_of, d_aged, d_send, d_sent_to, d_copied, d_moved, d_Memory___init__, d_Memory_need, d_Memory_read, d_Memory_write, d_Memory_need_stretch, d_Memory_copy, d_Space___init__, d_Space_room, d_Space_used, d_Space_has, d_Space_take, d_Space_empty, d_Space_cut, d_Space_cells, d_Areas___init__, d_Areas_flip, d_Areas_area_of, d_Areas_lay_young, d_Areas_lay_old, d__law_at, d__law_whole, d__law_kinds, d__law_told, d__law_word, d__law_built, d__law_words, d__law_due, d__law_stands, d__law_step, d__law_no_head, d_law]
def exL : XL := ⟨["KeepError", "BadNumber", "BadWord", "BadCount", "NoPlace", "NoRoom", "NoSlot", "NoCell", "NoHand", "NothingHeld", "NoName", "NoDeed", "NoImage", "NoProgram"], []⟩
abbrev Tx (K : PySem.W.Frag) (mg : Str → Option Value) : Prop := Told fa fn exL K mg
theorem sc__wall : FnScope ["k"] ["k"] (defScope s__wall) := ⟨rfl, rfl, rfl, by decide +kernel, rfl, by decide +kernel, by decide +kernel⟩
theorem sc_is_whole : FnScope ["thing"] ["thing"] (defScope s_is_whole) := ⟨rfl, rfl, rfl, by decide +kernel, rfl, by decide +kernel, by decide +kernel⟩
theorem sc_number_word : FnScope ["number"] ["number"] (defScope s_number_word) := ⟨rfl, rfl, rfl, by decide +kernel, rfl, by decide +kernel, by decide +kernel⟩
theorem sc_place_word : FnScope ["at"] ["at"] (defScope s_place_word) := ⟨rfl, rfl, rfl, by decide +kernel, rfl, by decide +kernel, by decide +kernel⟩
theorem sc_kind : FnScope ["word"] ["word"] (defScope s_kind) := ⟨rfl, rfl, rfl, by decide +kernel, rfl, by decide +kernel, by decide +kernel⟩
theorem sc_worth : FnScope ["word"] ["word"] (defScope s_worth) := ⟨rfl, rfl, rfl, by decide +kernel, rfl, by decide +kernel, by decide +kernel⟩
theorem sc_need_slots : FnScope ["slots"] ["slots"] (defScope s_need_slots) := ⟨rfl, rfl, rfl, by decide +kernel, rfl, by decide +kernel, by decide +kernel⟩
theorem sc_lay : FnScope ["memory", "at", "slots", "slot"] ["memory", "at", "slots"] (defScope s_lay) := ⟨rfl, rfl, rfl, by decide +kernel, rfl, by decide +kernel, by decide +kernel⟩
theorem sc_head_of : FnScope ["memory", "at", "word"] ["memory", "at"] (defScope s_head_of) := ⟨rfl, rfl, rfl, by decide +kernel, rfl, by decide +kernel, by decide +kernel⟩
theorem sc_slots_of : FnScope ["memory", "at"] ["memory", "at"] (defScope s_slots_of) := ⟨rfl, rfl, rfl, by decide +kernel, rfl, by decide +kernel, by decide +kernel⟩
theorem sc_age_of : FnScope ["memory", "at"] ["memory", "at"] (defScope s_age_of) := ⟨rfl, rfl, rfl, by decide +kernel, rfl, by decide +kernel, by decide +kernel⟩
theorem sc_words_of : FnScope ["memory", "at"] ["memory", "at"] (defScope s_words_of) := ⟨rfl, rfl, rfl, by decide +kernel, rfl, by decide +kernel, by decide +kernel⟩
theorem sc_aged : FnScope ["memory", "at", "age", "slots"] ["memory", "at", "age"] (defScope s_aged) := ⟨rfl, rfl, rfl, by decide +kernel, rfl, by decide +kernel, by decide +kernel⟩
theorem sc_send : FnScope ["memory", "at", "goal"] ["memory", "at", "goal"] (defScope s_send) := ⟨rfl, rfl, rfl, by decide +kernel, rfl, by decide +kernel, by decide +kernel⟩
theorem sc_sent_to : FnScope ["memory", "at", "word"] ["memory", "at"] (defScope s_sent_to) := ⟨rfl, rfl, rfl, by decide +kernel, rfl, by decide +kernel, by decide +kernel⟩
theorem sc_copied : FnScope ["memory", "at", "space", "age", "many", "goal"] ["memory", "at", "space", "age"] (defScope s_copied) := ⟨rfl, rfl, rfl, by decide +kernel, rfl, by decide +kernel, by decide +kernel⟩
theorem sc_moved : FnScope ["memory", "word", "goal"] ["memory", "word"] (defScope s_moved) := ⟨rfl, rfl, rfl, by decide +kernel, rfl, by decide +kernel, by decide +kernel⟩
theorem sc_Memory___init__ : FnScope ["self", "size", "at"] ["self", "size"] (defScope s_Memory___init__) := ⟨rfl, rfl, rfl, by decide +kernel, rfl, by decide +kernel, by decide +kernel⟩
theorem sc_Memory_need : FnScope ["self", "at"] ["self", "at"] (defScope s_Memory_need) := ⟨rfl, rfl, rfl, by decide +kernel, rfl, by decide +kernel, by decide +kernel⟩
theorem sc_Memory_read : FnScope ["self", "at"] ["self", "at"] (defScope s_Memory_read) := ⟨rfl, rfl, rfl, by decide +kernel, rfl, by decide +kernel, by decide +kernel⟩
theorem sc_Memory_write : FnScope ["self", "at", "word"] ["self", "at", "word"] (defScope s_Memory_write) := ⟨rfl, rfl, rfl, by decide +kernel, rfl, by decide +kernel, by decide +kernel⟩
theorem sc_Memory_need_stretch : FnScope ["self", "at", "many"] ["self", "at", "many"] (defScope s_Memory_need_stretch) := ⟨rfl, rfl, rfl, by decide +kernel, rfl, by decide +kernel, by decide +kernel⟩
theorem sc_Memory_copy : FnScope ["self", "start", "goal", "many", "row", "turn"] ["self", "start", "goal", "many"] (defScope s_Memory_copy) := ⟨rfl, rfl, rfl, by decide +kernel, rfl, by decide +kernel, by decide +kernel⟩
theorem sc_Space___init__ : FnScope ["self", "begin", "end"] ["self", "begin", "end"] (defScope s_Space___init__) := ⟨rfl, rfl, rfl, by decide +kernel, rfl, by decide +kernel, by decide +kernel⟩
theorem sc_Space_room : FnScope ["self"] ["self"] (defScope s_Space_room) := ⟨rfl, rfl, rfl, by decide +kernel, rfl, by decide +kernel, by decide +kernel⟩
theorem sc_Space_used : FnScope ["self"] ["self"] (defScope s_Space_used) := ⟨rfl, rfl, rfl, by decide +kernel, rfl, by decide +kernel, by decide +kernel⟩
theorem sc_Space_has : FnScope ["self", "at"] ["self", "at"] (defScope s_Space_has) := ⟨rfl, rfl, rfl, by decide +kernel, rfl, by decide +kernel, by decide +kernel⟩
theorem sc_Space_take : FnScope ["self", "many", "at"] ["self", "many"] (defScope s_Space_take) := ⟨rfl, rfl, rfl, by decide +kernel, rfl, by decide +kernel, by decide +kernel⟩
theorem sc_Space_empty : FnScope ["self"] ["self"] (defScope s_Space_empty) := ⟨rfl, rfl, rfl, by decide +kernel, rfl, by decide +kernel, by decide +kernel⟩
theorem sc_Space_cut : FnScope ["self", "top"] ["self", "top"] (defScope s_Space_cut) := ⟨rfl, rfl, rfl, by decide +kernel, rfl, by decide +kernel, by decide +kernel⟩
theorem sc_Space_cells : FnScope ["self", "memory"] ["self", "memory"] (defScope s_Space_cells) := ⟨rfl, rfl, rfl, by decide +kernel, rfl, by decide +kernel, by decide +kernel⟩
theorem sc_Areas___init__ : FnScope ["self", "old_words", "young_words"] ["self", "old_words", "young_words"] (defScope s_Areas___init__) := ⟨rfl, rfl, rfl, by decide +kernel, rfl, by decide +kernel, by decide +kernel⟩
theorem sc_Areas_flip : FnScope ["self", "kept"] ["self"] (defScope s_Areas_flip) := ⟨rfl, rfl, rfl, by decide +kernel, rfl, by decide +kernel, by decide +kernel⟩
theorem sc_Areas_area_of : FnScope ["self", "at"] ["self", "at"] (defScope s_Areas_area_of) := ⟨rfl, rfl, rfl, by decide +kernel, rfl, by decide +kernel, by decide +kernel⟩
theorem sc_Areas_lay_young : FnScope ["self", "slots", "at"] ["self", "slots"] (defScope s_Areas_lay_young) := ⟨rfl, rfl, rfl, by decide +kernel, rfl, by decide +kernel, by decide +kernel⟩
theorem sc_Areas_lay_old : FnScope ["self", "slots", "at"] ["self", "slots"] (defScope s_Areas_lay_old) := ⟨rfl, rfl, rfl, by decide +kernel, rfl, by decide +kernel, by decide +kernel⟩
theorem sc__law_at : FnScope ["_law_script", "_law_k"] ["_law_script", "_law_k"] (defScope s__law_at) := ⟨rfl, rfl, rfl, by decide +kernel, rfl, by decide +kernel, by decide +kernel⟩
theorem sc__law_whole : FnScope ["_law_found"] ["_law_found"] (defScope s__law_whole) := ⟨rfl, rfl, rfl, by decide +kernel, rfl, by decide +kernel, by decide +kernel⟩
theorem sc__law_kinds : FnScope ["_law_e", "_law_some"] ["_law_e"] (defScope s__law_kinds) := ⟨rfl, rfl, rfl, by decide +kernel, rfl, by decide +kernel, by decide +kernel⟩
theorem sc__law_told : FnScope ["_law_areas", "_law_at_here", "_law_space", "_law_age", "_law_e"] ["_law_areas", "_law_at_here", "_law_space", "_law_age"] (defScope s__law_told) := ⟨rfl, rfl, rfl, by decide +kernel, rfl, by decide +kernel, by decide +kernel⟩
theorem sc__law_word : FnScope ["_law_cell", "_law_places"] ["_law_cell", "_law_places"] (defScope s__law_word) := ⟨rfl, rfl, rfl, by decide +kernel, rfl, by decide +kernel, by decide +kernel⟩
theorem sc__law_built : FnScope ["_law_areas", "_law_script", "_law_places", "_law_k", "_law_cell", "_law_slot"] ["_law_areas", "_law_script"] (defScope s__law_built) := ⟨rfl, rfl, rfl, by decide +kernel, rfl, by decide +kernel, by decide +kernel⟩
theorem sc__law_words : FnScope ["_law_areas", "_law_at_here"] ["_law_areas"] (defScope s__law_words) := ⟨rfl, rfl, rfl, by decide +kernel, rfl, by decide +kernel, by decide +kernel⟩
theorem sc__law_due : FnScope ["_law_areas", "_law_at_here", "_law_space", "_law_age", "_law_is_sent"] ["_law_areas", "_law_at_here", "_law_space", "_law_age", "_law_is_sent"] (defScope s__law_due) := ⟨rfl, rfl, rfl, by decide +kernel, rfl, by decide +kernel, by decide +kernel⟩
theorem sc__law_stands : FnScope ["_law_areas", "_law_before", "_law_at_here", "_law_goal", "_law_age", "_law_many", "_law_due_here", "_law_k"] ["_law_areas", "_law_before", "_law_at_here", "_law_goal", "_law_age"] (defScope s__law_stands) := ⟨rfl, rfl, rfl, by decide +kernel, rfl, by decide +kernel, by decide +kernel⟩
theorem sc__law_step : FnScope ["_law_areas", "_law_places", "_law_sent", "_law_cell", "_law_at_here", "_law_space", "_law_age", "_law_due_here", "_law_before", "_law_tops", "_law_found", "_law_kinds_here", "_law_k", "_law_stays", "_law_top"] ["_law_areas", "_law_places", "_law_sent", "_law_cell"] (defScope s__law_step) := ⟨rfl, rfl, rfl, by decide +kernel, rfl, by decide +kernel, by decide +kernel⟩
theorem sc__law_no_head : FnScope ["_law_areas", "_law_cell", "_law_size", "_law_at_here", "_law_due_here", "_law_before", "_law_tops", "_law_found", "_law_k"] ["_law_areas", "_law_cell"] (defScope s__law_no_head) := ⟨rfl, rfl, rfl, by decide +kernel, rfl, by decide +kernel, by decide +kernel⟩
theorem sc_law : FnScope ["_law_script", "_law_areas", "_law_places", "_law_sent", "_law_cell", "_law_at_here", "_law_number"] ["_law_script"] (defScope s_law) := ⟨rfl, rfl, rfl, by decide +kernel, rfl, by decide +kernel, by decide +kernel⟩

/-! ## the head and the end -/
abbrev RR : PySem.W.OpenRow := PySem.W.OpenLaw.row PySem.Challenge.rw_cellkeep_k11_a_cell_copied
abbrev hk : PySem.W.Hook := hookG 6 fa fn exL
def ob (s : PySem.W.SharedT) : He.AlD × Bool := lookG 6 fa fn exL (HandSHeadRun.getT s)
theorem ob_eq (s : PySem.W.SharedT) : ob s = hk.obs s.abs := lookG_eq (HandSHeadRun.getT_eq s)
def loose : List Str := (["_wall", "KeepError", "BadNumber", "BadWord", "BadCount", "NoPlace", "NoRoom", "NoSlot", "NoCell", "NoHand", "NothingHeld", "NoName", "NoDeed", "NoImage", "NoProgram", "MOST_NUMBER", "MOST_PLACE", "NOTHING", "is_whole", "number_word", "place_word", "kind", "worth", "MOST_SLOTS", "MOST_AGE", "need_slots", "lay", "head_of", "slots_of", "age_of"] : List Str) ++ (["words_of", "aged", "send", "sent_to", "copied", "moved", "MOST_SIZE", "Memory", "Space", "LEAST_OLD", "MOST_OLD", "LEAST_YOUNG", "MOST_YOUNG", "Areas", "_law_at", "_law_whole", "_law_kinds", "_law_told", "_law_word", "_law_built", "_law_words", "_law_due", "_law_stands", "_law_step", "_law_no_head"] : List Str)
theorem run (w : World) : HandSHeadRun.RunEq RR (PySem.W.view RR.prog [63]) hk ob 16000 loose w := by
  intro os
  kernel_rfl

/-! ## words -/
/-- a plain thing that is no whole number -/
def Odd (H : Hp) (v : V) : Prop := ∃ t, tyOf v H = some t ∧ t ≠ "int"
theorem odd_not {H : Hp} {n : Int} : ¬ Odd H (.int n) := fun ⟨t, e, h⟩ => h (Option.some.inj e).symm
theorem odd_bl {H : Hp} {b : Bool} : Odd H (.bl b) := ⟨"bool", rfl, by decide⟩
theorem odd_non {H : Hp} : Odd H .non := ⟨"NoneType", rfl, by decide⟩
theorem odd_str {H : Hp} {z : Str} : Odd H (.str z) := ⟨"str", rfl, by decide⟩
theorem odd_lst {H : Hp} {a : Addr} {xs : List V} (h : H a = some (.lst xs)) : Odd H (.ref a) := ⟨"list", by show tyO (H a) = _; rw [h]; rfl, by decide⟩
theorem odd_tup {H : Hp} {a : Addr} {xs : List V} (h : H a = some (.tup xs)) : Odd H (.ref a) := ⟨"tuple", by show tyO (H a) = _; rw [h]; rfl, by decide⟩
theorem odd_dK {H : Hp} {a : Addr} {kvs : List (Key × V)} (h : H a = some (.dK kvs)) : Odd H (.ref a) := ⟨"dict", by show tyO (H a) = _; rw [h]; rfl, by decide⟩
inductive Wd where
  | num (n : Int) | place (p : Int) | nothing
  deriving DecidableEq
def Wd.kind : Wd → Str
  | .num _ => "number"
  | .place _ => "place"
  | .nothing => "nothing"
def Wd.worth : Wd → V
  | .num n => .int n
  | .place p => .int p
  | .nothing => .non
def wordOf (n : Int) : Option Wd := if n = -1 then some .nothing else if n % 2 = 0 ∧ (n.natAbs : Int) ≤ 2000000000000 then some (.num (n / 2)) else if n % 2 = 1 ∧ 0 < n ∧ n ≤ 19999 then some (.place (n / 2)) else none
abbrev Ex (K : PySem.W.Frag) (x : Str) : Value := .ref (He.ga K x)
def sp_is_whole : Sp
  | [.int _], H, Q, _ => Q (.bl true) H
  | [v], H, Q, _ => Odd H v ∧ Q (.bl false) H
  | _, _, _, _ => False
theorem len_is_whole {vs H Q E} (h : sp_is_whole vs H Q E) : vs.length = 1 := by unfold sp_is_whole at h; split at h <;> first | rfl | exact h.elim
theorem odd_whole {H : Hp} {v : V} {Q : VK} {E : XK} (h : Odd H v) : sp_is_whole [v] H Q E = Q (.bl false) H := by
  cases v with
  | int n => exact (odd_not h).elim
  | _ => exact propext ⟨fun z => z.2, fun z => ⟨h, z⟩⟩
theorem x_whole {H : Hp} {n : Int} {Q : VK} {E : XK} : sp_is_whole [.int n] H Q E = Q (.bl true) H := rfl
/-- the two questions of is_whole -/
theorem whole_odd {H : Hp} {v : V} {Q : VK} (h : Odd H v) (q : Q (.bl false) H) : gIsi [v, .ty "int"] H fun x H1 => ∃ c, x = .bl c ∧ if c = true then gIsi [v, .ty "bool"] H1 (fun x H2 => ∃ c, x = .bl c ∧ Q (.bl (!c)) H2) else Q (.bl false) H1 := by
  obtain ⟨t, e, ne⟩ := h
  refine ⟨by decide, t, e, _, rfl, ?_⟩
  have m := tyOf_in e
  split
  · rename_i c
    have tb : t = "bool" := by
      simp only [tys, List.mem_cons, List.not_mem_nil, or_false] at m
      rcases m with rfl | rfl | rfl | rfl | rfl | rfl | rfl
      · exact absurd c (by decide)
      · rfl
      · exact absurd rfl ne
      · exact absurd c (by decide)
      · exact absurd c (by decide)
      · exact absurd c (by decide)
      · exact absurd c (by decide)
    subst tb
    exact ⟨by decide, _, e, _, rfl, q⟩
  · exact q
theorem whole_int {H : Hp} {n : Int} {Q : VK} (q : Q (.bl true) H) : gIsi [.int n, .ty "int"] H fun x H1 => ∃ c, x = .bl c ∧ if c = true then gIsi [.int n, .ty "bool"] H1 (fun x H2 => ∃ c, x = .bl c ∧ Q (.bl (!c)) H2) else Q (.bl false) H1 :=
  ⟨by decide, _, rfl, _, rfl, by rw [if_pos (by decide)]; exact ⟨by decide, _, rfl, _, rfl, q⟩⟩
def sp_number_word (K : PySem.W.Frag) : Sp
  | [.int n], H, Q, E => if (n.natAbs : Int) ≤ 1000000000000 then Q (.int (2 * n)) H else E (Ex K "BadNumber") none H
  | [v], H, _, E => Odd H v ∧ E (Ex K "BadNumber") none H
  | _, _, _, _ => False
theorem odd_number_word {K : PySem.W.Frag} {H : Hp} {v : V} {Q : VK} {E : XK} (h : Odd H v) : sp_number_word K [v] H Q E = E (Ex K "BadNumber") none H := by
  cases v with
  | int n => exact (odd_not h).elim
  | _ => exact propext ⟨fun z => z.2, fun z => ⟨h, z⟩⟩
theorem one_number_word {K : PySem.W.Frag} {vs : List V} {H : Hp} {Q : VK} {E : XK} (h : sp_number_word K vs H Q E) : (∃ n, vs = [.int n]) ∨ ∃ v, vs = [v] ∧ Odd H v ∧ E (Ex K "BadNumber") none H := by
  unfold sp_number_word at h
  split at h
  · exact .inl ⟨_, rfl⟩
  · exact .inr ⟨_, rfl, h⟩
  · exact h.elim
theorem len_number_word {K vs H Q E} (h : sp_number_word K vs H Q E) : vs.length = 1 := by unfold sp_number_word at h; split at h <;> first | rfl | exact h.elim
def sp_place_word (K : PySem.W.Frag) : Sp
  | [.int n], H, Q, E => if 0 ≤ n ∧ n ≤ 9999 then Q (.int (2 * n + 1)) H else E (Ex K "NoPlace") none H
  | [v], H, _, E => Odd H v ∧ E (Ex K "NoPlace") none H
  | _, _, _, _ => False
theorem odd_place_word {K : PySem.W.Frag} {H : Hp} {v : V} {Q : VK} {E : XK} (h : Odd H v) : sp_place_word K [v] H Q E = E (Ex K "NoPlace") none H := by
  cases v with
  | int n => exact (odd_not h).elim
  | _ => exact propext ⟨fun z => z.2, fun z => ⟨h, z⟩⟩
theorem one_place_word {K : PySem.W.Frag} {vs : List V} {H : Hp} {Q : VK} {E : XK} (h : sp_place_word K vs H Q E) : (∃ n, vs = [.int n]) ∨ ∃ v, vs = [v] ∧ Odd H v ∧ E (Ex K "NoPlace") none H := by
  unfold sp_place_word at h
  split at h
  · exact .inl ⟨_, rfl⟩
  · exact .inr ⟨_, rfl, h⟩
  · exact h.elim
theorem len_place_word {K vs H Q E} (h : sp_place_word K vs H Q E) : vs.length = 1 := by unfold sp_place_word at h; split at h <;> first | rfl | exact h.elim
def sp_kind (K : PySem.W.Frag) : Sp
  | [.int n], H, Q, E => match wordOf n with
    | some w => Q (.str w.kind) H
    | none => E (Ex K "BadWord") none H
  | [v], H, _, E => Odd H v ∧ E (Ex K "BadWord") none H
  | _, _, _, _ => False
theorem odd_kind {K : PySem.W.Frag} {H : Hp} {v : V} {Q : VK} {E : XK} (h : Odd H v) : sp_kind K [v] H Q E = E (Ex K "BadWord") none H := by
  cases v with
  | int n => exact (odd_not h).elim
  | _ => exact propext ⟨fun z => z.2, fun z => ⟨h, z⟩⟩
theorem one_kind {K : PySem.W.Frag} {vs : List V} {H : Hp} {Q : VK} {E : XK} (h : sp_kind K vs H Q E) : (∃ n, vs = [.int n]) ∨ ∃ v, vs = [v] ∧ Odd H v ∧ E (Ex K "BadWord") none H := by
  unfold sp_kind at h
  split at h
  · exact .inl ⟨_, rfl⟩
  · exact .inr ⟨_, rfl, h⟩
  · exact h.elim
theorem len_kind {K vs H Q E} (h : sp_kind K vs H Q E) : vs.length = 1 := by unfold sp_kind at h; split at h <;> first | rfl | exact h.elim
def sp_worth (K : PySem.W.Frag) : Sp
  | [.int n], H, Q, E => match wordOf n with
    | some w => Q w.worth H
    | none => E (Ex K "BadWord") none H
  | [v], H, _, E => Odd H v ∧ E (Ex K "BadWord") none H
  | _, _, _, _ => False
theorem odd_worth {K : PySem.W.Frag} {H : Hp} {v : V} {Q : VK} {E : XK} (h : Odd H v) : sp_worth K [v] H Q E = E (Ex K "BadWord") none H := by
  cases v with
  | int n => exact (odd_not h).elim
  | _ => exact propext ⟨fun z => z.2, fun z => ⟨h, z⟩⟩
theorem one_worth {K : PySem.W.Frag} {vs : List V} {H : Hp} {Q : VK} {E : XK} (h : sp_worth K vs H Q E) : (∃ n, vs = [.int n]) ∨ ∃ v, vs = [v] ∧ Odd H v ∧ E (Ex K "BadWord") none H := by
  unfold sp_worth at h
  split at h
  · exact .inl ⟨_, rfl⟩
  · exact .inr ⟨_, rfl, h⟩
  · exact h.elim
theorem len_worth {K vs H Q E} (h : sp_worth K vs H Q E) : vs.length = 1 := by unfold sp_worth at h; split at h <;> first | rfl | exact h.elim
section
variable {K : PySem.W.Frag} {H : Hp} {n : Int} {Q : VK} {E : XK}
theorem x_number_word : sp_number_word K [.int n] H Q E = if (n.natAbs : Int) ≤ 1000000000000 then Q (.int (2 * n)) H else E (Ex K "BadNumber") none H := rfl
theorem x_place_word : sp_place_word K [.int n] H Q E = if 0 ≤ n ∧ n ≤ 9999 then Q (.int (2 * n + 1)) H else E (Ex K "NoPlace") none H := rfl
theorem x_kind : sp_kind K [.int n] H Q E = match wordOf n with
    | some w => Q (.str w.kind) H
    | none => E (Ex K "BadWord") none H := rfl
theorem x_worth : sp_worth K [.int n] H Q E = match wordOf n with
    | some w => Q w.worth H
    | none => E (Ex K "BadWord") none H := rfl
end
theorem kind_if {A B C F : Prop} {n : Int} {f : Wd → Prop} (h1 : f .nothing = A) (h2 : f (.num (n / 2)) = B) (h3 : f (.place (n / 2)) = C) :
    (match wordOf n with
    | some w => f w
    | none => F) = if n = -1 then A else if n % 2 = 0 ∧ (n.natAbs : Int) ≤ 2000000000000 then B else if n % 2 = 1 ∧ 0 < n ∧ n ≤ 19999 then C else F := by
  unfold wordOf
  by_cases c1 : n = -1
  · rw [if_pos c1, if_pos c1]; exact h1
  · rw [if_neg c1, if_neg c1]
    by_cases c2 : n % 2 = 0 ∧ (n.natAbs : Int) ≤ 2000000000000
    · rw [if_pos c2, if_pos c2]; exact h2
    · rw [if_neg c2, if_neg c2]
      by_cases c3 : n % 2 = 1 ∧ 0 < n ∧ n ≤ 19999
      · rw [if_pos c3, if_pos c3]; exact h3
      · rw [if_neg c3, if_neg c3]
theorem kind_is (w : Wd) : (w.kind = "nothing" ↔ w = .nothing) ∧ (w.kind = "place" ↔ ∃ p, w = .place p) ∧ (w.kind = "number" ↔ ∃ n, w = .num n) := by
  have d1 : ("number" : Str) ≠ "nothing" := by decide +kernel
  have d2 : ("number" : Str) ≠ "place" := by decide +kernel
  have d3 : ("place" : Str) ≠ "nothing" := by decide +kernel
  cases w with
  | num n => exact ⟨⟨fun z => (d1 z).elim, fun z => by cases z⟩, ⟨fun z => (d2 z).elim, fun ⟨_, z⟩ => by cases z⟩, ⟨fun _ => ⟨n, rfl⟩, fun _ => rfl⟩⟩
  | place n => exact ⟨⟨fun z => (d3 z).elim, fun z => by cases z⟩, ⟨fun _ => ⟨n, rfl⟩, fun _ => rfl⟩, ⟨fun z => (d2 z.symm).elim, fun ⟨_, z⟩ => by cases z⟩⟩
  | nothing => exact ⟨⟨fun _ => rfl, fun _ => rfl⟩, ⟨fun z => (d3 z.symm).elim, fun ⟨_, z⟩ => by cases z⟩, ⟨fun z => (d1 z.symm).elim, fun ⟨_, z⟩ => by cases z⟩⟩
theorem wordOf_div {n : Int} {w : Wd} (h : wordOf n = some w) : w.worth = if w = .nothing then .non else .int (n / 2) := by
  unfold wordOf at h
  repeat' split at h
  all_goals (cases h; try rfl)
local macro_rules | `(tactic| walk_at "w") => `(tactic| try simp only [↓x_var0, ↓x_varS, ↓x_c, ↓x_op, ↓x_un, ↓x_cb, ↓x_nil, ↓x_cons, ↓x_test, ↓x_b, ↓x_ex, ↓x_and, ↓x_or, ↓x_not, ↓x_andV, ↓x_orV, ↓x_notV, ↓x_tif, ↓x_chain, ↓x_menu, ↓x_menuI, ↓x_lst, ↓x_tup, ↓x_dnew, ↓x_callW, ↓x_callN, ↓x_seq, ↓x_next, ↓x_ret, ↓x_retN, ↓x_drop, ↓x_ifS, ↓x_asg, ↓x_name, ↓x_raise, ↓x_fld, ↓x_setF, ↓x_meth, ↓x_make, ↓x_sub, ↓r_min, ↓r_max, ↓x_yes, ↓x_for, ↓x_lock, ↓x_keys, ↓x_cut, ↓x_lc, ↓x_rng1, ↓x_rng2, ↓x_lst1, ↓x_itup, ↓x_rng3, ↓x_three, ↓x_lstg, ↓x_tupg, ↓x_adrS, ↓x_one, ↓x_two, ↓x_adr, ↓x_sl, ↓x_np, ↓x_pt, ↓x_int, ↓x_bm, ↓x_bm0, ↓x_consg, ↓x_nilg, ↓x_dget2, ↓x_dget1, ↓x_dget, ↓x_din, ↓x_dni, ↓x_dput, ↓x_dpop2, ↓r_isB, ↓r_notB, ↓x_enum, ↓x_zip, wipe, List.map_cons, List.map_nil, ↓x_isT, ↓r_isiII, ↓r_isiBB, ↓r_isiIB, ↓r_isiSS, ↓r_neNS, ↓r_neSN, ↓r_neNN, ↓r_eqNS, ↓r_eqSN, ↓r_eqNN, ↓r_eqIS, ↓r_neIS, ↓r_neSI, ↓r_neBS, ↓r_eqBB, ↓r_neBB, ↓x_start, ↓x_K, ↓x_start0, ↓r_i0, ↓r_i, ↓r_u, ↓r_addI, ↓r_addS, ↓r_mulI, ↓r_mulS, ↓r_eqI, ↓r_neI, ↓r_eqS, ↓r_neS, ↓r_absI, ↓r_intI, ↓r_intB, List.length_cons, List.length_nil, List.replicate, List.set_cons_zero, List.set_cons_succ, decide_eq_true_eq, Bool.not_eq_true', decide_eq_false_iff_not, if_true, if_false, Bool.false_eq_true, Bool.true_eq_false, ite_true, ite_false, Bool.not_true, Bool.not_false, c_div, n_ten, c_pow, not_true_eq_false, not_false_eq_true, decide_true, decide_false, true_and, and_true, and_self, true_or, or_true, Int.reduceLT, Int.reduceLE, Int.reduceMul, Int.reduceAdd, Int.reduceSub, Int.reducePow, Int.reduceNeg, Int.reduceDiv, Int.reduceMod, Nat.reducePow, Int.reduceToNat, Int.reduceEq, Int.reduceNe, Nat.reduceLT, Nat.reduceLeDiff, Nat.reduceAdd, ↓x_whole])
section
variable {P : Program} {w : World} {K : PySem.W.Frag} {mg : Str → Option Value} {base : Heap}
theorem f_is_whole (T : Tx K mg) : Fn P w K mg base 1 "is_whole" ["thing"] (sp_is_whole) := by
  refine T.mkFn 1 18 (d := d_is_whole) (N := ["thing"]) (k := 0) rfl rfl rfl rfl rfl sc_is_whole (fun _ _ _ _ _ _ us hl => match us, hl with | [_], _ => rfl) (fun vs H Q E h => ?len) (fun cdv A outer s H vs Q E hr h => ⟨_,
      (pss_one (ps_ret (pe_and (pe_callB call_gIsi (by rfl) (T.free 56) (by decide +kernel) (pa_cons (pv 0) (pa_cons (pe_ty (T := "int") (T.free 60) (by decide +kernel) (by rfl)) pa_nil))) (pe_one (pe_not (pe_callB call_gIsi (by rfl) (T.free 56) (by decide +kernel) (pa_cons (pv 0) (pa_cons (pe_ty (T := "bool") (T.free 61) (by decide +kernel) (by rfl)) pa_nil)))))))), ?rd⟩)
  case len => first | exact len_is_whole h | (repeat (first | (obtain ⟨rfl, _⟩ := h; rfl; done) | obtain ⟨_, h⟩ := h))
  case rd =>
    obtain ⟨v, rfl⟩ : ∃ v, vs = [v] := by unfold sp_is_whole at h; split at h <;> first | exact ⟨_, rfl⟩ | exact h.elim
    walk_at "x"
    cases v with
    | int n => exact whole_int h
    | _ => exact whole_odd h.1 h.2
theorem f_number_word (T : Tx K mg) : Fn P w K mg base 2 "number_word" ["number"] (sp_number_word K) := by
  have c_is_whole := f_is_whole (P := P) (w := w) (base := base) T
  refine T.mkFn 2 19 (d := d_number_word) (N := ["number"]) (k := 1) rfl rfl rfl rfl rfl sc_number_word (fun _ _ _ _ _ _ us hl => match us, hl with | [_], _ => rfl) (fun vs H Q E h => ?len) (fun cdv A outer s H vs Q E hr h => ⟨_,
      (pss_cons (ps_if (PW.pt (pw_or (pt_not (pt_val (pe_fn (takes_of rfl rfl rfl rfl) c_is_whole (hr.mono (by decide)) (by rfl) (pa_cons (pv 0) pa_nil)))) (pw_or1 (pt_cmpR op_gt (pe_callB call_gAbs (by rfl) (T.free 58) (by decide +kernel) (pa_cons (pv 0) pa_nil)) (pe_num (T.num 46) (by rfl)) (nomark _))))) (pss_one (ps_raiseK (K := K) rfl rfl (takes_of rfl rfl rfl rfl) (T.says.fact 65 rfl) (T.glo 1) (by rfl))) pss_nil)
        (pss_one (ps_ret (pe_op op_gMul pe_int (pv 0))))), ?rd⟩)
  case len => first | exact len_number_word h | (repeat (first | (obtain ⟨rfl, _⟩ := h; rfl; done) | obtain ⟨_, h⟩ := h))
  case rd =>
    rcases one_number_word h with ⟨n, rfl⟩ | ⟨v, rfl, o, h⟩
    · walk_at "w"
      rw [x_number_word] at h
      ((repeat' split) <;> (repeat' split at h) <;> first | exact h | (exfalso; omega))
    · walk_at "x"
      rw [odd_whole o]
      walk_at "x"
      exact h
theorem f_place_word (T : Tx K mg) : Fn P w K mg base 2 "place_word" ["at"] (sp_place_word K) := by
  have c_is_whole := f_is_whole (P := P) (w := w) (base := base) T
  refine T.mkFn 3 20 (d := d_place_word) (N := ["at"]) (k := 1) rfl rfl rfl rfl rfl sc_place_word (fun _ _ _ _ _ _ us hl => match us, hl with | [_], _ => rfl) (fun vs H Q E h => ?len) (fun cdv A outer s H vs Q E hr h => ⟨_,
      (pss_cons (ps_if (PW.pt (pw_or (pt_not (pt_val (pe_fn (takes_of rfl rfl rfl rfl) c_is_whole (hr.mono (by decide)) (by rfl) (pa_cons (pv 0) pa_nil)))) (pw_or1 (pt_not (pt_chain op_le op_le pe_int (pv 0) (pe_num (T.num 47) (by rfl))))))) (pss_one (ps_raiseK (K := K) rfl rfl (takes_of rfl rfl rfl rfl) (T.says.fact 68 rfl) (T.glo 4) (by rfl))) pss_nil)
        (pss_one (ps_ret (pe_op op_gAdd (pe_op op_gMul pe_int (pv 0)) pe_int)))), ?rd⟩)
  case len => first | exact len_place_word h | (repeat (first | (obtain ⟨rfl, _⟩ := h; rfl; done) | obtain ⟨_, h⟩ := h))
  case rd =>
    rcases one_place_word h with ⟨n, rfl⟩ | ⟨v, rfl, o, h⟩
    · walk_at "w"
      rw [x_place_word] at h
      ((repeat' split) <;> (repeat' split at h) <;> first | exact h | (exfalso; omega))
    · walk_at "x"
      rw [odd_whole o]
      walk_at "x"
      exact h
theorem f_kind (T : Tx K mg) : Fn P w K mg base 2 "kind" ["word"] (sp_kind K) := by
  have c_is_whole := f_is_whole (P := P) (w := w) (base := base) T
  refine T.mkFn 4 21 (d := d_kind) (N := ["word"]) (k := 1) rfl rfl rfl rfl rfl sc_kind (fun _ _ _ _ _ _ us hl => match us, hl with | [_], _ => rfl) (fun vs H Q E h => ?len) (fun cdv A outer s H vs Q E hr h => ⟨_,
      (pss_cons (ps_if (pt_not (pt_val (pe_fn (takes_of rfl rfl rfl rfl) c_is_whole (hr.mono (by decide)) (by rfl) (pa_cons (pv 0) pa_nil)))) (pss_one (ps_raiseK (K := K) rfl rfl (takes_of rfl rfl rfl rfl) (T.says.fact 66 rfl) (T.glo 2) (by rfl))) pss_nil)
        (pss_cons (ps_if (pt_cmpR (op_eqK (K := K) rfl hr.units) (pv 0) (pe_num (T.num 48) (by rfl)) (nomark _)) (pss_one (ps_ret pe_str)) pss_nil)
        (pss_cons (ps_if (PW.pt (pw_and (pt_cmpR (op_eqK (K := K) rfl hr.units) (pe_op op_mod (pv 0) pe_int) pe_int (nomark _)) (pw_and1 (pt_cmpR op_le (pe_callB call_gAbs (by rfl) (T.free 58) (by decide +kernel) (pa_cons (pv 0) pa_nil)) (pe_op op_gMul pe_int (pe_num (T.num 46) (by rfl))) (nomark _))))) (pss_one (ps_ret pe_str)) pss_nil)
        (pss_cons (ps_if (PW.pt (pw_and (pt_cmpR (op_eqK (K := K) rfl hr.units) (pe_op op_mod (pv 0) pe_int) pe_int (nomark _)) (pw_and1 (pt_chain op_lt op_le pe_int (pv 0) (pe_op op_gAdd (pe_op op_gMul pe_int (pe_num (T.num 47) (by rfl))) pe_int))))) (pss_one (ps_ret pe_str)) pss_nil)
        (pss_one (ps_raiseK (K := K) rfl rfl (takes_of rfl rfl rfl rfl) (T.says.fact 66 rfl) (T.glo 2) (by rfl))))))), ?rd⟩)
  case len => first | exact len_kind h | (repeat (first | (obtain ⟨rfl, _⟩ := h; rfl; done) | obtain ⟨_, h⟩ := h))
  case rd =>
    rcases one_kind h with ⟨n, rfl⟩ | ⟨v, rfl, o, h⟩
    · walk_at "w"
      rw [x_kind, kind_if rfl rfl rfl] at h
      ((repeat' split) <;> (repeat' split at h) <;> first | exact h | (exfalso; omega))
    · walk_at "x"
      rw [odd_whole o]
      walk_at "x"
      exact h
local macro_rules | `(tactic| walk_at "w2") => `(tactic| try simp only [↓x_var0, ↓x_varS, ↓x_c, ↓x_op, ↓x_un, ↓x_cb, ↓x_nil, ↓x_cons, ↓x_test, ↓x_b, ↓x_ex, ↓x_and, ↓x_or, ↓x_not, ↓x_andV, ↓x_orV, ↓x_notV, ↓x_tif, ↓x_chain, ↓x_menu, ↓x_menuI, ↓x_lst, ↓x_tup, ↓x_dnew, ↓x_callW, ↓x_callN, ↓x_seq, ↓x_next, ↓x_ret, ↓x_retN, ↓x_drop, ↓x_ifS, ↓x_asg, ↓x_name, ↓x_raise, ↓x_fld, ↓x_setF, ↓x_meth, ↓x_make, ↓x_sub, ↓r_min, ↓r_max, ↓x_yes, ↓x_for, ↓x_lock, ↓x_keys, ↓x_cut, ↓x_lc, ↓x_rng1, ↓x_rng2, ↓x_lst1, ↓x_itup, ↓x_rng3, ↓x_three, ↓x_lstg, ↓x_tupg, ↓x_adrS, ↓x_one, ↓x_two, ↓x_adr, ↓x_sl, ↓x_np, ↓x_pt, ↓x_int, ↓x_bm, ↓x_bm0, ↓x_consg, ↓x_nilg, ↓x_dget2, ↓x_dget1, ↓x_dget, ↓x_din, ↓x_dni, ↓x_dput, ↓x_dpop2, ↓r_isB, ↓r_notB, ↓x_enum, ↓x_zip, wipe, List.map_cons, List.map_nil, ↓x_isT, ↓r_isiII, ↓r_isiBB, ↓r_isiIB, ↓r_isiSS, ↓r_neNS, ↓r_neSN, ↓r_neNN, ↓r_eqNS, ↓r_eqSN, ↓r_eqNN, ↓r_eqIS, ↓r_neIS, ↓r_neSI, ↓r_neBS, ↓r_eqBB, ↓r_neBB, ↓x_start, ↓x_K, ↓x_start0, ↓r_i0, ↓r_i, ↓r_u, ↓r_addI, ↓r_addS, ↓r_mulI, ↓r_mulS, ↓r_eqI, ↓r_neI, ↓r_eqS, ↓r_neS, ↓r_absI, ↓r_intI, ↓r_intB, List.length_cons, List.length_nil, List.replicate, List.set_cons_zero, List.set_cons_succ, decide_eq_true_eq, Bool.not_eq_true', decide_eq_false_iff_not, if_true, if_false, Bool.false_eq_true, Bool.true_eq_false, ite_true, ite_false, Bool.not_true, Bool.not_false, c_div, n_ten, c_pow, not_true_eq_false, not_false_eq_true, decide_true, decide_false, true_and, and_true, and_self, true_or, or_true, Int.reduceLT, Int.reduceLE, Int.reduceMul, Int.reduceAdd, Int.reduceSub, Int.reducePow, Int.reduceNeg, Int.reduceDiv, Int.reduceMod, Nat.reducePow, Int.reduceToNat, Int.reduceEq, Int.reduceNe, Nat.reduceLT, Nat.reduceLeDiff, Nat.reduceAdd, ↓x_whole, ↓x_kind])
theorem f_worth (T : Tx K mg) : Fn P w K mg base 3 "worth" ["word"] (sp_worth K) := by
  have c_kind := f_kind (P := P) (w := w) (base := base) T
  refine T.mkFn 5 22 (d := d_worth) (N := ["word"]) (k := 2) rfl rfl rfl rfl rfl sc_worth (fun _ _ _ _ _ _ us hl => match us, hl with | [_], _ => rfl) (fun vs H Q E h => ?len) (fun cdv A outer s H vs Q E hr h => ⟨_,
      (pss_cons (ps_if (pt_cmpR (op_eqK (K := K) rfl hr.units) (pe_fn (takes_of rfl rfl rfl rfl) c_kind (hr.mono (by decide)) (by rfl) (pa_cons (pv 0) pa_nil)) pe_str (nomark _)) (pss_one (ps_ret pe_non)) pss_nil)
        (pss_one (ps_ret (pe_op op_fdiv (pv 0) pe_int)))), ?rd⟩)
  case len => first | exact len_worth h | (repeat (first | (obtain ⟨rfl, _⟩ := h; rfl; done) | obtain ⟨_, h⟩ := h))
  case rd =>
    rcases one_worth h with ⟨n, rfl⟩ | ⟨v, rfl, o, h⟩
    · walk_at "w2"
      rw [x_worth] at h
      cases e : wordOf n with
      | none => rw [e] at h; exact h
      | some w =>
        rw [e] at h
        replace h : Q w.worth H := h
        walk_at "w2"
        rw [wordOf_div e] at h
        simp only [(kind_is w).1]
        split
        · rename_i c
          rw [if_pos c] at h
          exact h
        · rename_i c
          rw [if_neg c] at h
          exact h
    · walk_at "x"
      rw [odd_kind o]
      exact h
end
def Vw (ws : List Int) : Prop := ∀ w ∈ ws, (wordOf w).isSome = true
theorem Vw.get {ws : List Int} (h : Vw ws) {i : Nat} (hi : i < ws.length) : ∃ w, wordOf (ws.getD i 0) = some w := by
  have m := List.mem_of_getElem? (getD_at (d := 0) hi)
  exact Option.isSome_iff_exists.mp (h _ m)
theorem Vw.set {ws : List Int} (h : Vw ws) {i : Nat} {n : Int} (hn : (wordOf n).isSome = true) : Vw (ws.set i n) := fun w m => by
  rcases List.mem_or_eq_of_mem_set m with m | rfl
  · exact h w m
  · exact hn
theorem Vw.rep {n : Nat} : Vw (List.replicate n (-1)) := fun w m => by
  rw [(List.mem_replicate.mp m).2]
  rfl
theorem k_nn : (Wd.nothing.kind = ("number" : Str)) = False := eq_false (show ¬ ("nothing" : Str) = "number" by decide +kernel)
theorem k_pn {p : Int} : ((Wd.place p).kind = ("number" : Str)) = False := eq_false (show ¬ ("place" : Str) = "number" by decide +kernel)
theorem k_Nn {n : Int} : ((Wd.num n).kind = ("number" : Str)) = True := eq_true (show ("number" : Str) = "number" from rfl)
theorem k_np : (Wd.nothing.kind = ("place" : Str)) = False := eq_false (show ¬ ("nothing" : Str) = "place" by decide +kernel)
theorem k_Np {n : Int} : ((Wd.num n).kind = ("place" : Str)) = False := eq_false (show ¬ ("number" : Str) = "place" by decide +kernel)
theorem k_pp {p : Int} : ((Wd.place p).kind = ("place" : Str)) = True := eq_true (show ("place" : Str) = "place" from rfl)
theorem word_num {n : Int} (h : (n.natAbs : Int) ≤ 1000000000000) : wordOf (2 * n) = some (.num n) := by
  unfold wordOf
  rw [if_neg (by omega), if_pos (by omega)]
  congr 2
  omega
theorem word_place {n : Int} (h0 : 0 ≤ n) (h1 : n ≤ 9999) : wordOf (2 * n + 1) = some (.place n) := by
  unfold wordOf
  rw [if_neg (by omega), if_neg (by omega), if_pos (by omega)]
  congr 2
  omega
def wordV : V → Option Int
  | .int n => if (wordOf n).isSome then some n else none
  | _ => none
theorem wordV_int {n : Int} : wordV (.int n) = if (wordOf n).isSome then some n else none := rfl
theorem wordV_odd {H : Hp} {v : V} (h : Odd H v) : wordV v = none := by
  cases v with
  | int i => exact (odd_not h).elim
  | _ => rfl
theorem wordV_some {v : V} {n : Int} (h : wordV v = some n) : v = .int n ∧ ∃ w, wordOf n = some w := by
  cases v with
  | int j =>
    rw [wordV_int] at h
    split at h
    · rename_i c
      cases h
      exact ⟨rfl, Option.isSome_iff_exists.mp c⟩
    · cases h
  | _ => cases h
theorem wordV_none {n : Int} (h : wordV (.int n) = none) : wordOf n = none := by
  rw [wordV_int] at h
  split at h
  · cases h
  · rename_i c
    cases e : wordOf n with
    | none => rfl
    | some w => rw [e] at c; exact absurd rfl c
local macro_rules | `(tactic| walk_at "w2") => `(tactic| try simp only [↓x_var0, ↓x_varS, ↓x_c, ↓x_op, ↓x_un, ↓x_cb, ↓x_nil, ↓x_cons, ↓x_test, ↓x_b, ↓x_ex, ↓x_and, ↓x_or, ↓x_not, ↓x_andV, ↓x_orV, ↓x_notV, ↓x_tif, ↓x_chain, ↓x_menu, ↓x_menuI, ↓x_lst, ↓x_tup, ↓x_dnew, ↓x_callW, ↓x_callN, ↓x_seq, ↓x_next, ↓x_ret, ↓x_retN, ↓x_drop, ↓x_ifS, ↓x_asg, ↓x_name, ↓x_raise, ↓x_fld, ↓x_setF, ↓x_meth, ↓x_make, ↓x_sub, ↓r_min, ↓r_max, ↓x_yes, ↓x_for, ↓x_lock, ↓x_keys, ↓x_cut, ↓x_lc, ↓x_rng1, ↓x_rng2, ↓x_lst1, ↓x_itup, ↓x_rng3, ↓x_three, ↓x_lstg, ↓x_tupg, ↓x_adrS, ↓x_one, ↓x_two, ↓x_adr, ↓x_sl, ↓x_np, ↓x_pt, ↓x_int, ↓x_bm, ↓x_bm0, ↓x_consg, ↓x_nilg, ↓x_dget2, ↓x_dget1, ↓x_dget, ↓x_din, ↓x_dni, ↓x_dput, ↓x_dpop2, ↓r_isB, ↓r_notB, ↓x_enum, ↓x_zip, wipe, List.map_cons, List.map_nil, ↓x_isT, ↓r_isiII, ↓r_isiBB, ↓r_isiIB, ↓r_isiSS, ↓r_neNS, ↓r_neSN, ↓r_neNN, ↓r_eqNS, ↓r_eqSN, ↓r_eqNN, ↓r_eqIS, ↓r_neIS, ↓r_neSI, ↓r_neBS, ↓r_eqBB, ↓r_neBB, ↓x_start, ↓x_K, ↓x_start0, ↓r_i0, ↓r_i, ↓r_u, ↓r_addI, ↓r_addS, ↓r_mulI, ↓r_mulS, ↓r_eqI, ↓r_neI, ↓r_eqS, ↓r_neS, ↓r_absI, ↓r_intI, ↓r_intB, List.length_cons, List.length_nil, List.replicate, List.set_cons_zero, List.set_cons_succ, decide_eq_true_eq, Bool.not_eq_true', decide_eq_false_iff_not, if_true, if_false, Bool.false_eq_true, Bool.true_eq_false, ite_true, ite_false, Bool.not_true, Bool.not_false, c_div, n_ten, c_pow, not_true_eq_false, not_false_eq_true, decide_true, decide_false, true_and, and_true, and_self, true_or, or_true, Int.reduceLT, Int.reduceLE, Int.reduceMul, Int.reduceAdd, Int.reduceSub, Int.reducePow, Int.reduceNeg, Int.reduceDiv, Int.reduceMod, Nat.reducePow, Int.reduceToNat, Int.reduceEq, Int.reduceNe, Nat.reduceLT, Nat.reduceLeDiff, Nat.reduceAdd, ↓x_whole, ↓x_kind])

/-! ## the script's cells, lists that are read -/
def cell (ns : List Int) (j : Int) : Int := ns.getD j.toNat 0
theorem same_new {H : Hp} {p : Addr} {o : HO} (h : H p = none) : Same H (upd H p o) := fun b u e => by
  rw [upd_ne (ne_of_none e h)]
  exact e
theorem ite_and {P Q A B : Prop} [Decidable P] [Decidable Q] (h1 : P → Q → A) (h2 : ¬ (P ∧ Q) → B) : if P then (if Q then A else B) else B := by
  split
  · split
    · exact h1 ‹_› ‹_›
    · exact h2 fun z => absurd z.2 ‹_›
  · exact h2 fun z => absurd z.1 ‹_›
theorem ite_or {P Q A B : Prop} [Decidable P] [Decidable Q] (h1 : P ∨ Q → A) (h2 : ¬ P → ¬ Q → B) : if P then A else if Q then A else B := by
  split
  · exact h1 (.inl ‹_›)
  · split
    · exact h1 (.inr ‹_›)
    · exact h2 ‹_› ‹_›
/-- a new instance; its first deed -/
theorem same_mk {H : Hp} {x dx C : Addr} (nx : H x = none) (ndx : H dx = none) (ne : dx ≠ x) : Same H (upd (upd H dx (.own x)) x (.ins C dx [])) := (same_new ndx).trans (same_new (by rw [upd_ne ne.symm]; exact nx))
theorem same_init {H H' : Hp} {x dx C : Addr} (nx : H x = none) (ndx : H dx = none) (ne : dx ≠ x) (k : ∀ c o, c ≠ x → upd (upd H dx (.own x)) x (.ins C dx []) c = some o → H' c = some o) : Same H H' := fun c o e => k c o (ne_of_none e nx) (same_mk nx ndx ne c o e)
theorem cut_ints (ns : List Int) (lo hi : Option Int) : ∃ cs : List Int, cutV (ns.map V.int) lo hi = cs.map V.int := ⟨(ns.drop (HT.sIx ns.length 0 lo)).take (HT.sIx ns.length ns.length hi - HT.sIx ns.length 0 lo), by unfold cutV; rw [List.length_map, List.map_take, List.map_drop]⟩
def placeOf (n : Nat) : V → Option Nat
  | .int i => if 0 ≤ i ∧ i < n then some i.toNat else none
  | _ => none
theorem placeOf_int {n : Nat} {i : Int} : placeOf n (.int i) = if 0 ≤ i ∧ i < n then some i.toNat else none := rfl
theorem placeOf_odd {H : Hp} {n : Nat} {v : V} (h : Odd H v) : placeOf n v = none := by
  cases v with
  | int i => exact (odd_not h).elim
  | _ => rfl
theorem placeOf_some {n : Nat} {v : V} {i : Nat} (h : placeOf n v = some i) : v = .int (i : Int) ∧ i < n := by
  cases v with
  | int j =>
    rw [placeOf_int] at h
    split at h
    · rename_i c
      have e := Option.some.inj h
      exact ⟨by rw [← e]; congr 1; omega, by omega⟩
    · cases h
  | _ => cases h
def placeW : V → Option Int
  | .int n => if 0 ≤ n ∧ n ≤ 9999 then some n else none
  | _ => none
theorem placeW_int {n : Int} : placeW (.int n) = if 0 ≤ n ∧ n ≤ 9999 then some n else none := rfl
theorem placeW_odd {H : Hp} {v : V} (h : Odd H v) : placeW v = none := by
  cases v with
  | int i => exact (odd_not h).elim
  | _ => rfl
theorem placeW_some {v : V} {n : Int} (h : placeW v = some n) : v = .int n ∧ 0 ≤ n ∧ n ≤ 9999 := by
  cases v with
  | int j =>
    rw [placeW_int] at h
    split at h
    · rename_i c
      cases h
      exact ⟨rfl, c⟩
    · cases h
  | _ => cases h
theorem all_flat {ws : List Int} : (ws.map V.int).all flatV = true := by
  rw [List.all_map]
  exact List.all_eq_true.mpr fun _ _ => rfl
theorem in_ints {n : Int} {ws : List Int} : inV (.int n) (ws.map V.int) = decide (n ∈ ws) := by
  unfold inV
  rw [List.any_map]
  by_cases c : n ∈ ws
  · rw [decide_eq_true c]
    exact List.any_eq_true.mpr ⟨n, c, beq_self_eq_true n⟩
  · rw [decide_eq_false c]
    refine List.any_eq_false.mpr fun x hx e => c ?_
    have e2 : x = n := eq_of_beq e
    exact e2 ▸ hx
theorem none_of {H H' : Hp} {a : Addr} (s : Same H H') (h : H' a = none) : H a = none := by
  cases e : H a with
  | none => rfl
  | some o =>
    rw [s a o e] at h
    cases h
/-- a list that grows -/
theorem r_app {K : PySem.W.Frag} {H : Hp} {l : Addr} {xs : List V} {y : V} {Q : VK} (h : H l = some (.lst xs)) (hn : xs.length < sizeLine) (q : Q .non (upd H l (.lst (xs ++ [y])))) : tyV K "list" (.ref l) H ∧ rAppend (.ref l) [y] H Q := ⟨.inl ⟨rfl, _, .of h⟩, l, xs, y, rfl, rfl, h, hn, q⟩
theorem ty_lst {K : PySem.W.Frag} {H : Hp} {l : Addr} {xs : List V} (h : H l = some (.lst xs)) : tyV K "list" (.ref l) H := .inl ⟨rfl, _, .of h⟩
theorem same_tyOf {H H' : Hp} {v : V} {t : String} (s : Same H H') (h : tyOf v H = some t) : tyOf v H' = some t := by
  cases v with
  | ref a =>
    have h1 : tyO (H a) = some t := h
    cases e : H a with
    | none =>
      rw [e] at h1
      cases h1
    | some o =>
      rw [e] at h1
      show tyO (H' a) = some t
      rw [s a o e]
      exact h1
  | _ => exact h
theorem odd_same {H H' : Hp} {v : V} (s : Same H H') (h : Odd H v) : Odd H' v := h.elim fun t q => ⟨t, same_tyOf s q.1, q.2⟩
def Thing (H : Hp) (v : V) : Prop := (∃ n, v = .int n) ∨ Odd H v
theorem thing_same {H H' : Hp} {v : V} (s : Same H H') (h : Thing H v) : Thing H' v := h.imp id (odd_same s)
theorem thing_upd {H : Hp} {a : Addr} {o o' : HO} {v : V} (e : H a = some o) (q : tyO (some o) = tyO (some o')) (h : Thing H v) : Thing (upd H a o') v := h.imp id fun ⟨t, g, ne⟩ => ⟨t, by
  cases v with
  | ref b =>
    have h1 : tyO (H b) = some t := g
    show tyO (upd H a o' b) = some t
    by_cases c : b = a
    · subst c
      rw [upd_same, ← q, ← e]
      exact h1
    · rw [upd_ne c]
      exact h1
  | _ => exact g, ne⟩
theorem r_lenS {K : PySem.W.Frag} {H : Hp} {a : Addr} {xs : List V} {Q : VK} (h : SqL K H a xs) (q : Q (.int (xs.length : Int)) H) : L2.rLen K [.ref a] H Q := ⟨_, _, rfl, .inl ⟨_, h, rfl⟩, q⟩
theorem r_ixS {K : PySem.W.Frag} {H : Hp} {a : Addr} {xs : List V} {i : Int} {v : V} {Q : VK} (h : SqL K H a xs) (e : atI xs i = some v) (q : Q v H) : rIx K (.ref a) (.int i) H Q := .inl ⟨_, _, _, _, rfl, rfl, h, e, q⟩
theorem at_pos {α : Type} {xs : List α} {i : Int} {v : α} (h : 0 ≤ i) (e : xs[i.toNat]? = some v) : atI xs i = some v := by
  have hl := (List.getElem?_eq_some_iff.mp e).1
  unfold atI ixN
  rw [if_pos h, if_pos (by omega)]
  exact e
theorem menu_pick {xs : List V} {i : Int} {P : V → Prop} (Good : V → Prop) (h : ∃ v, atI xs i = some v ∧ Good v) (k : ∀ v, Good v → P v) : ∃ v, atI xs i = some v ∧ P v := h.elim fun v q => ⟨v, q.1, k v q.2⟩
theorem cut_int {ns : List Int} {lo hi : Option Int} {i : Nat} {x : V} (h : (cutV (ns.map V.int) lo hi)[i]? = some x) : ∃ c, x = .int c := by
  have m := List.mem_of_getElem? h
  unfold cutV at m
  have m2 := List.mem_of_mem_drop (List.mem_of_mem_take m)
  obtain ⟨c, -, e⟩ := List.mem_map.mp m2
  exact ⟨c, e.symm⟩
theorem sIx_pos {n d : Nat} {v : Int} (h : 0 ≤ v) : HT.sIx n d (some v) = min v.toNat n := by
  show (if v < 0 then (v + (n : Int)).toNat else min v.toNat n) = _
  rw [if_neg (by omega)]
theorem cut_len {xs : List V} {a b : Int} (h0 : 0 ≤ a) (h1 : a ≤ b) : (cutV xs (some a) (some b)).length ≤ (b - a).toNat := by
  unfold cutV
  rw [List.length_take, List.length_drop]
  rw [sIx_pos h0, sIx_pos (by omega)]
  omega
def sp_cell (K : PySem.W.Frag) : Sp := fun vs H Q _ => ∃ a j ns, vs = [.ref a, .int j] ∧ SqL K H a (ns.map V.int) ∧ 0 ≤ j ∧ Q (.int (cell ns j)) H
section
variable {P : Program} {w : World} {K : PySem.W.Frag} {mg : Str → Option Value} {base : Heap}
theorem f__law_at (T : Tx K mg) : Fn P w K mg base 1 "_law_at" ["_law_script", "_law_k"] (sp_cell K) := by
  refine T.mkFn 36 34 (d := d__law_at) (N := ["_law_script", "_law_k"]) (k := 0) rfl rfl rfl rfl rfl sc__law_at (fun _ _ _ _ _ _ us hl => match us, hl with | [_, _], _ => rfl) (fun vs H Q E h => ?len) (fun cdv A outer s H vs Q E hr h => ⟨_,
      (pss_cons (ps_if (pt_cmpR op_lt (pv 1) (pe_callB (call_lenK (K := K) rfl) (by rfl) (T.free 57) PySem.boot_len (pa_cons (pv 0) pa_nil)) (nomark _)) (pss_one (ps_ret (pe_ix (ix_seqK (K := K) rfl) (pv 0) (pv 1) (fun _ _ => rfl)))) pss_nil)
        (pss_one (ps_ret pe_int))), ?rd⟩)
  case len => obtain ⟨a, j, ns, rfl, _⟩ := h; rfl
  case rd =>
    obtain ⟨a, j, ns, rfl, hS, h0, q⟩ := h
    walk_at "x"
    refine r_lenS hS ?_
    walk_at "x"
    rw [List.length_map]
    unfold cell at q
    split
    · rename_i c
      have e : ns[j.toNat]? = some ns[j.toNat] := List.getElem?_eq_getElem (by omega)
      rw [List.getD_eq_getElem?_getD, e] at q
      exact r_ixS hS (at_pos h0 (by rw [List.getElem?_map, e]; rfl)) q
    · rw [List.getD_eq_getElem?_getD, List.getElem?_eq_none (by omega)] at q
      exact q
theorem f__law_whole (T : Tx K mg) : FnH P w K mg base 1 "_law_whole" ["_law_found"] (sp_is_whole) := by
  refine T.mkFnH 37 35 (d := d__law_whole) (N := ["_law_found"]) (k := 0) rfl rfl rfl rfl rfl sc__law_whole (fun _ _ _ _ _ _ us hl => match us, hl with | [_], _ => rfl) (fun vs H Q E h => ?len) (fun cdv A outer s H vs Q hr h => ⟨_,
      (pss_one (ps_ret (pe_and (pe_callB call_gIsi (by rfl) (T.free 56) (by decide +kernel) (pa_cons (pv 0) (pa_cons (pe_ty (T := "int") (T.free 60) (by decide +kernel) (by rfl)) pa_nil))) (pe_one (pe_not (pe_callB call_gIsi (by rfl) (T.free 56) (by decide +kernel) (pa_cons (pv 0) (pa_cons (pe_ty (T := "bool") (T.free 61) (by decide +kernel) (by rfl)) pa_nil)))))))), ?rd⟩)
  case len => exact len_is_whole h
  case rd =>
    obtain ⟨v, rfl⟩ : ∃ v, vs = [v] := by unfold sp_is_whole at h; split at h <;> first | exact ⟨_, rfl⟩ | exact h.elim
    walk_at "x"
    cases v with
    | int n => exact whole_int h
    | _ => exact whole_odd h.1 h.2
end



/-! ## memories -/
structure MemO (K : PySem.W.Frag) (H : Hp) (m dx l : Addr) (ws : List Int) : Prop where
  ob : H m = some (.ins (He.ga K "Memory") dx (F_Memory (.int ws.length) (.ref l)))
  ls : H l = some (.lst (ws.map V.int))
  sz : ws.length ≤ 4000
theorem MemO.ne {K H m dx l ws} (h : MemO K H m dx l ws) : l ≠ m := ne_of h.ls h.ob (by intro z; cases z)
theorem MemO.same {K H H' m dx l ws} (h : MemO K H m dx l ws) (s : Same H H') : MemO K H' m dx l ws := ⟨s _ _ h.ob, s _ _ h.ls, h.sz⟩
theorem MemO.put {K H m dx l ws} (h : MemO K H m dx l ws) (vs : List Int) (e : vs.length = ws.length) : MemO K (upd H l (.lst (vs.map V.int))) m dx l vs :=
  ⟨by rw [upd_ne h.ne.symm, e]; exact h.ob, upd_same, by rw [e]; exact h.sz⟩
def sizeV : V → Option Nat
  | .int n => if 1 ≤ n ∧ n ≤ 4000 then some n.toNat else none
  | _ => none
theorem sizeV_int {n : Int} : sizeV (.int n) = if 1 ≤ n ∧ n ≤ 4000 then some n.toNat else none := rfl
theorem sizeV_odd {H : Hp} {v : V} (h : Odd H v) : sizeV v = none := by
  cases v with
  | int i => exact (odd_not h).elim
  | _ => rfl
def sp_Memory_need (K : PySem.W.Frag) : Sp := fun vs H Q E => ∃ m dx l ws v, vs = [.ref m, v] ∧ MemO K H m dx l ws ∧ Thing H v ∧ match placeOf ws.length v with
  | some _ => Q .non H
  | none => E (Ex K "NoPlace") none H
def sp_Memory_read (K : PySem.W.Frag) : Sp := fun vs H Q E => ∃ m dx l ws v, vs = [.ref m, v] ∧ MemO K H m dx l ws ∧ Thing H v ∧ match placeOf ws.length v with
  | some i => Q (.int (ws.getD i 0)) H
  | none => E (Ex K "NoPlace") none H
def sp_Memory_write (K : PySem.W.Frag) : Sp := fun vs H Q E => ∃ m dx l ws v z, vs = [.ref m, v, z] ∧ MemO K H m dx l ws ∧ Thing H v ∧ Thing H z ∧ match placeOf ws.length v with
  | some i => (match wordV z with
    | some n => Q .non (upd H l (.lst ((ws.set i n).map V.int)))
    | none => E (Ex K "BadWord") none H)
  | none => E (Ex K "NoPlace") none H
def sp_Memory___init__ (K : PySem.W.Frag) : Sp := fun vs H Q E => ∃ m dx v, vs = [.ref m, v] ∧ H m = some (.ins (He.ga K "Memory") dx []) ∧ Thing H v ∧ match sizeV v with
  | some n => ∀ l H', H l = none → MemO K H' m dx l (List.replicate n (-1)) → (∀ b o, b ≠ m → H b = some o → H' b = some o) → Q .non H'
  | none => E (Ex K "BadCount") none H
section
variable {P : Program} {w : World} {K : PySem.W.Frag} {mg : Str → Option Value} {base : Heap}
theorem f_Memory_need (T : Tx K mg) : Mt P w K mg base 2 "Memory" "need" ["self", "at"] (sp_Memory_need K) := by
  have c_is_whole := f_is_whole (P := P) (w := w) (base := base) T
  refine T.mkMt 18 80 78 (d := d_Memory_need) (N := ["self", "at"]) (k := 1) rfl rfl rfl rfl rfl rfl sc_Memory_need (fun _ _ _ _ _ _ us hl => match us, hl with | [_, _], _ => rfl) (fun vs H Q E h => ?len) (fun cdv A outer s H vs Q E hr h => ⟨_,
      (pss_one (ps_if (PW.pt (pw_or (pt_not (pt_val (pe_fn (takes_of rfl rfl rfl rfl) c_is_whole (hr.mono (by decide)) (by rfl) (pa_cons (pv 1) pa_nil)))) (pw_or1 (pt_not (pt_chain op_le op_lt pe_int (pv 1) (pe_fldC (T.cls 78) (T.noat 85) (pv 0))))))) (pss_one (ps_raiseK (K := K) rfl rfl (takes_of rfl rfl rfl rfl) (T.says.fact 68 rfl) (T.glo 4) (by rfl))) pss_nil)), ?rd⟩)
  case len => obtain ⟨m, dx, l, ws, v, rfl, _⟩ := h; rfl
  case rd =>
    obtain ⟨m, dx, l, ws, v, rfl, M, th, h⟩ := h
    walk_at "w2"
    rcases th with ⟨n, rfl⟩ | o
    · walk_at "w2"
      rw [placeOf_int] at h
      split
      · refine ⟨_, fldIs M.ob, ?_⟩
        walk_at "w2"
        split
        · rw [if_neg (by omega)] at h
          exact h
        · rw [if_pos (by omega)] at h
          exact h
      · rw [if_neg (by omega)] at h
        exact h
    · rw [odd_whole o]
      rw [placeOf_odd o] at h
      walk_at "w2"
      exact h
theorem f_Memory_read (T : Tx K mg) : Mt P w K mg base 3 "Memory" "read" ["self", "at"] (sp_Memory_read K) := by
  have c_Memory_need := f_Memory_need (P := P) (w := w) (base := base) T
  refine T.mkMt 19 81 78 (d := d_Memory_read) (N := ["self", "at"]) (k := 2) rfl rfl rfl rfl rfl rfl sc_Memory_read (fun _ _ _ _ _ _ us hl => match us, hl with | [_, _], _ => rfl) (fun vs H Q E h => ?len) (fun cdv A outer s H vs Q E hr h => ⟨_,
      (pss_cons (ps_expr (pe_mt (K := K) rfl (takes_of rfl rfl rfl rfl) (pv 0) c_Memory_need (hr.mono (by decide)) (pa_cons (pv 1) pa_nil)))
        (pss_one (ps_ret (pe_ix (ix_seqK (K := K) rfl) (pe_fldC (T.cls 78) (T.noat 86) (pv 0)) (pv 1) (fun _ _ => rfl))))), ?rd⟩)
  case len => obtain ⟨m, dx, l, ws, v, rfl, _⟩ := h; rfl
  case rd =>
    obtain ⟨m, dx, l, ws, v, rfl, M, th, h⟩ := h
    walk_at "w2"
    refine ⟨recv M.ob, m, dx, l, ws, v, rfl, M, th, ?_⟩
    cases e : placeOf ws.length v with
    | none =>
      rw [e] at h
      exact h
    | some i =>
      rw [e] at h
      obtain ⟨rfl, hi⟩ := placeOf_some e
      refine ⟨_, fldIs M.ob, ?_⟩
      refine r_ixS (.of M.ls) (at_pos (by omega) (v := .int (ws.getD i 0)) ?_) h
      rw [List.getElem?_map, Int.toNat_natCast, List.getElem?_eq_getElem hi, List.getD_eq_getElem?_getD, List.getElem?_eq_getElem hi]
      rfl
theorem f_Memory_write (T : Tx K mg) : Mt P w K mg base 3 "Memory" "write" ["self", "at", "word"] (sp_Memory_write K) := by
  have c_Memory_need := f_Memory_need (P := P) (w := w) (base := base) T
  have c_kind := f_kind (P := P) (w := w) (base := base) T
  refine T.mkMt 20 82 78 (d := d_Memory_write) (N := ["self", "at", "word"]) (k := 2) rfl rfl rfl rfl rfl rfl sc_Memory_write (fun _ _ _ _ _ _ us hl => match us, hl with | [_, _, _], _ => rfl) (fun vs H Q E h => ?len) (fun cdv A outer s H vs Q E hr h => ⟨_,
      (pss_cons (ps_expr (pe_mt (K := K) rfl (takes_of rfl rfl rfl rfl) (pv 0) c_Memory_need (hr.mono (by decide)) (pa_cons (pv 1) pa_nil)))
        (pss_cons (ps_expr (pe_fn (takes_of rfl rfl rfl rfl) c_kind (hr.mono (by decide)) (by rfl) (pa_cons (pv 2) pa_nil)))
        (pss_one (ps_asg (pv 2) (pg_sub (pe_fldC (T.cls 78) (T.noat 86) (pv 0)) (pv 1) set_list))))), ?rd⟩)
  case len => obtain ⟨m, dx, l, ws, v, z, rfl, _⟩ := h; rfl
  case rd =>
    obtain ⟨m, dx, l, ws, v, z, rfl, M, th, tz, h⟩ := h
    walk_at "w2"
    refine ⟨recv M.ob, m, dx, l, ws, v, rfl, M, th, ?_⟩
    cases e : placeOf ws.length v with
    | none =>
      rw [e] at h
      exact h
    | some i =>
      rw [e] at h
      obtain ⟨rfl, hi⟩ := placeOf_some e
      walk_at "w2"
      rcases tz with ⟨n, rfl⟩ | o
      · rw [x_kind]
        cases ew : wordOf n with
        | none =>
          have e2 : wordV (.int n) = none := by rw [wordV_int, ew]; rfl
          rw [e2] at h
          exact h
        | some w =>
          have e2 : wordV (.int n) = some n := by rw [wordV_int, ew]; rfl
          rw [e2] at h
          refine ⟨_, fldIs M.ob, ?_⟩
          refine r_setL M.ls (by omega) (by rw [List.length_map]; omega) ?_
          rw [Int.toNat_natCast, ← List.map_set]
          exact h
      · rw [odd_kind o]
        rw [wordV_odd o] at h
        exact h
theorem f_Memory___init__ (T : Tx K mg) : Mi P w K mg base 2 "Memory" ["self", "size"] (sp_Memory___init__ K) := by
  have c_is_whole := f_is_whole (P := P) (w := w) (base := base) T
  refine T.mkMi 17 79 14 (d := d_Memory___init__) (N := ["self", "size", "at"]) (k := 1) rfl rfl rfl rfl rfl rfl sc_Memory___init__ (fun _ _ _ _ _ _ us hl => match us, hl with | [_, _], _ => rfl) (fun vs H Q E h => ?len) (fun cdv A outer s H vs Q E hr h => ⟨_,
      (pss_cons (ps_if (PW.pt (pw_or (pt_not (pt_val (pe_fn (takes_of rfl rfl rfl rfl) c_is_whole (hr.mono (by decide)) (by rfl) (pa_cons (pv 1) pa_nil)))) (pw_or1 (pt_not (pt_chain op_le op_le pe_int (pv 1) (pe_num (T.num 51) (by rfl))))))) (pss_one (ps_raiseK (K := K) rfl rfl (takes_of rfl rfl rfl rfl) (T.says.fact 67 rfl) (T.glo 3) (by rfl))) pss_nil)
        (pss_cons (ps_fldC (T.cls 78) (T.noat 85) (pv 0) (pv 1))
        (pss_one (ps_fldC (T.cls 78) (T.noat 86) (pv 0) (pe_lc (own := [("at", 2)]) (g := gName 2) rfl sc_Memory___init__.nd (pi_range1 rfl (T.free 59) (pa_cons (pv 1) pa_nil)) (blkOk_by (own := [("at", 2)]) (N := ["self", "size", "at"]) (sc := defScope s_Memory___init__) (by decide +kernel)) (fun _ _ _ _ _ => (pg_name (i := 2) sc_Memory___init__.nd rfl (Or.inl rfl))) (fun _ _ _ _ _ => pts_nil) (fun _ _ _ _ _ => (pe_num (T.num 48) (by rfl)))))))), ?rd⟩)
  case len => obtain ⟨m, dx, v, rfl, _⟩ := h; rfl
  case rd =>
    obtain ⟨m, dx, v, rfl, M, th, h⟩ := h
    walk_at "w2"
    rcases th with ⟨n, rfl⟩ | o
    · walk_at "w2"
      rw [sizeV_int] at h
      split
      · split
        · rw [if_neg (by omega)] at h
          exact h
        · rw [if_pos (by omega)] at h
          refine ⟨m, dx, _, rfl, M, by decide, ?_⟩
          rw [pi_Memory_size]
          walk_at "w2"
          refine ⟨by omega, by omega, fun D hD => lc_mapR (fun _ => .int (-1)) (fun _ => rfl) (by rw [sizeLine_eq]; omega) (fun i hi acc Q q => ?_) ?_⟩
          · walk_at "w2"
            exact q
          · have nD : m ≠ D := ne_of_none upd_same hD
            have hD0 : H D = none := by rw [upd_ne nD.symm] at hD; exact hD
            refine ⟨m, dx, _, rfl, by rw [upd_ne nD, upd_same], by show 1 < 1000; decide, ?_⟩
            rw [pi_Memory_words]
            have er : (List.range n.toNat).map (fun _ => V.int (-1)) = (List.replicate n.toNat (-1 : Int)).map V.int := by rw [List.map_replicate, List.map_const', List.length_range]
            rw [er]
            refine h D _ hD0 ⟨?_, ?_, by rw [List.length_replicate]; omega⟩ fun b o hb e => ?_
            · rw [upd_same, List.length_replicate, Int.toNat_of_nonneg (by omega)]
            · rw [upd_ne nD.symm, upd_same]
            · rw [upd_ne hb, upd_ne (ne_of_none e hD0), upd_ne hb]
              exact e
      · rw [if_neg (by omega)] at h
        exact h
    · rw [odd_whole o]
      rw [sizeV_odd o] at h
      walk_at "w2"
      exact h
end
def stretchOf (n : Nat) (k : Int) : V → Option Nat
  | .int i => if 0 ≤ i ∧ i + k ≤ n then some i.toNat else none
  | _ => none
theorem stretchOf_int {n : Nat} {k i : Int} : stretchOf n k (.int i) = if 0 ≤ i ∧ i + k ≤ n then some i.toNat else none := rfl
theorem stretchOf_odd {H : Hp} {n : Nat} {k : Int} {v : V} (h : Odd H v) : stretchOf n k v = none := by
  cases v with
  | int i => exact (odd_not h).elim
  | _ => rfl
theorem stretchOf_some {n : Nat} {k : Int} {v : V} {i : Nat} (h : stretchOf n k v = some i) : v = .int (i : Int) ∧ (i : Int) + k ≤ n := by
  cases v with
  | int j =>
    rw [stretchOf_int] at h
    split at h
    · rename_i c
      have e := Option.some.inj h
      exact ⟨by rw [← e]; congr 1; omega, by omega⟩
    · cases h
  | _ => cases h
inductive Cp where
  | count | place | ok (i j k : Nat)
def cpOf (n : Nat) (a b : V) : V → Cp
  | .int k => if 0 ≤ k then (match stretchOf n k a with
    | some i => (match stretchOf n k b with
      | some j => .ok i j k.toNat
      | none => .place)
    | none => .place) else .count
  | _ => .count
theorem cpOf_odd {H : Hp} {n : Nat} {a b v : V} (h : Odd H v) : cpOf n a b v = .count := by
  cases v with
  | int i => exact (odd_not h).elim
  | _ => rfl
theorem cpOf_int {n : Nat} {a b : V} {k : Int} : cpOf n a b (.int k) = if 0 ≤ k then (match stretchOf n k a with
    | some i => (match stretchOf n k b with
      | some j => .ok i j k.toNat
      | none => .place)
    | none => .place) else .count := rfl
/-- t words of ws from i on, laid from j on -/
def cpT (ws : List Int) (i j t : Nat) : List Int := (List.range t).foldl (fun a u => a.set (j + u) (ws.getD (i + u) 0)) ws
theorem cpT_zero {ws : List Int} {i j : Nat} : cpT ws i j 0 = ws := rfl
theorem cpT_succ {ws : List Int} {i j t : Nat} : cpT ws i j (t + 1) = (cpT ws i j t).set (j + t) (ws.getD (i + t) 0) := by
  unfold cpT
  rw [List.range_succ, List.foldl_append]
  rfl
theorem cpT_len {ws : List Int} {i j t : Nat} : (cpT ws i j t).length = ws.length := by
  induction t with
  | zero => rfl
  | succ t ih => rw [cpT_succ, List.length_set, ih]
theorem cut_get {ws : List Int} {i k t : Nat} (h : i + k ≤ ws.length) (ht : t < k) : (cutV (ws.map V.int) (some (i : Int)) (some ((i : Int) + (k : Int))))[t]? = some (.int (ws.getD (i + t) 0)) := by
  unfold cutV
  rw [sIx_pos (by omega), sIx_pos (by omega), List.getElem?_take, if_pos (by rw [List.length_map]; omega), List.getElem?_drop, List.getElem?_map, List.getD_eq_getElem?_getD]
  have e3 : min (i : Int).toNat (ws.map V.int).length + t = i + t := by rw [List.length_map]; omega
  rw [e3, List.getElem?_eq_getElem (by omega)]
  rfl
def sp_Memory_need_stretch (K : PySem.W.Frag) : Sp := fun vs H Q E => ∃ m dx l ws v k, vs = [.ref m, v, .int k] ∧ MemO K H m dx l ws ∧ Thing H v ∧ match stretchOf ws.length k v with
  | some _ => Q .non H
  | none => E (Ex K "NoPlace") none H
def sp_Memory_copy (K : PySem.W.Frag) : Sp := fun vs H Q E => ∃ m dx l ws v1 v2 z, vs = [.ref m, v1, v2, z] ∧ MemO K H m dx l ws ∧ Thing H v1 ∧ Thing H v2 ∧ Thing H z ∧ match cpOf ws.length v1 v2 z with
  | .count => E (Ex K "BadCount") none H
  | .place => E (Ex K "NoPlace") none H
  | .ok i j k => ∀ H', MemO K H' m dx l (cpT ws i j k) → (∀ b o, b ≠ l → H b = some o → H' b = some o) → (∀ v, Thing H v → Thing H' v) → Q .non H'
section
variable {P : Program} {w : World} {K : PySem.W.Frag} {mg : Str → Option Value} {base : Heap}
theorem f_Memory_need_stretch (T : Tx K mg) : Mt P w K mg base 2 "Memory" "need_stretch" ["self", "at", "many"] (sp_Memory_need_stretch K) := by
  have c_is_whole := f_is_whole (P := P) (w := w) (base := base) T
  refine T.mkMt 21 83 78 (d := d_Memory_need_stretch) (N := ["self", "at", "many"]) (k := 1) rfl rfl rfl rfl rfl rfl sc_Memory_need_stretch (fun _ _ _ _ _ _ us hl => match us, hl with | [_, _, _], _ => rfl) (fun vs H Q E h => ?len) (fun cdv A outer s H vs Q E hr h => ⟨_,
      (pss_one (ps_if (PW.pt (pw_or (pt_not (pt_val (pe_fn (takes_of rfl rfl rfl rfl) c_is_whole (hr.mono (by decide)) (by rfl) (pa_cons (pv 1) pa_nil)))) (pw_or (pt_cmpR op_lt (pv 1) pe_int (nomark _)) (pw_or1 (pt_cmpR op_gt (pe_op op_gAdd (pv 1) (pv 2)) (pe_fldC (T.cls 78) (T.noat 85) (pv 0)) (nomark _)))))) (pss_one (ps_raiseK (K := K) rfl rfl (takes_of rfl rfl rfl rfl) (T.says.fact 68 rfl) (T.glo 4) (by rfl))) pss_nil)), ?rd⟩)
  case len => obtain ⟨m, dx, l, ws, v, k, rfl, _⟩ := h; rfl
  case rd =>
    obtain ⟨m, dx, l, ws, v, k, rfl, M, th, h⟩ := h
    walk_at "w2"
    rcases th with ⟨n, rfl⟩ | o
    · walk_at "w2"
      rw [stretchOf_int] at h
      split
      · rw [if_neg (by omega)] at h
        exact h
      · refine ⟨_, fldIs M.ob, ?_⟩
        walk_at "w2"
        split
        · rw [if_neg (by omega)] at h
          exact h
        · rw [if_pos (by omega)] at h
          exact h
    · rw [odd_whole o]
      rw [stretchOf_odd o] at h
      walk_at "w2"
      exact h
theorem f_Memory_copy (T : Tx K mg) : Mt P w K mg base 3 "Memory" "copy" ["self", "start", "goal", "many"] (sp_Memory_copy K) := by
  have c_is_whole := f_is_whole (P := P) (w := w) (base := base) T
  have c_Memory_need_stretch := f_Memory_need_stretch (P := P) (w := w) (base := base) T
  refine T.mkMt 22 84 78 (d := d_Memory_copy) (N := ["self", "start", "goal", "many", "row", "turn"]) (k := 2) rfl rfl rfl rfl rfl rfl sc_Memory_copy (fun _ _ _ _ _ _ us hl => match us, hl with | [_, _, _, _], _ => rfl) (fun vs H Q E h => ?len) (fun cdv A outer s H vs Q E hr h => ⟨_,
      (pss_cons (ps_if (PW.pt (pw_or (pt_not (pt_val (pe_fn (takes_of rfl rfl rfl rfl) c_is_whole (hr.mono (by decide)) (by rfl) (pa_cons (pv 3) pa_nil)))) (pw_or1 (pt_cmpR op_lt (pv 3) pe_int (nomark _))))) (pss_one (ps_raiseK (K := K) rfl rfl (takes_of rfl rfl rfl rfl) (T.says.fact 67 rfl) (T.glo 3) (by rfl))) pss_nil)
        (pss_cons (ps_expr (pe_mt (K := K) rfl (takes_of rfl rfl rfl rfl) (pv 0) c_Memory_need_stretch (hr.mono (by decide)) (pa_cons (pv 1) (pa_cons (pv 3) pa_nil))))
        (pss_cons (ps_expr (pe_mt (K := K) rfl (takes_of rfl rfl rfl rfl) (pv 0) c_Memory_need_stretch (hr.mono (by decide)) (pa_cons (pv 2) (pa_cons (pv 3) pa_nil))))
        (pss_cons (ps_set (i := 4) sc_Memory_copy.nd rfl (Or.inl rfl) (pe_slice (sl_listK (K := K) rfl) (pe_fldC (T.cls 78) (T.noat 86) (pv 0)) (po_some (pv 1)) (po_some (pe_op op_gAdd (pv 1) (pv 3)))))
        (pss_one (ps_for (passes_of rfl) rfl (pi_range1 rfl (T.free 59) (pa_cons (pv 3) pa_nil)) (pg_name (i := 5) sc_Memory_copy.nd rfl (Or.inl rfl)) (pss_one (ps_asg (pe_ix (ix_seqK (K := K) rfl) (pv 4) (pv 5) (fun _ _ => rfl)) (pg_sub (pe_fldC (T.cls 78) (T.noat 86) (pv 0)) (pe_op op_gAdd (pv 2) (pv 5)) set_list))))))))), ?rd⟩)
  case len => obtain ⟨m, dx, l, ws, v1, v2, z, rfl, _⟩ := h; rfl
  case rd =>
    obtain ⟨m, dx, l, ws, v1, v2, z, rfl, M, t1, t2, tz, h⟩ := h
    walk_at "w2"
    rcases tz with ⟨k, rfl⟩ | o
    · walk_at "w2"
      rw [cpOf_int] at h
      split
      · rw [if_neg (by omega)] at h
        exact h
      · rw [if_pos (by omega)] at h
        refine ⟨recv M.ob, m, dx, l, ws, v1, k, rfl, M, t1, ?_⟩
        cases e1 : stretchOf ws.length k v1 with
        | none =>
          rw [e1] at h
          exact h
        | some i =>
          rw [e1] at h
          walk_at "w2"
          refine ⟨recv M.ob, m, dx, l, ws, v2, k, rfl, M, t2, ?_⟩
          cases e2 : stretchOf ws.length k v2 with
          | none =>
            rw [e2] at h
            exact h
          | some j =>
            rw [e2] at h
            obtain ⟨rfl, hi⟩ := stretchOf_some e1
            obtain ⟨rfl, hj⟩ := stretchOf_some e2
            walk_at "w2"
            obtain ⟨k, rfl⟩ := Int.eq_ofNat_of_zero_le (show 0 ≤ k by omega)
            have hz := M.sz
            have ki := cut_get (ws := ws) (i := i) (k := k) (by omega) (t := 0)
            rw [Int.toNat_natCast] at h
            refine ⟨_, fldIs M.ob, l, _, rfl, .of M.ls, fun p hp => ⟨by omega, by omega, ?_⟩⟩
            rw [Int.toNat_natCast]
            have s1 : Same H (upd H p (.lst (cutV (ws.map V.int) (some (i : Int)) (some ((i : Int) + (k : Int)))))) := same_new hp
            refine forW_range (fun t σ H' => ∃ o5, σ = [some (.ref m), some (.int i), some (.int j), some (.int k), some (.ref p), o5] ∧ MemO K H' m dx l (cpT ws i j t) ∧ H' p = some (.lst (cutV (ws.map V.int) (some (i : Int)) (some ((i : Int) + (k : Int))))) ∧
              (∀ b o, b ≠ l → H b = some o → H' b = some o) ∧ ∀ v, Thing H v → Thing H' v) ⟨_, rfl, M.same s1, upd_same, fun b o _ e => s1 b o e, fun v t => thing_same s1 t⟩ ?_ ?_
            · rintro t σ H' ht ⟨o5, rfl, M', hp', k1, k2⟩
              walk_at "w2"
              refine r_ixS (.of hp') (at_pos (by omega) (v := .int (ws.getD (i + t) 0)) ?_) ?_
              · have e0 : ((0 : Int) + (t : Int)).toNat = t := by omega
                rw [e0]
                exact cut_get (by omega) ht
              walk_at "w2"
              refine ⟨_, fldIs M'.ob, ?_⟩
              walk_at "w2"
              have pl : p ≠ l := fun e => by
                have z := M.ls
                rw [← e, hp] at z
                cases z
              refine r_setL M'.ls (by omega) (by rw [List.length_map, cpT_len]; omega) ?_
              have e1 : ((j : Int) + ((0 : Int) + (t : Int))).toNat = j + t := by omega
              rw [e1, ← List.map_set, ← cpT_succ]
              have M2 := M'.put (cpT ws i j (t + 1)) (by rw [cpT_len, cpT_len])
              exact ⟨_, rfl, M2, by rw [upd_ne pl]; exact hp', fun b o hb e => by rw [upd_ne hb]; exact k1 b o hb e, fun v tv => thing_upd M'.ls rfl (k2 v tv)⟩
            · rintro σ H' ⟨o5, rfl, M', hp', k1, k2⟩
              exact h H' M' k1 k2
    · rw [odd_whole o]
      rw [cpOf_odd o] at h
      walk_at "w2"
      exact h
end

local macro_rules | `(tactic| walk_at "w2") => `(tactic| try simp only [↓x_var0, ↓x_varS, ↓x_c, ↓x_op, ↓x_un, ↓x_cb, ↓x_nil, ↓x_cons, ↓x_test, ↓x_b, ↓x_ex, ↓x_and, ↓x_or, ↓x_not, ↓x_andV, ↓x_orV, ↓x_notV, ↓x_tif, ↓x_chain, ↓x_menu, ↓x_menuI, ↓x_lst, ↓x_tup, ↓x_dnew, ↓x_callW, ↓x_callN, ↓x_seq, ↓x_next, ↓x_ret, ↓x_retN, ↓x_drop, ↓x_ifS, ↓x_asg, ↓x_name, ↓x_raise, ↓x_fld, ↓x_setF, ↓x_meth, ↓x_make, ↓x_sub, ↓r_min, ↓r_max, ↓x_yes, ↓x_for, ↓x_lock, ↓x_keys, ↓x_cut, ↓x_lc, ↓x_rng1, ↓x_rng2, ↓x_lst1, ↓x_itup, ↓x_rng3, ↓x_three, ↓x_lstg, ↓x_tupg, ↓x_adrS, ↓x_one, ↓x_two, ↓x_adr, ↓x_sl, ↓x_np, ↓x_pt, ↓x_int, ↓x_bm, ↓x_bm0, ↓x_consg, ↓x_nilg, ↓x_dget2, ↓x_dget1, ↓x_dget, ↓x_din, ↓x_dni, ↓x_dput, ↓x_dpop2, ↓r_isB, ↓r_notB, ↓x_enum, ↓x_zip, wipe, List.map_cons, List.map_nil, ↓x_isT, ↓r_isiII, ↓r_isiBB, ↓r_isiIB, ↓r_isiSS, ↓r_neNS, ↓r_neSN, ↓r_neNN, ↓r_eqNS, ↓r_eqSN, ↓r_eqNN, ↓r_eqIS, ↓r_neIS, ↓r_neSI, ↓r_neBS, ↓r_eqBB, ↓r_neBB, ↓x_start, ↓x_K, ↓x_start0, ↓r_i0, ↓r_i, ↓r_u, ↓r_addI, ↓r_addS, ↓r_mulI, ↓r_mulS, ↓r_eqI, ↓r_neI, ↓r_eqS, ↓r_neS, ↓r_absI, ↓r_intI, ↓r_intB, List.length_cons, List.length_nil, List.replicate, List.set_cons_zero, List.set_cons_succ, decide_eq_true_eq, Bool.not_eq_true', decide_eq_false_iff_not, if_true, if_false, Bool.false_eq_true, Bool.true_eq_false, ite_true, ite_false, Bool.not_true, Bool.not_false, c_div, n_ten, c_pow, not_true_eq_false, not_false_eq_true, decide_true, decide_false, true_and, and_true, and_self, true_or, or_true, Int.reduceLT, Int.reduceLE, Int.reduceMul, Int.reduceAdd, Int.reduceSub, Int.reducePow, Int.reduceNeg, Int.reduceDiv, Int.reduceMod, Nat.reducePow, Int.reduceToNat, Int.reduceEq, Int.reduceNe, Nat.reduceLT, Nat.reduceLeDiff, Nat.reduceAdd, ↓x_whole, ↓x_kind])
/-! ## cells in a memory -/
/-- what head_of finds at a thing: no place, no cell, or the place and the head -/
inductive Hd where
  | noPlace | noCell | ok (i : Nat) (h : Nat)
def headAt (w : Int) : Option Nat := match wordOf w with
  | some (.num n) => if 0 ≤ n ∧ n ≤ 34 ∧ n % 4 ≤ 2 then some n.toNat else none
  | _ => none
def headW (ws : List Int) (v : V) : Hd := match placeOf ws.length v with
  | none => .noPlace
  | some i => match headAt (ws.getD i 0) with
    | none => .noCell
    | some h => .ok i h
theorem headAt_some {w : Int} {h : Nat} (e : headAt w = some h) : w = 2 * (h : Int) ∧ h ≤ 34 ∧ h % 4 ≤ 2 := by
  unfold headAt at e
  split at e
  · rename_i n en
    split at e
    · rename_i c
      have e := Option.some.inj e
      have hw : w = 2 * n := by
        unfold wordOf at en
        split at en
        · cases en
        · split at en
          · have := Wd.num.inj (Option.some.inj en)
            omega
          · split at en
            · cases en
            · cases en
      omega
    · cases e
  · cases e
theorem head_ok {ws : List Int} {v : V} {i h : Nat} (e : headW ws v = .ok i h) : v = .int (i : Int) ∧ i < ws.length ∧ headAt (ws.getD i 0) = some h := by
  unfold headW at e
  cases e1 : placeOf ws.length v with
  | none => rw [e1] at e; cases e
  | some j =>
    rw [e1] at e
    obtain ⟨a, b⟩ := placeOf_some e1
    have e : (match headAt (ws.getD j 0) with
      | none => Hd.noCell
      | some h => .ok j h) = .ok i h := e
    cases e2 : headAt (ws.getD j 0) with
    | none => rw [e2] at e; cases e
    | some h' =>
      rw [e2] at e
      cases e
      exact ⟨a, b, e2⟩
theorem ans_head' {ws : List Int} {i k : Nat} (hi : i < ws.length) (e : headAt (ws.getD i 0) = some k) : headW ws (.int (i : Int)) = .ok i k := by
  unfold headW
  rw [placeOf_int, if_pos ⟨by omega, by omega⟩, Int.toNat_natCast]
  dsimp only
  rw [e]
def slotsW : V → Option Nat
  | .int n => if 0 ≤ n ∧ n ≤ 8 then some n.toNat else none
  | _ => none
theorem slotsW_int {n : Int} : slotsW (.int n) = if 0 ≤ n ∧ n ≤ 8 then some n.toNat else none := rfl
theorem slotsW_odd {H : Hp} {v : V} (h : Odd H v) : slotsW v = none := by
  cases v with
  | int i => exact (odd_not h).elim
  | _ => rfl
theorem slotsW_some {v : V} {s : Nat} (h : slotsW v = some s) : v = .int (s : Int) ∧ s ≤ 8 := by
  cases v with
  | int j =>
    rw [slotsW_int] at h
    split at h
    · rename_i c
      have e := Option.some.inj h
      exact ⟨by rw [← e]; congr 1; omega, by omega⟩
    · cases h
  | _ => cases h
def ageW : V → Option Nat
  | .int n => if 0 ≤ n ∧ n ≤ 2 then some n.toNat else none
  | _ => none
theorem ageW_int {n : Int} : ageW (.int n) = if 0 ≤ n ∧ n ≤ 2 then some n.toNat else none := rfl
theorem ageW_odd {H : Hp} {v : V} (h : Odd H v) : ageW v = none := by
  cases v with
  | int i => exact (odd_not h).elim
  | _ => rfl
/-- t slots of a cell at i emptied -/
def layT (ws : List Int) (i s t : Nat) : List Int := (List.range t).foldl (fun a u => a.set (i + 1 + u) (-1)) (ws.set i (8 * (s : Int)))
theorem layT_succ {ws : List Int} {i s t : Nat} : layT ws i s (t + 1) = (layT ws i s t).set (i + 1 + t) (-1) := by
  unfold layT
  rw [List.range_succ, List.foldl_append]
  rfl
theorem layT_len {ws : List Int} {i s t : Nat} : (layT ws i s t).length = ws.length := by
  induction t with
  | zero => exact List.length_set ..
  | succ t ih => rw [layT_succ, List.length_set, ih]
theorem layT_vw {ws : List Int} (h : Vw ws) {i s t : Nat} (hs : s ≤ 8) : Vw (layT ws i s t) := by
  induction t with
  | zero =>
    have e : (8 * (s : Int)) = 2 * (4 * (s : Int)) := by omega
    exact h.set (by rw [e, word_num (by omega)]; rfl)
  | succ t ih =>
    rw [layT_succ]
    exact ih.set rfl
def Fit (ws : List Int) : Prop := ∀ i h : Nat, i < ws.length → headAt (ws.getD i 0) = some h → i + h / 4 < ws.length
theorem getD_set {ws : List Int} {i j : Nat} {n : Int} (hi : i < ws.length) : (ws.set i n).getD j 0 = if i = j then n else ws.getD j 0 := by
  rw [List.getD_eq_getElem?_getD, List.getElem?_set, List.getD_eq_getElem?_getD]
  split
  · rename_i e
    subst e
    first | rfl | (rw [if_pos hi]; rfl)
  · rfl
theorem Fit.set {ws : List Int} (f : Fit ws) {i : Nat} {n : Int} (hi : i < ws.length) (hn : ∀ h, headAt n = some h → i + h / 4 < ws.length) : Fit (ws.set i n) := fun j h hj e => by
  rw [List.length_set] at hj ⊢
  rw [getD_set hi] at e
  split at e
  · rename_i c
    subst c
    exact hn h e
  · exact f j h hj e
theorem head_none1 : headAt (-1) = none := rfl
theorem Fit.lay {ws : List Int} (f : Fit ws) {i s : Nat} (hi : i + s < ws.length) : ∀ t, t ≤ s → Fit (layT ws i s t)
  | 0, _ => f.set (by omega) fun h e => by
    have := (headAt_some e).1
    omega
  | t + 1, ht => by
    rw [layT_succ]
    have ll := layT_len (ws := ws) (i := i) (s := s) (t := t)
    refine (Fit.lay f hi t (by omega)).set (by omega) fun h e => ?_
    rw [head_none1] at e
    cases e
theorem Fit.rep {n : Nat} : Fit (List.replicate n (-1)) := fun i h hi e => by
  rw [List.length_replicate] at hi
  have : (List.replicate n (-1 : Int)).getD i 0 = -1 := by
    rw [List.getD_eq_getElem?_getD, List.getElem?_replicate, if_pos hi]
    rfl
  rw [this, head_none1] at e
  cases e
/-- the places in the slots of a cell at i -/
def kidsT (ws : List Int) (i t : Nat) : List Int := (List.range t).filterMap fun u => match wordOf (ws.getD (i + 1 + u) 0) with
  | some (.place p) => some p
  | _ => none
theorem kidsT_succ {ws : List Int} {i t : Nat} : kidsT ws i (t + 1) = kidsT ws i t ++ (match wordOf (ws.getD (i + 1 + t) 0) with
  | some (.place p) => [p]
  | _ => []) := by
  unfold kidsT
  rw [List.range_succ, List.filterMap_append]
  congr 1
  rw [List.filterMap_cons, List.filterMap_nil]
  cases e : wordOf (ws.getD (i + 1 + t) 0) with
  | none => rfl
  | some w => cases w <;> rfl
theorem kidsT_len {ws : List Int} {i t : Nat} : (kidsT ws i t).length ≤ t := by
  have := List.length_filterMap_le (fun u => match wordOf (ws.getD (i + 1 + u) 0) with
    | some (.place p) => some p
    | _ => none) (List.range t)
  rw [List.length_range] at this
  exact this
def sp_need_slots (K : PySem.W.Frag) : Sp := fun vs H Q E => ∃ v, vs = [v] ∧ Thing H v ∧ match slotsW v with
  | some _ => Q .non H
  | none => E (Ex K "BadCount") none H
def sp_head_of (K : PySem.W.Frag) : Sp := fun vs H Q E => ∃ m dx l ws v, vs = [.ref m, v] ∧ MemO K H m dx l ws ∧ Vw ws ∧ Thing H v ∧ match headW ws v with
  | .noPlace => E (Ex K "NoPlace") none H
  | .noCell => E (Ex K "NoCell") none H
  | .ok _ h => Q (.int h) H
def sp_slots_of (K : PySem.W.Frag) : Sp := fun vs H Q E => ∃ m dx l ws v, vs = [.ref m, v] ∧ MemO K H m dx l ws ∧ Vw ws ∧ Thing H v ∧ match headW ws v with
  | .noPlace => E (Ex K "NoPlace") none H
  | .noCell => E (Ex K "NoCell") none H
  | .ok _ h => Q (.int ((h / 4 : Nat) : Int)) H
def sp_age_of (K : PySem.W.Frag) : Sp := fun vs H Q E => ∃ m dx l ws v, vs = [.ref m, v] ∧ MemO K H m dx l ws ∧ Vw ws ∧ Thing H v ∧ match headW ws v with
  | .noPlace => E (Ex K "NoPlace") none H
  | .noCell => E (Ex K "NoCell") none H
  | .ok _ h => Q (.int ((h % 4 : Nat) : Int)) H
def sp_words_of (K : PySem.W.Frag) : Sp := fun vs H Q E => ∃ m dx l ws v, vs = [.ref m, v] ∧ MemO K H m dx l ws ∧ Vw ws ∧ Thing H v ∧ match headW ws v with
  | .noPlace => E (Ex K "NoPlace") none H
  | .noCell => E (Ex K "NoCell") none H
  | .ok _ h => Q (.int ((h / 4 + 1 : Nat) : Int)) H
def sp_aged (K : PySem.W.Frag) : Sp := fun vs H Q E => ∃ m dx l ws v z, vs = [.ref m, v, z] ∧ MemO K H m dx l ws ∧ Vw ws ∧ Thing H v ∧ Thing H z ∧ match headW ws v with
  | .noPlace => E (Ex K "NoPlace") none H
  | .noCell => E (Ex K "NoCell") none H
  | .ok i h => match ageW z with
    | none => E (Ex K "BadCount") none H
    | some a => Q .non (upd H l (.lst ((ws.set i (2 * ((4 * (h / 4) + a : Nat) : Int))).map V.int)))
def sp_slot_place (K : PySem.W.Frag) : Sp := fun vs H Q E => ∃ m dx l ws v z, vs = [.ref m, v, z] ∧ MemO K H m dx l ws ∧ Vw ws ∧ Thing H v ∧ Thing H z ∧ match headW ws v with
  | .noPlace => E (Ex K "NoPlace") none H
  | .noCell => E (Ex K "NoCell") none H
  | .ok i h => match placeOf (h / 4) z with
    | none => E (Ex K "NoSlot") none H
    | some s => Q (.int ((i + 1 + s : Nat) : Int)) H
def sp_children (K : PySem.W.Frag) : Sp := fun vs H Q E => ∃ m dx l ws v, vs = [.ref m, v] ∧ MemO K H m dx l ws ∧ Vw ws ∧ Thing H v ∧ match headW ws v with
  | .noPlace => ∀ H', Same H H' → E (Ex K "NoPlace") none H'
  | .noCell => ∀ H', Same H H' → E (Ex K "NoCell") none H'
  | .ok i h => i + h / 4 < ws.length ∧ ∀ p H', H p = none → Same H H' → H' p = some (.lst ((kidsT ws i (h / 4)).map V.int)) → Q (.ref p) H'
def sp_send (K : PySem.W.Frag) : Sp := fun vs H Q E => ∃ m dx l ws v z, vs = [.ref m, v, z] ∧ MemO K H m dx l ws ∧ Vw ws ∧ Thing H v ∧ Thing H z ∧ match headW ws v with
  | .noPlace => E (Ex K "NoPlace") none H
  | .noCell => E (Ex K "NoCell") none H
  | .ok i _ => match placeW z with
    | none => E (Ex K "NoPlace") none H
    | some g => Q .non (upd H l (.lst ((ws.set i (2 * g + 1)).map V.int)))
def sp_sent_to (K : PySem.W.Frag) : Sp := fun vs H Q E => ∃ m dx l ws v, vs = [.ref m, v] ∧ MemO K H m dx l ws ∧ Vw ws ∧ Thing H v ∧ match placeOf ws.length v with
  | none => E (Ex K "NoPlace") none H
  | some i => match wordOf (ws.getD i 0) with
    | some (.place p) => Q (.int p) H
    | _ => match headAt (ws.getD i 0) with
      | none => E (Ex K "NoCell") none H
      | some _ => Q .non H
def sp_lay (K : PySem.W.Frag) : Sp := fun vs H Q E => ∃ m dx l ws v z, vs = [.ref m, v, z] ∧ MemO K H m dx l ws ∧ Thing H v ∧ Thing H z ∧ match slotsW z with
  | none => E (Ex K "BadCount") none H
  | some s => match placeOf (ws.length - s) v with
    | none => E (Ex K "NoPlace") none H
    | some i => ∀ H', MemO K H' m dx l (layT ws i s s) → (∀ b o, b ≠ l → H b = some o → H' b = some o) → Q .non H'
section
variable {P : Program} {w : World} {K : PySem.W.Frag} {mg : Str → Option Value} {base : Heap}
theorem f_need_slots (T : Tx K mg) : Fn P w K mg base 2 "need_slots" ["slots"] (sp_need_slots K) := by
  have c_is_whole := f_is_whole (P := P) (w := w) (base := base) T
  refine T.mkFn 6 23 (d := d_need_slots) (N := ["slots"]) (k := 1) rfl rfl rfl rfl rfl sc_need_slots (fun _ _ _ _ _ _ us hl => match us, hl with | [_], _ => rfl) (fun vs H Q E h => ?len) (fun cdv A outer s H vs Q E hr h => ⟨_,
      (pss_one (ps_if (PW.pt (pw_or (pt_not (pt_val (pe_fn (takes_of rfl rfl rfl rfl) c_is_whole (hr.mono (by decide)) (by rfl) (pa_cons (pv 0) pa_nil)))) (pw_or1 (pt_not (pt_chain op_le op_le pe_int (pv 0) (pe_num (T.num 49) (by rfl))))))) (pss_one (ps_raiseK (K := K) rfl rfl (takes_of rfl rfl rfl rfl) (T.says.fact 67 rfl) (T.glo 3) (by rfl))) pss_nil)), ?rd⟩)
  case len => obtain ⟨v, rfl, _⟩ := h; rfl
  case rd =>
    obtain ⟨v, rfl, th, h⟩ := h
    walk_at "w2"
    rcases th with ⟨n, rfl⟩ | o
    · walk_at "w2"
      rw [slotsW_int] at h
      split
      · split
        · rw [if_neg (by omega)] at h
          exact h
        · rw [if_pos (by omega)] at h
          exact h
      · rw [if_neg (by omega)] at h
        exact h
    · rw [odd_whole o]
      rw [slotsW_odd o] at h
      walk_at "w2"
      exact h
theorem f_head_of (T : Tx K mg) : Fn P w K mg base 4 "head_of" ["memory", "at"] (sp_head_of K) := by
  have c_Memory_read := f_Memory_read (P := P) (w := w) (base := base) T
  have c_worth := f_worth (P := P) (w := w) (base := base) T
  have c_kind := f_kind (P := P) (w := w) (base := base) T
  refine T.mkFn 8 25 (d := d_head_of) (N := ["memory", "at", "word"]) (k := 3) rfl rfl rfl rfl rfl sc_head_of (fun _ _ _ _ _ _ us hl => match us, hl with | [_, _], _ => rfl) (fun vs H Q E h => ?len) (fun cdv A outer s H vs Q E hr h => ⟨_,
      (pss_cons (ps_set (i := 2) sc_head_of.nd rfl (Or.inl rfl) (pe_mt (K := K) rfl (takes_of rfl rfl rfl rfl) (pv 0) c_Memory_read (hr.mono (by decide)) (pa_cons (pv 1) pa_nil)))
        (pss_cons (ps_if (PW.pt (pw_or (pt_cmpR (op_neK (K := K) rfl hr.units) (pe_fn (takes_of rfl rfl rfl rfl) c_kind (hr.mono (by decide)) (by rfl) (pa_cons (pv 2) pa_nil)) pe_str (nomark _)) (pw_or (pt_not (pt_chain op_le op_le pe_int (pe_fn (takes_of rfl rfl rfl rfl) c_worth (hr.mono (by decide)) (by rfl) (pa_cons (pv 2) pa_nil)) (pe_op op_gAdd (pe_op op_gMul pe_int (pe_num (T.num 49) (by rfl))) (pe_num (T.num 50) (by rfl))))) (pw_or1 (pt_cmpR op_gt (pe_op op_mod (pe_fn (takes_of rfl rfl rfl rfl) c_worth (hr.mono (by decide)) (by rfl) (pa_cons (pv 2) pa_nil)) pe_int) (pe_num (T.num 50) (by rfl)) (nomark _)))))) (pss_one (ps_raiseK (K := K) rfl rfl (takes_of rfl rfl rfl rfl) (T.says.fact 71 rfl) (T.glo 7) (by rfl))) pss_nil)
        (pss_one (ps_ret (pe_fn (takes_of rfl rfl rfl rfl) c_worth (hr.mono (by decide)) (by rfl) (pa_cons (pv 2) pa_nil)))))), ?rd⟩)
  case len => obtain ⟨m, dx, l, ws, v, rfl, _⟩ := h; rfl
  case rd =>
    obtain ⟨m, dx, l, ws, v, rfl, M, vw, th, h⟩ := h
    walk_at "w2"
    refine ⟨recv M.ob, m, dx, l, ws, v, rfl, M, th, ?_⟩
    unfold headW at h
    cases e : placeOf ws.length v with
    | none =>
      rw [e] at h
      exact h
    | some i =>
      rw [e] at h
      obtain ⟨rfl, hi⟩ := placeOf_some e
      obtain ⟨w, ew⟩ := vw.get hi
      walk_at "w2"
      have h : (match headAt (ws.getD i 0) with
        | none => E (Ex K "NoCell") none H
        | some h => Q (.int (h : Int)) H) := by
        cases eh : headAt (ws.getD i 0) with
        | none =>
          have h : (match (match headAt (ws.getD i 0) with
            | none => Hd.noCell
            | some h => .ok i h) with
            | .noPlace => E (Ex K "NoPlace") none H
            | .noCell => E (Ex K "NoCell") none H
            | .ok _ h => Q (.int (h : Int)) H) := h
          rw [eh] at h
          exact h
        | some k =>
          have h : (match (match headAt (ws.getD i 0) with
            | none => Hd.noCell
            | some h => .ok i h) with
            | .noPlace => E (Ex K "NoPlace") none H
            | .noCell => E (Ex K "NoCell") none H
            | .ok _ h => Q (.int (h : Int)) H) := h
          rw [eh] at h
          exact h
      unfold headAt at h
      generalize ws.getD i 0 = z at ew h
      simp only [x_worth]
      rw [ew] at h ⊢
      dsimp only at h ⊢
      cases w with
      | nothing =>
        simp only [k_nn, k_pn, k_Nn, k_np, k_Np, k_pp, not_true_eq_false, not_false_eq_true, if_true, if_false, ite_true, ite_false, Wd.worth]
        exact h
      | place p =>
        simp only [k_nn, k_pn, k_Nn, k_np, k_Np, k_pp, not_true_eq_false, not_false_eq_true, if_true, if_false, ite_true, ite_false, Wd.worth]
        exact h
      | num n =>
        simp only [k_nn, k_pn, k_Nn, k_np, k_Np, k_pp, not_true_eq_false, not_false_eq_true, if_true, if_false, ite_true, ite_false, Wd.worth]
        have h : (match (if 0 ≤ n ∧ n ≤ 34 ∧ n % 4 ≤ 2 then some n.toNat else none) with
          | none => E (Ex K "NoCell") none H
          | some h => Q (.int (h : Int)) H) := h
        walk_at "w2"
        split
        · split
          · rw [if_neg (by omega)] at h
            exact h
          · split
            · rw [if_neg (by omega)] at h
              exact h
            · rw [if_pos (by omega)] at h
              have e : ((n.toNat : Nat) : Int) = n := Int.toNat_of_nonneg (by omega)
              have h : Q (.int ((n.toNat : Nat) : Int)) H := h
              rw [e] at h
              exact h
        · rw [if_neg (by omega)] at h
          exact h
theorem f_slots_of (T : Tx K mg) : Fn P w K mg base 5 "slots_of" ["memory", "at"] (sp_slots_of K) := by
  have c_head_of := f_head_of (P := P) (w := w) (base := base) T
  refine T.mkFn 9 26 (d := d_slots_of) (N := ["memory", "at"]) (k := 4) rfl rfl rfl rfl rfl sc_slots_of (fun _ _ _ _ _ _ us hl => match us, hl with | [_, _], _ => rfl) (fun vs H Q E h => ?len) (fun cdv A outer s H vs Q E hr h => ⟨_,
      (pss_one (ps_ret (pe_op op_fdiv (pe_fn (takes_of rfl rfl rfl rfl) c_head_of (hr.mono (by decide)) (by rfl) (pa_cons (pv 0) (pa_cons (pv 1) pa_nil))) pe_int))), ?rd⟩)
  case len => obtain ⟨m, dx, l, ws, v, rfl, _⟩ := h; rfl
  case rd =>
    obtain ⟨m, dx, l, ws, v, rfl, M, vw, th, h⟩ := h
    walk_at "w2"
    refine ⟨m, dx, l, ws, v, rfl, M, vw, th, ?_⟩
    cases e : headW ws v with
    | noPlace =>
      rw [e] at h
      exact h
    | noCell =>
      rw [e] at h
      exact h
    | ok i k =>
      rw [e] at h
      walk_at "w2"
      have e2 : (k : Int) / 4 = ((k / 4 : Nat) : Int) := by omega
      rw [e2]
      exact h
theorem f_age_of (T : Tx K mg) : Fn P w K mg base 5 "age_of" ["memory", "at"] (sp_age_of K) := by
  have c_head_of := f_head_of (P := P) (w := w) (base := base) T
  refine T.mkFn 10 27 (d := d_age_of) (N := ["memory", "at"]) (k := 4) rfl rfl rfl rfl rfl sc_age_of (fun _ _ _ _ _ _ us hl => match us, hl with | [_, _], _ => rfl) (fun vs H Q E h => ?len) (fun cdv A outer s H vs Q E hr h => ⟨_,
      (pss_one (ps_ret (pe_op op_mod (pe_fn (takes_of rfl rfl rfl rfl) c_head_of (hr.mono (by decide)) (by rfl) (pa_cons (pv 0) (pa_cons (pv 1) pa_nil))) pe_int))), ?rd⟩)
  case len => obtain ⟨m, dx, l, ws, v, rfl, _⟩ := h; rfl
  case rd =>
    obtain ⟨m, dx, l, ws, v, rfl, M, vw, th, h⟩ := h
    walk_at "w2"
    refine ⟨m, dx, l, ws, v, rfl, M, vw, th, ?_⟩
    cases e : headW ws v with
    | noPlace =>
      rw [e] at h
      exact h
    | noCell =>
      rw [e] at h
      exact h
    | ok i k =>
      rw [e] at h
      walk_at "w2"
      have e2 : (k : Int) % 4 = ((k % 4 : Nat) : Int) := by omega
      rw [e2]
      exact h
theorem f_words_of (T : Tx K mg) : Fn P w K mg base 6 "words_of" ["memory", "at"] (sp_words_of K) := by
  have c_slots_of := f_slots_of (P := P) (w := w) (base := base) T
  refine T.mkFn 11 28 (d := d_words_of) (N := ["memory", "at"]) (k := 5) rfl rfl rfl rfl rfl sc_words_of (fun _ _ _ _ _ _ us hl => match us, hl with | [_, _], _ => rfl) (fun vs H Q E h => ?len) (fun cdv A outer s H vs Q E hr h => ⟨_,
      (pss_one (ps_ret (pe_op op_gAdd (pe_fn (takes_of rfl rfl rfl rfl) c_slots_of (hr.mono (by decide)) (by rfl) (pa_cons (pv 0) (pa_cons (pv 1) pa_nil))) pe_int))), ?rd⟩)
  case len => obtain ⟨m, dx, l, ws, v, rfl, _⟩ := h; rfl
  case rd =>
    obtain ⟨m, dx, l, ws, v, rfl, M, vw, th, h⟩ := h
    walk_at "w2"
    refine ⟨m, dx, l, ws, v, rfl, M, vw, th, ?_⟩
    cases e : headW ws v with
    | noPlace =>
      rw [e] at h
      exact h
    | noCell =>
      rw [e] at h
      exact h
    | ok i k =>
      rw [e] at h
      walk_at "w2"
      have e2 : ((k / 4 : Nat) : Int) + 1 = ((k / 4 + 1 : Nat) : Int) := by omega
      rw [e2]
      exact h
theorem f_aged (T : Tx K mg) : Fn P w K mg base 6 "aged" ["memory", "at", "age"] (sp_aged K) := by
  have c_slots_of := f_slots_of (P := P) (w := w) (base := base) T
  have c_is_whole := f_is_whole (P := P) (w := w) (base := base) T
  have c_Memory_write := f_Memory_write (P := P) (w := w) (base := base) T
  have c_number_word := f_number_word (P := P) (w := w) (base := base) T
  refine T.mkFn 12 29 (d := d_aged) (N := ["memory", "at", "age", "slots"]) (k := 5) rfl rfl rfl rfl rfl sc_aged (fun _ _ _ _ _ _ us hl => match us, hl with | [_, _, _], _ => rfl) (fun vs H Q E h => ?len) (fun cdv A outer s H vs Q E hr h => ⟨_,
      (pss_cons (ps_set (i := 3) sc_aged.nd rfl (Or.inl rfl) (pe_fn (takes_of rfl rfl rfl rfl) c_slots_of (hr.mono (by decide)) (by rfl) (pa_cons (pv 0) (pa_cons (pv 1) pa_nil))))
        (pss_cons (ps_if (PW.pt (pw_or (pt_not (pt_val (pe_fn (takes_of rfl rfl rfl rfl) c_is_whole (hr.mono (by decide)) (by rfl) (pa_cons (pv 2) pa_nil)))) (pw_or1 (pt_not (pt_chain op_le op_le pe_int (pv 2) (pe_num (T.num 50) (by rfl))))))) (pss_one (ps_raiseK (K := K) rfl rfl (takes_of rfl rfl rfl rfl) (T.says.fact 67 rfl) (T.glo 3) (by rfl))) pss_nil)
        (pss_one (ps_expr (pe_mt (K := K) rfl (takes_of rfl rfl rfl rfl) (pv 0) c_Memory_write (hr.mono (by decide)) (pa_cons (pv 1) (pa_cons (pe_fn (takes_of rfl rfl rfl rfl) c_number_word (hr.mono (by decide)) (by rfl) (pa_cons (pe_op op_gAdd (pe_op op_gMul pe_int (pv 3)) (pv 2)) pa_nil)) pa_nil))))))), ?rd⟩)
  case len => obtain ⟨m, dx, l, ws, v, z, rfl, _⟩ := h; rfl
  case rd =>
    obtain ⟨m, dx, l, ws, v, z, rfl, M, vw, th, tz, h⟩ := h
    walk_at "w2"
    refine ⟨m, dx, l, ws, v, rfl, M, vw, th, ?_⟩
    cases e : headW ws v with
    | noPlace =>
      rw [e] at h
      exact h
    | noCell =>
      rw [e] at h
      exact h
    | ok i k =>
      rw [e] at h
      obtain ⟨rfl, hi, eh⟩ := head_ok e
      obtain ⟨-, h34, -⟩ := headAt_some eh
      walk_at "w2"
      rcases tz with ⟨n, rfl⟩ | o
      · walk_at "w2"
        rw [ageW_int] at h
        split
        · split
          · rw [if_neg (by omega)] at h
            exact h
          · rw [if_pos (by omega)] at h
            refine ⟨recv M.ob, ?_⟩
            rw [x_number_word, if_pos (by omega)]
            have e1 : (wordOf (2 * (4 * ((k / 4 : Nat) : Int) + n))).isSome = true := by rw [word_num (by omega)]; rfl
            refine ⟨m, dx, l, ws, _, _, rfl, M, .inl ⟨_, rfl⟩, .inl ⟨_, rfl⟩, ?_⟩
            rw [placeOf_int, if_pos ⟨by omega, by omega⟩, wordV_int, if_pos e1, Int.toNat_natCast]
            have e2 : 4 * ((k / 4 : Nat) : Int) + n = ((4 * (k / 4) + n.toNat : Nat) : Int) := by omega
            have e3 : 2 * (4 * ((k / 4 : Nat) : Int) + n) = 2 * ((4 * (k / 4) + n.toNat : Nat) : Int) := by omega
            show Q .non (upd H l (.lst ((ws.set i (2 * (4 * ((k / 4 : Nat) : Int) + n))).map V.int)))
            rw [e3]
            exact h
        · rw [if_neg (by omega)] at h
          exact h
      · rw [odd_whole o]
        rw [ageW_odd o] at h
        walk_at "w2"
        exact h
theorem f_send (T : Tx K mg) : Fn P w K mg base 5 "send" ["memory", "at", "goal"] (sp_send K) := by
  have c_head_of := f_head_of (P := P) (w := w) (base := base) T
  have c_Memory_write := f_Memory_write (P := P) (w := w) (base := base) T
  have c_place_word := f_place_word (P := P) (w := w) (base := base) T
  refine T.mkFn 13 30 (d := d_send) (N := ["memory", "at", "goal"]) (k := 4) rfl rfl rfl rfl rfl sc_send (fun _ _ _ _ _ _ us hl => match us, hl with | [_, _, _], _ => rfl) (fun vs H Q E h => ?len) (fun cdv A outer s H vs Q E hr h => ⟨_,
      (pss_cons (ps_expr (pe_fn (takes_of rfl rfl rfl rfl) c_head_of (hr.mono (by decide)) (by rfl) (pa_cons (pv 0) (pa_cons (pv 1) pa_nil))))
        (pss_one (ps_expr (pe_mt (K := K) rfl (takes_of rfl rfl rfl rfl) (pv 0) c_Memory_write (hr.mono (by decide)) (pa_cons (pv 1) (pa_cons (pe_fn (takes_of rfl rfl rfl rfl) c_place_word (hr.mono (by decide)) (by rfl) (pa_cons (pv 2) pa_nil)) pa_nil)))))), ?rd⟩)
  case len => obtain ⟨m, dx, l, ws, v, z, rfl, _⟩ := h; rfl
  case rd =>
    obtain ⟨m, dx, l, ws, v, z, rfl, M, vw, th, tz, h⟩ := h
    walk_at "w2"
    refine ⟨m, dx, l, ws, v, rfl, M, vw, th, ?_⟩
    cases e : headW ws v with
    | noPlace =>
      rw [e] at h
      exact h
    | noCell =>
      rw [e] at h
      exact h
    | ok i k =>
      rw [e] at h
      obtain ⟨rfl, hi, eh⟩ := head_ok e
      walk_at "w2"
      refine ⟨recv M.ob, ?_⟩
      have h : (match placeW z with
        | none => E (Ex K "NoPlace") none H
        | some g => Q .non (upd H l (.lst ((ws.set i (2 * g + 1)).map V.int)))) := h
      rcases tz with ⟨n, rfl⟩ | o
      · rw [x_place_word]
        rw [placeW_int] at h
        split
        · rename_i c
          rw [if_pos c] at h
          have e1 : (wordOf (2 * n + 1)).isSome = true := by rw [word_place c.1 c.2]; rfl
          refine ⟨m, dx, l, ws, _, _, rfl, M, .inl ⟨_, rfl⟩, .inl ⟨_, rfl⟩, ?_⟩
          rw [placeOf_int, if_pos ⟨by omega, by omega⟩, wordV_int, if_pos e1, Int.toNat_natCast]
          exact h
        · rename_i c
          rw [if_neg c] at h
          exact h
      · rw [odd_place_word o]
        rw [placeW_odd o] at h
        exact h
theorem f_sent_to (T : Tx K mg) : Fn P w K mg base 5 "sent_to" ["memory", "at"] (sp_sent_to K) := by
  have c_Memory_read := f_Memory_read (P := P) (w := w) (base := base) T
  have c_kind := f_kind (P := P) (w := w) (base := base) T
  have c_worth := f_worth (P := P) (w := w) (base := base) T
  have c_head_of := f_head_of (P := P) (w := w) (base := base) T
  refine T.mkFn 14 31 (d := d_sent_to) (N := ["memory", "at", "word"]) (k := 4) rfl rfl rfl rfl rfl sc_sent_to (fun _ _ _ _ _ _ us hl => match us, hl with | [_, _], _ => rfl) (fun vs H Q E h => ?len) (fun cdv A outer s H vs Q E hr h => ⟨_,
      (pss_cons (ps_set (i := 2) sc_sent_to.nd rfl (Or.inl rfl) (pe_mt (K := K) rfl (takes_of rfl rfl rfl rfl) (pv 0) c_Memory_read (hr.mono (by decide)) (pa_cons (pv 1) pa_nil)))
        (pss_cons (ps_if (pt_cmpR (op_eqK (K := K) rfl hr.units) (pe_fn (takes_of rfl rfl rfl rfl) c_kind (hr.mono (by decide)) (by rfl) (pa_cons (pv 2) pa_nil)) pe_str (nomark _)) (pss_one (ps_ret (pe_fn (takes_of rfl rfl rfl rfl) c_worth (hr.mono (by decide)) (by rfl) (pa_cons (pv 2) pa_nil)))) pss_nil)
        (pss_cons (ps_expr (pe_fn (takes_of rfl rfl rfl rfl) c_head_of (hr.mono (by decide)) (by rfl) (pa_cons (pv 0) (pa_cons (pv 1) pa_nil))))
        (pss_one (ps_ret pe_non))))), ?rd⟩)
  case len => obtain ⟨m, dx, l, ws, v, rfl, _⟩ := h; rfl
  case rd =>
    obtain ⟨m, dx, l, ws, v, rfl, M, vw, th, h⟩ := h
    walk_at "w2"
    refine ⟨recv M.ob, m, dx, l, ws, v, rfl, M, th, ?_⟩
    cases e : placeOf ws.length v with
    | none =>
      rw [e] at h
      exact h
    | some i =>
      rw [e] at h
      obtain ⟨rfl, hi⟩ := placeOf_some e
      walk_at "w2"
      obtain ⟨w, ew⟩ := vw.get hi
      have eH : headW ws (.int (i : Int)) = (match headAt (ws.getD i 0) with
        | none => .noCell
        | some h => .ok i h) := by
        unfold headW
        rw [placeOf_int, if_pos ⟨by omega, by omega⟩, Int.toNat_natCast]
      have tail : (match headAt (ws.getD i 0) with
          | none => E (Ex K "NoCell") none H
          | some _ => Q .non H) → sp_head_of K [.ref m, .int (i : Int)] H (fun x H1 => Q .non H1) (fun c d H2 => E c d H2) := fun h => by
        refine ⟨m, dx, l, ws, _, rfl, M, vw, .inl ⟨_, rfl⟩, ?_⟩
        rw [eH]
        cases eh : headAt (ws.getD i 0) with
        | none =>
          rw [eh] at h
          exact h
        | some k =>
          rw [eh] at h
          exact h
      simp only [x_worth]
      have h : (match wordOf (ws.getD i 0) with
        | some (.place p) => Q (.int p) H
        | _ => match headAt (ws.getD i 0) with
          | none => E (Ex K "NoCell") none H
          | some _ => Q .non H) := h
      rw [ew] at h ⊢
      dsimp only at h ⊢
      cases w with
      | nothing =>
        simp only [k_nn, k_pn, k_Nn, k_np, k_Np, k_pp, not_true_eq_false, not_false_eq_true, if_true, if_false, ite_true, ite_false, Wd.worth]
        exact tail h
      | num n =>
        simp only [k_nn, k_pn, k_Nn, k_np, k_Np, k_pp, not_true_eq_false, not_false_eq_true, if_true, if_false, ite_true, ite_false, Wd.worth]
        exact tail h
      | place p =>
        simp only [k_nn, k_pn, k_Nn, k_np, k_Np, k_pp, not_true_eq_false, not_false_eq_true, if_true, if_false, ite_true, ite_false, Wd.worth]
        exact h
theorem f_lay (T : Tx K mg) : Fn P w K mg base 4 "lay" ["memory", "at", "slots"] (sp_lay K) := by
  have c_need_slots := f_need_slots (P := P) (w := w) (base := base) T
  have c_is_whole := f_is_whole (P := P) (w := w) (base := base) T
  have c_Memory_write := f_Memory_write (P := P) (w := w) (base := base) T
  have c_number_word := f_number_word (P := P) (w := w) (base := base) T
  refine T.mkFn 7 24 (d := d_lay) (N := ["memory", "at", "slots", "slot"]) (k := 3) rfl rfl rfl rfl rfl sc_lay (fun _ _ _ _ _ _ us hl => match us, hl with | [_, _, _], _ => rfl) (fun vs H Q E h => ?len) (fun cdv A outer s H vs Q E hr h => ⟨_,
      (pss_cons (ps_expr (pe_fn (takes_of rfl rfl rfl rfl) c_need_slots (hr.mono (by decide)) (by rfl) (pa_cons (pv 2) pa_nil)))
        (pss_cons (ps_if (PW.pt (pw_or (pt_not (pt_val (pe_fn (takes_of rfl rfl rfl rfl) c_is_whole (hr.mono (by decide)) (by rfl) (pa_cons (pv 1) pa_nil)))) (pw_or (pt_cmpR op_lt (pv 1) pe_int (nomark _)) (pw_or1 (pt_cmpR op_ge (pe_op op_gAdd (pv 1) (pv 2)) (pe_fldC (T.cls 78) (T.noat 85) (pv 0)) (nomark _)))))) (pss_one (ps_raiseK (K := K) rfl rfl (takes_of rfl rfl rfl rfl) (T.says.fact 68 rfl) (T.glo 4) (by rfl))) pss_nil)
        (pss_cons (ps_expr (pe_mt (K := K) rfl (takes_of rfl rfl rfl rfl) (pv 0) c_Memory_write (hr.mono (by decide)) (pa_cons (pv 1) (pa_cons (pe_fn (takes_of rfl rfl rfl rfl) c_number_word (hr.mono (by decide)) (by rfl) (pa_cons (pe_op op_gMul pe_int (pv 2)) pa_nil)) pa_nil))))
        (pss_one (ps_for (passes_of rfl) rfl (pi_range1 rfl (T.free 59) (pa_cons (pv 2) pa_nil)) (pg_name (i := 3) sc_lay.nd rfl (Or.inl rfl)) (pss_one (ps_expr (pe_mt (K := K) rfl (takes_of rfl rfl rfl rfl) (pv 0) c_Memory_write (hr.mono (by decide)) (pa_cons (pe_op op_gAdd (pe_op op_gAdd (pv 1) pe_int) (pv 3)) (pa_cons (pe_num (T.num 48) (by rfl)) pa_nil)))))))))), ?rd⟩)
  case len => obtain ⟨m, dx, l, ws, v, z, rfl, _⟩ := h; rfl
  case rd =>
    obtain ⟨m, dx, l, ws, v, z, rfl, M, th, tz, h⟩ := h
    walk_at "w2"
    refine ⟨z, rfl, tz, ?_⟩
    have hz := M.sz
    cases es : slotsW z with
    | none =>
      rw [es] at h
      exact h
    | some s =>
      rw [es] at h
      obtain ⟨rfl, s8⟩ := slotsW_some es
      have h : (match placeOf (ws.length - s) v with
        | none => E (Ex K "NoPlace") none H
        | some i => ∀ H', MemO K H' m dx l (layT ws i s s) → (∀ b o, b ≠ l → H b = some o → H' b = some o) → Q .non H') := h
      dsimp only
      walk_at "w2"
      rcases th with ⟨n, rfl⟩ | o
      · walk_at "w2"
        rw [placeOf_int] at h
        split
        · rw [if_neg (by omega)] at h
          exact h
        · refine ⟨_, fldIs M.ob, ?_⟩
          walk_at "w2"
          split
          · rw [if_neg (by omega)] at h
            exact h
          · rw [if_pos (by omega)] at h
            obtain ⟨i, rfl⟩ := Int.eq_ofNat_of_zero_le (show 0 ≤ n by omega)
            rw [Int.toNat_natCast] at h
            dsimp only at h
            refine ⟨recv M.ob, ?_⟩
            walk_at "w2"
            rw [x_number_word, if_pos (by omega)]
            have e2 : 2 * (4 * (s : Int)) = 8 * (s : Int) := by omega
            rw [e2]
            have e1 : (wordOf (8 * (s : Int))).isSome = true := by rw [← e2, word_num (by omega)]; rfl
            refine ⟨m, dx, l, ws, _, _, rfl, M, .inl ⟨_, rfl⟩, .inl ⟨_, rfl⟩, ?_⟩
            rw [placeOf_int, if_pos ⟨by omega, by omega⟩, wordV_int, if_pos e1, Int.toNat_natCast]
            dsimp only
            walk_at "w2"
            rw [Int.toNat_natCast]
            have M0 : MemO K (upd H l (.lst ((ws.set i (8 * (s : Int))).map V.int))) m dx l (layT ws i s 0) := M.put _ (List.length_set ..)
            refine ⟨by omega, by omega, forW_range (fun t σ H' => ∃ o3, σ = [some (.ref m), some (.int (i : Int)), some (.int (s : Int)), o3] ∧ MemO K H' m dx l (layT ws i s t) ∧ ∀ b o, b ≠ l → H b = some o → H' b = some o) ⟨_, rfl, M0, fun b o hb e => by rw [upd_ne hb]; exact e⟩ ?_ ?_⟩
            · rintro t σ H' ht ⟨o3, rfl, M2, k⟩
              walk_at "w2"
              have ej : (i : Int) + 1 + ((0 : Int) + (t : Int)) = ((i + 1 + t : Nat) : Int) := by omega
              rw [ej]
              have ll := layT_len (ws := ws) (i := i) (s := s) (t := t)
              refine ⟨recv M2.ob, m, dx, l, _, _, _, rfl, M2, .inl ⟨_, rfl⟩, .inl ⟨_, rfl⟩, ?_⟩
              rw [placeOf_int, if_pos ⟨by omega, by omega⟩, wordV_int, if_pos (show (wordOf (-1)).isSome = true from rfl), Int.toNat_natCast]
              dsimp only
              walk_at "w2"
              have M3 := M2.put ((layT ws i s t).set (i + 1 + t) (-1)) (List.length_set ..)
              refine ⟨_, rfl, ?_, fun b o hb e => by rw [upd_ne hb]; exact k b o hb e⟩
              rw [layT_succ]
              exact M3
            · rintro σ H' ⟨o3, rfl, M2, k⟩
              exact h H' M2 k
      · rw [odd_whole o]
        rw [placeOf_odd o] at h
        walk_at "w2"
        exact h
end

local macro_rules | `(tactic| walk_at "w2") => `(tactic| try simp only [↓x_var0, ↓x_varS, ↓x_c, ↓x_op, ↓x_un, ↓x_cb, ↓x_nil, ↓x_cons, ↓x_test, ↓x_b, ↓x_ex, ↓x_and, ↓x_or, ↓x_not, ↓x_andV, ↓x_orV, ↓x_notV, ↓x_tif, ↓x_chain, ↓x_menu, ↓x_menuI, ↓x_lst, ↓x_tup, ↓x_dnew, ↓x_callW, ↓x_callN, ↓x_seq, ↓x_next, ↓x_ret, ↓x_retN, ↓x_drop, ↓x_ifS, ↓x_asg, ↓x_name, ↓x_raise, ↓x_fld, ↓x_setF, ↓x_meth, ↓x_make, ↓x_sub, ↓r_min, ↓r_max, ↓x_yes, ↓x_for, ↓x_lock, ↓x_keys, ↓x_cut, ↓x_lc, ↓x_rng1, ↓x_rng2, ↓x_lst1, ↓x_itup, ↓x_rng3, ↓x_three, ↓x_lstg, ↓x_tupg, ↓x_adrS, ↓x_one, ↓x_two, ↓x_adr, ↓x_sl, ↓x_np, ↓x_pt, ↓x_int, ↓x_bm, ↓x_bm0, ↓x_consg, ↓x_nilg, ↓x_dget2, ↓x_dget1, ↓x_dget, ↓x_din, ↓x_dni, ↓x_dput, ↓x_dpop2, ↓r_isB, ↓r_notB, ↓x_enum, ↓x_zip, wipe, List.map_cons, List.map_nil, ↓x_isT, ↓r_isiII, ↓r_isiBB, ↓r_isiIB, ↓r_isiSS, ↓r_neNS, ↓r_neSN, ↓r_neNN, ↓r_eqNS, ↓r_eqSN, ↓r_eqNN, ↓r_eqIS, ↓r_neIS, ↓r_neSI, ↓r_neBS, ↓r_eqBB, ↓r_neBB, ↓x_start, ↓x_K, ↓x_start0, ↓r_i0, ↓r_i, ↓r_u, ↓r_addI, ↓r_addS, ↓r_mulI, ↓r_mulS, ↓r_eqI, ↓r_neI, ↓r_eqS, ↓r_neS, ↓r_absI, ↓r_intI, ↓r_intB, List.length_cons, List.length_nil, List.replicate, List.set_cons_zero, List.set_cons_succ, decide_eq_true_eq, Bool.not_eq_true', decide_eq_false_iff_not, if_true, if_false, Bool.false_eq_true, Bool.true_eq_false, ite_true, ite_false, Bool.not_true, Bool.not_false, c_div, n_ten, c_pow, not_true_eq_false, not_false_eq_true, decide_true, decide_false, true_and, and_true, and_self, true_or, or_true, Int.reduceLT, Int.reduceLE, Int.reduceMul, Int.reduceAdd, Int.reduceSub, Int.reducePow, Int.reduceNeg, Int.reduceDiv, Int.reduceMod, Nat.reducePow, Int.reduceToNat, Int.reduceEq, Int.reduceNe, Nat.reduceLT, Nat.reduceLeDiff, Nat.reduceAdd, ↓x_whole, ↓x_kind])
/-! ## spaces -/
def SpV (K : PySem.W.Frag) (dx : Addr) (b e t : Nat) : HO := .ins (He.ga K "Space") dx (F_Space (.int (b : Int)) (.int (e : Int)) (.int (t : Int)))
abbrev SpO (K : PySem.W.Frag) (H : Hp) (s dx : Addr) (b e t : Nat) : Prop := H s = some (SpV K dx b e t)
theorem spv_lst {K dx b e t xs} : SpV K dx b e t ≠ .lst xs := fun z => by cases z
theorem F_len_Space {v0 v1 v2 : V} : (F_Space v0 v1 v2).length = 3 := rfl
theorem F_len_Memory {v0 v1 : V} : (F_Memory v0 v1).length = 2 := rfl
theorem spv_fs {K dx b e t C d fs} (h : fs.length ≠ 3) : SpV K dx b e t ≠ .ins C d fs := fun z => by
  cases z
  exact h rfl
theorem layT_at {ws : List Int} {i s t : Nat} (hi : i < ws.length) : (layT ws i s t).getD i 0 = 8 * (s : Int) := by
  induction t with
  | zero =>
    show (ws.set i (8 * (s : Int))).getD i 0 = _
    rw [List.getD_eq_getElem?_getD, List.getElem?_set_self hi]
    rfl
  | succ t ih =>
    rw [layT_succ, List.getD_eq_getElem?_getD, List.getElem?_set_ne (by omega), ← List.getD_eq_getElem?_getD, ih]
theorem head_8 {s : Nat} (h : s ≤ 8) : headAt (8 * (s : Int)) = some (4 * s) := by
  have e : 8 * (s : Int) = 2 * (4 * (s : Int)) := by omega
  unfold headAt
  rw [e, word_num (by omega)]
  dsimp only
  rw [if_pos (by omega)]
  congr 1
inductive Tk where
  | count | room | ok (n : Nat)
def takeW (b e t : Nat) : V → Tk
  | .int n => if n < 1 then .count else if n > (e : Int) - t then .room else .ok n.toNat
  | _ => .count
theorem takeW_int {b e t : Nat} {n : Int} : takeW b e t (.int n) = if n < 1 then .count else if n > (e : Int) - t then .room else .ok n.toNat := rfl
theorem takeW_odd {H : Hp} {b e t : Nat} {v : V} (h : Odd H v) : takeW b e t v = .count := by
  cases v with
  | int i => exact (odd_not h).elim
  | _ => rfl
def cutW (b e : Nat) : V → Option Nat
  | .int n => if (b : Int) ≤ n ∧ n ≤ e then some n.toNat else none
  | _ => none
theorem cutW_int {b e : Nat} {n : Int} : cutW b e (.int n) = if (b : Int) ≤ n ∧ n ≤ e then some n.toNat else none := rfl
theorem cutW_odd {H : Hp} {b e : Nat} {v : V} (h : Odd H v) : cutW b e v = none := by
  cases v with
  | int i => exact (odd_not h).elim
  | _ => rfl
/-- cells one behind the other from i to the top -/
inductive Chain (ws : List Int) (t : Nat) : Nat → List Int → Prop where
  | nil {i : Nat} (h : t ≤ i) : Chain ws t i []
  | cons {i k : Nat} {ps : List Int} (h : i < t) (hi : i < ws.length) (e : headAt (ws.getD i 0) = some k) (c : Chain ws t (i + (k / 4 + 1)) ps) : Chain ws t i ((i : Int) :: ps)
theorem Chain.len {ws : List Int} {t i : Nat} {ps : List Int} (h : Chain ws t i ps) : ps.length ≤ ws.length - i := by
  induction h with
  | nil h => exact Nat.zero_le _
  | cons h hi e c ih =>
    rw [List.length_cons]
    omega
theorem same_mk2 {H : Hp} {x dx : Addr} {o1 o2 : HO} (nx : H x = none) (ndx : H dx = none) : Same H (upd (upd (upd H dx (.own x)) x o1) x o2) := fun b o e => by
  rw [upd_upd, upd_ne (ne_of_none e nx), upd_ne (ne_of_none e ndx)]
  exact e
def sp_Space___init__ (K : PySem.W.Frag) : Sp := fun vs H Q _ => ∃ s dx, ∃ b e : Nat, vs = [.ref s, .int b, .int e] ∧ H s = some (.ins (He.ga K "Space") dx []) ∧ Q .non (upd H s (SpV K dx b e b))
def sp_Space_room (K : PySem.W.Frag) : Sp := fun vs H Q _ => ∃ s dx b e t, vs = [.ref s] ∧ SpO K H s dx b e t ∧ Q (.int ((e : Int) - t)) H
def sp_Space_used (K : PySem.W.Frag) : Sp := fun vs H Q _ => ∃ s dx b e t, vs = [.ref s] ∧ SpO K H s dx b e t ∧ Q (.int ((t : Int) - b)) H
def sp_Space_has (K : PySem.W.Frag) : Sp := fun vs H Q _ => ∃ s dx b e t n, vs = [.ref s, .int n] ∧ SpO K H s dx b e t ∧ Q (.bl (decide ((b : Int) ≤ n ∧ n < t))) H
def sp_Space_take (K : PySem.W.Frag) : Sp := fun vs H Q E => ∃ s dx b e t v, vs = [.ref s, v] ∧ SpO K H s dx b e t ∧ Thing H v ∧ match takeW b e t v with
  | .count => E (Ex K "BadCount") none H
  | .room => E (Ex K "NoRoom") none H
  | .ok n => Q (.int t) (upd H s (SpV K dx b e (t + n)))
def sp_Space_empty (K : PySem.W.Frag) : Sp := fun vs H Q _ => ∃ s dx b e t, vs = [.ref s] ∧ SpO K H s dx b e t ∧ Q .non (upd H s (SpV K dx b e b))
def sp_Space_cut (K : PySem.W.Frag) : Sp := fun vs H Q E => ∃ s dx b e t v, vs = [.ref s, v] ∧ SpO K H s dx b e t ∧ Thing H v ∧ match cutW b e v with
  | none => E (Ex K "BadCount") none H
  | some n => Q .non (upd H s (SpV K dx b e n))
def sp_Space_cells (K : PySem.W.Frag) : Sp := fun vs H Q _ => ∃ s dx b e t m mx l ws ps, vs = [.ref s, .ref m] ∧ SpO K H s dx b e t ∧ MemO K H m mx l ws ∧ Vw ws ∧ Chain ws t b ps ∧
  ∀ p H', H p = none → Same H H' → H' p = some (.lst (ps.map V.int)) → Q (.ref p) H'
section
variable {P : Program} {w : World} {K : PySem.W.Frag} {mg : Str → Option Value} {base : Heap}
theorem f_Space___init__ (T : Tx K mg) : Mi P w K mg base 1 "Space" ["self", "begin", "end"] (sp_Space___init__ K) := by
  refine T.mkMi 23 88 15 (d := d_Space___init__) (N := ["self", "begin", "end"]) (k := 0) rfl rfl rfl rfl rfl rfl sc_Space___init__ (fun _ _ _ _ _ _ us hl => match us, hl with | [_, _, _], _ => rfl) (fun vs H Q E h => ?len) (fun cdv A outer s H vs Q E hr h => ⟨_,
      (pss_cons (ps_fldC (T.cls 87) (T.noat 96) (pv 0) (pv 1))
        (pss_cons (ps_fldC (T.cls 87) (T.noat 97) (pv 0) (pv 2))
        (pss_one (ps_fldC (T.cls 87) (T.noat 98) (pv 0) (pv 1))))), ?rd⟩)
  case len => obtain ⟨s, dx, b, e, rfl, _⟩ := h; rfl
  case rd =>
    obtain ⟨s, dx, b, e, rfl, S, q⟩ := h
    walk_at "w2"
    refine ⟨s, dx, _, rfl, S, by decide, ?_⟩
    rw [pi_Space_begin]
    refine ⟨s, dx, _, rfl, upd_same, by show 1 < 1000; decide, ?_⟩
    rw [pi_Space_end, upd_upd]
    refine ⟨s, dx, _, rfl, upd_same, by show 2 < 1000; decide, ?_⟩
    rw [pi_Space_top, upd_upd]
    exact q
theorem f_Space_room (T : Tx K mg) : Mt P w K mg base 1 "Space" "room" ["self"] (sp_Space_room K) := by
  refine T.mkMt 24 89 87 (d := d_Space_room) (N := ["self"]) (k := 0) rfl rfl rfl rfl rfl rfl sc_Space_room (fun _ _ _ _ _ _ us hl => match us, hl with | [_], _ => rfl) (fun vs H Q E h => ?len) (fun cdv A outer s H vs Q E hr h => ⟨_,
      (pss_one (ps_ret (pe_op op_sub (pe_fldC (T.cls 87) (T.noat 97) (pv 0)) (pe_fldC (T.cls 87) (T.noat 98) (pv 0))))), ?rd⟩)
  case len => obtain ⟨s, dx, b, e, t, rfl, _⟩ := h; rfl
  case rd =>
    obtain ⟨s, dx, b, e, t, rfl, S, q⟩ := h
    walk_at "w2"
    refine ⟨_, fldIs S, _, fldIs S, ?_⟩
    walk_at "w2"
    exact q
theorem f_Space_used (T : Tx K mg) : Mt P w K mg base 1 "Space" "used" ["self"] (sp_Space_used K) := by
  refine T.mkMt 25 90 87 (d := d_Space_used) (N := ["self"]) (k := 0) rfl rfl rfl rfl rfl rfl sc_Space_used (fun _ _ _ _ _ _ us hl => match us, hl with | [_], _ => rfl) (fun vs H Q E h => ?len) (fun cdv A outer s H vs Q E hr h => ⟨_,
      (pss_one (ps_ret (pe_op op_sub (pe_fldC (T.cls 87) (T.noat 98) (pv 0)) (pe_fldC (T.cls 87) (T.noat 96) (pv 0))))), ?rd⟩)
  case len => obtain ⟨s, dx, b, e, t, rfl, _⟩ := h; rfl
  case rd =>
    obtain ⟨s, dx, b, e, t, rfl, S, q⟩ := h
    walk_at "w2"
    refine ⟨_, fldIs S, _, fldIs S, ?_⟩
    walk_at "w2"
    exact q
theorem f_Space_has (T : Tx K mg) : Mt P w K mg base 1 "Space" "has" ["self", "at"] (sp_Space_has K) := by
  refine T.mkMt 26 91 87 (d := d_Space_has) (N := ["self", "at"]) (k := 0) rfl rfl rfl rfl rfl rfl sc_Space_has (fun _ _ _ _ _ _ us hl => match us, hl with | [_, _], _ => rfl) (fun vs H Q E h => ?len) (fun cdv A outer s H vs Q E hr h => ⟨_,
      (pss_one (ps_ret (pe_chain op_le op_lt (pe_fldC (T.cls 87) (T.noat 96) (pv 0)) (pv 1) (pe_fldC (T.cls 87) (T.noat 98) (pv 0))))), ?rd⟩)
  case len => obtain ⟨s, dx, b, e, t, n, rfl, _⟩ := h; rfl
  case rd =>
    obtain ⟨s, dx, b, e, t, n, rfl, S, q⟩ := h
    walk_at "w2"
    refine ⟨_, fldIs S, ?_⟩
    walk_at "w2"
    split
    · refine ⟨_, fldIs S, ?_⟩
      walk_at "w2"
      have c : ((b : Int) ≤ n ∧ n < t) = (n < t) := propext ⟨fun z => z.2, fun z => ⟨‹_›, z⟩⟩
      simp only [c] at q
      exact q
    · rw [decide_eq_false (fun z => absurd z.1 ‹_›)] at q
      exact q
theorem f_Space_take (T : Tx K mg) : Mt P w K mg base 2 "Space" "take" ["self", "many"] (sp_Space_take K) := by
  have c_is_whole := f_is_whole (P := P) (w := w) (base := base) T
  have c_Space_room := f_Space_room (P := P) (w := w) (base := base) T
  refine T.mkMt 27 92 87 (d := d_Space_take) (N := ["self", "many", "at"]) (k := 1) rfl rfl rfl rfl rfl rfl sc_Space_take (fun _ _ _ _ _ _ us hl => match us, hl with | [_, _], _ => rfl) (fun vs H Q E h => ?len) (fun cdv A outer s H vs Q E hr h => ⟨_,
      (pss_cons (ps_if (PW.pt (pw_or (pt_not (pt_val (pe_fn (takes_of rfl rfl rfl rfl) c_is_whole (hr.mono (by decide)) (by rfl) (pa_cons (pv 1) pa_nil)))) (pw_or1 (pt_cmpR op_lt (pv 1) pe_int (nomark _))))) (pss_one (ps_raiseK (K := K) rfl rfl (takes_of rfl rfl rfl rfl) (T.says.fact 67 rfl) (T.glo 3) (by rfl))) pss_nil)
        (pss_cons (ps_if (pt_cmpR op_gt (pv 1) (pe_mt0 (K := K) rfl (takes_of rfl rfl rfl rfl) (pv 0) c_Space_room (hr.mono (by decide))) (nomark _)) (pss_one (ps_raiseK (K := K) rfl rfl (takes_of rfl rfl rfl rfl) (T.says.fact 69 rfl) (T.glo 5) (by rfl))) pss_nil)
        (pss_cons (ps_set (i := 2) sc_Space_take.nd rfl (Or.inl rfl) (pe_fldC (T.cls 87) (T.noat 98) (pv 0)))
        (pss_cons (ps_fldC (T.cls 87) (T.noat 98) (pv 0) (pe_op op_gAdd (pv 2) (pv 1)))
        (pss_one (ps_ret (pv 2))))))), ?rd⟩)
  case len => obtain ⟨s, dx, b, e, t, v, rfl, _⟩ := h; rfl
  case rd =>
    obtain ⟨s, dx, b, e, t, v, rfl, S, th, h⟩ := h
    walk_at "w2"
    rcases th with ⟨n, rfl⟩ | o
    · walk_at "w2"
      rw [takeW_int] at h
      split
      · rw [if_pos ‹_›] at h
        exact h
      · rw [if_neg ‹_›] at h
        refine ⟨recv S, s, dx, b, e, t, rfl, S, ?_⟩
        walk_at "w2"
        split
        · rw [if_pos ‹_›] at h
          exact h
        · rw [if_neg ‹_›] at h
          obtain ⟨j, rfl⟩ := Int.eq_ofNat_of_zero_le (show 0 ≤ n by omega)
          rw [Int.toNat_natCast] at h
          refine ⟨_, fldIs S, ?_⟩
          walk_at "w2"
          refine ⟨s, dx, _, rfl, S, by show 3 < 1000; decide, ?_⟩
          rw [pf_Space_top]
          exact h
    · rw [odd_whole o]
      rw [takeW_odd o] at h
      walk_at "w2"
      exact h
end

local macro_rules | `(tactic| walk_at "w2") => `(tactic| try simp only [↓x_var0, ↓x_varS, ↓x_c, ↓x_op, ↓x_un, ↓x_cb, ↓x_nil, ↓x_cons, ↓x_test, ↓x_b, ↓x_ex, ↓x_and, ↓x_or, ↓x_not, ↓x_andV, ↓x_orV, ↓x_notV, ↓x_tif, ↓x_chain, ↓x_menu, ↓x_menuI, ↓x_lst, ↓x_tup, ↓x_dnew, ↓x_callW, ↓x_callN, ↓x_seq, ↓x_next, ↓x_ret, ↓x_retN, ↓x_drop, ↓x_ifS, ↓x_asg, ↓x_name, ↓x_raise, ↓x_fld, ↓x_setF, ↓x_meth, ↓x_make, ↓x_sub, ↓r_min, ↓r_max, ↓x_yes, ↓x_for, ↓x_lock, ↓x_keys, ↓x_cut, ↓x_lc, ↓x_rng1, ↓x_rng2, ↓x_lst1, ↓x_itup, ↓x_rng3, ↓x_three, ↓x_lstg, ↓x_tupg, ↓x_adrS, ↓x_one, ↓x_two, ↓x_adr, ↓x_sl, ↓x_np, ↓x_pt, ↓x_int, ↓x_bm, ↓x_bm0, ↓x_consg, ↓x_nilg, ↓x_dget2, ↓x_dget1, ↓x_dget, ↓x_din, ↓x_dni, ↓x_dput, ↓x_dpop2, ↓r_isB, ↓r_notB, ↓x_enum, ↓x_zip, wipe, List.map_cons, List.map_nil, ↓x_isT, ↓r_isiII, ↓r_isiBB, ↓r_isiIB, ↓r_isiSS, ↓r_neNS, ↓r_neSN, ↓r_neNN, ↓r_eqNS, ↓r_eqSN, ↓r_eqNN, ↓r_eqIS, ↓r_neIS, ↓r_neSI, ↓r_neBS, ↓r_eqBB, ↓r_neBB, ↓x_start, ↓x_K, ↓x_start0, ↓r_i0, ↓r_i, ↓r_u, ↓r_addI, ↓r_addS, ↓r_mulI, ↓r_mulS, ↓r_eqI, ↓r_neI, ↓r_eqS, ↓r_neS, ↓r_absI, ↓r_intI, ↓r_intB, List.length_cons, List.length_nil, List.replicate, List.set_cons_zero, List.set_cons_succ, decide_eq_true_eq, Bool.not_eq_true', decide_eq_false_iff_not, if_true, if_false, Bool.false_eq_true, Bool.true_eq_false, ite_true, ite_false, Bool.not_true, Bool.not_false, c_div, n_ten, c_pow, not_true_eq_false, not_false_eq_true, decide_true, decide_false, true_and, and_true, and_self, true_or, or_true, Int.reduceLT, Int.reduceLE, Int.reduceMul, Int.reduceAdd, Int.reduceSub, Int.reducePow, Int.reduceNeg, Int.reduceDiv, Int.reduceMod, Nat.reducePow, Int.reduceToNat, Int.reduceEq, Int.reduceNe, Nat.reduceLT, Nat.reduceLeDiff, Nat.reduceAdd, ↓x_whole, ↓x_kind])
/-! ## areas -/
/-- where the parts stand; what they hold: fl: the second half is young -/
structure ArA where
  (a dx m mx l o ox p px q qx : Addr)
structure ArS where
  (ws : List Int) (n k ot t1 t2 : Nat) (fl : Bool)
def ArA.y (A : ArA) (f : Bool) : Addr := if f then A.q else A.p
structure ArO (K : PySem.W.Frag) (H : Hp) (A : ArA) (S : ArS) : Prop where
  ob : H A.a = some (.ins (He.ga K "Areas") A.dx (F_Areas (.ref A.m) (.ref A.o) (.ref (A.y S.fl)) (.ref (A.y !S.fl))))
  me : MemO K H A.m A.mx A.l S.ws
  vw : Vw S.ws
  ln : S.ws.length = S.n + 2 * S.k
  so : SpO K H A.o A.ox 0 S.n S.ot
  sp : SpO K H A.p A.px S.n (S.n + S.k) S.t1
  sq : SpO K H A.q A.qx (S.n + S.k) (S.n + 2 * S.k) S.t2
  nop : A.o ≠ A.p
  noq : A.o ≠ A.q
  npq : A.p ≠ A.q
  lo : S.ot ≤ S.n
  l1 : S.n ≤ S.t1 ∧ S.t1 ≤ S.n + S.k
  l2 : S.n + S.k ≤ S.t2 ∧ S.t2 ≤ S.n + 2 * S.k
  gn : 4 ≤ S.n ∧ S.n ≤ 2000
  gk : 2 ≤ S.k ∧ S.k ≤ 500
theorem ArO.off {K H A S} (h : ArO K H A S) {c : Addr} {o : HO} (n : A.l ≠ c) (nc : ∀ C d fs, H c ≠ some (.ins C d fs)) : ArO K (upd H c o) A S := by
  have f : ∀ {b C d fs}, H b = some (.ins C d fs) → upd H c o b = some (.ins C d fs) := fun {b C d fs} g => (upd_ne (fun e => nc C d fs (by rw [← e]; exact g))).trans g
  exact { h with ob := f h.ob, me := ⟨f h.me.ob, (upd_ne n).trans h.me.ls, h.me.sz⟩, so := f h.so, sp := f h.sp, sq := f h.sq }
def ArA.mem (A : ArA) (c : Addr) : Prop := c = A.a ∨ c = A.l ∨ c = A.o ∨ c = A.p ∨ c = A.q
theorem ArO.same {K H H' A S} (h : ArO K H A S) (s : Same H H') : ArO K H' A S := { h with ob := s _ _ h.ob, me := h.me.same s, so := s _ _ h.so, sp := s _ _ h.sp, sq := s _ _ h.sq }
/-- begin, end, top of a half -/
def ArS.b (S : ArS) (f : Bool) : Nat := if f then S.n + S.k else S.n
def ArS.t (S : ArS) (f : Bool) : Nat := if f then S.t2 else S.t1
def ArS.put (S : ArS) (f : Bool) (t : Nat) : ArS := if f then { S with t2 := t } else { S with t1 := t }
def ArA.yx (A : ArA) (f : Bool) : Addr := if f then A.qx else A.px
theorem ArO.half {K H A S} (h : ArO K H A S) (f : Bool) : SpO K H (A.y f) (A.yx f) (S.b f) (S.b f + S.k) (S.t f) := by
  cases f
  · exact h.sp
  · have e : S.n + 2 * S.k = S.n + S.k + S.k := by omega
    have := h.sq
    rw [e] at this
    exact this
theorem ArO.lt {K H A S} (h : ArO K H A S) (f : Bool) : S.b f ≤ S.t f ∧ S.t f ≤ S.b f + S.k := by
  have := h.l1
  have := h.l2
  cases f
  · exact h.l1
  · show S.n + S.k ≤ S.t2 ∧ S.t2 ≤ S.n + S.k + S.k
    omega
theorem spv_ne {K dx b e t C d fs} (hc : C ≠ He.ga K "Space") : SpV K dx b e t ≠ .ins C d fs := fun z => by
  cases z
  exact hc rfl
theorem F_len_Areas {v0 v1 v2 v3 : V} : (F_Areas v0 v1 v2 v3).length = 4 := rfl
theorem ArO.na {K H A S} (h : ArO K H A S) {c cx : Addr} {b e t : Nat} (s : SpO K H c cx b e t) : A.a ≠ c ∧ A.m ≠ c ∧ A.l ≠ c :=
  ⟨ne_of h.ob s fun z => spv_fs (by rw [F_len_Areas]; decide) z.symm, ne_of h.me.ob s fun z => spv_fs (by rw [F_len_Memory]; decide) z.symm, ne_of h.me.ls s fun z => spv_lst z.symm⟩
theorem ArO.mput {K H A S} (h : ArO K H A S) {c cx : Addr} {b e t : Nat} {o : HO} (s : SpO K H c cx b e t) : MemO K (upd H c o) A.m A.mx A.l S.ws := by
  obtain ⟨-, n2, n3⟩ := h.na s
  exact ⟨by rw [upd_ne n2]; exact h.me.ob, by rw [upd_ne n3]; exact h.me.ls, h.me.sz⟩
theorem ArO.topOld {K H A S} (h : ArO K H A S) {t : Nat} (ht : t ≤ S.n) : ArO K (upd H A.o (SpV K A.ox 0 S.n t)) A { S with ot := t } :=
  { h with ob := by rw [upd_ne (h.na h.so).1]; exact h.ob, me := h.mput h.so, so := upd_same, sp := (upd_ne h.nop.symm).trans h.sp, sq := (upd_ne h.noq.symm).trans h.sq, lo := ht }
theorem ArO.topHalf {K H A S} (h : ArO K H A S) {f : Bool} {t : Nat} (h0 : S.b f ≤ t) (h1 : t ≤ S.b f + S.k) : ArO K (upd H (A.y f) (SpV K (A.yx f) (S.b f) (S.b f + S.k) t)) A (S.put f t) := by
  cases f
  · exact { h with ob := by rw [show A.y false = A.p from rfl, upd_ne (h.na h.sp).1]; exact h.ob, me := h.mput h.sp, so := (upd_ne h.nop).trans h.so, sp := upd_same, sq := (upd_ne h.npq.symm).trans h.sq, l1 := ⟨h0, h1⟩ }
  · have e : S.n + S.k + S.k = S.n + 2 * S.k := by omega
    have h0 : S.n + S.k ≤ t := h0
    have h1 : t ≤ S.n + S.k + S.k := h1
    exact { h with ob := by rw [show A.y true = A.q from rfl, upd_ne (h.na h.sq).1]; exact h.ob, me := h.mput h.sq, so := (upd_ne h.noq).trans h.so, sp := (upd_ne h.npq).trans h.sp, sq := by show SpO K _ A.q A.qx (S.n + S.k) (S.n + 2 * S.k) t; rw [← e]; exact upd_same, l2 := ⟨h0, by show t ≤ S.n + 2 * S.k; omega⟩ }
/-- the memory's words change -/
theorem ArO.words {K H H' A S} (h : ArO K H A S) {ws : List Int} (M : MemO K H' A.m A.mx A.l ws) (k : ∀ b o, b ≠ A.l → H b = some o → H' b = some o) (vw : Vw ws) (e : ws.length = S.ws.length) : ArO K H' A { S with ws := ws } :=
  { h with ob := k _ _ (ne_of h.ob h.me.ls (by intro z; cases z)) h.ob, me := M, vw := vw, ln := e.trans h.ln, so := k _ _ (h.na h.so).2.2.symm h.so, sp := k _ _ (h.na h.sp).2.2.symm h.sp, sq := k _ _ (h.na h.sq).2.2.symm h.sq }
theorem ArO.flip {K H A S} (h : ArO K H A S) : ArO K (upd H A.a (.ins (He.ga K "Areas") A.dx (F_Areas (.ref A.m) (.ref A.o) (.ref (A.y !S.fl)) (.ref (A.y S.fl))))) A { S with fl := !S.fl } := by
  have n : ∀ {c cx b e t}, SpO K H c cx b e t → c ≠ A.a := fun s => (h.na s).1.symm
  have nm : A.m ≠ A.a := ne_of h.me.ob h.ob fun z => by
    have e := congrArg List.length (HO.ins.inj z).2.2
    rw [F_len_Areas, F_len_Memory] at e
    cases e
  have nl : A.l ≠ A.a := ne_of h.me.ls h.ob (by intro z; cases z)
  exact { h with ob := by rw [upd_same]; simp, me := ⟨(upd_ne nm).trans h.me.ob, (upd_ne nl).trans h.me.ls, h.me.sz⟩, so := (upd_ne (n h.so)).trans h.so, sp := (upd_ne (n h.sp)).trans h.sp, sq := (upd_ne (n h.sq)).trans h.sq }
theorem ArO.put {K H A S} (h : ArO K H A S) {c : Addr} {xs : List V} {o : HO} (e : H c = some (.lst xs)) (n : A.l ≠ c) : ArO K (upd H c o) A S := by
  have f : ∀ {b o' C d fs}, H b = some o' → o' = .ins C d fs → upd H c o b = some o' := fun g g2 => (upd_ne (ne_of g e (by rw [g2]; intro z; cases z))).trans g
  exact { h with ob := f h.ob rfl, me := ⟨f h.me.ob rfl, (upd_ne n).trans h.me.ls, h.me.sz⟩, so := f h.so rfl, sp := f h.sp rfl, sq := f h.sq rfl }
/-- words of a cell that was laid -/
theorem layT_slot {ws : List Int} {i s t u : Nat} (hu : u < t) (hi : i + t < ws.length) : (layT ws i s t).getD (i + 1 + u) 0 = -1 := by
  induction t with
  | zero => omega
  | succ t ih =>
    rw [layT_succ, List.getD_eq_getElem?_getD]
    by_cases c : u = t
    · subst c
      rw [List.getElem?_set_self (by rw [layT_len]; omega)]
      rfl
    · rw [List.getElem?_set_ne (by omega), ← List.getD_eq_getElem?_getD, ih (by omega) (by omega)]
theorem kids_none {ws : List Int} {i : Nat} : ∀ {t : Nat}, (∀ u, u < t → ws.getD (i + 1 + u) 0 = -1) → kidsT ws i t = []
  | 0, _ => rfl
  | t + 1, h => by
    rw [kidsT_succ, kids_none (t := t) fun u hu => h u (by omega), h t (by omega)]
    rfl
def oldV : V → Option Nat
  | .int n => if 4 ≤ n ∧ n ≤ 2000 then some n.toNat else none
  | _ => none
def youngV : V → Option Nat
  | .int n => if 2 ≤ n ∧ n ≤ 500 then some n.toNat else none
  | _ => none
theorem oldV_int {n : Int} : oldV (.int n) = if 4 ≤ n ∧ n ≤ 2000 then some n.toNat else none := rfl
theorem youngV_int {n : Int} : youngV (.int n) = if 2 ≤ n ∧ n ≤ 500 then some n.toNat else none := rfl
theorem oldV_odd {H : Hp} {v : V} (h : Odd H v) : oldV v = none := by
  cases v with
  | int i => exact (odd_not h).elim
  | _ => rfl
theorem youngV_odd {H : Hp} {v : V} (h : Odd H v) : youngV v = none := by
  cases v with
  | int i => exact (odd_not h).elim
  | _ => rfl
/-- areas as they are made -/
def arS (n k : Nat) : ArS := ⟨List.replicate (n + 2 * k) (-1), n, k, 0, n, n + k, false⟩
def areaW (S : ArS) (n : Int) : V := if 0 ≤ n ∧ n < S.ot then .str "old" else if (S.b S.fl : Int) ≤ n ∧ n < S.t S.fl then .str "young" else .non
theorem areaW_is {S : ArS} {n : Int} : areaW S n = .str "old" ∨ areaW S n = .str "young" ∨ areaW S n = .non := by
  unfold areaW
  split
  · exact .inl rfl
  · split
    · exact .inr (.inl rfl)
    · exact .inr (.inr rfl)
def sp_Areas___init__ (K : PySem.W.Frag) : Sp := fun vs H Q E => ∃ a dx v z, vs = [.ref a, v, z] ∧ H a = some (.ins (He.ga K "Areas") dx []) ∧ Thing H v ∧ Thing H z ∧ match oldV v with
  | none => E (Ex K "BadCount") none H
  | some n => match youngV z with
    | none => E (Ex K "BadCount") none H
    | some k => ∀ A H', A.a = a → ArO K H' A (arS n k) → H A.l = none → H A.o = none → H A.p = none → H A.q = none → H A.m = none → (∀ b o, b ≠ a → H b = some o → H' b = some o) → Q .non H'
def sp_Areas_flip (K : PySem.W.Frag) : Sp := fun vs H Q _ => ∃ A S, vs = [.ref A.a] ∧ ArO K H A S ∧ ∀ H', ArO K H' A { S with fl := !S.fl } → (∀ b o, b ≠ A.a → H b = some o → H' b = some o) → Q .non H'
def sp_Areas_area_of (K : PySem.W.Frag) : Sp := fun vs H Q _ => ∃ A S n, vs = [.ref A.a, .int n] ∧ ArO K H A S ∧ Q (areaW S n) H
def endA (S : ArS) (old : Bool) : Nat := if old then S.n else S.b S.fl + S.k
def topA (S : ArS) (old : Bool) : Nat := if old then S.ot else S.t S.fl
def laidW (S : ArS) (old : Bool) (v : V) : Tk := match slotsW v with
  | none => .count
  | some s => if s + 1 ≤ endA S old - topA S old then .ok s else .room
/-- behind a cell that was laid -/
def laidY (S : ArS) (s : Nat) : ArS := { S.put S.fl (S.t S.fl + (s + 1)) with ws := layT S.ws (S.t S.fl) s s }
def laidS (S : ArS) (old : Bool) (s : Nat) : ArS := if old then { S with ot := S.ot + (s + 1), ws := (layT S.ws S.ot s s).set S.ot (2 * ((4 * s + 2 : Nat) : Int)) } else { S.put S.fl (S.t S.fl + (s + 1)) with ws := layT S.ws (S.t S.fl) s s }
def laidO (S : ArS) (s : Nat) : ArS := { S with ot := S.ot + (s + 1), ws := (layT S.ws S.ot s s).set S.ot (2 * ((4 * s + 2 : Nat) : Int)) }
def sp_Areas_lay_young (K : PySem.W.Frag) : Sp := fun vs H Q E => ∃ A S v, vs = [.ref A.a, v] ∧ ArO K H A S ∧ Thing H v ∧ match laidW S false v with
  | .count => E (Ex K "BadCount") none H
  | .room => E (Ex K "NoRoom") none H
  | .ok s => ∀ H', ArO K H' A (laidY S s) → (∀ b o, b ≠ A.l → b ≠ A.y S.fl → H b = some o → H' b = some o) → Q (.int (S.t S.fl)) H'
def sp_Areas_lay_old (K : PySem.W.Frag) : Sp := fun vs H Q E => ∃ A S v, vs = [.ref A.a, v] ∧ ArO K H A S ∧ Thing H v ∧ match laidW S true v with
  | .count => E (Ex K "BadCount") none H
  | .room => E (Ex K "NoRoom") none H
  | .ok s => ∀ H', ArO K H' A (laidO S s) → (∀ b o, b ≠ A.l → b ≠ A.o → H b = some o → H' b = some o) → Q (.int S.ot) H'
theorem laidS_head {S : ArS} {old : Bool} {s : Nat} (h : s ≤ 8) (hl : topA S old + s < S.ws.length) : headAt ((laidS S old s).ws.getD (topA S old) 0) = some (4 * s + if old then 2 else 0) := by
  cases old
  · show headAt ((layT S.ws (S.t S.fl) s s).getD (S.t S.fl) 0) = _
    have hl : S.t S.fl + s < S.ws.length := hl
    rw [layT_at (by omega), head_8 h]
    rfl
  · show headAt (((layT S.ws S.ot s s).set S.ot _).getD S.ot 0) = _
    have hl : S.ot + s < S.ws.length := hl
    rw [List.getD_eq_getElem?_getD, List.getElem?_set_self (by rw [layT_len]; omega)]
    show headAt (2 * ((4 * s + 2 : Nat) : Int)) = some (4 * s + 2)
    unfold headAt
    rw [word_num (by omega)]
    dsimp only
    rw [if_pos (by omega), Int.toNat_natCast]
theorem laidS_slot {S : ArS} {old : Bool} {s u : Nat} (hu : u < s) (hl : topA S old + s < S.ws.length) : (laidS S old s).ws.getD (topA S old + 1 + u) 0 = -1 := by
  cases old
  · exact layT_slot hu hl
  · show ((layT S.ws S.ot s s).set S.ot _).getD (S.ot + 1 + u) 0 = _
    rw [List.getD_eq_getElem?_getD, List.getElem?_set_ne (by omega), ← List.getD_eq_getElem?_getD]
    exact layT_slot hu hl
theorem laidS_len {S : ArS} {old : Bool} {s : Nat} : (laidS S old s).ws.length = S.ws.length := by
  cases old
  · exact layT_len
  · show ((layT S.ws S.ot s s).set S.ot _).length = _
    rw [List.length_set, layT_len]
section
variable {P : Program} {w : World} {K : PySem.W.Frag} {mg : Str → Option Value} {base : Heap}
theorem f_Areas___init__ (T : Tx K mg) : Mi P w K mg base 4 "Areas" ["self", "old_words", "young_words"] (sp_Areas___init__ K) := by
  have c_is_whole := f_is_whole (P := P) (w := w) (base := base) T
  have c_Memory___init__ := f_Memory___init__ (P := P) (w := w) (base := base) T
  have c_Space___init__ := f_Space___init__ (P := P) (w := w) (base := base) T
  refine T.mkMi 31 100 16 (d := d_Areas___init__) (N := ["self", "old_words", "young_words"]) (k := 3) rfl rfl rfl rfl rfl rfl sc_Areas___init__ (fun _ _ _ _ _ _ us hl => match us, hl with | [_, _, _], _ => rfl) (fun vs H Q E h => ?len) (fun cdv A outer s H vs Q E hr h => ⟨_,
      (pss_cons (ps_if (PW.pt (pw_or (pt_not (pt_val (pe_fn (takes_of rfl rfl rfl rfl) c_is_whole (hr.mono (by decide)) (by rfl) (pa_cons (pv 1) pa_nil)))) (pw_or1 (pt_not (pt_chain op_le op_le (pe_num (T.num 52) (by rfl)) (pv 1) (pe_num (T.num 53) (by rfl))))))) (pss_one (ps_raiseK (K := K) rfl rfl (takes_of rfl rfl rfl rfl) (T.says.fact 67 rfl) (T.glo 3) (by rfl))) pss_nil)
        (pss_cons (ps_if (PW.pt (pw_or (pt_not (pt_val (pe_fn (takes_of rfl rfl rfl rfl) c_is_whole (hr.mono (by decide)) (by rfl) (pa_cons (pv 2) pa_nil)))) (pw_or1 (pt_not (pt_chain op_le op_le (pe_num (T.num 54) (by rfl)) (pv 2) (pe_num (T.num 55) (by rfl))))))) (pss_one (ps_raiseK (K := K) rfl rfl (takes_of rfl rfl rfl rfl) (T.says.fact 67 rfl) (T.glo 3) (by rfl))) pss_nil)
        (pss_cons (ps_fldC (T.cls 99) (T.noat 105) (pv 0) (pe_mk (K := K) rfl (takes_of rfl rfl rfl rfl) c_Memory___init__ (hr.mono (by decide)) (by rfl) (pa_cons (pe_op op_gAdd (pv 1) (pe_op op_gMul pe_int (pv 2))) pa_nil)))
        (pss_cons (ps_fldC (T.cls 99) (T.noat 106) (pv 0) (pe_mk (K := K) rfl (takes_of rfl rfl rfl rfl) c_Space___init__ (hr.mono (by decide)) (by rfl) (pa_cons pe_int (pa_cons (pv 1) pa_nil))))
        (pss_cons (ps_fldC (T.cls 99) (T.noat 107) (pv 0) (pe_mk (K := K) rfl (takes_of rfl rfl rfl rfl) c_Space___init__ (hr.mono (by decide)) (by rfl) (pa_cons (pv 1) (pa_cons (pe_op op_gAdd (pv 1) (pv 2)) pa_nil))))
        (pss_one (ps_fldC (T.cls 99) (T.noat 108) (pv 0) (pe_mk (K := K) rfl (takes_of rfl rfl rfl rfl) c_Space___init__ (hr.mono (by decide)) (by rfl) (pa_cons (pe_op op_gAdd (pv 1) (pv 2)) (pa_cons (pe_op op_gAdd (pv 1) (pe_op op_gMul pe_int (pv 2))) pa_nil)))))))))), ?rd⟩)
  case len => first | exact len_Areas___init__ h | (repeat (first | (obtain ⟨rfl, _⟩ := h; rfl; done) | obtain ⟨_, h⟩ := h))
  case rd =>
    obtain ⟨a, dx, v, z, rfl, HA, tv, tz, h⟩ := h
    walk_at "w2"
    rcases tv with ⟨n, rfl⟩ | o
    · walk_at "w2"
      rw [oldV_int] at h
      split
      · split
        · rw [if_neg (by omega)] at h
          exact h
        · rw [if_pos (by omega)] at h
          dsimp only at h
          rcases tz with ⟨k, rfl⟩ | o
          · walk_at "w2"
            rw [youngV_int] at h
            split
            · split
              · rw [if_neg (by omega)] at h
                exact h
              · rw [if_pos (by omega)] at h
                obtain ⟨n, rfl⟩ := Int.eq_ofNat_of_zero_le (show 0 ≤ n by omega)
                obtain ⟨k, rfl⟩ := Int.eq_ofNat_of_zero_le (show 0 ≤ k by omega)
                rw [Int.toNat_natCast, Int.toNat_natCast] at h
                simp only [show (n : Int) + 2 * (k : Int) = ((n + 2 * k : Nat) : Int) from by omega, show (n : Int) + (k : Int) = ((n + k : Nat) : Int) from by omega]
                intro m mx nm nmx nem
                refine ⟨m, mx, _, rfl, upd_same, .inl ⟨_, rfl⟩, ?_⟩
                rw [sizeV_int, if_pos ⟨by omega, by omega⟩, Int.toNat_natCast]
                intro l H2 nl M1 k1
                have s1 := same_init nm nmx nem k1
                have ma : m ≠ a := (ne_of_none HA nm).symm
                have la : l ≠ a := ne_of M1.ls (s1 _ _ HA) (by intro z; cases z)
                refine ⟨rfl, a, dx, _, rfl, s1 _ _ HA, by decide, ?_⟩
                rw [pi_Areas_memory]
                have k3 : ∀ {o : HO} {c x}, c ≠ a → H2 c = some x → upd H2 a o c = some x := fun h g => by rw [upd_ne h]; exact g
                have a3 : upd H2 a (.ins (He.ga K "Areas") dx [(("memory" : Str), V.ref m)]) a = some (.ins (He.ga K "Areas") dx [(("memory" : Str), V.ref m)]) := upd_same
                have k3 := @k3 (.ins (He.ga K "Areas") dx [(("memory" : Str), V.ref m)])
                generalize upd H2 a (.ins (He.ga K "Areas") dx [(("memory" : Str), V.ref m)]) = H3 at a3 k3 ⊢
                intro o ox no nox noe
                have s4 := same_mk2 (o1 := .ins (He.ga K "Space") ox []) (o2 := SpV K ox 0 n 0) no nox
                have so : upd (upd (upd H3 ox (.own o)) o (.ins (He.ga K "Space") ox [])) o (SpV K ox 0 n 0) o = some (SpV K ox 0 n 0) := upd_same
                have oa : o ≠ a := (ne_of_none a3 no).symm
                refine ⟨o, ox, 0, n, rfl, upd_same, rfl, a, dx, _, rfl, s4 _ _ a3, by show 1 < 1000; decide, ?_⟩
                generalize upd (upd (upd H3 ox (.own o)) o (.ins (He.ga K "Space") ox [])) o (SpV K ox 0 n 0) = H4 at s4 so ⊢
                rw [pi_Areas_old]
                have k5 : ∀ {c x}, c ≠ a → H4 c = some x → upd H4 a (.ins (He.ga K "Areas") dx [(("memory" : Str), V.ref m), ("old", V.ref o)]) c = some x := fun h g => by rw [upd_ne h]; exact g
                have a5 : upd H4 a (.ins (He.ga K "Areas") dx [(("memory" : Str), V.ref m), ("old", V.ref o)]) a = some (.ins (He.ga K "Areas") dx [(("memory" : Str), V.ref m), ("old", V.ref o)]) := upd_same
                generalize upd H4 a (.ins (He.ga K "Areas") dx [(("memory" : Str), V.ref m), ("old", V.ref o)]) = H5 at k5 a5 ⊢
                intro p px np npx npe
                have s6 := same_mk2 (o1 := .ins (He.ga K "Space") px []) (o2 := SpV K px n (n + k) n) np npx
                have sp : upd (upd (upd H5 px (.own p)) p (.ins (He.ga K "Space") px [])) p (SpV K px n (n + k) n) p = some (SpV K px n (n + k) n) := upd_same
                have pa : p ≠ a := (ne_of_none a5 np).symm
                refine ⟨p, px, n, n + k, rfl, upd_same, rfl, ?_⟩
                first | refine ⟨.inl ⟨by decide, by decide⟩, ?_⟩ | skip
                refine ⟨a, dx, _, rfl, s6 _ _ a5, by show 2 < 1000; decide, ?_⟩
                generalize upd (upd (upd H5 px (.own p)) p (.ins (He.ga K "Space") px [])) p (SpV K px n (n + k) n) = H6 at s6 sp ⊢
                rw [pi_Areas_young]
                have k7 : ∀ {c x}, c ≠ a → H6 c = some x → upd H6 a (.ins (He.ga K "Areas") dx [(("memory" : Str), V.ref m), ("old", V.ref o), ("young", V.ref p)]) c = some x := fun h g => by rw [upd_ne h]; exact g
                have a7 : upd H6 a (.ins (He.ga K "Areas") dx [(("memory" : Str), V.ref m), ("old", V.ref o), ("young", V.ref p)]) a = some (.ins (He.ga K "Areas") dx [(("memory" : Str), V.ref m), ("old", V.ref o), ("young", V.ref p)]) := upd_same
                generalize upd H6 a (.ins (He.ga K "Areas") dx [(("memory" : Str), V.ref m), ("old", V.ref o), ("young", V.ref p)]) = H7 at k7 a7 ⊢
                walk_at "w2"
                first | refine ⟨.inl ⟨by decide, by decide⟩, ?_⟩ | skip
                intro q qx nq nqx nqe
                have s8 := same_mk2 (o1 := .ins (He.ga K "Space") qx []) (o2 := SpV K qx (n + k) (n + 2 * k) (n + k)) nq nqx
                have sq : upd (upd (upd H7 qx (.own q)) q (.ins (He.ga K "Space") qx [])) q (SpV K qx (n + k) (n + 2 * k) (n + k)) q = some (SpV K qx (n + k) (n + 2 * k) (n + k)) := upd_same
                have qa : q ≠ a := (ne_of_none a7 nq).symm
                refine ⟨q, qx, n + k, n + 2 * k, rfl, upd_same, rfl, a, dx, _, rfl, s8 _ _ a7, by show 3 < 1000; decide, ?_⟩
                generalize upd (upd (upd H7 qx (.own q)) q (.ins (He.ga K "Space") qx [])) q (SpV K qx (n + k) (n + 2 * k) (n + k)) = H8 at s8 sq ⊢
                rw [pi_Areas_spare]
                have k9 : ∀ {c x}, c ≠ a → H8 c = some x → upd H8 a (.ins (He.ga K "Areas") dx (F_Areas (.ref m) (.ref o) (.ref p) (.ref q))) c = some x := fun h g => by rw [upd_ne h]; exact g
                have k69 : ∀ {c x}, c ≠ a → H6 c = some x → upd H8 a (.ins (He.ga K "Areas") dx (F_Areas (.ref m) (.ref o) (.ref p) (.ref q))) c = some x := fun h g => k9 h (s8 _ _ (k7 h g))
                have k49 : ∀ {c x}, c ≠ a → H4 c = some x → upd H8 a (.ins (He.ga K "Areas") dx (F_Areas (.ref m) (.ref o) (.ref p) (.ref q))) c = some x := fun h g => k69 h (s6 _ _ (k5 h g))
                have k29 : ∀ {c x}, c ≠ a → H2 c = some x → upd H8 a (.ins (He.ga K "Areas") dx (F_Areas (.ref m) (.ref o) (.ref p) (.ref q))) c = some x := fun h g => k49 h (s4 _ _ (k3 h g))
                have nn : ∀ {Hi : Hp} {c : Addr}, (∀ {c x}, c ≠ a → H c = some x → Hi c = some x) → c ≠ a → Hi c = none → H c = none := fun {Hi c} k h g => by
                  cases e : H c with
                  | none => rfl
                  | some x =>
                    rw [k h e] at g
                    cases g
                refine h ⟨a, dx, m, mx, l, o, ox, p, px, q, qx⟩ _ rfl { ob := upd_same, me := ⟨k29 ma M1.ob, k29 la M1.ls, M1.sz⟩, vw := Vw.rep, ln := List.length_replicate, so := k49 oa so, sp := k69 pa sp, sq := k9 qa sq, nop := ?_, noq := ?_, npq := ?_, lo := Nat.zero_le _, l1 := ⟨Nat.le_refl _, Nat.le_add_right _ _⟩, l2 := ⟨Nat.le_refl _, by show n + k ≤ n + 2 * k; omega⟩, gn := ⟨by show 4 ≤ n; omega, by show n ≤ 2000; omega⟩, gk := ⟨by show 2 ≤ k; omega, by show k ≤ 500; omega⟩ } (none_of (same_mk nm nmx nem) nl) (nn (fun h g => k3 h (s1 _ _ g)) oa no) (nn (fun h g => k5 h (s4 _ _ (k3 h (s1 _ _ g)))) pa np) (nn (fun h g => k7 h (s6 _ _ (k5 h (s4 _ _ (k3 h (s1 _ _ g)))))) qa nq) nm fun c x h g => k29 h (s1 _ _ g)
                · exact ne_of_none (k5 oa so) np
                · exact ne_of_none (k7 oa (s6 _ _ (k5 oa so))) nq
                · exact ne_of_none (k7 pa sp) nq
            · rw [if_neg (by omega)] at h
              exact h
          · rw [odd_whole o]
            rw [youngV_odd o] at h
            walk_at "w2"
            exact h
      · rw [if_neg (by omega)] at h
        exact h
    · rw [odd_whole o]
      rw [oldV_odd o] at h
      walk_at "w2"
      exact h
theorem f_Areas_flip (T : Tx K mg) : Mt P w K mg base 1 "Areas" "flip" ["self"] (sp_Areas_flip K) := by
  refine T.mkMt 32 101 99 (d := d_Areas_flip) (N := ["self", "kept"]) (k := 0) rfl rfl rfl rfl rfl rfl sc_Areas_flip (fun _ _ _ _ _ _ us hl => match us, hl with | [_], _ => rfl) (fun vs H Q E h => ?len) (fun cdv A outer s H vs Q E hr h => ⟨_,
      (pss_cons (ps_set (i := 1) sc_Areas_flip.nd rfl (Or.inl rfl) (pe_fldC (T.cls 99) (T.noat 107) (pv 0)))
        (pss_cons (ps_fldC (T.cls 99) (T.noat 107) (pv 0) (pe_fldC (T.cls 99) (T.noat 108) (pv 0)))
        (pss_one (ps_fldC (T.cls 99) (T.noat 108) (pv 0) (pv 1))))), ?rd⟩)
  case len => first | exact len_Areas_flip h | (repeat (first | (obtain ⟨rfl, _⟩ := h; rfl; done) | obtain ⟨_, h⟩ := h))
  case rd =>
    obtain ⟨A, S, rfl, I, q⟩ := h
    walk_at "w2"
    refine ⟨_, fldIs I.ob, _, fldIs I.ob, A.a, A.dx, _, rfl, I.ob, by show 4 < 1000; decide, ?_⟩
    rw [pf_Areas_young]
    refine ⟨A.a, A.dx, _, rfl, upd_same, by show 4 < 1000; decide, ?_⟩
    rw [pf_Areas_spare, upd_upd]
    exact q _ I.flip fun b o h g => by rw [upd_ne h]; exact g
theorem f_Areas_lay_young (T : Tx K mg) : Mt P w K mg base 5 "Areas" "lay_young" ["self", "slots"] (sp_Areas_lay_young K) := by
  have c_need_slots := f_need_slots (P := P) (w := w) (base := base) T
  have c_Space_take := f_Space_take (P := P) (w := w) (base := base) T
  have c_lay := f_lay (P := P) (w := w) (base := base) T
  refine T.mkMt 34 103 99 (d := d_Areas_lay_young) (N := ["self", "slots", "at"]) (k := 4) rfl rfl rfl rfl rfl rfl sc_Areas_lay_young (fun _ _ _ _ _ _ us hl => match us, hl with | [_, _], _ => rfl) (fun vs H Q E h => ?len) (fun cdv A outer s H vs Q E hr h => ⟨_,
      (pss_cons (ps_expr (pe_fn (takes_of rfl rfl rfl rfl) c_need_slots (hr.mono (by decide)) (by rfl) (pa_cons (pv 1) pa_nil)))
        (pss_cons (ps_set (i := 2) sc_Areas_lay_young.nd rfl (Or.inl rfl) (pe_mt (K := K) rfl (takes_of rfl rfl rfl rfl) (pe_fldC (T.cls 99) (T.noat 107) (pv 0)) c_Space_take (hr.mono (by decide)) (pa_cons (pe_op op_gAdd (pv 1) pe_int) pa_nil)))
        (pss_cons (ps_expr (pe_fn (takes_of rfl rfl rfl rfl) c_lay (hr.mono (by decide)) (by rfl) (pa_cons (pe_fldC (T.cls 99) (T.noat 105) (pv 0)) (pa_cons (pv 2) (pa_cons (pv 1) pa_nil)))))
        (pss_one (ps_ret (pv 2)))))), ?rd⟩)
  case len => first | exact len_Areas_lay_young h | (repeat (first | (obtain ⟨rfl, _⟩ := h; rfl; done) | obtain ⟨_, h⟩ := h))
  case rd =>
    obtain ⟨A, S, v, rfl, I, th, h⟩ := h
    have hf := I.half S.fl
    have hl := I.lt S.fl
    walk_at "w2"
    refine ⟨v, rfl, th, ?_⟩
    unfold laidW at h
    cases es : slotsW v with
    | none =>
      rw [es] at h
      exact h
    | some s =>
      rw [es] at h
      obtain ⟨rfl, s8⟩ := slotsW_some es
      dsimp only at h ⊢
      refine ⟨_, fldIs I.ob, recv hf, _, _, _, _, _, _, rfl, hf, .inl ⟨_, rfl⟩, ?_⟩
      rw [takeW_int, if_neg (by omega)]
      by_cases c' : s + 1 ≤ endA S false - topA S false
      · have c : s + 1 ≤ S.b S.fl + S.k - S.t S.fl := c'
        rw [if_pos c'] at h
        have et : ((s : Int) + 1).toNat = s + 1 := by omega
        rw [if_neg (by omega), et]
        have I2 := I.topHalf (f := S.fl) (t := S.t S.fl + (s + 1)) (by omega) (by omega)
        dsimp only
        refine ⟨_, fldIs I2.ob, A.m, A.mx, A.l, _, _, _, rfl, I2.me, .inl ⟨_, rfl⟩, .inl ⟨_, rfl⟩, ?_⟩
        have ew : (S.put S.fl (S.t S.fl + (s + 1))).ws = S.ws := by unfold ArS.put; split <;> rfl
        have hlen := I.ln
        have hb : S.b S.fl + S.k ≤ S.n + 2 * S.k := by unfold ArS.b; split <;> omega
        rw [slotsW_int, if_pos ⟨by omega, by omega⟩, Int.toNat_natCast]
        dsimp only
        rw [ew, placeOf_int, if_pos ⟨by omega, by omega⟩, Int.toNat_natCast]
        dsimp only
        intro H' M k
        refine h H' (I2.words M k (layT_vw I.vw s8) (by rw [layT_len, ew])) fun b o h1 h2 g => k b o h1 (by rw [upd_ne h2]; exact g)
      · have c : ¬ s + 1 ≤ S.b S.fl + S.k - S.t S.fl := c'
        rw [if_neg c'] at h
        rw [if_pos (by omega)]
        exact h
theorem f_Areas_lay_old (T : Tx K mg) : Mt P w K mg base 7 "Areas" "lay_old" ["self", "slots"] (sp_Areas_lay_old K) := by
  have c_need_slots := f_need_slots (P := P) (w := w) (base := base) T
  have c_Space_take := f_Space_take (P := P) (w := w) (base := base) T
  have c_lay := f_lay (P := P) (w := w) (base := base) T
  have c_aged := f_aged (P := P) (w := w) (base := base) T
  refine T.mkMt 35 104 99 (d := d_Areas_lay_old) (N := ["self", "slots", "at"]) (k := 6) rfl rfl rfl rfl rfl rfl sc_Areas_lay_old (fun _ _ _ _ _ _ us hl => match us, hl with | [_, _], _ => rfl) (fun vs H Q E h => ?len) (fun cdv A outer s H vs Q E hr h => ⟨_,
      (pss_cons (ps_expr (pe_fn (takes_of rfl rfl rfl rfl) c_need_slots (hr.mono (by decide)) (by rfl) (pa_cons (pv 1) pa_nil)))
        (pss_cons (ps_set (i := 2) sc_Areas_lay_old.nd rfl (Or.inl rfl) (pe_mt (K := K) rfl (takes_of rfl rfl rfl rfl) (pe_fldC (T.cls 99) (T.noat 106) (pv 0)) c_Space_take (hr.mono (by decide)) (pa_cons (pe_op op_gAdd (pv 1) pe_int) pa_nil)))
        (pss_cons (ps_expr (pe_fn (takes_of rfl rfl rfl rfl) c_lay (hr.mono (by decide)) (by rfl) (pa_cons (pe_fldC (T.cls 99) (T.noat 105) (pv 0)) (pa_cons (pv 2) (pa_cons (pv 1) pa_nil)))))
        (pss_cons (ps_expr (pe_fn (takes_of rfl rfl rfl rfl) c_aged (hr.mono (by decide)) (by rfl) (pa_cons (pe_fldC (T.cls 99) (T.noat 105) (pv 0)) (pa_cons (pv 2) (pa_cons (pe_num (T.num 50) (by rfl)) pa_nil)))))
        (pss_one (ps_ret (pv 2))))))), ?rd⟩)
  case len => first | exact len_Areas_lay_old h | (repeat (first | (obtain ⟨rfl, _⟩ := h; rfl; done) | obtain ⟨_, h⟩ := h))
  case rd =>
    obtain ⟨A, S, v, rfl, I, th, h⟩ := h
    have hl := I.lo
    walk_at "w2"
    refine ⟨v, rfl, th, ?_⟩
    unfold laidW at h
    cases es : slotsW v with
    | none =>
      rw [es] at h
      exact h
    | some s =>
      rw [es] at h
      obtain ⟨rfl, s8⟩ := slotsW_some es
      dsimp only at h ⊢
      refine ⟨_, fldIs I.ob, recv I.so, _, _, _, _, _, _, rfl, I.so, .inl ⟨_, rfl⟩, ?_⟩
      rw [takeW_int, if_neg (by omega)]
      by_cases c' : s + 1 ≤ endA S true - topA S true
      · have c : s + 1 ≤ S.n - S.ot := c'
        rw [if_pos c'] at h
        have et : ((s : Int) + 1).toNat = s + 1 := by omega
        rw [if_neg (by omega), et]
        have I2 := I.topOld (t := S.ot + (s + 1)) (by omega)
        have hlen := I.ln
        have hz := I.me.sz
        dsimp only
        refine ⟨_, fldIs I2.ob, A.m, A.mx, A.l, _, _, _, rfl, I2.me, .inl ⟨_, rfl⟩, .inl ⟨_, rfl⟩, ?_⟩
        rw [slotsW_int, if_pos ⟨by omega, by omega⟩, Int.toNat_natCast]
        dsimp only
        rw [placeOf_int, if_pos ⟨by omega, by omega⟩, Int.toNat_natCast]
        dsimp only
        intro H' M k
        have I3 := I2.words M k (layT_vw I.vw s8) layT_len
        walk_at "w2"
        refine ⟨_, fldIs I3.ob, A.m, A.mx, A.l, _, _, _, rfl, I3.me, I3.vw, .inl ⟨_, rfl⟩, .inl ⟨_, rfl⟩, ?_⟩
        have eH : headW (layT S.ws S.ot s s) (.int (S.ot : Int)) = .ok S.ot (4 * s) := by
          unfold headW
          rw [layT_len, placeOf_int, if_pos ⟨by omega, by omega⟩, Int.toNat_natCast]
          dsimp only
          rw [layT_at (by omega), head_8 s8]
        rw [eH, ageW_int, if_pos (by decide)]
        dsimp only
        have e4 : 4 * (4 * s / 4) + (2 : Int).toNat = 4 * s + 2 := by
          show 4 * (4 * s / 4) + 2 = 4 * s + 2
          omega
        rw [e4]
        have M3 := I3.me.put ((layT S.ws S.ot s s).set S.ot (2 * ((4 * s + 2 : Nat) : Int))) (List.length_set ..)
        walk_at "w2"
        refine h _ (I3.words M3 (fun b o h g => by rw [upd_ne h]; exact g) (I3.vw.set (by rw [word_num (by omega)]; rfl)) (List.length_set ..)) fun b o h1 h2 g => by rw [upd_ne h1]; exact k b o h1 (by rw [upd_ne h2]; exact g)
      · have c : ¬ s + 1 ≤ S.n - S.ot := c'
        rw [if_neg c'] at h
        rw [if_pos (by omega)]
        exact h
end

/-! ## cells of a law's own: by places, rows of words -/
structure CeL where
  (p : Nat) (r : Addr) (ws : List Int)
def kvsOf (f : Nat → Int) (C : List CeL) : List (Key × V) := C.map fun c => (.inl (f c.p), .ref c.r)
theorem kvs_none {f : Nat → Int} {C : List CeL} {n : Int} (h : ∀ c ∈ C, f c.p ≠ n) : valV (kvsOf f C) (.inl n : Key) = none := by
  induction C with
  | nil => rfl
  | cons c r ih =>
    have e2 : ¬ ((.inl (f c.p) : Key) = .inl n) := fun z => h c (List.mem_cons_self) (Sum.inl.inj z)
    exact (valV_neg (p := ((.inl (f c.p) : Key), V.ref c.r)) (r := kvsOf f r) e2).trans (ih fun c m => h c (List.mem_cons_of_mem _ m))
theorem kvs_some {f : Nat → Int} {C : List CeL} {c : CeL} (nd : C.Pairwise fun a b => f a.p ≠ f b.p) (h : c ∈ C) : valV (kvsOf f C) (.inl (f c.p) : Key) = some (.ref c.r) := by
  induction C with
  | nil => exact (List.not_mem_nil h).elim
  | cons a r ih =>
    obtain ⟨n1, n2⟩ := List.pairwise_cons.mp nd
    rcases List.mem_cons.mp h with rfl | h
    · exact valV_pos rfl
    · have e2 : ¬ ((.inl (f a.p) : Key) = .inl (f c.p)) := fun z => n1 c h (Sum.inl.inj z)
      exact (valV_neg (p := ((.inl (f a.p) : Key), V.ref a.r)) (r := kvsOf f r) e2).trans (ih n2 h)
theorem kvs_put {f : Nat → Int} {C : List CeL} {c : CeL} (h : ∀ a ∈ C, f a.p ≠ f c.p) : putK (kvsOf f C) (.inl (f c.p) : Key) (.ref c.r) = kvsOf f (C ++ [c]) := by
  unfold putK
  rw [valV_any, kvs_none h]
  show kvsOf f C ++ [(.inl (f c.p), .ref c.r)] = _
  unfold kvsOf
  rw [List.map_append]
  rfl
/-- which cells are laid, where their rows are, what they hold -/
structure CellsO (f : Nat → Int) (H : Hp) (S : ArS) (d : Addr) (C : List CeL) : Prop where
  dd : H d = some (.dK (kvsOf f C))
  rw_ : ∀ c ∈ C, H c.r = some (.lst (c.ws.map V.int))
  hd : ∀ c ∈ C, ∃ a, a ≤ 2 ∧ headAt (S.ws.getD c.p 0) = some (4 * c.ws.length + a)
  sl : ∀ c ∈ C, ∀ j, j < c.ws.length → S.ws.getD (c.p + 1 + j) 0 = c.ws.getD j 0
  ar : ∀ c ∈ C, c.p + c.ws.length < S.ot ∨ (S.b S.fl ≤ c.p ∧ c.p + c.ws.length < S.t S.fl)
  dj : C.Pairwise fun a b => a.p + a.ws.length < b.p ∨ b.p + b.ws.length < a.p
  rd : C.Pairwise fun a b => a.r ≠ b.r
theorem CellsO.same {f H H' S d C} (h : CellsO f H S d C) (s : Same H H') : CellsO f H' S d C := { h with dd := s _ _ h.dd, rw_ := fun c m => s _ _ (h.rw_ c m) }
theorem CellsO.keys {f H S d C} (h : CellsO f H S d C) (inj : ∀ a b, f a = f b → a = b) : C.Pairwise fun a b => f a.p ≠ f b.p := h.dj.imp fun {a b} q e => by
  have := inj _ _ e
  omega
/-- another heap, in which dict and rows are as they were -/
theorem CellsO.keep {f H H' S d C} (h : CellsO f H S d C) (k : ∀ b o, (b = d ∨ ∃ c ∈ C, b = c.r) → H b = some o → H' b = some o) : CellsO f H' S d C := { h with dd := k _ _ (.inl rfl) h.dd, rw_ := fun c m => k _ _ (.inr ⟨c, m, rfl⟩) (h.rw_ c m) }
theorem CellsO.lt {f H S d C} (h : CellsO f H S d C) (e : S.ws.length = S.n + 2 * S.k) (lo : S.ot ≤ S.n) (l1 : S.t S.fl ≤ S.b S.fl + S.k) : ∀ c ∈ C, c.p + c.ws.length < S.ws.length := fun c m => by
  have hb : S.b S.fl + S.k ≤ S.n + 2 * S.k := by unfold ArS.b; split <;> omega
  rcases h.ar c m with q | q <;> omega
theorem layT_high {ws : List Int} {i s t j : Nat} (h : i + t < j) : (layT ws i s t).getD j 0 = ws.getD j 0 := by
  induction t with
  | zero =>
    show (ws.set i (8 * (s : Int))).getD j 0 = _
    rw [List.getD_eq_getElem?_getD, List.getElem?_set_ne (by omega), ← List.getD_eq_getElem?_getD]
  | succ t ih =>
    rw [layT_succ, List.getD_eq_getElem?_getD, List.getElem?_set_ne (by omega), ← List.getD_eq_getElem?_getD, ih (by omega)]
theorem layT_low' {ws : List Int} {i s t j : Nat} (h : j < i) : (layT ws i s t).getD j 0 = ws.getD j 0 := by
  induction t with
  | zero =>
    show (ws.set i (8 * (s : Int))).getD j 0 = _
    rw [List.getD_eq_getElem?_getD, List.getElem?_set_ne (by omega), ← List.getD_eq_getElem?_getD]
  | succ t ih =>
    rw [layT_succ, List.getD_eq_getElem?_getD, List.getElem?_set_ne (by omega), ← List.getD_eq_getElem?_getD, ih]
theorem laidS_off {S : ArS} {old : Bool} {s j : Nat} (h : j < topA S old ∨ topA S old + s < j) : (laidS S old s).ws.getD j 0 = S.ws.getD j 0 := by
  cases old
  · show (layT S.ws (S.t S.fl) s s).getD j 0 = _
    have h : j < S.t S.fl ∨ S.t S.fl + s < j := h
    rcases h with h | h
    · exact layT_low' h
    · exact layT_high h
  · show ((layT S.ws S.ot s s).set S.ot _).getD j 0 = _
    have h : j < S.ot ∨ S.ot + s < j := h
    rw [List.getD_eq_getElem?_getD, List.getElem?_set_ne (by omega), ← List.getD_eq_getElem?_getD]
    rcases h with h | h
    · exact layT_low' h
    · exact layT_high h
theorem laidS_ot {S : ArS} {old : Bool} {s : Nat} : (laidS S old s).ot = if old then S.ot + (s + 1) else S.ot := by
  cases old
  · show (S.put S.fl _).ot = _
    unfold ArS.put
    cases S.fl <;> rfl
  · rfl
theorem laidS_same {S : ArS} {old : Bool} {s : Nat} : (laidS S old s).fl = S.fl ∧ (laidS S old s).n = S.n ∧ (laidS S old s).k = S.k ∧ ∀ f, (laidS S old s).b f = S.b f := by
  cases old
  · show (S.put S.fl _).fl = _ ∧ (S.put S.fl _).n = _ ∧ (S.put S.fl _).k = _ ∧ ∀ f, (S.put S.fl _).b f = S.b f
    unfold ArS.put ArS.b
    cases S.fl <;> exact ⟨rfl, rfl, rfl, fun f => rfl⟩
  · exact ⟨rfl, rfl, rfl, fun f => rfl⟩
theorem laidS_t {S : ArS} {old : Bool} {s : Nat} : (laidS S old s).t S.fl = if old then S.t S.fl else S.t S.fl + (s + 1) := by
  cases old
  · show (S.put S.fl _).t S.fl = _
    unfold ArS.put ArS.t
    cases S.fl <;> rfl
  · rfl
theorem laidS_t' {S : ArS} {old : Bool} {s : Nat} : (laidS S old s).t (!S.fl) = S.t (!S.fl) := by
  cases old
  · show (S.put S.fl _).t (!S.fl) = _
    unfold ArS.put ArS.t
    cases S.fl <;> rfl
  · rfl
theorem CellsO.fresh {f H S d C s old} (h : CellsO f H S d C) (lo : S.ot ≤ S.n) (lbt : S.b S.fl ≤ S.t S.fl) (fit : topA S old + (s + 1) ≤ endA S old) : ∀ c ∈ C, c.p + c.ws.length < topA S old ∨ topA S old + s < c.p := fun c m => by
  have nb : S.n ≤ S.b S.fl := by unfold ArS.b; split <;> omega
  have lb : S.n ≤ S.b S.fl := nb
  cases old
  · show c.p + c.ws.length < S.t S.fl ∨ _
    have fit : S.t S.fl + (s + 1) ≤ S.b S.fl + S.k := fit
    rcases h.ar c m with q | q <;> omega
  · have : S.ot + (s + 1) ≤ S.n := fit
    show c.p + c.ws.length < S.ot ∨ S.ot + s < c.p
    rcases h.ar c m with q | q <;> omega
/-- a cell more -/
theorem CellsO.lay {f H H' S d C s old r} (h : CellsO f H S d C) (s8 : s ≤ 8) (ln : S.ws.length = S.n + 2 * S.k) (lo : S.ot ≤ S.n) (lb : S.b S.fl ≤ S.t S.fl) (fit : topA S old + (s + 1) ≤ endA S old)
    (hd : H' d = some (.dK (kvsOf f (C ++ [⟨topA S old, r, List.replicate s (-1)⟩])))) (hr : H' r = some (.lst ((List.replicate s (-1 : Int)).map V.int))) (k : ∀ c ∈ C, H' c.r = H c.r) (nr : ∀ c ∈ C, c.r ≠ r) :
    CellsO f H' (laidS S old s) d (C ++ [⟨topA S old, r, List.replicate s (-1)⟩]) := by
  have nb : S.n ≤ S.b S.fl := by unfold ArS.b; split <;> omega
  have hbk : S.b S.fl + S.k ≤ S.n + 2 * S.k := by unfold ArS.b; split <;> omega
  have hl : topA S old + s < S.ws.length := by
    cases old
    · have : S.t S.fl + (s + 1) ≤ S.b S.fl + S.k := fit
      show S.t S.fl + s < _
      omega
    · have : S.ot + (s + 1) ≤ S.n := fit
      show S.ot + s < _
      omega
  have off : ∀ c ∈ C, c.p + c.ws.length < topA S old ∨ topA S old + s < c.p := fun c m => by
    cases old
    · show c.p + c.ws.length < S.t S.fl ∨ _
      rcases h.ar c m with q | q <;> omega
    · have : S.ot + (s + 1) ≤ S.n := fit
      show c.p + c.ws.length < S.ot ∨ S.ot + s < c.p
      rcases h.ar c m with q | q <;> omega
  obtain ⟨e1, e2, e3, e4⟩ := laidS_same (S := S) (old := old) (s := s)
  have rl : (List.replicate s (-1 : Int)).length = s := List.length_replicate
  refine ⟨hd, fun c m => ?_, fun c m => ?_, fun c m j hj => ?_, fun c m => ?_, ?_, ?_⟩
  · rcases List.mem_append.mp m with m | m
    · rw [k c m]
      exact h.rw_ c m
    · rw [List.mem_singleton.mp m]
      exact hr
  · rcases List.mem_append.mp m with m | m
    · rw [laidS_off (by rcases off c m with q | q <;> omega)]
      exact h.hd c m
    · rw [List.mem_singleton.mp m]
      refine ⟨if old then 2 else 0, by split <;> omega, ?_⟩
      rw [laidS_head s8 hl]
      show _ = some (4 * (List.replicate s (-1 : Int)).length + _)
      rw [rl]
  · rcases List.mem_append.mp m with m | m
    · rw [laidS_off (by rcases off c m with q | q <;> omega)]
      exact h.sl c m j hj
    · rw [List.mem_singleton.mp m] at hj ⊢
      have hj : j < s := by rw [← rl]; exact hj
      rw [laidS_slot hj hl]
      show _ = (List.replicate s (-1 : Int)).getD j 0
      rw [List.getD_eq_getElem?_getD, List.getElem?_replicate, if_pos hj]
      rfl
  · rw [e1, e4, laidS_ot, laidS_t]
    rcases List.mem_append.mp m with m | m
    · rcases h.ar c m with q | q
      · refine .inl ?_
        split <;> omega
      · refine .inr ⟨q.1, ?_⟩
        split <;> omega
    · rw [List.mem_singleton.mp m]
      show topA S old + (List.replicate s (-1 : Int)).length < _ ∨ S.b S.fl ≤ topA S old ∧ topA S old + (List.replicate s (-1 : Int)).length < _
      rw [rl]
      cases old
      · refine .inr ⟨lb, ?_⟩
        show S.t S.fl + s < S.t S.fl + (s + 1)
        omega
      · refine .inl ?_
        show S.ot + s < S.ot + (s + 1)
        omega
  · refine List.pairwise_append.mpr ⟨h.dj, List.pairwise_singleton _ _, fun a ha b hb => ?_⟩
    rw [List.mem_singleton.mp hb]
    show _ ∨ topA S old + (List.replicate s (-1 : Int)).length < _
    rw [rl]
    exact off a ha
  · refine List.pairwise_append.mpr ⟨h.rd, List.pairwise_singleton _ _, fun a ha b hb => ?_⟩
    rw [List.mem_singleton.mp hb]
    exact nr a ha
theorem pair_mem {α : Type} {R : α → α → Prop} (sy : ∀ a b, R a b → R b a) : ∀ {C : List α}, C.Pairwise R → ∀ {a b : α}, a ∈ C → b ∈ C → a ≠ b → R a b
  | [], _, _, _, h, _, _ => (List.not_mem_nil h).elim
  | x :: r, p, a, b, ha, hb, ne => by
    obtain ⟨p1, p2⟩ := List.pairwise_cons.mp p
    rcases List.mem_cons.mp ha with ea | ha'
    · rcases List.mem_cons.mp hb with eb | hb'
      · exact absurd (ea.trans eb.symm) ne
      · rw [ea]
        exact p1 b hb'
    · rcases List.mem_cons.mp hb with eb | hb'
      · rw [eb]
        exact sy _ _ (p1 a ha')
      · exact pair_mem sy p2 ha' hb' ne
theorem CellsO.apart {f H S d C} (h : CellsO f H S d C) {a b : CeL} (ha : a ∈ C) (hb : b ∈ C) (ne : a ≠ b) : (a.p + a.ws.length < b.p ∨ b.p + b.ws.length < a.p) ∧ a.r ≠ b.r :=
  ⟨pair_mem (fun _ _ q => q.symm) h.dj ha hb ne, pair_mem (fun _ _ q => q.symm) h.rd ha hb ne⟩
theorem CellsO.same_p {f H S d C} (h : CellsO f H S d C) {a b : CeL} (ha : a ∈ C) (hb : b ∈ C) (e : a.p = b.p) : a = b := by
  by_cases e2 : a = b
  · exact e2
  · have := (h.apart ha hb e2).1
    omega
/-- one slot of a cell is written -/
def setC (C : List CeL) (p j : Nat) (n : Int) : List CeL := C.map fun c => if c.p = p then { c with ws := c.ws.set j n } else c
theorem setC_kvs {f : Nat → Int} {C : List CeL} {p j : Nat} {n : Int} : kvsOf f (setC C p j n) = kvsOf f C := by
  unfold kvsOf setC
  rw [List.map_map]
  congr 1
  funext c
  show ((.inl (f (if c.p = p then _ else c).p), .ref (if c.p = p then _ else c).r) : Key × V) = _
  split <;> rfl
theorem CellsO.put {f H H' S d C} {c : CeL} {j : Nat} {n : Int} (h : CellsO f H S d C) (m : c ∈ C) (hj : j < c.ws.length) (hl : c.p + c.ws.length < S.ws.length) (hd : H' d = H d) (hr : H' c.r = some (.lst ((c.ws.set j n).map V.int))) (k : ∀ a ∈ C, a.r ≠ c.r → H' a.r = H a.r) :
    CellsO f H' { S with ws := S.ws.set (c.p + 1 + j) n } d (setC C c.p j n) := by
  have el : ∀ b ∈ setC C c.p j n, ∃ a ∈ C, b.p = a.p ∧ b.r = a.r ∧ b.ws.length = a.ws.length ∧ ((a = c ∧ b.ws = c.ws.set j n) ∨ (a ≠ c ∧ b = a)) := fun b mb => by
    obtain ⟨a, ma, rfl⟩ := List.mem_map.mp mb
    by_cases e : a.p = c.p
    · have ea := h.same_p ma m e
      subst ea
      rw [if_pos rfl]
      exact ⟨a, ma, rfl, rfl, List.length_set .., .inl ⟨rfl, rfl⟩⟩
    · rw [if_neg e]
      exact ⟨a, ma, rfl, rfl, rfl, .inr ⟨fun z => e (by rw [z]), rfl⟩⟩
  have pw : ∀ {R : CeL → CeL → Prop}, (∀ a b a' b' : CeL, a'.p = a.p → a'.r = a.r → a'.ws.length = a.ws.length → b'.p = b.p → b'.r = b.r → b'.ws.length = b.ws.length → R a b → R a' b') → C.Pairwise R → (setC C c.p j n).Pairwise R := fun {R} tr q => by
    refine List.pairwise_map.mpr (q.imp fun {a b} r => tr _ _ _ _ ?_ ?_ ?_ ?_ ?_ ?_ r) <;> split <;> first | rfl | exact List.length_set ..
  refine ⟨by rw [hd, setC_kvs]; exact h.dd, fun b mb => ?_, fun b mb => ?_, fun b mb i hi => ?_, fun b mb => ?_, pw (fun a b a' b' e1 e2 e3 e4 e5 e6 q => by rw [e1, e3, e4, e6]; exact q) h.dj, pw (fun a b a' b' e1 e2 e3 e4 e5 e6 q => by rw [e2, e5]; exact q) h.rd⟩
  · obtain ⟨a, ma, e1, e2, e3, ⟨rfl, e4⟩ | ⟨ne, rfl⟩⟩ := el b mb
    · rw [e2, e4]
      exact hr
    · rw [k b ma (h.apart ma m ne).2]
      exact h.rw_ b ma
  · obtain ⟨a, ma, e1, e2, e3, e4⟩ := el b mb
    obtain ⟨ag, h1, h2⟩ := h.hd a ma
    refine ⟨ag, h1, ?_⟩
    rw [e1, e3, getD_set (by omega), if_neg ?_]
    · exact h2
    · rcases e4 with ⟨rfl, -⟩ | ⟨ne, -⟩
      · omega
      · have := (h.apart ma m ne).1
        omega
  · obtain ⟨a, ma, e1, e2, e3, ⟨rfl, e4⟩ | ⟨ne, rfl⟩⟩ := el b mb
    · rw [e3] at hi
      rw [e1, e4, getD_set (by omega), getD_set hj]
      by_cases e : j = i
      · subst e
        rw [if_pos rfl, if_pos rfl]
      · rw [if_neg (by omega), if_neg e]
        exact h.sl a ma i hi
    · have := (h.apart ma m ne).1
      rw [getD_set (by omega), if_neg (by omega)]
      exact h.sl b ma i hi
  · obtain ⟨a, ma, e1, e2, e3, -⟩ := el b mb
    show b.p + b.ws.length < S.ot ∨ S.b S.fl ≤ b.p ∧ b.p + b.ws.length < S.t S.fl
    rw [e1, e3]
    exact h.ar a ma
/-- the head that a cell has -/
theorem CellsO.head {f H S d C} (h : CellsO f H S d C) {c : CeL} (m : c ∈ C) (hl : c.p + c.ws.length < S.ws.length) : ∃ k, headW S.ws (.int (c.p : Int)) = .ok c.p k ∧ k / 4 = c.ws.length ∧ k ≤ 34 := by
  obtain ⟨a, h1, h2⟩ := h.hd c m
  obtain ⟨-, h3, -⟩ := headAt_some h2
  exact ⟨_, ans_head' (by omega) h2, by omega, h3⟩
theorem getD_rangeI {ts : List Int} : (List.range ts.length).map (fun i => ts.getD i 0) = ts := by
  refine List.ext_getElem (by rw [List.length_map, List.length_range]) fun i h1 h2 => ?_
  rw [List.getElem_map, List.getElem_range, List.getD_eq_getElem?_getD, List.getElem?_eq_getElem h2]
  rfl
theorem PlAll_ints {ns : List Int} : PlAll (ns.map V.int) (ns.map PyData.int) := by
  induction ns with
  | nil => exact .nil
  | cons n r ih => exact .cons (.int n) ih
theorem eqv_nil {ns : List Int} : PyData.eqv (.list (ns.map PyData.int)) (.list []) = decide (ns = []) := by
  cases ns with
  | nil => rfl
  | cons n r => rfl
theorem r_neNil {K : PySem.W.Frag} {H : Hp} {Q : VK} {a b : Addr} {ns : List Int} (h1 : H a = some (.lst (ns.map V.int))) (h2 : H b = some (.lst [])) (q : Q (.bl (!decide (ns = []))) H) : gNe K (.ref a) (.ref b) H Q :=
  r_nePl h1 h2 PlAll_ints .nil (by rw [eqv_nil]; exact q)
theorem r_eqNil {K : PySem.W.Frag} {H : Hp} {Q : VK} {a b : Addr} {ns : List Int} (h1 : H a = some (.lst (ns.map V.int))) (h2 : H b = some (.lst [])) (q : Q (.bl (decide (ns = []))) H) : gEq K (.ref a) (.ref b) H Q :=
  r_eqPl h1 h2 PlAll_ints .nil (by rw [eqv_nil]; exact q)
/-- a word tells a number, nothing, or one of these cells -/
def ClW (C : List CeL) (w : Int) : Prop := (wordOf w).isSome = true ∧ ∀ p, wordOf w = some (.place p) → ∃ c ∈ C, p = (c.p : Int)
theorem ClW.mono {C D : List CeL} {w : Int} (h : ClW C w) (s : ∀ c ∈ C, ∃ d ∈ D, d.p = c.p) : ClW D w := ⟨h.1, fun p e => let ⟨c, m, q⟩ := h.2 p e; let ⟨d, m2, q2⟩ := s c m; ⟨d, m2, by rw [q2]; exact q⟩⟩
theorem ClW.num {C : List CeL} {n : Int} (h : (n.natAbs : Int) ≤ 1000000000000) : ClW C (2 * n) := ⟨by rw [word_num h]; rfl, fun p e => by rw [word_num h] at e; cases e⟩
theorem ClW.non {C : List CeL} : ClW C (-1) := ⟨rfl, fun p e => by cases e⟩
theorem ClW.cell {C : List CeL} {c : CeL} (m : c ∈ C) (h : c.p ≤ 9999) : ClW C (2 * (c.p : Int) + 1) := ⟨by rw [word_place (by omega) (by omega)]; rfl, fun p e => by rw [word_place (by omega) (by omega)] at e; cases e; exact ⟨c, m, rfl⟩⟩
theorem cl_word {w p : Int} (h : wordOf w = some (.place p)) : w = 2 * p + 1 := by
  unfold wordOf at h
  repeat' split at h
  all_goals first
    | (cases h; done)
    | (cases h; omega)
/-- how a row is looked up by a word -/
theorem row_of {C : List CeL} (nd : C.Pairwise fun a b => 2 * (a.p : Int) + 1 ≠ 2 * (b.p : Int) + 1) {w : Int} (h : ClW C w) : (∃ c ∈ C, w = 2 * (c.p : Int) + 1 ∧ wordOf w = some (.place c.p) ∧ valV (kvsOf (fun p => 2 * (p : Int) + 1) C) (.inl w : Key) = some (.ref c.r)) ∨ ((∀ p, wordOf w ≠ some (.place p)) ∧ valV (kvsOf (fun p => 2 * (p : Int) + 1) C) (.inl w : Key) = none) := by
  cases e : wordOf w with
  | none =>
    have h1 := h.1
    rw [e] at h1
    cases h1
  | some x =>
    have other : (∀ p, x ≠ .place p) → valV (kvsOf (fun p => 2 * (p : Int) + 1) C) (.inl w : Key) = none := fun ne => kvs_none fun c m z => by
      have : wordOf w = some (.place c.p) ∨ ∃ y, wordOf w = some y := .inr ⟨x, e⟩
      unfold wordOf at e
      repeat' split at e
      all_goals first
        | (cases e; done)
        | (cases e; omega)
        | (cases e; exact ne _ rfl)
    cases x with
    | place p =>
      obtain ⟨c, m, rfl⟩ := h.2 p e
      have := cl_word e
      exact .inl ⟨c, m, this, rfl, by rw [this]; exact kvs_some (f := fun p => 2 * (p : Int) + 1) nd m⟩
    | nothing => exact .inr ⟨(fun p z => by cases z), other (fun p z => by cases z)⟩
    | num n => exact .inr ⟨(fun p z => by cases z), other (fun p z => by cases z)⟩

/-! ## cells without a heap -/
structure CelP (S : ArS) (C : List CeL) : Prop where
  hd : ∀ c ∈ C, ∃ a, a ≤ 2 ∧ headAt (S.ws.getD c.p 0) = some (4 * c.ws.length + a)
  sl : ∀ c ∈ C, ∀ j, j < c.ws.length → S.ws.getD (c.p + 1 + j) 0 = c.ws.getD j 0
  ar : ∀ c ∈ C, c.p + c.ws.length < S.ot ∨ (S.b S.fl ≤ c.p ∧ c.p + c.ws.length < S.t S.fl)
  dj : C.Pairwise fun a b => a.p + a.ws.length < b.p ∨ b.p + b.ws.length < a.p
theorem CellsO.cp {f H S d C} (h : CellsO f H S d C) : CelP S C := ⟨h.hd, h.sl, h.ar, h.dj⟩
theorem CelP.nil {S : ArS} : CelP S [] := ⟨(fun c m => (List.not_mem_nil m).elim), (fun c m => (List.not_mem_nil m).elim), (fun c m => (List.not_mem_nil m).elim), .nil⟩
theorem CelP.lt {S C} (h : CelP S C) (e : S.ws.length = S.n + 2 * S.k) (lo : S.ot ≤ S.n) (l1 : S.t S.fl ≤ S.b S.fl + S.k) : ∀ c ∈ C, c.p + c.ws.length < S.ws.length := fun c m => by
  have hb : S.b S.fl + S.k ≤ S.n + 2 * S.k := by unfold ArS.b; split <;> omega
  rcases h.ar c m with q | q <;> omega
theorem CelP.apart {S C} (h : CelP S C) {a b : CeL} (ha : a ∈ C) (hb : b ∈ C) (ne : a ≠ b) : a.p + a.ws.length < b.p ∨ b.p + b.ws.length < a.p := pair_mem (fun _ _ q => q.symm) h.dj ha hb ne
theorem CelP.same_p {S C} (h : CelP S C) {a b : CeL} (ha : a ∈ C) (hb : b ∈ C) (e : a.p = b.p) : a = b := by
  by_cases e2 : a = b
  · exact e2
  · have := h.apart ha hb e2
    omega
theorem CelP.head {S C} (h : CelP S C) {c : CeL} (m : c ∈ C) (hl : c.p + c.ws.length < S.ws.length) : ∃ k, headW S.ws (.int (c.p : Int)) = .ok c.p k ∧ k / 4 = c.ws.length ∧ k ≤ 34 := by
  obtain ⟨a, h1, h2⟩ := h.hd c m
  obtain ⟨-, h3, -⟩ := headAt_some h2
  exact ⟨_, ans_head' (by omega) h2, by omega, h3⟩
theorem CelP.fresh {S C s old} (h : CelP S C) (lo : S.ot ≤ S.n) (lbt : S.b S.fl ≤ S.t S.fl) (fit : topA S old + (s + 1) ≤ endA S old) : ∀ c ∈ C, c.p + c.ws.length < topA S old ∨ topA S old + s < c.p := fun c m => by
  have nb : S.n ≤ S.b S.fl := by unfold ArS.b; split <;> omega
  cases old
  · show c.p + c.ws.length < S.t S.fl ∨ _
    have fit : S.t S.fl + (s + 1) ≤ S.b S.fl + S.k := fit
    rcases h.ar c m with q | q <;> omega
  · have : S.ot + (s + 1) ≤ S.n := fit
    show c.p + c.ws.length < S.ot ∨ S.ot + s < c.p
    rcases h.ar c m with q | q <;> omega
/-- a cell more -/
theorem CelP.lay {S C s old} {r : Addr} (h : CelP S C) (s8 : s ≤ 8) (ln : S.ws.length = S.n + 2 * S.k) (lo : S.ot ≤ S.n) (lb : S.b S.fl ≤ S.t S.fl) (fit : topA S old + (s + 1) ≤ endA S old) :
    CelP (laidS S old s) (C ++ [⟨topA S old, r, List.replicate s (-1)⟩]) := by
  have nb : S.n ≤ S.b S.fl := by unfold ArS.b; split <;> omega
  have hbk : S.b S.fl + S.k ≤ S.n + 2 * S.k := by unfold ArS.b; split <;> omega
  have hl : topA S old + s < S.ws.length := by
    cases old
    · have : S.t S.fl + (s + 1) ≤ S.b S.fl + S.k := fit
      show S.t S.fl + s < _
      omega
    · have : S.ot + (s + 1) ≤ S.n := fit
      show S.ot + s < _
      omega
  have off := h.fresh lo lb fit
  obtain ⟨e1, e2, e3, e4⟩ := laidS_same (S := S) (old := old) (s := s)
  have rl : (List.replicate s (-1 : Int)).length = s := List.length_replicate
  refine ⟨fun c m => ?_, fun c m j hj => ?_, fun c m => ?_, ?_⟩
  · rcases List.mem_append.mp m with m | m
    · rw [laidS_off (by rcases off c m with q | q <;> omega)]
      exact h.hd c m
    · rw [List.mem_singleton.mp m]
      refine ⟨if old then 2 else 0, by split <;> omega, ?_⟩
      rw [laidS_head s8 hl]
      show _ = some (4 * (List.replicate s (-1 : Int)).length + _)
      rw [rl]
  · rcases List.mem_append.mp m with m | m
    · rw [laidS_off (by rcases off c m with q | q <;> omega)]
      exact h.sl c m j hj
    · rw [List.mem_singleton.mp m] at hj ⊢
      have hj : j < s := by rw [← rl]; exact hj
      rw [laidS_slot hj hl]
      show _ = (List.replicate s (-1 : Int)).getD j 0
      rw [List.getD_eq_getElem?_getD, List.getElem?_replicate, if_pos hj]
      rfl
  · rw [e1, e4, laidS_ot, laidS_t]
    rcases List.mem_append.mp m with m | m
    · rcases h.ar c m with q | q
      · refine .inl ?_
        split <;> omega
      · refine .inr ⟨q.1, ?_⟩
        split <;> omega
    · rw [List.mem_singleton.mp m]
      show topA S old + (List.replicate s (-1 : Int)).length < _ ∨ S.b S.fl ≤ topA S old ∧ topA S old + (List.replicate s (-1 : Int)).length < _
      rw [rl]
      cases old
      · refine .inr ⟨lb, ?_⟩
        show S.t S.fl + s < S.t S.fl + (s + 1)
        omega
      · refine .inl ?_
        show S.ot + s < S.ot + (s + 1)
        omega
  · refine List.pairwise_append.mpr ⟨h.dj, List.pairwise_singleton _ _, fun a ha b hb => ?_⟩
    rw [List.mem_singleton.mp hb]
    show _ ∨ topA S old + (List.replicate s (-1 : Int)).length < _
    rw [rl]
    exact off a ha
/-- the words that cells take -/
def sumW (C : List CeL) : Nat := (C.map fun c => c.ws.length + 1).sum
theorem sumW_app {C : List CeL} {c : CeL} : sumW (C ++ [c]) = sumW C + (c.ws.length + 1) := by
  unfold sumW
  rw [List.map_append, List.sum_append]
  rfl
/-- the words of the cell at a place -/
def wC (C : List CeL) (x : Int) : Int := match C.find? fun c => decide ((c.p : Int) = x) with
  | some c => (c.ws.length : Int) + 1
  | none => 0
theorem wC_mem {S C} (h : CelP S C) {c : CeL} (m : c ∈ C) : wC C c.p = (c.ws.length : Int) + 1 := by
  unfold wC
  cases e : C.find? fun a => decide ((a.p : Int) = c.p) with
  | none =>
    have := List.find?_eq_none.mp e c m
    exact absurd (decide_eq_true rfl) this
  | some a =>
    have h1 := List.find?_some e
    have h2 := List.mem_of_find?_eq_some e
    rw [decide_eq_true_eq] at h1
    rw [h.same_p h2 m (by omega)]
theorem wC_ge {C : List CeL} {x : Int} : 0 ≤ wC C x := by
  unfold wC
  split <;> omega
theorem wC_sum {S C} (h : CelP S C) : (((C.map fun c => (c.p : Int))).map (wC C)).sum = (sumW C : Int) := by
  have : ∀ D : List CeL, (∀ c ∈ D, c ∈ C) → ((D.map fun c => (c.p : Int)).map (wC C)).sum = (sumW D : Int) := by
    intro D
    induction D with
    | nil => intro _; rfl
    | cons c r ih =>
      intro hm
      have e : sumW (c :: r) = (c.ws.length + 1) + sumW r := rfl
      rw [List.map_cons, List.map_cons, List.sum_cons, ih (fun c m => hm c (List.mem_cons_of_mem _ m)), wC_mem h (hm c List.mem_cons_self), e]
      omega
  exact this C fun c m => m
theorem sum_ge {w : Int → Int} (h : ∀ x, 0 ≤ w x) : ∀ xs : List Int, 0 ≤ (xs.map w).sum
  | [] => Int.le_refl _
  | x :: r => by
    rw [List.map_cons, List.sum_cons]
    have := sum_ge h r
    have := h x
    omega
theorem sum_perm {xs ys : List Int} (h : xs.Perm ys) : xs.sum = ys.sum := by
  induction h with
  | nil => rfl
  | cons x _ ih => rw [List.sum_cons, List.sum_cons, ih]
  | swap x y l => rw [List.sum_cons, List.sum_cons, List.sum_cons, List.sum_cons]; omega
  | trans _ _ h1 h2 => exact h1.trans h2
/-! ## dicts of numbers -/
def kvI (ps : List (Int × Int)) : List (Key × V) := ps.map fun p => (.inl p.1, .int p.2)
theorem kvI_none {ps : List (Int × Int)} {n : Int} (h : ∀ p ∈ ps, p.1 ≠ n) : valV (kvI ps) (.inl n : Key) = none := by
  induction ps with
  | nil => rfl
  | cons p r ih =>
    have e2 : ¬ ((.inl p.1 : Key) = .inl n) := fun z => h p (List.mem_cons_self) (Sum.inl.inj z)
    exact (valV_neg (p := ((.inl p.1 : Key), V.int p.2)) (r := kvI r) e2).trans (ih fun c m => h c (List.mem_cons_of_mem _ m))
theorem kvI_some {ps : List (Int × Int)} {p : Int × Int} (nd : ps.Pairwise fun a b => a.1 ≠ b.1) (h : p ∈ ps) : valV (kvI ps) (.inl p.1 : Key) = some (.int p.2) := by
  induction ps with
  | nil => exact (List.not_mem_nil h).elim
  | cons a r ih =>
    obtain ⟨n1, n2⟩ := List.pairwise_cons.mp nd
    rcases List.mem_cons.mp h with rfl | h
    · exact valV_pos rfl
    · have e2 : ¬ ((.inl a.1 : Key) = .inl p.1) := fun z => n1 p h (Sum.inl.inj z)
      exact (valV_neg (p := ((.inl a.1 : Key), V.int a.2)) (r := kvI r) e2).trans (ih n2 h)
theorem kvI_put {ps : List (Int × Int)} {p : Int × Int} (h : ∀ a ∈ ps, a.1 ≠ p.1) : putK (kvI ps) (.inl p.1 : Key) (.int p.2) = kvI (ps ++ [p]) := by
  unfold putK
  rw [valV_any, kvI_none h]
  show kvI ps ++ [(.inl p.1, .int p.2)] = _
  unfold kvI
  rw [List.map_append]
  rfl
theorem kvI_len {ps : List (Int × Int)} : (kvI ps).length = ps.length := List.length_map ..
theorem kvI_flat {ps : List (Int × Int)} : ∀ p ∈ kvI ps, flatB p.2 = true := fun p m => by
  obtain ⟨q, -, rfl⟩ := List.mem_map.mp m
  rfl
theorem kvI_nd {ps : List (Int × Int)} (nd : (ps.map (·.1)).Nodup) : ((kvI ps).map (·.1)).Nodup := by
  have e : (kvI ps).map (·.1) = (ps.map (·.1)).map (fun n => (.inl n : Key)) := by
    unfold kvI
    rw [List.map_map, List.map_map]
    rfl
  rw [e]
  exact List.Pairwise.map _ (fun a b h z => h (Sum.inl.inj z)) nd
theorem kvI_pw {ps : List (Int × Int)} (nd : (ps.map (·.1)).Nodup) : ps.Pairwise fun a b => a.1 ≠ b.1 := List.pairwise_map.mp nd
/-! ## where cells go -/
def goL (w : Int → Int) : Int → List Int → List (Int × Int)
  | _, [] => []
  | t, a :: r => (a, t) :: goL w (t + w a) r
theorem goL_fst {w : Int → Int} : ∀ {xs : List Int} {t : Int}, (goL w t xs).map (·.1) = xs
  | [], _ => rfl
  | a :: r, t => by
    show a :: (goL w (t + w a) r).map (·.1) = _
    rw [goL_fst]
theorem goL_app {w : Int → Int} {a : Int} : ∀ {xs : List Int} {t : Int}, goL w t (xs ++ [a]) = goL w t xs ++ [(a, t + (xs.map w).sum)]
  | [], t => by
    show [(a, t)] = [(a, t + 0)]
    rw [Int.add_zero]
  | b :: r, t => by
    show (b, t) :: goL w (t + w b) (r ++ [a]) = (b, t) :: (goL w (t + w b) r ++ [_])
    rw [goL_app, List.map_cons, List.sum_cons, Int.add_assoc]
theorem goL_len {w : Int → Int} {xs : List Int} {t : Int} : (goL w t xs).length = xs.length := by
  have := congrArg List.length (goL_fst (w := w) (xs := xs) (t := t))
  rwa [List.length_map] at this
theorem goL_at {w : Int → Int} : ∀ {xs : List Int} {t : Int} {i : Nat} {a : Int}, xs[i]? = some a → (a, t + ((xs.take i).map w).sum) ∈ goL w t xs
  | [], _, _, _, e => by cases e
  | b :: r, t, 0, a, e => by
    cases e
    rw [List.take_zero]
    show (b, t + 0) ∈ (b, t) :: _
    rw [Int.add_zero]
    exact List.mem_cons_self
  | b :: r, t, i + 1, a, e => by
    have e : r[i]? = some a := e
    have := goL_at (w := w) (t := t + w b) e
    rw [List.take_succ_cons, List.map_cons, List.sum_cons, ← Int.add_assoc]
    exact List.mem_cons_of_mem _ this
theorem go_le {w : Int → Int} : ∀ {xs : List Int} {t : Int} {i : Nat} {a : Int}, (xs.Pairwise fun a b => a + w a ≤ b) → (∀ x ∈ xs, t ≤ x) → xs[i]? = some a → t + ((xs.take i).map w).sum ≤ a
  | [], _, _, _, _, _, e => by cases e
  | b :: r, t, 0, a, _, h, e => by
    cases e
    rw [List.take_zero]
    show t + 0 ≤ b
    have := h b List.mem_cons_self
    omega
  | b :: r, t, i + 1, a, pw, h, e => by
    have e : r[i]? = some a := e
    obtain ⟨p1, p2⟩ := List.pairwise_cons.mp pw
    rw [List.take_succ_cons, List.map_cons, List.sum_cons, ← Int.add_assoc]
    refine go_le p2 (fun x m => ?_) e
    have := p1 x m
    have := h b List.mem_cons_self
    omega
/-- places of cells, rising -/
theorem CelP.rise {S C} (h : CelP S C) {xs : List Int} (so : xs.Pairwise (· ≤ ·)) (nd : xs.Nodup) (hm : ∀ x ∈ xs, ∃ c ∈ C, x = (c.p : Int)) : xs.Pairwise fun a b => a + wC C a ≤ b := by
  have pq : xs.Pairwise fun a b => a ≤ b ∧ a ≠ b := List.pairwise_and_iff.mpr ⟨so, nd⟩
  refine List.Pairwise.imp_of_mem (fun {a b} ma mb q => ?_) pq
  obtain ⟨c, mc, rfl⟩ := hm a ma
  obtain ⟨d, md, rfl⟩ := hm b mb
  rw [wC_mem h mc]
  have ne : c ≠ d := fun z => q.2 (by rw [z])
  have := h.apart mc md ne
  omega

local macro_rules | `(tactic| walk_at "w3") => `(tactic| try simp only [↓x_var0, ↓x_varS, ↓x_c, ↓x_op, ↓x_un, ↓x_cb, ↓x_nil, ↓x_cons, ↓x_test, ↓x_b, ↓x_ex, ↓x_and, ↓x_or, ↓x_not, ↓x_andV, ↓x_orV, ↓x_notV, ↓x_tif, ↓x_chain, ↓x_menu, ↓x_menuI, ↓x_lst, ↓x_tup, ↓x_dnew, ↓x_callW, ↓x_callN, ↓x_seq, ↓x_next, ↓x_ret, ↓x_retN, ↓x_drop, ↓x_ifS, ↓x_asg, ↓x_name, ↓x_raise, ↓x_fld, ↓x_setF, ↓x_meth, ↓x_make, ↓x_sub, ↓r_min, ↓r_max, ↓x_yes, ↓x_for, ↓x_lock, ↓x_keys, ↓x_cut, ↓x_lc, ↓x_rng1, ↓x_rng2, ↓x_lst1, ↓x_itup, ↓x_rng3, ↓x_three, ↓x_lstg, ↓x_tupg, ↓x_adrS, ↓x_one, ↓x_two, ↓x_adr, ↓x_sl, ↓x_np, ↓x_pt, ↓x_int, ↓x_bm, ↓x_bm0, ↓x_consg, ↓x_nilg, ↓x_dget2, ↓x_dget1, ↓x_dget, ↓x_din, ↓x_dni, ↓x_dput, ↓x_dpop2, ↓r_isB, ↓r_notB, ↓x_enum, ↓x_zip, wipe, List.map_cons, List.map_nil, ↓x_isT, ↓r_isiII, ↓r_isiBB, ↓r_isiIB, ↓r_isiSS, ↓r_neNS, ↓r_neSN, ↓r_neNN, ↓r_eqNS, ↓r_eqSN, ↓r_eqNN, ↓r_eqIS, ↓r_neIS, ↓r_neSI, ↓r_neBS, ↓r_eqBB, ↓r_neBB, ↓x_start, ↓x_K, ↓x_start0, ↓r_i0, ↓r_i, ↓r_u, ↓r_addI, ↓r_addS, ↓r_mulI, ↓r_mulS, ↓r_eqI, ↓r_neI, ↓r_eqS, ↓r_neS, ↓r_absI, ↓r_intI, ↓r_intB, List.length_cons, List.length_nil, List.replicate, List.set_cons_zero, List.set_cons_succ, decide_eq_true_eq, Bool.not_eq_true', decide_eq_false_iff_not, if_true, if_false, Bool.false_eq_true, Bool.true_eq_false, ite_true, ite_false, Bool.not_true, Bool.not_false, c_div, n_ten, c_pow, not_true_eq_false, not_false_eq_true, decide_true, decide_false, true_and, and_true, and_self, true_or, or_true, Int.reduceLT, Int.reduceLE, Int.reduceMul, Int.reduceAdd, Int.reduceSub, Int.reducePow, Int.reduceNeg, Int.reduceDiv, Int.reduceMod, Nat.reducePow, Int.reduceToNat, Int.reduceEq, Int.reduceNe, Nat.reduceLT, Nat.reduceLeDiff, Nat.reduceAdd, ↓x_whole, ↓x_kind, Int.natCast_one])
/-! ## copying -/
theorem cpT_at {ws : List Int} {i j : Nat} : ∀ {t u : Nat}, j + t ≤ ws.length → (cpT ws i j t).getD u 0 = if j ≤ u ∧ u < j + t then ws.getD (i + (u - j)) 0 else ws.getD u 0
  | 0, u, _ => by rw [if_neg (by omega)]; rfl
  | t + 1, u, h => by
    rw [cpT_succ, getD_set (by rw [cpT_len]; omega), cpT_at (t := t) (by omega)]
    by_cases e : j + t = u
    · rw [if_pos e, if_pos (by omega)]
      congr 1
      omega
    · rw [if_neg e]
      by_cases e2 : j ≤ u ∧ u < j + t
      · rw [if_pos e2, if_pos (by omega)]
      · rw [if_neg e2, if_neg (by omega)]
theorem cpT_vw {ws : List Int} (h : Vw ws) {i j : Nat} : ∀ {t : Nat}, i + t ≤ ws.length → Vw (cpT ws i j t)
  | 0, _ => h
  | t + 1, ht => by
    rw [cpT_succ]
    obtain ⟨w, e⟩ := h.get (show i + t < ws.length by omega)
    exact (cpT_vw h (by omega)).set (by rw [e]; rfl)
/-- behind a copy -/
def copT (ws : List Int) (i t s a : Nat) : List Int := ((cpT ws i t (s + 1)).set t (2 * ((4 * s + a : Nat) : Int))).set i (2 * (t : Int) + 1)
theorem copT_len {ws : List Int} {i t s a : Nat} : (copT ws i t s a).length = ws.length := by
  unfold copT
  rw [List.length_set, List.length_set, cpT_len]
theorem copT_at {ws : List Int} {i t s a u : Nat} (hi : i < ws.length) (ht : t + s < ws.length) : (copT ws i t s a).getD u 0 = if u = i then 2 * (t : Int) + 1 else if u = t then 2 * ((4 * s + a : Nat) : Int) else if t < u ∧ u ≤ t + s then ws.getD (i + (u - t)) 0 else ws.getD u 0 := by
  unfold copT
  rw [getD_set (by rw [List.length_set, cpT_len]; omega), getD_set (by rw [cpT_len]; omega), cpT_at (by omega)]
  by_cases e1 : u = i
  · rw [if_pos e1.symm, if_pos e1]
  · rw [if_neg (fun z => e1 z.symm), if_neg e1]
    by_cases e2 : u = t
    · rw [if_pos e2.symm, if_pos e2]
    · rw [if_neg (fun z => e2 z.symm), if_neg e2]
      by_cases e3 : t < u ∧ u ≤ t + s
      · rw [if_pos (by omega), if_pos e3]
      · rw [if_neg (by omega), if_neg e3]
def sp_copied (K : PySem.W.Frag) : Sp := fun vs H Q E => ∃ m mx l ws v s sx b e t z, vs = [.ref m, v, .ref s, z] ∧ MemO K H m mx l ws ∧ Vw ws ∧ SpO K H s sx b e t ∧ Thing H v ∧ Thing H z ∧ match headW ws v with
  | .noPlace => E (Ex K "NoPlace") none H
  | .noCell => E (Ex K "NoCell") none H
  | .ok i h => match ageW z with
    | none => E (Ex K "BadCount") none H
    | some a => if (h / 4 + 1 : Nat) ≤ (e : Int) - t then (i + h / 4 < ws.length ∧ e ≤ ws.length ∧ e ≤ 9999 ∧ (i < t ∨ t + h / 4 < i)) ∧
        ∀ H', MemO K H' m mx l (copT ws i t (h / 4) a) → Vw (copT ws i t (h / 4) a) → SpO K H' s sx b e (t + (h / 4 + 1)) → (∀ c o, c ≠ l → c ≠ s → H c = some o → H' c = some o) → Q (.int (t : Int)) H'
      else E (Ex K "NoRoom") none H
section
variable {P : Program} {w : World} {K : PySem.W.Frag} {mg : Str → Option Value} {base : Heap}
theorem f_copied (T : Tx K mg) : Fn P w K mg base 7 "copied" ["memory", "at", "space", "age"] (sp_copied K) := by
  have c_words_of := f_words_of (P := P) (w := w) (base := base) T
  have c_is_whole := f_is_whole (P := P) (w := w) (base := base) T
  have c_Space_take := f_Space_take (P := P) (w := w) (base := base) T
  have c_Memory_copy := f_Memory_copy (P := P) (w := w) (base := base) T
  have c_aged := f_aged (P := P) (w := w) (base := base) T
  have c_send := f_send (P := P) (w := w) (base := base) T
  refine T.mkFn 15 32 (d := d_copied) (N := ["memory", "at", "space", "age", "many", "goal"]) (k := 6) rfl rfl rfl rfl rfl sc_copied (fun _ _ _ _ _ _ us hl => match us, hl with | [_, _, _, _], _ => rfl) (fun vs H Q E h => ?len) (fun cdv A outer s H vs Q E hr h => ⟨_,
      (pss_cons (ps_set (i := 4) sc_copied.nd rfl (Or.inl rfl) (pe_fn (takes_of rfl rfl rfl rfl) c_words_of (hr.mono (by decide)) (by rfl) (pa_cons (pv 0) (pa_cons (pv 1) pa_nil))))
        (pss_cons (ps_if (PW.pt (pw_or (pt_not (pt_val (pe_fn (takes_of rfl rfl rfl rfl) c_is_whole (hr.mono (by decide)) (by rfl) (pa_cons (pv 3) pa_nil)))) (pw_or1 (pt_not (pt_chain op_le op_le pe_int (pv 3) (pe_num (T.num 50) (by rfl))))))) (pss_one (ps_raiseK (K := K) rfl rfl (takes_of rfl rfl rfl rfl) (T.says.fact 67 rfl) (T.glo 3) (by rfl))) pss_nil)
        (pss_cons (ps_set (i := 5) sc_copied.nd rfl (Or.inl rfl) (pe_mt (K := K) rfl (takes_of rfl rfl rfl rfl) (pv 2) c_Space_take (hr.mono (by decide)) (pa_cons (pv 4) pa_nil)))
        (pss_cons (ps_expr (pe_mt (K := K) rfl (takes_of rfl rfl rfl rfl) (pv 0) c_Memory_copy (hr.mono (by decide)) (pa_cons (pv 1) (pa_cons (pv 5) (pa_cons (pv 4) pa_nil)))))
        (pss_cons (ps_expr (pe_fn (takes_of rfl rfl rfl rfl) c_aged (hr.mono (by decide)) (by rfl) (pa_cons (pv 0) (pa_cons (pv 5) (pa_cons (pv 3) pa_nil)))))
        (pss_cons (ps_expr (pe_fn (takes_of rfl rfl rfl rfl) c_send (hr.mono (by decide)) (by rfl) (pa_cons (pv 0) (pa_cons (pv 1) (pa_cons (pv 5) pa_nil)))))
        (pss_one (ps_ret (pv 5))))))))), ?rd⟩)
  case len => obtain ⟨m, mx, l, ws, v, s, sx, b, e, t, z, rfl, _⟩ := h; rfl
  case rd =>
    obtain ⟨m, mx, l, ws, v, s, sx, b, e, t, z, rfl, M, vw, sp, th, tz, h⟩ := h
    walk_at "w3"
    refine ⟨m, mx, l, ws, v, rfl, M, vw, th, ?_⟩
    cases eh : headW ws v with
    | noPlace =>
      rw [eh] at h
      exact h
    | noCell =>
      rw [eh] at h
      exact h
    | ok i k =>
      rw [eh] at h
      dsimp only at h ⊢
      obtain ⟨rfl, hi, ea⟩ := head_ok eh
      obtain ⟨-, h34, -⟩ := headAt_some ea
      walk_at "w3"
      rcases tz with ⟨n, rfl⟩ | o
      · walk_at "w3"
        rw [ageW_int] at h
        split
        · split
          · rw [if_neg (by omega)] at h
            exact h
          · rw [if_pos (by omega)] at h
            dsimp only at h
            refine ⟨recv sp, s, sx, b, e, t, _, rfl, sp, .inl ⟨_, rfl⟩, ?_⟩
            rw [takeW_int, if_neg (by omega)]
            by_cases fit : ((k / 4 + 1 : Nat) : Int) ≤ (e : Int) - t
            · rw [if_pos fit] at h
              obtain ⟨⟨f1, f2, f3, f4⟩, q⟩ := h
              rw [if_neg (by omega)]
              dsimp only
              rw [Int.toNat_natCast]
              have k1 : ∀ c o, c ≠ s → H c = some o → upd H s (SpV K sx b e (t + (k / 4 + 1))) c = some o := fun c o n g => (upd_ne n).trans g
              have M1 : MemO K (upd H s (SpV K sx b e (t + (k / 4 + 1)))) m mx l ws := ⟨k1 _ _ (ne_of M.ob sp fun z => spv_fs (by show 2 ≠ 3; decide) z.symm) M.ob, k1 _ _ (ne_of M.ls sp fun z => spv_lst z.symm) M.ls, M.sz⟩
              have sp1 : SpO K (upd H s (SpV K sx b e (t + (k / 4 + 1)))) s sx b e (t + (k / 4 + 1)) := upd_same
              generalize upd H s (SpV K sx b e (t + (k / 4 + 1))) = H1 at k1 M1 sp1 ⊢
              refine ⟨recv M1.ob, m, mx, l, ws, _, _, _, rfl, M1, .inl ⟨_, rfl⟩, .inl ⟨_, rfl⟩, .inl ⟨_, rfl⟩, ?_⟩
              rw [cpOf_int, if_pos (by omega), stretchOf_int, if_pos (by omega), Int.toNat_natCast]
              dsimp only
              rw [stretchOf_int, if_pos (by omega), Int.toNat_natCast]
              dsimp only
              rw [Int.toNat_natCast]
              intro H2 M2 k2 _
              have v2 : Vw (cpT ws i t (k / 4 + 1)) := cpT_vw vw (by omega)
              have l2 : (cpT ws i t (k / 4 + 1)).length = ws.length := cpT_len
              have h2 : headW (cpT ws i t (k / 4 + 1)) (.int (t : Int)) = .ok t k := ans_head' (by omega) (by rw [cpT_at (by omega), if_pos (by omega), Nat.sub_self, Nat.add_zero]; exact ea)
              refine ⟨m, mx, l, _, _, _, rfl, M2, v2, .inl ⟨_, rfl⟩, .inl ⟨_, rfl⟩, ?_⟩
              rw [h2]
              dsimp only
              rw [ageW_int, if_pos (by omega)]
              dsimp only
              have w3 : (wordOf (2 * ((4 * (k / 4) + n.toNat : Nat) : Int))).isSome = true := by rw [word_num (by omega)]; rfl
              have M3 := M2.put ((cpT ws i t (k / 4 + 1)).set t (2 * ((4 * (k / 4) + n.toNat : Nat) : Int))) (List.length_set ..)
              have v3 := v2.set (i := t) w3
              have h3 : headW ((cpT ws i t (k / 4 + 1)).set t (2 * ((4 * (k / 4) + n.toNat : Nat) : Int))) (.int (i : Int)) = .ok i k := ans_head' (by rw [List.length_set]; omega) (by rw [getD_set (by omega), if_neg (by omega), cpT_at (by omega), if_neg (by omega)]; exact ea)
              have k3 : ∀ c o, c ≠ l → H2 c = some o → upd H2 l (.lst (((cpT ws i t (k / 4 + 1)).set t (2 * ((4 * (k / 4) + n.toNat : Nat) : Int))).map V.int)) c = some o := fun c o n g => (upd_ne n).trans g
              generalize upd H2 l (.lst (((cpT ws i t (k / 4 + 1)).set t (2 * ((4 * (k / 4) + n.toNat : Nat) : Int))).map V.int)) = H3 at M3 k3 ⊢
              refine ⟨m, mx, l, _, _, _, rfl, M3, v3, .inl ⟨_, rfl⟩, .inl ⟨_, rfl⟩, ?_⟩
              rw [h3]
              dsimp only
              rw [placeW_int, if_pos (by omega)]
              dsimp only
              have w4 : (wordOf (2 * (t : Int) + 1)).isSome = true := by rw [word_place (by omega) (by omega)]; rfl
              have M4 := M3.put (((cpT ws i t (k / 4 + 1)).set t (2 * ((4 * (k / 4) + n.toNat : Nat) : Int))).set i (2 * (t : Int) + 1)) (List.length_set ..)
              have ls : l ≠ s := ne_of M1.ls sp1 fun z => spv_lst z.symm
              exact q _ M4 (v3.set (i := i) w4) ((upd_ne ls.symm).trans (k3 _ _ ls.symm (k2 _ _ ls.symm sp1))) fun c o n1 n2 g => (upd_ne n1).trans (k3 _ _ n1 (k2 _ _ n1 (k1 _ _ n2 g)))
            · rw [if_neg fit] at h
              rw [if_pos (by omega)]
              exact h
        · rw [if_neg (by omega)] at h
          exact h
      · rw [odd_whole o]
        rw [ageW_odd o] at h
        walk_at "w3"
        exact h
end
/-- where a word leads -/
inductive Mv where
  | noPlace | noCell | ok (w : Int)
def movedW (ws : List Int) (n : Int) : Mv := match wordOf n with
  | some (.place p) => (match placeOf ws.length (.int p) with
    | none => .noPlace
    | some i => match wordOf (ws.getD i 0) with
      | some (.place g) => .ok (2 * g + 1)
      | _ => match headAt (ws.getD i 0) with
        | none => .noCell
        | some _ => .ok n)
  | _ => .ok n
def sp_moved (K : PySem.W.Frag) : Sp := fun vs H Q E => ∃ m mx l ws n, vs = [.ref m, .int n] ∧ MemO K H m mx l ws ∧ Vw ws ∧ (wordOf n).isSome = true ∧ match movedW ws n with
  | .noPlace => E (Ex K "NoPlace") none H
  | .noCell => E (Ex K "NoCell") none H
  | .ok w => Q (.int w) H
section
variable {P : Program} {w : World} {K : PySem.W.Frag} {mg : Str → Option Value} {base : Heap}
theorem f_moved (T : Tx K mg) : Fn P w K mg base 6 "moved" ["memory", "word"] (sp_moved K) := by
  have c_kind := f_kind (P := P) (w := w) (base := base) T
  have c_sent_to := f_sent_to (P := P) (w := w) (base := base) T
  have c_worth := f_worth (P := P) (w := w) (base := base) T
  have c_place_word := f_place_word (P := P) (w := w) (base := base) T
  refine T.mkFn 16 33 (d := d_moved) (N := ["memory", "word", "goal"]) (k := 5) rfl rfl rfl rfl rfl sc_moved (fun _ _ _ _ _ _ us hl => match us, hl with | [_, _], _ => rfl) (fun vs H Q E h => ?len) (fun cdv A outer s H vs Q E hr h => ⟨_,
      (pss_cons (ps_if (pt_cmpR (op_neK (K := K) rfl hr.units) (pe_fn (takes_of rfl rfl rfl rfl) c_kind (hr.mono (by decide)) (by rfl) (pa_cons (pv 1) pa_nil)) pe_str (nomark _)) (pss_one (ps_ret (pv 1))) pss_nil)
        (pss_cons (ps_set (i := 2) sc_moved.nd rfl (Or.inl rfl) (pe_fn (takes_of rfl rfl rfl rfl) c_sent_to (hr.mono (by decide)) (by rfl) (pa_cons (pv 0) (pa_cons (pe_fn (takes_of rfl rfl rfl rfl) c_worth (hr.mono (by decide)) (by rfl) (pa_cons (pv 1) pa_nil)) pa_nil))))
        (pss_cons (ps_if (pt_cmpR op_isN (pv 2) pe_non (nomark _)) (pss_one (ps_ret (pv 1))) pss_nil)
        (pss_one (ps_ret (pe_fn (takes_of rfl rfl rfl rfl) c_place_word (hr.mono (by decide)) (by rfl) (pa_cons (pv 2) pa_nil))))))), ?rd⟩)
  case len => obtain ⟨m, mx, l, ws, n, rfl, _⟩ := h; rfl
  case rd =>
    obtain ⟨m, mx, l, ws, n, rfl, M, vw, hn, h⟩ := h
    walk_at "w3"
    unfold movedW at h
    cases e : wordOf n with
    | none =>
      rw [e] at hn
      cases hn
    | some x =>
      rw [e] at h
      cases x with
      | place p =>
        dsimp only at h ⊢
        simp only [k_pp, not_true_eq_false, if_false, x_worth, e]
        have hp : 0 ≤ p ∧ p ≤ 9999 := by
          have := cl_word e
          unfold wordOf at e
          repeat' split at e
          all_goals first
            | (cases e; done)
            | omega
        refine ⟨m, mx, l, ws, _, rfl, M, vw, .inl ⟨_, rfl⟩, ?_⟩
        rw [show (Wd.place p).worth = V.int p from rfl]
        cases ep : placeOf ws.length (.int p) with
        | none =>
          rw [ep] at h
          dsimp only at h ⊢
          exact h
        | some i =>
          rw [ep] at h
          dsimp only at h ⊢
          obtain ⟨e1, hi⟩ := placeOf_some ep
          obtain ⟨y, ey⟩ := vw.get hi
          rw [ey] at h ⊢
          cases y with
          | place g =>
            dsimp only at h ⊢
            rw [if_neg (by intro z; cases z)]
            have hg : 0 ≤ g ∧ g ≤ 9999 := by
              have := cl_word ey
              unfold wordOf at ey
              repeat' split at ey
              all_goals first
                | (cases ey; done)
                | omega
            rw [x_place_word, if_pos hg]
            exact h
          | _ =>
            dsimp only at h ⊢
            cases eh : headAt (ws.getD i 0) with
            | none =>
              rw [eh] at h
              exact h
            | some k =>
              rw [eh] at h
              dsimp only at h ⊢
              rw [if_pos rfl]
              exact h
      | _ =>
        dsimp only at h ⊢
        simp only [k_np, k_Np, not_false_eq_true, if_true]
        exact h
end

local macro_rules | `(tactic| walk_at "w3") => `(tactic| try simp only [↓x_var0, ↓x_varS, ↓x_c, ↓x_op, ↓x_un, ↓x_cb, ↓x_nil, ↓x_cons, ↓x_test, ↓x_b, ↓x_ex, ↓x_and, ↓x_or, ↓x_not, ↓x_andV, ↓x_orV, ↓x_notV, ↓x_tif, ↓x_chain, ↓x_menu, ↓x_menuI, ↓x_lst, ↓x_tup, ↓x_dnew, ↓x_callW, ↓x_callN, ↓x_seq, ↓x_next, ↓x_ret, ↓x_retN, ↓x_drop, ↓x_ifS, ↓x_asg, ↓x_name, ↓x_raise, ↓x_fld, ↓x_setF, ↓x_meth, ↓x_make, ↓x_sub, ↓r_min, ↓r_max, ↓x_yes, ↓x_for, ↓x_lock, ↓x_keys, ↓x_cut, ↓x_lc, ↓x_rng1, ↓x_rng2, ↓x_lst1, ↓x_itup, ↓x_rng3, ↓x_three, ↓x_lstg, ↓x_tupg, ↓x_adrS, ↓x_one, ↓x_two, ↓x_adr, ↓x_sl, ↓x_np, ↓x_pt, ↓x_int, ↓x_bm, ↓x_bm0, ↓x_consg, ↓x_nilg, ↓x_dget2, ↓x_dget1, ↓x_dget, ↓x_din, ↓x_dni, ↓x_dput, ↓x_dpop2, ↓r_isB, ↓r_notB, ↓x_enum, ↓x_zip, wipe, List.map_cons, List.map_nil, ↓x_isT, ↓r_isiII, ↓r_isiBB, ↓r_isiIB, ↓r_isiSS, ↓r_neNS, ↓r_neSN, ↓r_neNN, ↓r_eqNS, ↓r_eqSN, ↓r_eqNN, ↓r_eqIS, ↓r_neIS, ↓r_neSI, ↓r_neBS, ↓r_eqBB, ↓r_neBB, ↓x_start, ↓x_K, ↓x_start0, ↓r_i0, ↓r_i, ↓r_u, ↓r_addI, ↓r_addS, ↓r_mulI, ↓r_mulS, ↓r_eqI, ↓r_neI, ↓r_eqS, ↓r_neS, ↓r_absI, ↓r_intI, ↓r_intB, List.length_cons, List.length_nil, List.replicate, List.set_cons_zero, List.set_cons_succ, decide_eq_true_eq, Bool.not_eq_true', decide_eq_false_iff_not, if_true, if_false, Bool.false_eq_true, Bool.true_eq_false, ite_true, ite_false, Bool.not_true, Bool.not_false, c_div, n_ten, c_pow, not_true_eq_false, not_false_eq_true, decide_true, decide_false, true_and, and_true, and_self, true_or, or_true, Int.reduceLT, Int.reduceLE, Int.reduceMul, Int.reduceAdd, Int.reduceSub, Int.reducePow, Int.reduceNeg, Int.reduceDiv, Int.reduceMod, Nat.reducePow, Int.reduceToNat, Int.reduceEq, Int.reduceNe, Nat.reduceLT, Nat.reduceLeDiff, Nat.reduceAdd, ↓x_whole, ↓x_kind, Int.natCast_one, Int.natCast_one])
def kinds13 : List Str := ["BadCount", "BadNumber", "BadWord", "NoCell", "NoDeed", "NoHand", "NoName", "NoPlace", "NoRoom", "NoSlot", "NothingHeld", "NoImage", "NoProgram"]
def kindL (c : Str) : List V := kinds13.map fun k => .bl (decide (k = c))
def sp_kinds11 (K : PySem.W.Frag) : Sp := fun vs H Q _ => ∃ a c, vs = [.ref a] ∧ H a = some (ExA (Ex K c) a) ∧ c ∈ (["BadCount", "NoPlace", "NoCell", "NoRoom"] : List Str) ∧ ∀ p H', H p = none → Same H H' → H' p = some (.lst (kindL c)) → Q (.ref p) H'
def sp_told11 (K : PySem.W.Frag) : Sp := fun vs H Q _ => ∃ A : ArA, ∃ ws v s sx b e t z, ∃ fs : V × V × V, vs = [.ref A.a, v, .ref s, z] ∧ H A.a = some (.ins (He.ga K "Areas") A.dx (F_Areas (.ref A.m) fs.1 fs.2.1 fs.2.2)) ∧ MemO K H A.m A.mx A.l ws ∧ Vw ws ∧ SpO K H s sx b e t ∧ Thing H v ∧ Thing H z ∧
  let bad : Str → Prop := fun c => ∀ p H', H p = none → Same H H' → H' p = some (.lst (kindL c ++ [.bl true])) → Q (.ref p) H'
  match headW ws v with
  | .noPlace => bad "NoPlace"
  | .noCell => bad "NoCell"
  | .ok i h => match ageW z with
    | none => bad "BadCount"
    | some a => if (h / 4 + 1 : Nat) ≤ (e : Int) - t then (i + h / 4 < ws.length ∧ e ≤ ws.length ∧ e ≤ 9999 ∧ (i < t ∨ t + h / 4 < i)) ∧
        ∀ H', MemO K H' A.m A.mx A.l (copT ws i t (h / 4) a) → Vw (copT ws i t (h / 4) a) → SpO K H' s sx b e (t + (h / 4 + 1)) → (∀ c o, c ≠ A.l → c ≠ s → H c = some o → H' c = some o) → Q (.int (t : Int)) H'
      else bad "NoRoom"
def sp_words11 (K : PySem.W.Frag) : Sp := fun vs H Q _ => ∃ A : ArA, ∃ ws, ∃ fs : V × V × V, vs = [.ref A.a] ∧ H A.a = some (.ins (He.ga K "Areas") A.dx (F_Areas (.ref A.m) fs.1 fs.2.1 fs.2.2)) ∧ MemO K H A.m A.mx A.l ws ∧ ∀ p H', H p = none → Same H H' → H' p = some (.lst (ws.map V.int)) → Q (.ref p) H'
def sp_word11 (K : PySem.W.Frag) : Sp := fun vs H Q _ => ∃ c p, ∃ ps : List Int, vs = [.int c, .ref p] ∧ H p = some (.lst (ps.map V.int)) ∧ (∀ x ∈ ps, 0 ≤ x ∧ x ≤ 9999) ∧ ps.length ≤ 1000 ∧ ∀ w H', Same H H' → (wordOf w).isSome = true → (∀ x, wordOf w = some (.place x) → x ∈ ps) → Q (.int w) H'
section
variable {P : Program} {w : World} {K : PySem.W.Frag} {mg : Str → Option Value} {base : Heap}
theorem f__law_kinds (T : Tx K mg) : FnH P w K mg base 1 "_law_kinds" ["_law_e"] (sp_kinds11 K) := by
  refine T.mkFnH 38 36 (d := d__law_kinds) (N := ["_law_e", "_law_some"]) (k := 0) rfl rfl rfl rfl rfl sc__law_kinds (fun _ _ _ _ _ _ us hl => match us, hl with | [_], _ => rfl) (fun vs H Q E h => ?len) (fun cdv A outer s H vs Q hr h => ⟨_,
      (pss_cons (ps_set (i := 1) sc__law_kinds.nd rfl (Or.inl rfl) (pe_lst (pa_cons (pe_callB (call_isEK (K := K) rfl) (by rfl) (T.free 56) (by decide +kernel) (pa_cons (pv 0) (pa_cons (pe_clsK (K := K) rfl (T.glo 3) (by rfl)) pa_nil))) (pa_cons (pe_callB (call_isEK (K := K) rfl) (by rfl) (T.free 56) (by decide +kernel) (pa_cons (pv 0) (pa_cons (pe_clsK (K := K) rfl (T.glo 1) (by rfl)) pa_nil))) (pa_cons (pe_callB (call_isEK (K := K) rfl) (by rfl) (T.free 56) (by decide +kernel) (pa_cons (pv 0) (pa_cons (pe_clsK (K := K) rfl (T.glo 2) (by rfl)) pa_nil))) (pa_cons (pe_callB (call_isEK (K := K) rfl) (by rfl) (T.free 56) (by decide +kernel) (pa_cons (pv 0) (pa_cons (pe_clsK (K := K) rfl (T.glo 7) (by rfl)) pa_nil))) pa_nil))))))
        (pss_cons (ps_set (i := 1) sc__law_kinds.nd rfl (Or.inl rfl) (pe_op op_gAdd (pv 1) (pe_lst (pa_cons (pe_callB (call_isEK (K := K) rfl) (by rfl) (T.free 56) (by decide +kernel) (pa_cons (pv 0) (pa_cons (pe_clsK (K := K) rfl (T.glo 11) (by rfl)) pa_nil))) (pa_cons (pe_callB (call_isEK (K := K) rfl) (by rfl) (T.free 56) (by decide +kernel) (pa_cons (pv 0) (pa_cons (pe_clsK (K := K) rfl (T.glo 8) (by rfl)) pa_nil))) (pa_cons (pe_callB (call_isEK (K := K) rfl) (by rfl) (T.free 56) (by decide +kernel) (pa_cons (pv 0) (pa_cons (pe_clsK (K := K) rfl (T.glo 10) (by rfl)) pa_nil))) (pa_cons (pe_callB (call_isEK (K := K) rfl) (by rfl) (T.free 56) (by decide +kernel) (pa_cons (pv 0) (pa_cons (pe_clsK (K := K) rfl (T.glo 4) (by rfl)) pa_nil))) pa_nil)))))))
        (pss_cons (ps_set (i := 1) sc__law_kinds.nd rfl (Or.inl rfl) (pe_op op_gAdd (pv 1) (pe_lst (pa_cons (pe_callB (call_isEK (K := K) rfl) (by rfl) (T.free 56) (by decide +kernel) (pa_cons (pv 0) (pa_cons (pe_clsK (K := K) rfl (T.glo 5) (by rfl)) pa_nil))) (pa_cons (pe_callB (call_isEK (K := K) rfl) (by rfl) (T.free 56) (by decide +kernel) (pa_cons (pv 0) (pa_cons (pe_clsK (K := K) rfl (T.glo 6) (by rfl)) pa_nil))) (pa_cons (pe_callB (call_isEK (K := K) rfl) (by rfl) (T.free 56) (by decide +kernel) (pa_cons (pv 0) (pa_cons (pe_clsK (K := K) rfl (T.glo 9) (by rfl)) pa_nil))) pa_nil))))))
        (pss_one (ps_ret (pe_op op_gAdd (pv 1) (pe_lst (pa_cons (pe_callB (call_isEK (K := K) rfl) (by rfl) (T.free 56) (by decide +kernel) (pa_cons (pv 0) (pa_cons (pe_clsK (K := K) rfl (T.glo 12) (by rfl)) pa_nil))) (pa_cons (pe_callB (call_isEK (K := K) rfl) (by rfl) (T.free 56) (by decide +kernel) (pa_cons (pv 0) (pa_cons (pe_clsK (K := K) rfl (T.glo 13) (by rfl)) pa_nil))) pa_nil))))))))), ?rd⟩)
  case len => obtain ⟨a, c, rfl, _⟩ := h; rfl
  case rd =>
    obtain ⟨a, c, rfl, ha, hc, q⟩ := h
    have sz : 100 ≤ sizeLine := by rw [sizeLine_eq]; omega
    have isK : ∀ {H' : Hp} {k : Str} {Q' : VK}, k ∈ kinds13 → Same H H' → Q' (.bl (decide (k = c))) H' → gIsE K [.ref a, .ref (He.ga K k)] H' Q' := by
      intro H' k Q' hk s qq
      have ha' := s _ _ ha
      simp only [kinds13, List.mem_cons, List.not_mem_nil, or_false] at hk hc
      rcases hc with rfl | rfl | rfl | rfl <;> rcases hk with rfl | rfl | rfl | rfl | rfl | rfl | rfl | rfl | rfl | rfl | rfl | rfl | rfl <;> first
        | (rw [decide_eq_true rfl] at qq; exact T.isY ha' (by decide +kernel) (by decide +kernel) (by decide +kernel) qq)
        | (rw [decide_eq_false (by decide +kernel)] at qq; exact T.isN ha' (by decide +kernel) (by decide +kernel) (by decide +kernel) qq)
    walk_at "w3"
    refine isK (by decide +kernel) (Same.refl _) (isK (by decide +kernel) (Same.refl _) (isK (by decide +kernel) (Same.refl _) (isK (by decide +kernel) (Same.refl _) ⟨by omega, fun p1 n1 => ?_⟩)))
    let kb : Str → V := fun k => .bl (decide (k = c))
    have s1 : Same H (upd H p1 (.lst [kb "BadCount", kb "BadNumber", kb "BadWord", kb "NoCell"])) := same_new n1
    have h1 : upd H p1 (.lst [kb "BadCount", kb "BadNumber", kb "BadWord", kb "NoCell"]) p1 = some (.lst [kb "BadCount", kb "BadNumber", kb "BadWord", kb "NoCell"]) := upd_same
    show gIsE K _ (upd H p1 (.lst [kb "BadCount", kb "BadNumber", kb "BadWord", kb "NoCell"])) _
    generalize upd H p1 (.lst [kb "BadCount", kb "BadNumber", kb "BadWord", kb "NoCell"]) = H1 at s1 h1 ⊢
    refine isK (by decide +kernel) s1 (isK (by decide +kernel) s1 (isK (by decide +kernel) s1 (isK (by decide +kernel) s1 ⟨by omega, fun p2 n2 => ?_⟩)))
    have s2 : Same H1 (upd H1 p2 (.lst [kb "NoDeed", kb "NoHand", kb "NoName", kb "NoPlace"])) := same_new n2
    have h2 : upd H1 p2 (.lst [kb "NoDeed", kb "NoHand", kb "NoName", kb "NoPlace"]) p2 = some (.lst [kb "NoDeed", kb "NoHand", kb "NoName", kb "NoPlace"]) := upd_same
    show gAdd _ _ (upd H1 p2 (.lst [kb "NoDeed", kb "NoHand", kb "NoName", kb "NoPlace"])) _
    have h12 := s2 _ _ h1
    generalize upd H1 p2 (.lst [kb "NoDeed", kb "NoHand", kb "NoName", kb "NoPlace"]) = H2 at s2 h2 h12 ⊢
    have s02 := s1.trans s2
    refine ⟨_, _, h12, h2, by show 4 + 4 ≤ sizeLine; omega, fun p3 n3 => ?_⟩
    have s3 : Same H2 (upd H2 p3 (.lst ([kb "BadCount", kb "BadNumber", kb "BadWord", kb "NoCell"] ++ [kb "NoDeed", kb "NoHand", kb "NoName", kb "NoPlace"]))) := same_new n3
    have h3 : upd H2 p3 (.lst ([kb "BadCount", kb "BadNumber", kb "BadWord", kb "NoCell"] ++ [kb "NoDeed", kb "NoHand", kb "NoName", kb "NoPlace"])) p3 = some (.lst ([kb "BadCount", kb "BadNumber", kb "BadWord", kb "NoCell"] ++ [kb "NoDeed", kb "NoHand", kb "NoName", kb "NoPlace"])) := upd_same
    have s03 := s02.trans s3
    generalize upd H2 p3 (.lst ([kb "BadCount", kb "BadNumber", kb "BadWord", kb "NoCell"] ++ [kb "NoDeed", kb "NoHand", kb "NoName", kb "NoPlace"])) = H3 at s03 h3 ⊢
    refine isK (by decide +kernel) s03 (isK (by decide +kernel) s03 (isK (by decide +kernel) s03 ⟨by omega, fun p4 n4 => ?_⟩))
    have s4 : Same H3 (upd H3 p4 (.lst [kb "NoRoom", kb "NoSlot", kb "NothingHeld"])) := same_new n4
    have h4 : upd H3 p4 (.lst [kb "NoRoom", kb "NoSlot", kb "NothingHeld"]) p4 = some (.lst [kb "NoRoom", kb "NoSlot", kb "NothingHeld"]) := upd_same
    show gAdd _ _ (upd H3 p4 (.lst [kb "NoRoom", kb "NoSlot", kb "NothingHeld"])) _
    have h34 := s4 _ _ h3
    have s04 := s03.trans s4
    generalize upd H3 p4 (.lst [kb "NoRoom", kb "NoSlot", kb "NothingHeld"]) = H4 at s04 h4 h34 ⊢
    refine ⟨_, _, h34, h4, by show 8 + 3 ≤ sizeLine; omega, fun p5 n5 => ?_⟩
    have s5 := same_new (o := .lst ([kb "BadCount", kb "BadNumber", kb "BadWord", kb "NoCell"] ++ [kb "NoDeed", kb "NoHand", kb "NoName", kb "NoPlace"] ++ [kb "NoRoom", kb "NoSlot", kb "NothingHeld"])) n5
    have h5 : upd H4 p5 (.lst ([kb "BadCount", kb "BadNumber", kb "BadWord", kb "NoCell"] ++ [kb "NoDeed", kb "NoHand", kb "NoName", kb "NoPlace"] ++ [kb "NoRoom", kb "NoSlot", kb "NothingHeld"])) p5 = some (.lst ([kb "BadCount", kb "BadNumber", kb "BadWord", kb "NoCell"] ++ [kb "NoDeed", kb "NoHand", kb "NoName", kb "NoPlace"] ++ [kb "NoRoom", kb "NoSlot", kb "NothingHeld"])) := upd_same
    have s05 := s04.trans s5
    generalize upd H4 p5 (.lst ([kb "BadCount", kb "BadNumber", kb "BadWord", kb "NoCell"] ++ [kb "NoDeed", kb "NoHand", kb "NoName", kb "NoPlace"] ++ [kb "NoRoom", kb "NoSlot", kb "NothingHeld"])) = H5 at s05 h5 ⊢
    refine isK (by decide +kernel) s05 (isK (by decide +kernel) s05 ⟨by omega, fun p6 n6 => ?_⟩)
    have s6 : Same H5 (upd H5 p6 (.lst [kb "NoImage", kb "NoProgram"])) := same_new n6
    have h6 : upd H5 p6 (.lst [kb "NoImage", kb "NoProgram"]) p6 = some (.lst [kb "NoImage", kb "NoProgram"]) := upd_same
    show gAdd _ _ (upd H5 p6 (.lst [kb "NoImage", kb "NoProgram"])) _
    have h56 := s6 _ _ h5
    have s06 := s05.trans s6
    generalize upd H5 p6 (.lst [kb "NoImage", kb "NoProgram"]) = H6 at s06 h6 h56 ⊢
    refine ⟨_, _, h56, h6, by show 11 + 2 ≤ sizeLine; omega, fun p7 n7 => ?_⟩
    exact q p7 _ (none_of s06 n7) (s06.trans (same_new n7)) upd_same
theorem f__law_told (T : Tx K mg) : Fn P w K mg base 8 "_law_told" ["_law_areas", "_law_at_here", "_law_space", "_law_age"] (sp_told11 K) := by
  have c_copied := f_copied (P := P) (w := w) (base := base) T
  have c__law_kinds := f__law_kinds (P := P) (w := w) (base := base) T
  refine T.mkFn 39 37 (d := d__law_told) (N := ["_law_areas", "_law_at_here", "_law_space", "_law_age", "_law_e"]) (k := 7) rfl rfl rfl rfl rfl sc__law_told (fun _ _ _ _ _ _ us hl => match us, hl with | [_, _, _, _], _ => rfl) (fun vs H Q E h => ?len) (fun cdv A outer s H vs Q E hr h => ⟨_,
      (pss_one (ps_tryT (i := 4) rfl rfl rfl sc__law_told.nd rfl rfl ⟨by rfl, by decide, Or.inl (T.glo 0)⟩ (takes_of rfl rfl rfl rfl) (fun W pn xe tk po => (pss_one (ps_ret (pe_fn tk c_copied (hr.mono (by decide)) (by rfl) (pa_cons (pe_fldC (T.cls 99) (T.noat 105) (pv 0)) (pa_cons (pv 1) (pa_cons (pv 2) (pa_cons (pv 3) pa_nil)))))))) (fun a pn => (pss_one (ps_ret (pe_op op_gAdd (pe_fnH c__law_kinds (roomN_mark (hr.mono (by decide))) (by rfl) (pa_cons (pv 4) pa_nil)) (pe_lst (pa_cons (pe_callB (call_isEK (K := K) rfl) (by rfl) (T.free 56) (by decide +kernel) (pa_cons (pv 4) (pa_cons (pe_ty (T := "ValueError") (T.free 63) (by decide +kernel) (by rfl)) pa_nil))) pa_nil)))))))), ?rd⟩)
  case len => obtain ⟨_, _, _, _, _, _, _, _, _, _, rfl, _⟩ := h; rfl
  case rd =>
    obtain ⟨A, ws, v, s, sx, b, e, t, z, fs, rfl, hA, M, vw, sp, th, tz, h⟩ := h
    have sz : 100 ≤ sizeLine := by rw [sizeLine_eq]; omega
    walk_at "w3"
    have bad : ∀ c : Str, c ∈ (["BadCount", "NoPlace", "NoCell", "NoRoom"] : List Str) → (∀ p H', H p = none → Same H H' → H' p = some (.lst (kindL c ++ [.bl true])) → Q (.ref p) H') →
        wTr K (.ref (He.ga K "KeepError")) 4 (tRet (tOp gAdd (G.tCallN (sp_kinds11 K) (tCons (tVar 4) tNil)) (tLst (tCons (tCB (gIsE K) (tCons (tVar 4) (tCons (tC (V.ty "ValueError")) tNil))) tNil)))) (fun cls d x H => E cls d H) { nx := fun x H' => Q V.non H', rt := Q } (.ref (He.ga K c)) none [some (.ref A.a), some v, some (.ref s), some z, none] H := by
      intro c hc qq
      have hc' := hc
      simp only [List.mem_cons, List.not_mem_nil, or_false] at hc'
      have go : ∀ a, H a = none → (tRet (tOp gAdd (G.tCallN (sp_kinds11 K) (tCons (tVar 4) tNil)) (tLst (tCons (tCB (gIsE K) (tCons (tVar 4) (tCons (tC (V.ty "ValueError")) tNil))) tNil)))) { nx := fun x H' => Q V.non H', rt := Q } [some (.ref A.a), some v, some (.ref s), some z, some (.ref a)] (upd H a (ExA (Ex K c) a)) := fun a ha => by
        walk_at "w3"
        have sa := same_new (o := ExA (Ex K c) a) ha
        refine ⟨a, c, rfl, upd_same, hc, fun p H1 np s1 hp => ?_⟩
        have ea := s1 _ _ (upd_same : upd H a (ExA (Ex K c) a) a = some (ExA (Ex K c) a))
        refine T.isV ea (by rcases hc' with rfl | rfl | rfl | rfl <;> decide +kernel) ?_
        refine ⟨by omega, fun p2 np2 => ?_⟩
        have s2 := same_new (o := .lst [.bl true]) np2
        refine ⟨_, _, s2 _ _ hp, upd_same, by unfold kindL; rw [List.length_map]; show 13 + 1 ≤ sizeLine; omega, fun p3 np3 => ?_⟩
        have s02 := (sa.trans s1).trans s2
        exact qq p3 _ (none_of s02 np3) (s02.trans (same_new np3)) upd_same
      rcases hc' with rfl | rfl | rfl | rfl <;> exact T.caught (by decide +kernel) (by decide +kernel) (by decide +kernel) fun a ha => go a ha
    refine ⟨_, fldIs hA, A.m, A.mx, A.l, ws, v, s, sx, b, e, t, z, rfl, M, vw, sp, th, tz, ?_⟩
    cases eh : headW ws v with
    | noPlace =>
      rw [eh] at h
      exact bad "NoPlace" (by decide +kernel) h
    | noCell =>
      rw [eh] at h
      exact bad "NoCell" (by decide +kernel) h
    | ok i k =>
      rw [eh] at h
      dsimp only at h ⊢
      cases ez : ageW z with
      | none =>
        rw [ez] at h
        exact bad "BadCount" (by decide +kernel) h
      | some a =>
        rw [ez] at h
        dsimp only at h ⊢
        by_cases fit : ((k / 4 + 1 : Nat) : Int) ≤ (e : Int) - t
        · rw [if_pos fit] at h ⊢
          exact h
        · rw [if_neg fit] at h ⊢
          exact bad "NoRoom" (by decide +kernel) h
theorem f__law_words (T : Tx K mg) : Fn P w K mg base 4 "_law_words" ["_law_areas"] (sp_words11 K) := by
  have c_Memory_read := f_Memory_read (P := P) (w := w) (base := base) T
  refine T.mkFn 42 40 (d := d__law_words) (N := ["_law_areas", "_law_at_here"]) (k := 3) rfl rfl rfl rfl rfl sc__law_words (fun _ _ _ _ _ _ us hl => match us, hl with | [_], _ => rfl) (fun vs H Q E h => ?len) (fun cdv A outer s H vs Q E hr h => ⟨_,
      (pss_one (ps_ret (pe_lc (own := [("_law_at_here", 1)]) (g := gName 1) rfl sc__law_words.nd (pi_range1 rfl (T.free 59) (pa_cons (pe_fldC (T.cls 78) (T.noat 85) (pe_fldC (T.cls 99) (T.noat 105) (pv 0))) pa_nil)) (blkOk_by (own := [("_law_at_here", 1)]) (N := ["_law_areas", "_law_at_here"]) (sc := defScope s__law_words) (by decide +kernel)) (fun _ _ _ _ _ => (pg_name (i := 1) sc__law_words.nd rfl (Or.inl rfl))) (fun _ _ _ _ _ => pts_nil) (fun _ _ _ _ _ => (pe_mt (K := K) rfl takes0 (pe_fldC (T.cls 99) (T.noat 105) (pv 0)) c_Memory_read (hr.mono (by decide)) (pa_cons (pv 1) pa_nil)))))), ?rd⟩)
  case len => obtain ⟨_, _, _, rfl, _⟩ := h; rfl
  case rd =>
    obtain ⟨A, ws, fs, rfl, hA, M, q⟩ := h
    have sz : 10000 ≤ sizeLine := by rw [sizeLine_eq]; omega
    have hs := M.sz
    walk_at "w3"
    refine ⟨_, fldIs hA, _, fldIs M.ob, _, rfl, by omega, by omega, fun D hD => ?_⟩
    rw [Int.toNat_natCast]
    refine lc_mapR (fun i => .int (ws.getD i 0)) (fun _ => rfl) (by omega) (fun i hi acc Q2 q2 => ?_) ?_
    · have sx := same_new (o := .lst acc) hD
      have M5 := M.same sx
      walk_at "w3"
      refine ⟨_, fldIs (sx _ _ hA), recv M5.ob, A.m, A.mx, A.l, ws, _, rfl, M5, .inl ⟨_, rfl⟩, ?_⟩
      have ei : (0 : Int) + (i : Int) = (i : Int) := by omega
      rw [ei, placeOf_int, if_pos ⟨by omega, by omega⟩, Int.toNat_natCast]
      exact q2
    · rw [show (List.range ws.length).map (fun i => V.int (ws.getD i 0)) = ws.map V.int from by
        rw [show (fun i => V.int (ws.getD i 0)) = V.int ∘ (fun i => ws.getD i 0) from rfl, ← List.map_map, getD_rangeI]]
      exact q D _ hD (same_new hD) upd_same
theorem f__law_word (T : Tx K mg) : Fn P w K mg base 3 "_law_word" ["_law_cell", "_law_places"] (sp_word11 K) := by
  have c_number_word := f_number_word (P := P) (w := w) (base := base) T
  have c_place_word := f_place_word (P := P) (w := w) (base := base) T
  refine T.mkFn 40 38 (d := d__law_word) (N := ["_law_cell", "_law_places"]) (k := 2) rfl rfl rfl rfl rfl sc__law_word (fun _ _ _ _ _ _ us hl => match us, hl with | [_, _], _ => rfl) (fun vs H Q E h => ?len) (fun cdv A outer s H vs Q E hr h => ⟨_,
      (pss_cons (ps_if (pt_cmpR (op_eqK (K := K) rfl hr.units) (pe_op op_mod (pv 0) pe_int) pe_int (nomark _)) (pss_one (ps_ret (pe_fn (takes_of rfl rfl rfl rfl) c_number_word (hr.mono (by decide)) (by rfl) (pa_cons (pe_op op_sub (pe_op op_mod (pe_op op_fdiv (pv 0) pe_int) (pe_op op_gAdd (pe_op op_gMul pe_int (pe_op op_pow pe_int pe_int)) pe_int)) (pe_op op_pow pe_int pe_int)) pa_nil)))) pss_nil)
        (pss_cons (ps_if (PW.pt (pw_or (pt_cmpR (op_eqK (K := K) rfl hr.units) (pe_op op_mod (pv 0) pe_int) pe_int (nomark _)) (pw_or1 (pt_cmpR (op_eqK (K := K) rfl hr.units) (pv 1) (pe_lst pa_nil) (nomark _))))) (pss_one (ps_ret (pe_num (T.num 48) (by rfl)))) pss_nil)
        (pss_one (ps_ret (pe_fn (takes_of rfl rfl rfl rfl) c_place_word (hr.mono (by decide)) (by rfl) (pa_cons (pe_ix (ix_seqK (K := K) rfl) (pv 1) (pe_op op_mod (pe_op op_fdiv (pv 0) pe_int) (pe_callB (call_lenK (K := K) rfl) (by rfl) (T.free 57) PySem.boot_len (pa_cons (pv 1) pa_nil))) (fun _ _ => rfl)) pa_nil)))))), ?rd⟩)
  case len => obtain ⟨_, _, _, rfl, _⟩ := h; rfl
  case rd =>
    obtain ⟨c, p, ps, rfl, hp, hps, hl, q⟩ := h
    have sz : 10000 ≤ sizeLine := by rw [sizeLine_eq]; omega
    walk_at "w3"
    split
    · rw [x_number_word, if_pos (by omega)]
      exact q _ _ (Same.refl _) (by rw [word_num (by omega)]; rfl) fun x e => by rw [word_num (by omega)] at e; cases e
    split
    · exact q _ _ (Same.refl _) rfl fun x e => by cases e
    refine ⟨by omega, fun p1 np1 => ?_⟩
    have s1 := same_new (o := .lst []) np1
    refine r_eqNil (s1 _ _ hp) upd_same ?_
    by_cases e0 : ps = []
    · rw [decide_eq_true e0]
      walk_at "w3"
      exact q _ _ s1 rfl fun x e => by cases e
    · rw [decide_eq_false e0]
      walk_at "w3"
      refine r_lenL (s1 _ _ hp) ?_
      rw [List.length_map]
      walk_at "w3"
      have pl : 0 < ps.length := List.length_pos_iff.mpr e0
      have m0 := Int.emod_nonneg (c / 4) (show (ps.length : Int) ≠ 0 by omega)
      have m1 := Int.emod_lt_of_pos (c / 4) (show (0 : Int) < (ps.length : Int) by omega)
      obtain ⟨o, eo⟩ := Int.eq_ofNat_of_zero_le m0
      rw [eo] at m1 ⊢
      have ho : o < ps.length := by omega
      refine ⟨by omega, r_ixL (s1 _ _ hp) (by rw [List.getElem?_map, List.getElem?_eq_getElem ho]; rfl) ?_⟩
      have hb := hps _ (List.getElem_mem ho)
      rw [x_place_word, if_pos hb]
      exact q _ _ s1 (by rw [word_place hb.1 hb.2]; rfl) fun x e => by
        rw [word_place hb.1 hb.2] at e
        cases e
        exact List.getElem_mem ho
end

local macro_rules | `(tactic| walk_at "w3") => `(tactic| try simp only [↓x_var0, ↓x_varS, ↓x_c, ↓x_op, ↓x_un, ↓x_cb, ↓x_nil, ↓x_cons, ↓x_test, ↓x_b, ↓x_ex, ↓x_and, ↓x_or, ↓x_not, ↓x_andV, ↓x_orV, ↓x_notV, ↓x_tif, ↓x_chain, ↓x_menu, ↓x_menuI, ↓x_lst, ↓x_tup, ↓x_dnew, ↓x_callW, ↓x_callN, ↓x_seq, ↓x_next, ↓x_ret, ↓x_retN, ↓x_drop, ↓x_ifS, ↓x_asg, ↓x_name, ↓x_raise, ↓x_fld, ↓x_setF, ↓x_meth, ↓x_make, ↓x_sub, ↓r_min, ↓r_max, ↓x_yes, ↓x_for, ↓x_lock, ↓x_keys, ↓x_cut, ↓x_lc, ↓x_rng1, ↓x_rng2, ↓x_lst1, ↓x_itup, ↓x_rng3, ↓x_three, ↓x_lstg, ↓x_tupg, ↓x_adrS, ↓x_one, ↓x_two, ↓x_adr, ↓x_sl, ↓x_np, ↓x_pt, ↓x_int, ↓x_bm, ↓x_bm0, ↓x_consg, ↓x_nilg, ↓x_dget2, ↓x_dget1, ↓x_dget, ↓x_din, ↓x_dni, ↓x_dput, ↓x_dpop2, ↓r_isB, ↓r_notB, ↓x_enum, ↓x_zip, wipe, List.map_cons, List.map_nil, ↓x_isT, ↓r_isiII, ↓r_isiBB, ↓r_isiIB, ↓r_isiSS, ↓r_neNS, ↓r_neSN, ↓r_neNN, ↓r_eqNS, ↓r_eqSN, ↓r_eqNN, ↓r_eqIS, ↓r_neIS, ↓r_neSI, ↓r_neBS, ↓r_eqBB, ↓r_neBB, ↓x_start, ↓x_K, ↓x_start0, ↓r_i0, ↓r_i, ↓r_u, ↓r_addI, ↓r_addS, ↓r_mulI, ↓r_mulS, ↓r_eqI, ↓r_neI, ↓r_eqS, ↓r_neS, ↓r_absI, ↓r_intI, ↓r_intB, List.length_cons, List.length_nil, List.replicate, List.set_cons_zero, List.set_cons_succ, decide_eq_true_eq, Bool.not_eq_true', decide_eq_false_iff_not, if_true, if_false, Bool.false_eq_true, Bool.true_eq_false, ite_true, ite_false, Bool.not_true, Bool.not_false, c_div, n_ten, c_pow, not_true_eq_false, not_false_eq_true, decide_true, decide_false, true_and, and_true, and_self, true_or, or_true, Int.reduceLT, Int.reduceLE, Int.reduceMul, Int.reduceAdd, Int.reduceSub, Int.reducePow, Int.reduceNeg, Int.reduceDiv, Int.reduceMod, Nat.reducePow, Int.reduceToNat, Int.reduceEq, Int.reduceNe, Nat.reduceLT, Nat.reduceLeDiff, Nat.reduceAdd, ↓x_whole, ↓x_kind, Int.natCast_one, Int.natCast_one, Int.natCast_one])
def due11 (ws : List Int) (e t i : Nat) (z : V) (f : Bool) : Int := if f then 3 else match ageW z with
  | none => 0
  | some _ => match headW ws (.int (i : Int)) with
    | .ok _ h => if ((h / 4 + 1 : Nat) : Int) ≤ (e : Int) - t then -1 else 8
    | _ => 8
def sp_due11 (K : PySem.W.Frag) : Sp := fun vs H Q _ => ∃ A : ArA, ∃ ws s sx b e t, ∃ i : Nat, ∃ z f, ∃ fs : V × V × V, vs = [.ref A.a, .int i, .ref s, z, .bl f] ∧ H A.a = some (.ins (He.ga K "Areas") A.dx (F_Areas (.ref A.m) fs.1 fs.2.1 fs.2.2)) ∧ MemO K H A.m A.mx A.l ws ∧ Vw ws ∧ SpO K H s sx b e t ∧ Thing H z ∧
  (f = false → ∃ h, headW ws (.int (i : Int)) = .ok i h) ∧ Q (.int (due11 ws e t i z f)) H
section
variable {P : Program} {w : World} {K : PySem.W.Frag} {mg : Str → Option Value} {base : Heap}
theorem f__law_due (T : Tx K mg) : Fn P w K mg base 6 "_law_due" ["_law_areas", "_law_at_here", "_law_space", "_law_age", "_law_is_sent"] (sp_due11 K) := by
  have c__law_whole := f__law_whole (P := P) (w := w) (base := base) T
  have c_slots_of := f_slots_of (P := P) (w := w) (base := base) T
  refine T.mkFn 43 41 (d := d__law_due) (N := ["_law_areas", "_law_at_here", "_law_space", "_law_age", "_law_is_sent"]) (k := 5) rfl rfl rfl rfl rfl sc__law_due (fun _ _ _ _ _ _ us hl => match us, hl with | [_, _, _, _, _], _ => rfl) (fun vs H Q E h => ?len) (fun cdv A outer s H vs Q E hr h => ⟨_,
      (pss_cons (ps_if (pt_val (pv 4)) (pss_one (ps_ret pe_int)) pss_nil)
        (pss_cons (ps_if (PW.pt (pw_or (pt_not (pt_val (pe_fnH c__law_whole (roomN_of (hr.mono (by decide))) (by rfl) (pa_cons (pv 3) pa_nil)))) (pw_or1 (pt_not (pt_chain op_le op_le pe_int (pv 3) pe_int))))) (pss_one (ps_ret pe_int)) pss_nil)
        (pss_cons (ps_if (pt_cmpR op_gt (pe_op op_gAdd (pe_fn (takes_of rfl rfl rfl rfl) c_slots_of (hr.mono (by decide)) (by rfl) (pa_cons (pe_fldC (T.cls 99) (T.noat 105) (pv 0)) (pa_cons (pv 1) pa_nil))) pe_int) (pe_op op_sub (pe_fldC (T.cls 87) (T.noat 97) (pv 2)) (pe_fldC (T.cls 87) (T.noat 98) (pv 2))) (nomark _)) (pss_one (ps_ret pe_int)) pss_nil)
        (pss_one (ps_ret (pe_un un_neg pe_int)))))), ?rd⟩)
  case len => obtain ⟨_, _, _, _, _, _, _, _, _, _, _, rfl, _⟩ := h; rfl
  case rd =>
    obtain ⟨A, ws, s, sx, b, e, t, i, z, f, fs, rfl, hA, M, vw, sp, tz, hh, q⟩ := h
    walk_at "w3"
    unfold due11 at q
    cases f with
    | true =>
      walk_at "w3"
      exact q
    | false =>
      obtain ⟨k, ek⟩ := hh rfl
      rw [if_neg Bool.false_ne_true] at q
      walk_at "w3"
      rcases tz with ⟨n, rfl⟩ | o
      · walk_at "w3"
        rw [ageW_int] at q
        split
        · split
          · rw [if_neg (by omega)] at q
            exact q
          · rw [if_pos (by omega)] at q
            dsimp only at q
            rw [ek] at q
            dsimp only at q
            refine ⟨_, fldIs hA, A.m, A.mx, A.l, ws, _, rfl, M, vw, .inl ⟨_, rfl⟩, ?_⟩
            rw [ek]
            dsimp only
            walk_at "w3"
            refine ⟨_, fldIs sp, _, fldIs sp, ?_⟩
            walk_at "w3"
            split
            · rw [if_neg (by omega)] at q
              exact q
            · rw [if_pos (by omega)] at q
              exact q
        · rw [if_neg (by omega)] at q
          exact q
      · rw [odd_whole o]
        rw [ageW_odd o] at q
        walk_at "w3"
        exact q
end

local macro_rules | `(tactic| walk_at "w3") => `(tactic| try simp only [↓x_var0, ↓x_varS, ↓x_c, ↓x_op, ↓x_un, ↓x_cb, ↓x_nil, ↓x_cons, ↓x_test, ↓x_b, ↓x_ex, ↓x_and, ↓x_or, ↓x_not, ↓x_andV, ↓x_orV, ↓x_notV, ↓x_tif, ↓x_chain, ↓x_menu, ↓x_menuI, ↓x_lst, ↓x_tup, ↓x_dnew, ↓x_callW, ↓x_callN, ↓x_seq, ↓x_next, ↓x_ret, ↓x_retN, ↓x_drop, ↓x_ifS, ↓x_asg, ↓x_name, ↓x_raise, ↓x_fld, ↓x_setF, ↓x_meth, ↓x_make, ↓x_sub, ↓r_min, ↓r_max, ↓x_yes, ↓x_for, ↓x_lock, ↓x_keys, ↓x_cut, ↓x_lc, ↓x_rng1, ↓x_rng2, ↓x_lst1, ↓x_itup, ↓x_rng3, ↓x_three, ↓x_lstg, ↓x_tupg, ↓x_adrS, ↓x_one, ↓x_two, ↓x_adr, ↓x_sl, ↓x_np, ↓x_pt, ↓x_int, ↓x_bm, ↓x_bm0, ↓x_consg, ↓x_nilg, ↓x_dget2, ↓x_dget1, ↓x_dget, ↓x_din, ↓x_dni, ↓x_dput, ↓x_dpop2, ↓r_isB, ↓r_notB, ↓x_enum, ↓x_zip, wipe, List.map_cons, List.map_nil, ↓x_isT, ↓r_isiII, ↓r_isiBB, ↓r_isiIB, ↓r_isiSS, ↓r_neNS, ↓r_neSN, ↓r_neNN, ↓r_eqNS, ↓r_eqSN, ↓r_eqNN, ↓r_eqIS, ↓r_neIS, ↓r_neSI, ↓r_neBS, ↓r_eqBB, ↓r_neBB, ↓x_start, ↓x_K, ↓x_start0, ↓r_i0, ↓r_i, ↓r_u, ↓r_addI, ↓r_addS, ↓r_mulI, ↓r_mulS, ↓r_eqI, ↓r_neI, ↓r_eqS, ↓r_neS, ↓r_absI, ↓r_intI, ↓r_intB, List.length_cons, List.length_nil, List.replicate, List.set_cons_zero, List.set_cons_succ, decide_eq_true_eq, Bool.not_eq_true', decide_eq_false_iff_not, if_true, if_false, Bool.false_eq_true, Bool.true_eq_false, ite_true, ite_false, Bool.not_true, Bool.not_false, c_div, n_ten, c_pow, not_true_eq_false, not_false_eq_true, decide_true, decide_false, true_and, and_true, and_self, true_or, or_true, Int.reduceLT, Int.reduceLE, Int.reduceMul, Int.reduceAdd, Int.reduceSub, Int.reducePow, Int.reduceNeg, Int.reduceDiv, Int.reduceMod, Nat.reducePow, Int.reduceToNat, Int.reduceEq, Int.reduceNe, Nat.reduceLT, Nat.reduceLeDiff, Nat.reduceAdd, ↓x_whole, ↓x_kind, Int.natCast_one, Int.natCast_one, Int.natCast_one, Int.natCast_one])
def sp_stands11 (K : PySem.W.Frag) : Sp := fun vs H Q _ => ∃ A : ArA, ∃ ws bf, ∃ i t a k : Nat, ∃ fs : V × V × V, vs = [.ref A.a, .ref bf, .int i, .int t, .int a] ∧ H A.a = some (.ins (He.ga K "Areas") A.dx (F_Areas (.ref A.m) fs.1 fs.2.1 fs.2.2)) ∧
  MemO K H A.m A.mx A.l (copT ws i t (k / 4) a) ∧ Vw (copT ws i t (k / 4) a) ∧ H bf = some (.lst (ws.map V.int)) ∧ headW ws (.int (i : Int)) = .ok i k ∧ i + k / 4 < ws.length ∧ t + k / 4 < ws.length ∧ a ≤ 2 ∧ t ≤ 9999 ∧ i ≤ 9999 ∧ (i < t ∨ t + k / 4 < i) ∧ ∀ H', Same H H' → Q (.bl true) H'
section
variable {P : Program} {w : World} {K : PySem.W.Frag} {mg : Str → Option Value} {base : Heap}
theorem f__law_stands (T : Tx K mg) : Fn P w K mg base 7 "_law_stands" ["_law_areas", "_law_before", "_law_at_here", "_law_goal", "_law_age"] (sp_stands11 K) := by
  have c_number_word := f_number_word (P := P) (w := w) (base := base) T
  have c_place_word := f_place_word (P := P) (w := w) (base := base) T
  have c_sent_to := f_sent_to (P := P) (w := w) (base := base) T
  have c__law_words := f__law_words (P := P) (w := w) (base := base) T
  have c_age_of := f_age_of (P := P) (w := w) (base := base) T
  have c_slots_of := f_slots_of (P := P) (w := w) (base := base) T
  have c_moved := f_moved (P := P) (w := w) (base := base) T
  refine T.mkFn 44 42 (d := d__law_stands) (N := ["_law_areas", "_law_before", "_law_at_here", "_law_goal", "_law_age", "_law_many", "_law_due_here", "_law_k"]) (k := 6) rfl rfl rfl rfl rfl sc__law_stands (fun _ _ _ _ _ _ us hl => match us, hl with | [_, _, _, _, _], _ => rfl) (fun vs H Q E h => ?len) (fun cdv A outer s H vs Q E hr h => ⟨_,
      (pss_cons (ps_set (i := 5) sc__law_stands.nd rfl (Or.inl rfl) (pe_op op_gAdd (pe_op op_fdiv (pe_ix (ix_seqK (K := K) rfl) (pv 1) (pv 2) (fun _ _ => rfl)) pe_int) pe_int))
        (pss_cons (ps_set (i := 6) sc__law_stands.nd rfl (Or.inl rfl) (pe_callTy (call_listK (K := K) rfl) (by rfl) (T.free 62) (by decide +kernel) (pa_cons (pv 1) pa_nil)))
        (pss_cons (ps_for (passes_of rfl) rfl (pi_range1 rfl (T.free 59) (pa_cons (pv 5) pa_nil)) (pg_name (i := 7) sc__law_stands.nd rfl (Or.inl rfl)) (pss_one (ps_asg (pe_ix (ix_seqK (K := K) rfl) (pv 1) (pe_op op_gAdd (pv 2) (pv 7)) (fun _ _ => rfl)) (pg_sub (pv 6) (pe_op op_gAdd (pv 3) (pv 7)) set_list))))
        (pss_cons (ps_asg (pe_fn (takes_of rfl rfl rfl rfl) c_number_word (hr.mono (by decide)) (by rfl) (pa_cons (pe_op op_gAdd (pe_op op_gMul pe_int (pe_op op_sub (pv 5) pe_int)) (pv 4)) pa_nil)) (pg_sub (pv 6) (pv 3) set_list))
        (pss_cons (ps_asg (pe_fn (takes_of rfl rfl rfl rfl) c_place_word (hr.mono (by decide)) (by rfl) (pa_cons (pv 3) pa_nil)) (pg_sub (pv 6) (pv 2) set_list))
        (pss_cons (ps_if (PW.pt (pw_or (pt_cmpR (op_neK (K := K) rfl hr.units) (pe_fn (takes_of rfl rfl rfl rfl) c__law_words (hr.mono (by decide)) (by rfl) (pa_cons (pv 0) pa_nil)) (pv 6) (nomark _)) (pw_or (pt_cmpR (op_neK (K := K) rfl hr.units) (pe_fn (takes_of rfl rfl rfl rfl) c_sent_to (hr.mono (by decide)) (by rfl) (pa_cons (pe_fldC (T.cls 99) (T.noat 105) (pv 0)) (pa_cons (pv 2) pa_nil))) (pv 3) (nomark _)) (pw_or1 (pt_cmpR op_notN (pe_fn (takes_of rfl rfl rfl rfl) c_sent_to (hr.mono (by decide)) (by rfl) (pa_cons (pe_fldC (T.cls 99) (T.noat 105) (pv 0)) (pa_cons (pv 3) pa_nil))) pe_non (nomark _)))))) (pss_one (ps_ret pe_bl)) pss_nil)
        (pss_cons (ps_if (PW.pt (pw_or (pt_cmpR (op_neK (K := K) rfl hr.units) (pe_fn (takes_of rfl rfl rfl rfl) c_slots_of (hr.mono (by decide)) (by rfl) (pa_cons (pe_fldC (T.cls 99) (T.noat 105) (pv 0)) (pa_cons (pv 3) pa_nil))) (pe_op op_sub (pv 5) pe_int) (nomark _)) (pw_or1 (pt_cmpR (op_neK (K := K) rfl hr.units) (pe_fn (takes_of rfl rfl rfl rfl) c_age_of (hr.mono (by decide)) (by rfl) (pa_cons (pe_fldC (T.cls 99) (T.noat 105) (pv 0)) (pa_cons (pv 3) pa_nil))) (pv 4) (nomark _))))) (pss_one (ps_ret pe_bl)) pss_nil)
        (pss_one (ps_ret (pe_cmpR (op_eqK (K := K) rfl hr.units) (pe_fn (takes_of rfl rfl rfl rfl) c_moved (hr.mono (by decide)) (by rfl) (pa_cons (pe_fldC (T.cls 99) (T.noat 105) (pv 0)) (pa_cons (pe_fn (takes_of rfl rfl rfl rfl) c_place_word (hr.mono (by decide)) (by rfl) (pa_cons (pv 2) pa_nil)) pa_nil))) (pe_fn (takes_of rfl rfl rfl rfl) c_place_word (hr.mono (by decide)) (by rfl) (pa_cons (pv 3) pa_nil)) (nomark _))))))))))), ?rd⟩)
  case len => obtain ⟨_, _, _, _, _, _, _, _, rfl, _⟩ := h; rfl
  case rd =>
    obtain ⟨A, ws, bf, i, t, a, k, fs, rfl, hA, M, vw, hb, ek, hi, ht, ha, t9, i9, dj, q⟩ := h
    have sz : 10000 ≤ sizeLine := by rw [sizeLine_eq]; omega
    have hs := M.sz
    rw [copT_len] at hs
    obtain ⟨-, -, ea⟩ := head_ok ek
    obtain ⟨ew, h34, -⟩ := headAt_some ea
    walk_at "w3"
    refine r_ixL hb (by rw [List.getElem?_map, getD_at (d := 0) (show i < ws.length by omega)]; rfl) ?_
    rw [ew]
    walk_at "w3"
    refine ⟨bf, _, rfl, .inl (.of hb), fun p np => ?_⟩
    have s1 := same_new (o := .lst (ws.map V.int)) np
    have hp1 : upd H p (.lst (ws.map V.int)) p = some (.lst (ws.map V.int)) := upd_same
    generalize upd H p (.lst (ws.map V.int)) = H1 at s1 hp1 ⊢
    walk_at "w3"
    rw [show 2 * (k : Int) / 8 + 1 = ((k / 4 + 1 : Nat) : Int) from by omega, Int.toNat_natCast]
    refine ⟨by omega, by omega, forW_range (lo := 0) (n := k / 4 + 1) (fun j σ H' => ∃ o7, σ = [some (.ref A.a), some (.ref bf), some (.int (i : Int)), some (.int (t : Int)), some (.int (a : Int)), some (.int ((k / 4 + 1 : Nat) : Int)), some (.ref p), o7] ∧ Same H H' ∧ H' p = some (.lst ((cpT ws i t j).map V.int))) ⟨_, rfl, s1, hp1⟩ ?_ ?_⟩
    · rintro j σ H' hj ⟨o7, rfl, s, hp⟩
      rw [Int.zero_add]
      walk_at "w3"
      refine r_ixL (s _ _ hb) (i := i + j) (by rw [List.getElem?_map, getD_at (d := 0) (show i + j < ws.length by omega)]; rfl) ?_
      refine r_setL hp (by omega) (by rw [List.length_map, cpT_len]; omega) ?_
      rw [show ((t : Int) + (j : Int)).toNat = t + j from by omega, ← List.map_set, ← cpT_succ]
      exact ⟨_, rfl, (fun b o g => (upd_ne (ne_of_none g np)).trans (s _ _ g)), upd_same⟩
    rintro σ H2 ⟨o7, rfl, s2, hp2⟩
    walk_at "w3"
    rw [x_number_word, if_pos (by omega)]
    have hl := cpT_len (ws := ws) (i := i) (j := t) (t := k / 4 + 1)
    refine r_setL hp2 (by omega) (by rw [List.length_map, hl]; omega) ?_
    rw [Int.toNat_natCast, ← List.map_set, show 2 * (4 * (((k / 4 + 1 : Nat) : Int) - 1) + (a : Int)) = 2 * ((4 * (k / 4) + a : Nat) : Int) from by omega, x_place_word, if_pos (by omega)]
    refine r_setL upd_same (by omega) (by rw [List.length_map, List.length_set, hl]; omega) ?_
    rw [Int.toNat_natCast, ← List.map_set]
    have s4 : Same H (upd (upd H2 p (.lst (((cpT ws i t (k / 4 + 1)).set t (2 * ((4 * (k / 4) + a : Nat) : Int))).map V.int))) p (.lst ((copT ws i t (k / 4) a).map V.int))) := fun b o g => (upd_ne (ne_of_none g np)).trans ((upd_ne (ne_of_none g np)).trans (s2 _ _ g))
    have hp4 : upd (upd H2 p (.lst (((cpT ws i t (k / 4 + 1)).set t (2 * ((4 * (k / 4) + a : Nat) : Int))).map V.int))) p (.lst ((copT ws i t (k / 4) a).map V.int)) p = some (.lst ((copT ws i t (k / 4) a).map V.int)) := upd_same
    show sp_words11 K _ (upd (upd H2 p (.lst (((cpT ws i t (k / 4 + 1)).set t (2 * ((4 * (k / 4) + a : Nat) : Int))).map V.int))) p (.lst ((copT ws i t (k / 4) a).map V.int))) _ _
    generalize upd (upd H2 p (.lst (((cpT ws i t (k / 4 + 1)).set t (2 * ((4 * (k / 4) + a : Nat) : Int))).map V.int))) p (.lst ((copT ws i t (k / 4) a).map V.int)) = H4 at s4 hp4 ⊢
    refine ⟨A, _, fs, rfl, s4 _ _ hA, M.same s4, fun p5 H5 np5 s5 h5 => ?_⟩
    have s45 := s4.trans s5
    have hA5 := s45 _ _ hA
    have M5 := M.same s45
    refine r_neInts h5 (s5 _ _ hp4) ?_
    walk_at "w3"
    have lc : (copT ws i t (k / 4) a).length = ws.length := copT_len
    have ci : (copT ws i t (k / 4) a).getD i 0 = 2 * (t : Int) + 1 := by rw [copT_at (by omega) ht, if_pos rfl]
    have ct : (copT ws i t (k / 4) a).getD t 0 = 2 * ((4 * (k / 4) + a : Nat) : Int) := by rw [copT_at (by omega) ht, if_neg (by omega), if_pos rfl]
    refine ⟨_, fldIs hA5, A.m, A.mx, A.l, _, _, rfl, M5, vw, .inl ⟨_, rfl⟩, ?_⟩
    rw [placeOf_int, if_pos ⟨by omega, by omega⟩, Int.toNat_natCast]
    dsimp only
    rw [ci, word_place (by omega) (by omega)]
    walk_at "w3"
    have wt : wordOf (2 * ((4 * (k / 4) + a : Nat) : Int)) = some (.num ((4 * (k / 4) + a : Nat) : Int)) := word_num (by omega)
    have h2 : headAt ((copT ws i t (k / 4) a).getD t 0) = some (4 * (k / 4) + a) := by
      rw [ct]
      unfold headAt
      rw [wt]
      dsimp only
      rw [if_pos (by omega), Int.toNat_natCast]
    have eh : headW (copT ws i t (k / 4) a) (.int (t : Int)) = .ok t (4 * (k / 4) + a) := ans_head' (by omega) h2
    refine ⟨_, fldIs hA5, A.m, A.mx, A.l, _, _, rfl, M5, vw, .inl ⟨_, rfl⟩, ?_⟩
    rw [placeOf_int, if_pos ⟨by omega, by omega⟩, Int.toNat_natCast]
    dsimp only
    rw [h2, ct, wt]
    dsimp only
    rw [if_neg (by simp)]
    refine ⟨_, fldIs hA5, A.m, A.mx, A.l, _, _, rfl, M5, vw, .inl ⟨_, rfl⟩, ?_⟩
    rw [eh]
    dsimp only
    walk_at "w3"
    rw [if_neg (by omega)]
    refine ⟨_, fldIs hA5, A.m, A.mx, A.l, _, _, rfl, M5, vw, .inl ⟨_, rfl⟩, ?_⟩
    rw [eh]
    dsimp only
    walk_at "w3"
    rw [if_neg (by omega)]
    refine ⟨_, fldIs hA5, ?_⟩
    rw [x_place_word, if_pos (by omega)]
    refine ⟨A.m, A.mx, A.l, _, _, rfl, M5, vw, by rw [word_place (by omega) (by omega)]; rfl, ?_⟩
    have em : movedW (copT ws i t (k / 4) a) (2 * (i : Int) + 1) = .ok (2 * (t : Int) + 1) := by
      unfold movedW
      rw [word_place (by omega) (by omega)]
      dsimp only
      rw [placeOf_int, if_pos ⟨by omega, by omega⟩, Int.toNat_natCast]
      dsimp only
      rw [ci, word_place (by omega) (by omega)]
    rw [em]
    dsimp only
    rw [x_place_word, if_pos (by omega)]
    walk_at "w3"
    exact q _ s45
end

local macro_rules | `(tactic| walk_at "w3") => `(tactic| try simp only [↓x_var0, ↓x_varS, ↓x_c, ↓x_op, ↓x_un, ↓x_cb, ↓x_nil, ↓x_cons, ↓x_test, ↓x_b, ↓x_ex, ↓x_and, ↓x_or, ↓x_not, ↓x_andV, ↓x_orV, ↓x_notV, ↓x_tif, ↓x_chain, ↓x_menu, ↓x_menuI, ↓x_lst, ↓x_tup, ↓x_dnew, ↓x_callW, ↓x_callN, ↓x_seq, ↓x_next, ↓x_ret, ↓x_retN, ↓x_drop, ↓x_ifS, ↓x_asg, ↓x_name, ↓x_raise, ↓x_fld, ↓x_setF, ↓x_meth, ↓x_make, ↓x_sub, ↓r_min, ↓r_max, ↓x_yes, ↓x_for, ↓x_lock, ↓x_keys, ↓x_cut, ↓x_lc, ↓x_rng1, ↓x_rng2, ↓x_lst1, ↓x_itup, ↓x_rng3, ↓x_three, ↓x_lstg, ↓x_tupg, ↓x_adrS, ↓x_one, ↓x_two, ↓x_adr, ↓x_sl, ↓x_np, ↓x_pt, ↓x_int, ↓x_bm, ↓x_bm0, ↓x_consg, ↓x_nilg, ↓x_dget2, ↓x_dget1, ↓x_dget, ↓x_din, ↓x_dni, ↓x_dput, ↓x_dpop2, ↓r_isB, ↓r_notB, ↓x_enum, ↓x_zip, wipe, List.map_cons, List.map_nil, ↓x_isT, ↓r_isiII, ↓r_isiBB, ↓r_isiIB, ↓r_isiSS, ↓r_neNS, ↓r_neSN, ↓r_neNN, ↓r_eqNS, ↓r_eqSN, ↓r_eqNN, ↓r_eqIS, ↓r_neIS, ↓r_neSI, ↓r_neBS, ↓r_eqBB, ↓r_neBB, ↓x_start, ↓x_K, ↓x_start0, ↓r_i0, ↓r_i, ↓r_u, ↓r_addI, ↓r_addS, ↓r_mulI, ↓r_mulS, ↓r_eqI, ↓r_neI, ↓r_eqS, ↓r_neS, ↓r_absI, ↓r_intI, ↓r_intB, List.length_cons, List.length_nil, List.replicate, List.set_cons_zero, List.set_cons_succ, decide_eq_true_eq, Bool.not_eq_true', decide_eq_false_iff_not, if_true, if_false, Bool.false_eq_true, Bool.true_eq_false, ite_true, ite_false, Bool.not_true, Bool.not_false, c_div, n_ten, c_pow, not_true_eq_false, not_false_eq_true, decide_true, decide_false, true_and, and_true, and_self, true_or, or_true, Int.reduceLT, Int.reduceLE, Int.reduceMul, Int.reduceAdd, Int.reduceSub, Int.reducePow, Int.reduceNeg, Int.reduceDiv, Int.reduceMod, Nat.reducePow, Int.reduceToNat, Int.reduceEq, Int.reduceNe, Nat.reduceLT, Nat.reduceLeDiff, Nat.reduceAdd, ↓x_whole, ↓x_kind, Int.natCast_one, Int.natCast_one, Int.natCast_one, Int.natCast_one, Int.natCast_one])
/-- cells, some of them sent on -/
structure SnP (S : ArS) (C : List CeL) (sent : List Int) : Prop where
  hd : ∀ c ∈ C, (c.p : Int) ∉ sent → ∃ a, a ≤ 2 ∧ headAt (S.ws.getD c.p 0) = some (4 * c.ws.length + a)
  gn : ∀ c ∈ C, (c.p : Int) ∈ sent → ∃ g, wordOf (S.ws.getD c.p 0) = some (.place g)
  ar : ∀ c ∈ C, c.p + c.ws.length < S.ot ∨ (S.b S.fl ≤ c.p ∧ c.p + c.ws.length < S.t S.fl)
  dj : C.Pairwise fun a b => a.p + a.ws.length < b.p ∨ b.p + b.ws.length < a.p
theorem CelP.sn {S C} (h : CelP S C) : SnP S C [] := ⟨fun c m _ => h.hd c m, fun c m q => (List.not_mem_nil q).elim, h.ar, h.dj⟩
theorem SnP.same_p {S C sent} (h : SnP S C sent) {a b : CeL} (ha : a ∈ C) (hb : b ∈ C) (e : a.p = b.p) : a = b := by
  by_cases e2 : a = b
  · exact e2
  · have := pair_mem (fun _ _ q => q.symm) h.dj ha hb e2
    omega
/-- where copies go: old, or the spare half -/
def spT (S : ArS) (o : Bool) : Nat := if o then S.ot else S.t (!S.fl)
def spE (S : ArS) (o : Bool) : Nat := if o then S.n else S.b (!S.fl) + S.k
def spB (S : ArS) (o : Bool) : Nat := if o then 0 else S.b (!S.fl)
def spA (A : ArA) (S : ArS) (o : Bool) : Addr := if o then A.o else A.y (!S.fl)
def spX (A : ArA) (S : ArS) (o : Bool) : Addr := if o then A.ox else A.yx (!S.fl)
def copS (S : ArS) (o : Bool) (i s a : Nat) : ArS := if o then { S with ot := S.ot + (s + 1), ws := copT S.ws i S.ot s a } else { S.put (!S.fl) (S.t (!S.fl) + (s + 1)) with ws := copT S.ws i (S.t (!S.fl)) s a }
theorem ArO.space {K H A S} (I : ArO K H A S) (o : Bool) : SpO K H (spA A S o) (spX A S o) (spB S o) (spE S o) (spT S o) := by
  cases o
  · exact I.half _
  · exact I.so
theorem spE_le {K H A S} (I : ArO K H A S) (o : Bool) : spE S o ≤ S.ws.length ∧ spT S o ≤ spE S o := by
  have := I.ln
  have := I.lo
  have l1 := I.lt (!S.fl)
  cases o
  · show S.b (!S.fl) + S.k ≤ _ ∧ S.t (!S.fl) ≤ S.b (!S.fl) + S.k
    refine ⟨?_, l1.2⟩
    unfold ArS.b
    split <;> omega
  · show S.n ≤ _ ∧ S.ot ≤ S.n
    omega
theorem SnP.away {K H A S C sent} (h : SnP S C sent) (I : ArO K H A S) (o : Bool) : ∀ c ∈ C, c.p + c.ws.length < spT S o ∨ spE S o ≤ c.p := fun c m => by
  have h1 := I.l1
  have h2 := I.l2
  have h3 := I.lo
  have h4 := h.ar c m
  cases o
  · show _ < S.t (!S.fl) ∨ S.b (!S.fl) + S.k ≤ _
    cases e : S.fl
    · rw [e] at h4
      have h4 : c.p + c.ws.length < S.ot ∨ S.n ≤ c.p ∧ c.p + c.ws.length < S.t1 := h4
      show _ < S.t2 ∨ S.n + S.k + S.k ≤ _
      omega
    · rw [e] at h4
      have h4 : c.p + c.ws.length < S.ot ∨ S.n + S.k ≤ c.p ∧ c.p + c.ws.length < S.t2 := h4
      show _ < S.t1 ∨ S.n + S.k ≤ _
      omega
  · show _ < S.ot ∨ S.n ≤ _
    have : S.n ≤ S.b S.fl := by unfold ArS.b; split <;> omega
    omega
theorem copS_same {S : ArS} {o : Bool} {i s a : Nat} : (copS S o i s a).fl = S.fl ∧ (copS S o i s a).n = S.n ∧ (copS S o i s a).k = S.k ∧ (∀ f, (copS S o i s a).b f = S.b f) ∧ (copS S o i s a).ws = copT S.ws i (spT S o) s a ∧ S.ot ≤ (copS S o i s a).ot ∧ (copS S o i s a).t S.fl = S.t S.fl := by
  cases o
  · show (S.put (!S.fl) _).fl = _ ∧ (S.put (!S.fl) _).n = _ ∧ (S.put (!S.fl) _).k = _ ∧ (∀ f, (S.put (!S.fl) _).b f = S.b f) ∧ _ ∧ S.ot ≤ (S.put (!S.fl) _).ot ∧ (S.put (!S.fl) _).t S.fl = _
    unfold ArS.put ArS.b ArS.t
    cases S.fl <;> exact ⟨rfl, rfl, rfl, fun f => rfl, rfl, Nat.le_refl _, rfl⟩
  · exact ⟨rfl, rfl, rfl, fun f => rfl, rfl, Nat.le_add_right _ _, rfl⟩
theorem SnP.cop {K H A S C sent} (h : SnP S C sent) (I : ArO K H A S) {c : CeL} {o : Bool} {a : Nat} (m : c ∈ C) (fit : spT S o + (c.ws.length + 1) ≤ spE S o) (hl : c.p < S.ws.length) (t9 : spT S o ≤ 9999) : SnP (copS S o c.p c.ws.length a) C (sent ++ [(c.p : Int)]) := by
  have e := copS_same (S := S) (o := o) (i := c.p) (s := c.ws.length) (a := a)
  have aw := h.away I o
  have le := spE_le I o
  have wd : ∀ d ∈ C, (copS S o c.p c.ws.length a).ws.getD d.p 0 = if d.p = c.p then 2 * (spT S o : Int) + 1 else S.ws.getD d.p 0 := fun d md => by
    rw [e.2.2.2.2.1, copT_at hl (by omega)]
    by_cases e1 : d.p = c.p
    · rw [if_pos e1, if_pos e1]
    · have := aw d md
      rw [if_neg e1, if_neg e1, if_neg (by omega), if_neg (by omega)]
  refine ⟨fun d md ns => ?_, fun d md s => ?_, fun d md => ?_, h.dj⟩
  · rw [wd d md, if_neg (fun z => ns (List.mem_append_right _ (by rw [z]; exact List.mem_singleton_self _)))]
    exact h.hd d md fun z => ns (List.mem_append_left _ z)
  · rw [wd d md]
    split
    · exact ⟨_, word_place (by omega) (by omega)⟩
    · rename_i ne
      rcases List.mem_append.mp s with s | s
      · exact h.gn d md s
      · exact absurd (List.mem_singleton.mp s) (by omega)
  · rw [e.1, e.2.2.2.1, e.2.2.2.2.2.2]
    rcases h.ar d md with q | q
    · exact .inl (Nat.lt_of_lt_of_le q e.2.2.2.2.2.1)
    · exact .inr q
theorem ArO.cop {K H H' A S} (I : ArO K H A S) {o : Bool} {i s a : Nat} (M : MemO K H' A.m A.mx A.l (copT S.ws i (spT S o) s a)) (vw : Vw (copT S.ws i (spT S o) s a)) (sp : SpO K H' (spA A S o) (spX A S o) (spB S o) (spE S o) (spT S o + (s + 1)))
    (k : ∀ c x, c ≠ A.l → c ≠ spA A S o → H c = some x → H' c = some x) (fit : spT S o + (s + 1) ≤ spE S o) : ArO K H' A (copS S o i s a) := by
  have ol := (I.na I.so).2.2
  have pl := (I.na I.sp).2.2
  have ql := (I.na I.sq).2.2
  have oa := (I.na I.so).1
  have pa := (I.na I.sp).1
  have qa := (I.na I.sq).1
  have la : A.a ≠ A.l := ne_of I.ob I.me.ls (by intro z; cases z)
  obtain ⟨ws, n, m, ot, t1, t2, fl⟩ := S
  cases o
  · cases fl
    · have e2 : n + m + m = n + 2 * m := by omega
      have fit : t2 + (s + 1) ≤ n + m + m := fit
      have l2 : n + m ≤ t2 ∧ t2 ≤ n + 2 * m := I.l2
      exact { ob := k _ _ la qa I.ob, me := M, vw := vw, ln := copT_len.trans I.ln, so := k _ _ ol.symm I.noq I.so, sp := k _ _ pl.symm I.npq I.sp, sq := (by (show SpO K H' A.q A.qx (n + m) (n + 2 * m) (t2 + (s + 1))); rw [← e2]; exact sp), nop := I.nop, noq := I.noq, npq := I.npq, lo := I.lo, l1 := I.l1, l2 := (by show n + m ≤ t2 + (s + 1) ∧ t2 + (s + 1) ≤ n + 2 * m; omega), gn := I.gn, gk := I.gk }
    · have fit : t1 + (s + 1) ≤ n + m := fit
      have l1 : n ≤ t1 ∧ t1 ≤ n + m := I.l1
      exact { ob := k _ _ la pa I.ob, me := M, vw := vw, ln := copT_len.trans I.ln, so := k _ _ ol.symm I.nop I.so, sp := sp, sq := k _ _ ql.symm I.npq.symm I.sq, nop := I.nop, noq := I.noq, npq := I.npq, lo := I.lo, l1 := (by show n ≤ t1 + (s + 1) ∧ t1 + (s + 1) ≤ n + m; omega), l2 := I.l2, gn := I.gn, gk := I.gk }
  · have fit : ot + (s + 1) ≤ n := fit
    exact { ob := k _ _ la oa I.ob, me := M, vw := vw, ln := copT_len.trans I.ln, so := sp, sp := k _ _ pl.symm I.nop.symm I.sp, sq := k _ _ ql.symm I.noq.symm I.sq, nop := I.nop, noq := I.noq, npq := I.npq, lo := fit, l1 := I.l1, l2 := I.l2, gn := I.gn, gk := I.gk }
def kindsD (d : Int) : List V := (List.range 13).map fun k => .bl (decide (((0 : Int) + (k : Nat)) = d))
theorem kinds_count : kindL "BadCount" = kindsD 0 := by decide +kernel
theorem kinds_cell : kindL "NoCell" = kindsD 3 := by decide +kernel
theorem kinds_place : kindL "NoPlace" = kindsD 7 := by decide +kernel
theorem kinds_room : kindL "NoRoom" = kindsD 8 := by decide +kernel
theorem PlAll.app {xs ys : List V} {ds es : List PyData} (h : PlAll xs ds) (h2 : PlAll ys es) : PlAll (xs ++ ys) (ds ++ es) := by
  induction h with
  | nil => exact h2
  | cons h t ih => exact .cons h ih
theorem PlAll.bls : ∀ {bs : List Bool}, PlAll (bs.map V.bl) (bs.map PyData.bool)
  | [] => .nil
  | b :: r => .cons (.bl b) PlAll.bls
theorem kindsD_pl {d : Int} : PlAll (kindsD d ++ [.bl true]) (((List.range 13).map fun k => PyData.bool (decide (((0 : Int) + (k : Nat)) = d))) ++ [.bool true]) := by
  refine PlAll.app ?_ (.cons (.bl true) .nil)
  have := PlAll.bls (bs := (List.range 13).map fun k => decide (((0 : Int) + (k : Nat)) = d))
  rw [List.map_map, List.map_map] at this
  exact this
theorem told_bad {K : PySem.W.Frag} {A : ArA} {ws : List Int} {v z : V} {s sx : Addr} {b e t : Nat} {fs : V × V × V} {H : Hp} {Q : VK} {E : XK} {due : Int} (hA : H A.a = some (.ins (He.ga K "Areas") A.dx (F_Areas (.ref A.m) fs.1 fs.2.1 fs.2.2))) (M : MemO K H A.m A.mx A.l ws) (vw : Vw ws) (sp : SpO K H s sx b e t) (tv : Thing H v) (tz : Thing H z)
    (hd : (headW ws v = .noPlace ∧ due = 7) ∨ (headW ws v = .noCell ∧ due = 3)) (q : ∀ p H', H p = none → Same H H' → H' p = some (.lst (kindsD due ++ [.bl true])) → Q (.ref p) H') : sp_told11 K [.ref A.a, v, .ref s, z] H Q E := by
  refine ⟨A, ws, v, s, sx, b, e, t, z, fs, rfl, hA, M, vw, sp, tv, tz, ?_⟩
  rcases hd with ⟨eh, rfl⟩ | ⟨eh, rfl⟩
  · rw [eh]
    dsimp only
    rw [kinds_place]
    exact q
  · rw [eh]
    dsimp only
    rw [kinds_cell]
    exact q
theorem spA_menu {A : ArA} {S : ArS} (i : Int) : ∃ o : Bool, atI [V.ref (A.y !S.fl), V.ref A.o] (i % 2) = some (.ref (spA A S o)) := by
  have : i % 2 = 0 ∨ i % 2 = 1 := by omega
  rcases this with e | e <;> rw [e]
  · exact ⟨false, rfl⟩
  · exact ⟨true, rfl⟩
theorem told_ref {K : PySem.W.Frag} {A : ArA} {ws : List Int} {v z : V} {s sx : Addr} {b e t : Nat} {fs : V × V × V} {H : Hp} {Q : VK} {E : XK} {due : Int} (hA : H A.a = some (.ins (He.ga K "Areas") A.dx (F_Areas (.ref A.m) fs.1 fs.2.1 fs.2.2))) (M : MemO K H A.m A.mx A.l ws) (vw : Vw ws) (sp : SpO K H s sx b e t) (tv : Thing H v) (tz : Thing H z)
    (hd : match headW ws v with
      | .noPlace => due = 7
      | .noCell => due = 3
      | .ok _ h => match ageW z with
        | none => due = 0
        | some _ => due = 8 ∧ ¬ ((h / 4 + 1 : Nat) ≤ (e : Int) - t)) (q : ∀ p H', H p = none → Same H H' → H' p = some (.lst (kindsD due ++ [.bl true])) → Q (.ref p) H') : sp_told11 K [.ref A.a, v, .ref s, z] H Q E := by
  refine ⟨A, ws, v, s, sx, b, e, t, z, fs, rfl, hA, M, vw, sp, tv, tz, ?_⟩
  cases eh : headW ws v with
  | noPlace =>
    rw [eh] at hd
    subst hd
    dsimp only
    rw [kinds_place]
    exact q
  | noCell =>
    rw [eh] at hd
    subst hd
    dsimp only
    rw [kinds_cell]
    exact q
  | ok i h =>
    rw [eh] at hd
    dsimp only at hd ⊢
    cases ez : ageW z with
    | none =>
      rw [ez] at hd
      dsimp only at hd ⊢
      subst hd
      rw [kinds_count]
      exact q
    | some a =>
      rw [ez] at hd
      dsimp only at hd ⊢
      obtain ⟨rfl, nf⟩ := hd
      rw [if_neg nf, kinds_room]
      exact q

local macro_rules | `(tactic| walk_at "w3") => `(tactic| try simp only [↓x_var0, ↓x_varS, ↓x_c, ↓x_op, ↓x_un, ↓x_cb, ↓x_nil, ↓x_cons, ↓x_test, ↓x_b, ↓x_ex, ↓x_and, ↓x_or, ↓x_not, ↓x_andV, ↓x_orV, ↓x_notV, ↓x_tif, ↓x_chain, ↓x_menu, ↓x_menuI, ↓x_lst, ↓x_tup, ↓x_dnew, ↓x_callW, ↓x_callN, ↓x_seq, ↓x_next, ↓x_ret, ↓x_retN, ↓x_drop, ↓x_ifS, ↓x_asg, ↓x_name, ↓x_raise, ↓x_fld, ↓x_setF, ↓x_meth, ↓x_make, ↓x_sub, ↓r_min, ↓r_max, ↓x_yes, ↓x_for, ↓x_lock, ↓x_keys, ↓x_cut, ↓x_lc, ↓x_rng1, ↓x_rng2, ↓x_lst1, ↓x_itup, ↓x_rng3, ↓x_three, ↓x_lstg, ↓x_tupg, ↓x_adrS, ↓x_one, ↓x_two, ↓x_adr, ↓x_sl, ↓x_np, ↓x_pt, ↓x_int, ↓x_bm, ↓x_bm0, ↓x_consg, ↓x_nilg, ↓x_dget2, ↓x_dget1, ↓x_dget, ↓x_din, ↓x_dni, ↓x_dput, ↓x_dpop2, ↓r_isB, ↓r_notB, ↓x_enum, ↓x_zip, wipe, List.map_cons, List.map_nil, ↓x_isT, ↓r_isiII, ↓r_isiBB, ↓r_isiIB, ↓r_isiSS, ↓r_neNS, ↓r_neSN, ↓r_neNN, ↓r_eqNS, ↓r_eqSN, ↓r_eqNN, ↓r_eqIS, ↓r_neIS, ↓r_neSI, ↓r_neBS, ↓r_eqBB, ↓r_neBB, ↓x_start, ↓x_K, ↓x_start0, ↓r_i0, ↓r_i, ↓r_u, ↓r_addI, ↓r_addS, ↓r_mulI, ↓r_mulS, ↓r_eqI, ↓r_neI, ↓r_eqS, ↓r_neS, ↓r_absI, ↓r_intI, ↓r_intB, List.length_cons, List.length_nil, List.replicate, List.set_cons_zero, List.set_cons_succ, decide_eq_true_eq, Bool.not_eq_true', decide_eq_false_iff_not, if_true, if_false, Bool.false_eq_true, Bool.true_eq_false, ite_true, ite_false, Bool.not_true, Bool.not_false, c_div, n_ten, c_pow, not_true_eq_false, not_false_eq_true, decide_true, decide_false, true_and, and_true, and_self, true_or, or_true, Int.reduceLT, Int.reduceLE, Int.reduceMul, Int.reduceAdd, Int.reduceSub, Int.reducePow, Int.reduceNeg, Int.reduceDiv, Int.reduceMod, Nat.reducePow, Int.reduceToNat, Int.reduceEq, Int.reduceNe, Nat.reduceLT, Nat.reduceLeDiff, Nat.reduceAdd, ↓x_whole, ↓x_kind, Int.natCast_one, Int.natCast_one, Int.natCast_one, Int.natCast_one, Int.natCast_one, Int.natCast_one])
def sp_nohead11 (K : PySem.W.Frag) : Sp := fun vs H Q _ => ∃ A S c, vs = [.ref A.a, .int c] ∧ ArO K H A S ∧ S.n + 2 * S.k ≤ 1000 ∧ ∀ H', Same H H' → Q (.bl true) H'
section
variable {P : Program} {w : World} {K : PySem.W.Frag} {mg : Str → Option Value} {base : Heap}
theorem f__law_no_head (T : Tx K mg) : Fn P w K mg base 9 "_law_no_head" ["_law_areas", "_law_cell"] (sp_nohead11 K) := by
  have c_Memory_read := f_Memory_read (P := P) (w := w) (base := base) T
  have c__law_words := f__law_words (P := P) (w := w) (base := base) T
  have c__law_told := f__law_told (P := P) (w := w) (base := base) T
  refine T.mkFn 46 44 (d := d__law_no_head) (N := ["_law_areas", "_law_cell", "_law_size", "_law_at_here", "_law_due_here", "_law_before", "_law_tops", "_law_found", "_law_k"]) (k := 8) rfl rfl rfl rfl rfl sc__law_no_head (fun _ _ _ _ _ _ us hl => match us, hl with | [_, _], _ => rfl) (fun vs H Q E h => ?len) (fun cdv A outer s H vs Q E hr h => ⟨_,
      (pss_cons (ps_set (i := 2) sc__law_no_head.nd rfl (Or.inl rfl) (pe_fldC (T.cls 78) (T.noat 85) (pe_fldC (T.cls 99) (T.noat 105) (pv 0))))
        (pss_cons (ps_set (i := 3) sc__law_no_head.nd rfl (Or.inl rfl) (pe_menu (pa_cons (pe_un un_neg pe_int) (pa_cons (pv 2) (pa_cons pe_bl (pa_cons pe_non (pa_cons pe_str (pa_cons (pe_op op_sub (pv 2) pe_int) (pa_cons (pe_op op_sub (pe_un un_neg pe_int) (pe_op op_mod (pe_op op_fdiv (pv 1) pe_int) (pe_op op_pow pe_int pe_int))) pa_nil))))))) (pe_op op_mod (pv 1) pe_int) (fun _ _ => rfl)))
        (pss_cons (ps_set (i := 4) sc__law_no_head.nd rfl (Or.inr rfl) pe_int)
        (pss_cut (ps_if (pt_cmpR (op_eqK (K := K) rfl hr.units) (pv 3) (pe_op op_sub (pv 2) pe_int) (nomark _)) (pss_cut (ps_if (pt_cmpR (op_neK (K := K) rfl hr.units) (pe_mt (K := K) rfl (takes_of rfl rfl rfl rfl) (pe_fldC (T.cls 99) (T.noat 105) (pv 0)) c_Memory_read (hr.mono (by decide)) (pa_cons (pv 3) pa_nil)) (pe_num (T.num 48) (by rfl)) (nomark _)) (pss_one (ps_ret pe_bl)) pss_nil)
        (pss_one (ps_set (i := 4) sc__law_no_head.nd rfl (Or.inr rfl) pe_int))) pss_nil)
        (pss_cons (ps_set (i := 5) sc__law_no_head.nd rfl (Or.inl rfl) (pe_fn (takes_of rfl rfl rfl rfl) c__law_words (hr.mono (by decide)) (by rfl) (pa_cons (pv 0) pa_nil)))
        (pss_cons (ps_set (i := 6) sc__law_no_head.nd rfl (Or.inl rfl) (pe_lst (pa_cons (pe_fldC (T.cls 87) (T.noat 98) (pe_fldC (T.cls 99) (T.noat 106) (pv 0))) (pa_cons (pe_fldC (T.cls 87) (T.noat 98) (pe_fldC (T.cls 99) (T.noat 107) (pv 0))) (pa_cons (pe_fldC (T.cls 87) (T.noat 98) (pe_fldC (T.cls 99) (T.noat 108) (pv 0))) pa_nil)))))
        (pss_cons (ps_set (i := 7) sc__law_no_head.nd rfl (Or.inl rfl) (pe_fn (takes_of rfl rfl rfl rfl) c__law_told (hr.mono (by decide)) (by rfl) (pa_cons (pv 0) (pa_cons (pv 3) (pa_cons (pe_menu (pa_cons (pe_fldC (T.cls 99) (T.noat 108) (pv 0)) (pa_cons (pe_fldC (T.cls 99) (T.noat 106) (pv 0)) pa_nil)) (pe_op op_mod (pe_op op_fdiv (pv 1) pe_int) pe_int) (fun _ _ => rfl)) (pa_cons (pe_op op_mod (pe_op op_fdiv (pv 1) pe_int) pe_int) pa_nil))))))
        (pss_cut (ps_if (pt_cmpR (op_neK (K := K) rfl hr.units) (pv 7) (pe_op op_gAdd (pe_lc (own := [("_law_k", 8)]) (g := gName 8) rfl sc__law_no_head.nd (pi_range1 rfl (T.free 59) (pa_cons pe_int pa_nil)) (blkOk_by (own := [("_law_k", 8)]) (N := ["_law_areas", "_law_cell", "_law_size", "_law_at_here", "_law_due_here", "_law_before", "_law_tops", "_law_found", "_law_k"]) (sc := defScope s__law_no_head) (by decide +kernel)) (fun _ _ _ _ _ => (pg_name (i := 8) sc__law_no_head.nd rfl (Or.inl rfl))) (fun _ _ _ _ _ => pts_nil) (fun _ _ _ _ _ => (pe_cmpR (op_eqK (K := K) rfl hr.units) (pv 8) (pv 4) (nomark _)))) (pe_lst (pa_cons pe_bl pa_nil))) (nomark _)) (pss_one (ps_ret pe_bl)) pss_nil)
        (pss_one (ps_ret (pe_and (pe_cmpR (op_eqK (K := K) rfl hr.units) (pe_fn (takes_of rfl rfl rfl rfl) c__law_words (hr.mono (by decide)) (by rfl) (pa_cons (pv 0) pa_nil)) (pv 5) (nomark _)) (pe_one (pe_cmpR (op_eqK (K := K) rfl hr.units) (pe_lst (pa_cons (pe_fldC (T.cls 87) (T.noat 98) (pe_fldC (T.cls 99) (T.noat 106) (pv 0))) (pa_cons (pe_fldC (T.cls 87) (T.noat 98) (pe_fldC (T.cls 99) (T.noat 107) (pv 0))) (pa_cons (pe_fldC (T.cls 87) (T.noat 98) (pe_fldC (T.cls 99) (T.noat 108) (pv 0))) pa_nil)))) (pv 6) (nomark _)))))))))))))), ?rd⟩)
  case len => obtain ⟨_, _, _, rfl, _⟩ := h; rfl
  case rd =>
    obtain ⟨A, S, c, rfl, I, hz, q⟩ := h
    have sz : 10000 ≤ sizeLine := by rw [sizeLine_eq]; omega
    have hn := I.gn
    have hk := I.gk
    have hl := I.ln
    walk_at "w3"
    refine ⟨_, fldIs I.ob, _, fldIs I.me.ob, ?_⟩
    walk_at "w3"
    have hlen : (S.ws.length : Int) = S.n + 2 * S.k := by rw [hl]; omega
    obtain ⟨v, ev, tv, cv⟩ : ∃ v, atI [V.int (-1), V.int (S.ws.length : Int), V.bl true, V.non, V.str "0", V.int ((S.ws.length : Int) - 1), V.int (-1 - c / 42 % 1000000000)] (c % 7) = some v ∧ Thing H v ∧ (v = .int ((S.ws.length : Int) - 1) ∨ (placeOf S.ws.length v = none ∧ flatV v = true ∧ eqV v (V.int ((S.ws.length : Int) - 1)) = false)) := by
      have e7 : c % 7 = 0 ∨ c % 7 = 1 ∨ c % 7 = 2 ∨ c % 7 = 3 ∨ c % 7 = 4 ∨ c % 7 = 5 ∨ c % 7 = 6 := by omega
      rcases e7 with e | e | e | e | e | e | e <;> rw [e]
      · exact ⟨_, rfl, .inl ⟨_, rfl⟩, .inr ⟨by rw [placeOf_int, if_neg (by omega)], rfl, decide_eq_false (by omega)⟩⟩
      · exact ⟨_, rfl, .inl ⟨_, rfl⟩, .inr ⟨by rw [placeOf_int, if_neg (by omega)], rfl, decide_eq_false (by omega)⟩⟩
      · exact ⟨_, rfl, .inr odd_bl, .inr ⟨rfl, rfl, by (show decide ((1 : Int) = _) = false); exact decide_eq_false (by omega)⟩⟩
      · exact ⟨_, rfl, .inr odd_non, .inr ⟨rfl, rfl, rfl⟩⟩
      · exact ⟨_, rfl, .inr odd_str, .inr ⟨rfl, rfl, rfl⟩⟩
      · exact ⟨_, rfl, .inl ⟨_, rfl⟩, .inl rfl⟩
      · exact ⟨_, rfl, .inl ⟨_, rfl⟩, .inr ⟨by rw [placeOf_int, if_neg (by omega)], rfl, decide_eq_false (by omega)⟩⟩
    refine ⟨by omega, v, ev, fun σ H' => H' = H ∧ ∃ due : Int, σ = [some (.ref A.a), some (.int c), some (.int (S.ws.length : Int)), some v, some (.int due), none, none, none, none] ∧ ((headW S.ws v = .noPlace ∧ due = 7) ∨ (headW S.ws v = .noCell ∧ due = 3)), ?_, ?_⟩
    · rcases cv with rfl | ⟨pn, fv, ne⟩
      · walk_at "w3"
        refine ⟨fun σ' H' => H' = H ∧ σ' = [some (.ref A.a), some (.int c), some (.int (S.ws.length : Int)), some (.int ((S.ws.length : Int) - 1)), some (.int 7), none, none, none, none] ∧ S.ws.getD (S.ws.length - 1) 0 = -1, ?_, ?_⟩
        · have tn : ((S.ws.length : Int) - 1).toNat = S.ws.length - 1 := by omega
          refine ⟨_, fldIs I.ob, recv I.me.ob, A.m, A.mx, A.l, S.ws, _, rfl, I.me, .inl ⟨_, rfl⟩, ?_⟩
          rw [placeOf_int, if_pos ⟨by omega, by omega⟩, tn]
          dsimp only
          walk_at "w3"
          split
          · exact q _ (Same.refl _)
          · rename_i g
            exact Decidable.byContradiction g
        · rintro σ' H' ⟨rfl, rfl, g⟩
          refine ⟨rfl, 3, rfl, .inr ⟨?_, rfl⟩⟩
          have tn : ((S.ws.length : Int) - 1).toNat = S.ws.length - 1 := by omega
          unfold headW
          rw [placeOf_int, if_pos ⟨by omega, by omega⟩, tn]
          dsimp only
          rw [g]
          rfl
      · rw [r_eqF fv rfl, ne]
        walk_at "w3"
        exact ⟨7, rfl, .inl ⟨by unfold headW; rw [pn], rfl⟩⟩
    rintro σ H' ⟨rfl, due, rfl, hd⟩
    walk_at "w3"
    refine ⟨A, S.ws, (_, _, _), rfl, I.ob, I.me, fun p1 H1 np1 s1 hp1 => ?_⟩
    have I1 := I.same s1
    refine ⟨_, fldIs I1.ob, _, fldIs I1.so, _, fldIs I1.ob, _, fldIs (I1.half S.fl), _, fldIs I1.ob, _, fldIs (I1.half !S.fl), by omega, fun p2 np2 => ?_⟩
    have s2 := same_new (o := .lst [V.int (S.ot : Int), V.int (S.t S.fl : Int), V.int (S.t (!S.fl) : Int)]) np2
    have h2 : upd H1 p2 (.lst [V.int (S.ot : Int), V.int (S.t S.fl : Int), V.int (S.t (!S.fl) : Int)]) p2 = some (.lst [V.int (S.ot : Int), V.int (S.t S.fl : Int), V.int (S.t (!S.fl) : Int)]) := upd_same
    generalize upd H1 p2 (.lst [V.int (S.ot : Int), V.int (S.t S.fl : Int), V.int (S.t (!S.fl) : Int)]) = H2 at s2 h2 ⊢
    have I2 := I1.same s2
    obtain ⟨o, eo⟩ := spA_menu (A := A) (S := S) (c / 7)
    refine ⟨_, fldIs I2.ob, _, fldIs I2.ob, by omega, _, eo, ?_⟩
    refine told_bad (fs := (_, _, _)) I2.ob I2.me I2.vw (I2.space o) (thing_same (s1.trans s2) tv) (.inl ⟨_, rfl⟩) hd fun p3 H3 np3 s3 h3 => ?_
    refine ⟨fun σ' H' => σ' = [some (.ref A.a), some (.int c), some (.int (S.ws.length : Int)), some v, some (.int due), some (.ref p1), some (.ref p2), some (.ref p3), none] ∧ Same H3 H', ?_, ?_⟩
    · intro D hD
      refine lc_mapR (fun i => .bl (decide (((0 : Int) + (i : Nat)) = due))) (fun _ => rfl) (by omega) (fun i hi acc Q2 q2 => ?_) ?_
      · walk_at "w3"
        exact q2
      have s4 := same_new (o := .lst (kindsD due)) hD
      have h4 : upd H3 D (.lst (kindsD due)) D = some (.lst (kindsD due)) := upd_same
      rw [show (List.range 13).map (fun i => V.bl (decide (((0 : Int) + (i : Nat)) = due))) = kindsD due from rfl]
      generalize upd H3 D (.lst (kindsD due)) = H4 at s4 h4 ⊢
      refine ⟨by omega, fun p5 np5 => ?_⟩
      have s5 := same_new (o := .lst [.bl true]) np5
      refine ⟨_, _, s5 _ _ h4, upd_same, by unfold kindsD; rw [List.length_map]; show 13 + 1 ≤ sizeLine; omega, fun p6 np6 => ?_⟩
      have s6 := same_new (o := .lst (kindsD due ++ [.bl true])) np6
      have s46 := (s4.trans s5).trans s6
      refine r_nePlT (s46 _ _ h3) upd_same kindsD_pl ?_
      walk_at "w3"
      exact s46
    rintro σ' H4 ⟨rfl, s4⟩
    walk_at "w3"
    have s14 := ((s2.trans s3).trans s4)
    have I4 := I1.same s14
    refine ⟨A, S.ws, (_, _, _), rfl, I4.ob, I4.me, fun p7 H7 np7 s7 h7 => ?_⟩
    have I7 := I4.same s7
    have s47 := s3.trans (s4.trans s7)
    refine r_eqInts h7 ((s14.trans s7) _ _ hp1) ?_
    walk_at "w3"
    refine ⟨_, fldIs I7.ob, _, fldIs I7.so, _, fldIs I7.ob, _, fldIs (I7.half S.fl), _, fldIs I7.ob, _, fldIs (I7.half !S.fl), by omega, fun p8 np8 => ?_⟩
    have s8 := same_new (o := .lst [V.int (S.ot : Int), V.int (S.t S.fl : Int), V.int (S.t (!S.fl) : Int)]) np8
    refine r_eqInts (ns := [(S.ot : Int), (S.t S.fl : Int), (S.t (!S.fl) : Int)]) upd_same (s8 _ _ (s47 _ _ h2)) ?_
    walk_at "w3"
    exact q _ (((s1.trans s14).trans s7).trans s8)
end

local macro_rules | `(tactic| walk_at "w3") => `(tactic| try simp only [↓x_var0, ↓x_varS, ↓x_c, ↓x_op, ↓x_un, ↓x_cb, ↓x_nil, ↓x_cons, ↓x_test, ↓x_b, ↓x_ex, ↓x_and, ↓x_or, ↓x_not, ↓x_andV, ↓x_orV, ↓x_notV, ↓x_tif, ↓x_chain, ↓x_menu, ↓x_menuI, ↓x_lst, ↓x_tup, ↓x_dnew, ↓x_callW, ↓x_callN, ↓x_seq, ↓x_next, ↓x_ret, ↓x_retN, ↓x_drop, ↓x_ifS, ↓x_asg, ↓x_name, ↓x_raise, ↓x_fld, ↓x_setF, ↓x_meth, ↓x_make, ↓x_sub, ↓r_min, ↓r_max, ↓x_yes, ↓x_for, ↓x_lock, ↓x_keys, ↓x_cut, ↓x_lc, ↓x_rng1, ↓x_rng2, ↓x_lst1, ↓x_itup, ↓x_rng3, ↓x_three, ↓x_lstg, ↓x_tupg, ↓x_adrS, ↓x_one, ↓x_two, ↓x_adr, ↓x_sl, ↓x_np, ↓x_pt, ↓x_int, ↓x_bm, ↓x_bm0, ↓x_consg, ↓x_nilg, ↓x_dget2, ↓x_dget1, ↓x_dget, ↓x_din, ↓x_dni, ↓x_dput, ↓x_dpop2, ↓r_isB, ↓r_notB, ↓x_enum, ↓x_zip, wipe, List.map_cons, List.map_nil, ↓x_isT, ↓r_isiII, ↓r_isiBB, ↓r_isiIB, ↓r_isiSS, ↓r_neNS, ↓r_neSN, ↓r_neNN, ↓r_eqNS, ↓r_eqSN, ↓r_eqNN, ↓r_eqIS, ↓r_neIS, ↓r_neSI, ↓r_neBS, ↓r_eqBB, ↓r_neBB, ↓x_start, ↓x_K, ↓x_start0, ↓r_i0, ↓r_i, ↓r_u, ↓r_addI, ↓r_addS, ↓r_mulI, ↓r_mulS, ↓r_eqI, ↓r_neI, ↓r_eqS, ↓r_neS, ↓r_absI, ↓r_intI, ↓r_intB, List.length_cons, List.length_nil, List.replicate, List.set_cons_zero, List.set_cons_succ, decide_eq_true_eq, Bool.not_eq_true', decide_eq_false_iff_not, if_true, if_false, Bool.false_eq_true, Bool.true_eq_false, ite_true, ite_false, Bool.not_true, Bool.not_false, c_div, n_ten, c_pow, not_true_eq_false, not_false_eq_true, decide_true, decide_false, true_and, and_true, and_self, true_or, or_true, Int.reduceLT, Int.reduceLE, Int.reduceMul, Int.reduceAdd, Int.reduceSub, Int.reducePow, Int.reduceNeg, Int.reduceDiv, Int.reduceMod, Nat.reducePow, Int.reduceToNat, Int.reduceEq, Int.reduceNe, Nat.reduceLT, Nat.reduceLeDiff, Nat.reduceAdd, ↓x_whole, ↓x_kind, Int.natCast_one, Int.natCast_one, Int.natCast_one, Int.natCast_one, Int.natCast_one, Int.natCast_one, Int.natCast_one])
/-- what stands off the areas' own things stays -/
def FrA (A : ArA) (H H' : Hp) : Prop := ∀ c o, c ≠ A.l → c ≠ A.o → c ≠ A.p → c ≠ A.q → H c = some o → H' c = some o
theorem FrA.refl {A : ArA} {H : Hp} : FrA A H H := fun _ _ _ _ _ _ g => g
theorem FrA.trans {A : ArA} {H H1 H2 : Hp} (h : FrA A H H1) (h2 : FrA A H1 H2) : FrA A H H2 := fun c o a1 a2 a3 a4 g => h2 c o a1 a2 a3 a4 (h c o a1 a2 a3 a4 g)
theorem FrA.same {A : ArA} {H H1 : Hp} (h : Same H H1) : FrA A H H1 := fun c o _ _ _ _ g => h c o g
theorem FrA.two {A : ArA} {H H1 : Hp} {x : Addr} (hx : x = A.o ∨ x = A.p ∨ x = A.q) (h : ∀ c o, c ≠ A.l → c ≠ x → H c = some o → H1 c = some o) : FrA A H H1 := fun c o a1 a2 a3 a4 g => h c o a1 (by rcases hx with rfl | rfl | rfl <;> assumption) g
/-- a new thing changes -/
theorem FrA.new {A : ArA} {H H1 : Hp} {p : Addr} {o' : HO} (h : FrA A H H1) (n : H p = none) : FrA A H (upd H1 p o') := fun c o a1 a2 a3 a4 g => by
  rw [upd_ne (ne_of_none g n)]
  exact h c o a1 a2 a3 a4 g
/-- a thing that is none of the areas' own stays -/
theorem FrA.at {K H H' A S} (f : FrA A H H') (I : ArO K H A S) {c : Addr} {o : HO} (e : H c = some o) (n : c ≠ A.l) (no : ∀ C d fs, o ≠ .ins C d fs) : H' c = some o :=
  f c o n (ne_of e I.so fun z => no _ _ _ z) (ne_of e I.sp fun z => no _ _ _ z) (ne_of e I.sq fun z => no _ _ _ z) e
theorem fld_eq {C : Addr} {f : Str} {a dx : Addr} {H : Hp} {fs : List (Str × V)} {v : V} {P : V → Prop} (h : H a = some (.ins C dx fs)) (e : fs.lookup f = some v) : (∃ v, FldIs C f (.ref a) H v ∧ P v) = P v := by
  refine propext ⟨fun ⟨v', ⟨a', dx', fs', e1, e2, e3⟩, q⟩ => ?_, fun q => ⟨v, fldIs h e, q⟩⟩
  cases e1
  rw [h] at e2
  cases e2
  rw [e] at e3
  cases e3
  exact q
theorem recv_eq {C : Addr} {m : Str} {a dx : Addr} {H : Hp} {fs : List (Str × V)} {P : Prop} (h : H a = some (.ins C dx fs)) (e : fs.lookup m = none) : (Recv C m (.ref a) H ∧ P) = P := propext ⟨fun z => z.2, fun z => ⟨recv h e, z⟩⟩
theorem spo_inj {K H s dx dx' b b' e e' t t'} (h : SpO K H s dx b e t) (h' : SpO K H s dx' b' e' t') : dx = dx' ∧ b = b' ∧ e = e' ∧ t = t' := by
  have z := h.symm.trans h'
  have z := HO.ins.inj (Option.some.inj z)
  have w := z.2.2
  unfold F_Space at w
  simp only [List.cons.injEq, Prod.mk.injEq, V.int.injEq, true_and, and_true] at w
  exact ⟨z.2.1, by omega, by omega, by omega⟩
theorem room_eq {K : PySem.W.Frag} {H : Hp} {s dx : Addr} {b e t : Nat} {Q : VK} {E : XK} (sp : SpO K H s dx b e t) : sp_Space_room K [.ref s] H Q E = Q (.int ((e : Int) - t)) H := by
  refine propext ⟨fun ⟨s', dx', b', e', t', e1, sp', q⟩ => ?_, fun q => ⟨s, dx, b, e, t, rfl, sp, q⟩⟩
  cases e1
  obtain ⟨-, -, rfl, rfl⟩ := spo_inj sp sp'
  exact q
theorem used_eq {K : PySem.W.Frag} {H : Hp} {s dx : Addr} {b e t : Nat} {Q : VK} {E : XK} (sp : SpO K H s dx b e t) : sp_Space_used K [.ref s] H Q E = Q (.int ((t : Int) - b)) H := by
  refine propext ⟨fun ⟨s', dx', b', e', t', e1, sp', q⟩ => ?_, fun q => ⟨s, dx, b, e, t, rfl, sp, q⟩⟩
  cases e1
  obtain ⟨-, rfl, -, rfl⟩ := spo_inj sp sp'
  exact q

local macro_rules | `(tactic| walk_at "w3") => `(tactic| try simp only [↓x_var0, ↓x_varS, ↓x_c, ↓x_op, ↓x_un, ↓x_cb, ↓x_nil, ↓x_cons, ↓x_test, ↓x_b, ↓x_ex, ↓x_and, ↓x_or, ↓x_not, ↓x_andV, ↓x_orV, ↓x_notV, ↓x_tif, ↓x_chain, ↓x_menu, ↓x_menuI, ↓x_lst, ↓x_tup, ↓x_dnew, ↓x_callW, ↓x_callN, ↓x_seq, ↓x_next, ↓x_ret, ↓x_retN, ↓x_drop, ↓x_ifS, ↓x_asg, ↓x_name, ↓x_raise, ↓x_fld, ↓x_setF, ↓x_meth, ↓x_make, ↓x_sub, ↓r_min, ↓r_max, ↓x_yes, ↓x_for, ↓x_lock, ↓x_keys, ↓x_cut, ↓x_lc, ↓x_rng1, ↓x_rng2, ↓x_lst1, ↓x_itup, ↓x_rng3, ↓x_three, ↓x_lstg, ↓x_tupg, ↓x_adrS, ↓x_one, ↓x_two, ↓x_adr, ↓x_sl, ↓x_np, ↓x_pt, ↓x_int, ↓x_bm, ↓x_bm0, ↓x_consg, ↓x_nilg, ↓x_dget2, ↓x_dget1, ↓x_dget, ↓x_din, ↓x_dni, ↓x_dput, ↓x_dpop2, ↓r_isB, ↓r_notB, ↓x_enum, ↓x_zip, wipe, List.map_cons, List.map_nil, ↓x_isT, ↓r_isiII, ↓r_isiBB, ↓r_isiIB, ↓r_isiSS, ↓r_neNS, ↓r_neSN, ↓r_neNN, ↓r_eqNS, ↓r_eqSN, ↓r_eqNN, ↓r_eqIS, ↓r_neIS, ↓r_neSI, ↓r_neBS, ↓r_eqBB, ↓r_neBB, ↓x_start, ↓x_K, ↓x_start0, ↓r_i0, ↓r_i, ↓r_u, ↓r_addI, ↓r_addS, ↓r_mulI, ↓r_mulS, ↓r_eqI, ↓r_neI, ↓r_eqS, ↓r_neS, ↓r_absI, ↓r_intI, ↓r_intB, List.length_cons, List.length_nil, List.replicate, List.set_cons_zero, List.set_cons_succ, decide_eq_true_eq, Bool.not_eq_true', decide_eq_false_iff_not, if_true, if_false, Bool.false_eq_true, Bool.true_eq_false, ite_true, ite_false, Bool.not_true, Bool.not_false, c_div, n_ten, c_pow, not_true_eq_false, not_false_eq_true, decide_true, decide_false, true_and, and_true, and_self, true_or, or_true, Int.reduceLT, Int.reduceLE, Int.reduceMul, Int.reduceAdd, Int.reduceSub, Int.reducePow, Int.reduceNeg, Int.reduceDiv, Int.reduceMod, Nat.reducePow, Int.reduceToNat, Int.reduceEq, Int.reduceNe, Nat.reduceLT, Nat.reduceLeDiff, Nat.reduceAdd, ↓x_whole, ↓x_kind, Int.natCast_one, Int.natCast_one, Int.natCast_one, Int.natCast_one, Int.natCast_one, Int.natCast_one, Int.natCast_one, Int.natCast_one])
theorem CelP.age {S C} (h : CelP S C) {c : CeL} {a : Nat} (m : c ∈ C) (hl : c.p < S.ws.length) (ha : a ≤ 2) (h8 : c.ws.length ≤ 8) : CelP { S with ws := S.ws.set c.p (2 * ((4 * c.ws.length + a : Nat) : Int)) } C := by
  refine ⟨fun d md => ?_, fun d md j hj => ?_, h.ar, h.dj⟩
  · show ∃ a', a' ≤ 2 ∧ headAt ((S.ws.set c.p _).getD d.p 0) = _
    rw [getD_set hl]
    by_cases e : c.p = d.p
    · have := h.same_p m md e
      subst this
      rw [if_pos rfl]
      refine ⟨a, ha, ?_⟩
      unfold headAt
      rw [word_num (by omega)]
      dsimp only
      rw [if_pos (by omega), Int.toNat_natCast]
    · rw [if_neg e]
      exact h.hd d md
  · show (S.ws.set c.p _).getD (d.p + 1 + j) 0 = _
    rw [getD_set hl, if_neg ?_]
    · exact h.sl d md j hj
    · intro e
      by_cases e2 : c = d
      · subst e2
        omega
      · have := h.apart m md e2
        omega
theorem setC_mem {C : List CeL} {p j : Nat} {n : Int} {b : CeL} (m : b ∈ setC C p j n) : ∃ a ∈ C, b.p = a.p ∧ b.r = a.r ∧ b.ws.length = a.ws.length ∧ ((a.p = p ∧ b.ws = a.ws.set j n) ∨ (a.p ≠ p ∧ b = a)) := by
  obtain ⟨a, ma, rfl⟩ := List.mem_map.mp m
  by_cases e : a.p = p
  · rw [if_pos e]
    exact ⟨a, ma, rfl, rfl, List.length_set .., .inl ⟨e, rfl⟩⟩
  · rw [if_neg e]
    exact ⟨a, ma, rfl, rfl, rfl, .inr ⟨e, rfl⟩⟩
theorem setC_p {C : List CeL} {p j : Nat} {n : Int} : (setC C p j n).map (fun c => (c.p : Int)) = C.map fun c => (c.p : Int) := by
  unfold setC
  rw [List.map_map]
  congr 1
  funext c
  show ((if c.p = p then { c with ws := c.ws.set j n } else c).p : Int) = c.p
  split <;> rfl
theorem setC_len {C : List CeL} {p j : Nat} {n : Int} : (setC C p j n).length = C.length := List.length_map ..
theorem setC_at {C : List CeL} {p j i : Nat} {n : Int} {c : CeL} (h : C[i]? = some c) : ∃ d, (setC C p j n)[i]? = some d ∧ d.p = c.p ∧ d.ws.length = c.ws.length := by
  unfold setC
  rw [List.getElem?_map, h]
  refine ⟨_, rfl, ?_, ?_⟩
  · show (if c.p = p then { c with ws := c.ws.set j n } else c).p = c.p
    split <;> rfl
  · show (if c.p = p then { c with ws := c.ws.set j n } else c).ws.length = c.ws.length
    split
    · exact List.length_set ..
    · rfl
theorem CelP.put {S C} {c : CeL} {j : Nat} {n : Int} (h : CelP S C) (m : c ∈ C) (hj : j < c.ws.length) (hl : c.p + c.ws.length < S.ws.length) : CelP { S with ws := S.ws.set (c.p + 1 + j) n } (setC C c.p j n) := by
  have ap : ∀ a ∈ C, a.p ≠ c.p → a.p + a.ws.length < c.p ∨ c.p + c.ws.length < a.p := fun a ma ne => h.apart ma m fun z => ne (by rw [z])
  refine ⟨fun b mb => ?_, fun b mb i hi => ?_, fun b mb => ?_, ?_⟩
  · obtain ⟨a, ma, e1, e2, e3, e4⟩ := setC_mem mb
    show ∃ a', a' ≤ 2 ∧ headAt ((S.ws.set _ n).getD b.p 0) = _
    rw [e1, e3, getD_set (by omega), if_neg ?_]
    · exact h.hd a ma
    · rcases e4 with ⟨e4, -⟩ | ⟨ne, -⟩
      · omega
      · have := ap a ma ne
        omega
  · obtain ⟨a, ma, e1, e2, e3, e4⟩ := setC_mem mb
    show (S.ws.set _ n).getD (b.p + 1 + i) 0 = _
    rcases e4 with ⟨e4, e5⟩ | ⟨ne, rfl⟩
    · have := h.same_p ma m e4
      subst this
      rw [e3] at hi
      rw [e1, e5, getD_set (by omega), getD_set hj]
      by_cases e : j = i
      · subst e
        rw [if_pos rfl, if_pos rfl]
      · rw [if_neg (by omega), if_neg e]
        exact h.sl a ma i hi
    · have := ap b ma ne
      rw [getD_set (by omega), if_neg (by omega)]
      exact h.sl b ma i hi
  · obtain ⟨a, ma, e1, e2, e3, e4⟩ := setC_mem mb
    show b.p + b.ws.length < S.ot ∨ S.b S.fl ≤ b.p ∧ b.p + b.ws.length < S.t S.fl
    rw [e1, e3]
    exact h.ar a ma
  · unfold setC
    refine List.pairwise_map.mpr (h.dj.imp fun {a b} q => ?_)
    have f : ∀ x : CeL, (if x.p = c.p then { x with ws := x.ws.set j n } else x).p = x.p ∧ (if x.p = c.p then { x with ws := x.ws.set j n } else x).ws.length = x.ws.length := fun x => by
      split
      · exact ⟨rfl, List.length_set ..⟩
      · exact ⟨rfl, rfl⟩
    rw [(f a).1, (f a).2, (f b).1, (f b).2]
    exact q
/-- all cells lie in a heap of places up to 9999 -/
theorem CelP.pl {K H A S C} (I : ArO K H A S) (h : CelP S C) : ∀ c ∈ C, c.p + c.ws.length < S.ws.length ∧ c.p + c.ws.length < 3000 := fun c m => by
  have hl := h.lt I.ln I.lo (I.lt S.fl).2 c m
  have := I.ln
  have := I.gn
  have := I.gk
  exact ⟨hl, by omega⟩
def sp_built11 (K : PySem.W.Frag) : Sp := fun vs H Q _ => ∃ A S a, ∃ ns : List Int, vs = [.ref A.a, .ref a] ∧ ArO K H A S ∧ S.fl = false ∧ (∀ H', FrA A H H' → SqL K H' a (ns.map V.int)) ∧ ns.length ≤ 63 ∧
  ∀ p H' S' C, ArO K H' A S' → S'.fl = false → S'.n = S.n → S'.k = S.k → CelP S' C → (∀ c ∈ C, c.ws.length ≤ 8) → C.length ≤ 6 → H p = none → H' p = some (.lst ((C.map fun c => (c.p : Int)).map V.int)) → FrA A H H' → Q (.ref p) H'
section
variable {P : Program} {w : World} {K : PySem.W.Frag} {mg : Str → Option Value} {base : Heap}
theorem f__law_built (T : Tx K mg) : Fn P w K mg base 8 "_law_built" ["_law_areas", "_law_script"] (sp_built11 K) := by
  have c__law_at := f__law_at (P := P) (w := w) (base := base) T
  have c_Space_room := f_Space_room (P := P) (w := w) (base := base) T
  have c_Areas_lay_old := f_Areas_lay_old (P := P) (w := w) (base := base) T
  have c_Areas_lay_young := f_Areas_lay_young (P := P) (w := w) (base := base) T
  have c_aged := f_aged (P := P) (w := w) (base := base) T
  have c_slots_of := f_slots_of (P := P) (w := w) (base := base) T
  have c_Memory_write := f_Memory_write (P := P) (w := w) (base := base) T
  have c__law_word := f__law_word (P := P) (w := w) (base := base) T
  refine T.mkFn 41 39 (d := d__law_built) (N := ["_law_areas", "_law_script", "_law_places", "_law_k", "_law_cell", "_law_slot"]) (k := 7) rfl rfl rfl rfl rfl sc__law_built (fun _ _ _ _ _ _ us hl => match us, hl with | [_, _], _ => rfl) (fun vs H Q E h => ?len) (fun cdv A outer s H vs Q E hr h => ⟨_,
      (pss_cons (ps_set (i := 2) sc__law_built.nd rfl (Or.inl rfl) (pe_lst pa_nil))
        (pss_cons (ps_for (passes_of rfl) rfl (pi_range1 rfl (T.free 59) (pa_cons (pe_op op_mod (pe_fn (takes_of rfl rfl rfl rfl) c__law_at (hr.mono (by decide)) (by rfl) (pa_cons (pv 1) (pa_cons pe_int pa_nil))) pe_int) pa_nil)) (pg_name (i := 3) sc__law_built.nd rfl (Or.inl rfl)) (pss_cons (ps_set (i := 4) sc__law_built.nd rfl (Or.inl rfl) (pe_fn (takes_of rfl rfl rfl rfl) c__law_at (hr.mono (by decide)) (by rfl) (pa_cons (pv 1) (pa_cons (pe_op op_gAdd pe_int (pv 3)) pa_nil))))
        (pss_one (ps_if (PW.pt (pw_and (pt_cmpR (op_eqK (K := K) rfl hr.units) (pe_op op_mod (pe_op op_fdiv (pv 4) pe_int) pe_int) pe_int (nomark _)) (pw_and1 (pt_cmpR op_lt (pe_op op_mod (pv 4) pe_int) (pe_mt0 (K := K) rfl (takes_of rfl rfl rfl rfl) (pe_fldC (T.cls 99) (T.noat 106) (pv 0)) c_Space_room (hr.mono (by decide))) (nomark _))))) (pss_one (ps_expr (pe_bm PySem.F.plainAttrs_list PySem.F.slot_list_append PySem.F.type_list_append mt_append (pv 2) (pa_cons (pe_mt (K := K) rfl (takes_of rfl rfl rfl rfl) (pv 0) c_Areas_lay_old (hr.mono (by decide)) (pa_cons (pe_op op_mod (pv 4) pe_int) pa_nil)) pa_nil)))) (pss_one (ps_if (pt_cmpR op_lt (pe_op op_mod (pv 4) pe_int) (pe_mt0 (K := K) rfl (takes_of rfl rfl rfl rfl) (pe_fldC (T.cls 99) (T.noat 107) (pv 0)) c_Space_room (hr.mono (by decide))) (nomark _)) (pss_cons (ps_expr (pe_bm PySem.F.plainAttrs_list PySem.F.slot_list_append PySem.F.type_list_append mt_append (pv 2) (pa_cons (pe_mt (K := K) rfl (takes_of rfl rfl rfl rfl) (pv 0) c_Areas_lay_young (hr.mono (by decide)) (pa_cons (pe_op op_mod (pv 4) pe_int) pa_nil)) pa_nil)))
        (pss_one (ps_expr (pe_fn (takes_of rfl rfl rfl rfl) c_aged (hr.mono (by decide)) (by rfl) (pa_cons (pe_fldC (T.cls 99) (T.noat 105) (pv 0)) (pa_cons (pe_ix (ix_seqK (K := K) rfl) (pv 2) (pe_un un_neg pe_int) (fun _ _ => rfl)) (pa_cons (pe_op op_mod (pe_op op_fdiv (pv 4) pe_int) pe_int) pa_nil))))))) pss_nil))))))
        (pss_cons (ps_for (passes_of rfl) rfl (pi_range1 rfl (T.free 59) (pa_cons (pe_callB (call_lenK (K := K) rfl) (by rfl) (T.free 57) PySem.boot_len (pa_cons (pv 2) pa_nil)) pa_nil)) (pg_name (i := 3) sc__law_built.nd rfl (Or.inl rfl)) (pss_one (ps_for (passes_of rfl) rfl (pi_range1 rfl (T.free 59) (pa_cons (pe_fn (takes_of rfl rfl rfl rfl) c_slots_of (hr.mono (by decide)) (by rfl) (pa_cons (pe_fldC (T.cls 99) (T.noat 105) (pv 0)) (pa_cons (pe_ix (ix_seqK (K := K) rfl) (pv 2) (pv 3) (fun _ _ => rfl)) pa_nil))) pa_nil)) (pg_name (i := 5) sc__law_built.nd rfl (Or.inl rfl)) (pss_cons (ps_set (i := 4) sc__law_built.nd rfl (Or.inl rfl) (pe_op op_gAdd (pe_fn (takes_of rfl rfl rfl rfl) c__law_at (hr.mono (by decide)) (by rfl) (pa_cons (pv 1) (pa_cons (pe_op op_gAdd pe_int (pe_op op_mod (pe_op op_gAdd (pe_op op_gMul pe_int (pv 3)) (pv 5)) pe_int)) pa_nil))) (pe_op op_gMul pe_int (pv 3))))
        (pss_one (ps_expr (pe_mt (K := K) rfl (takes_of rfl rfl rfl rfl) (pe_fldC (T.cls 99) (T.noat 105) (pv 0)) c_Memory_write (hr.mono (by decide)) (pa_cons (pe_op op_gAdd (pe_op op_gAdd (pe_ix (ix_seqK (K := K) rfl) (pv 2) (pv 3) (fun _ _ => rfl)) pe_int) (pv 5)) (pa_cons (pe_fn (takes_of rfl rfl rfl rfl) c__law_word (hr.mono (by decide)) (by rfl) (pa_cons (pv 4) (pa_cons (pv 2) pa_nil))) pa_nil)))))))))
        (pss_one (ps_ret (pv 2)))))), ?rd⟩)
  case len => obtain ⟨_, _, _, _, rfl, _⟩ := h; rfl
  case rd =>
    obtain ⟨A, S0, a, ns, rfl, I, efl, hS, hln, q⟩ := h
    have sz : 10000 ≤ sizeLine := by rw [sizeLine_eq]; omega
    have hbk := I.gk
    have hbn := I.gn
    walk_at "w3"
    refine ⟨by omega, fun p np => ?_⟩
    have s1 := same_new (o := .lst []) np
    refine ⟨a, _, ns, rfl, hS _ (.same s1), by omega, ?_⟩
    walk_at "w3"
    obtain ⟨N, eN, hN⟩ : ∃ N : Nat, cell ns 2 % 7 = (N : Int) ∧ N ≤ 6 := ⟨(cell ns 2 % 7).toNat, by omega, by omega⟩
    rw [eN, Int.toNat_natCast]
    refine ⟨by omega, by omega, ?_⟩
    let J : Hp → Nat → ArS → List CeL → Prop := fun H' t S C => ArO K H' A S ∧ S.fl = false ∧ S.n = S0.n ∧ S.k = S0.k ∧ CelP S C ∧ (∀ c ∈ C, c.ws.length ≤ 8) ∧ C.length ≤ t ∧ H' p = some (.lst ((C.map fun c => (c.p : Int)).map V.int)) ∧ FrA A H H'
    have pl : p ≠ A.l := (ne_of_none I.me.ls np).symm
    refine forW_range (lo := 0) (n := N) (fun t σ H' => ∃ S C o3 o4, σ = [some (.ref A.a), some (.ref a), some (.ref p), o3, o4, none] ∧ J H' t S C) ⟨S0, [], _, _, rfl, I.same s1, efl, rfl, rfl, CelP.nil, (fun c m => (List.not_mem_nil m).elim), Nat.le_refl _, upd_same, .same s1⟩ ?_ ?_
    · rintro t σ H' ht ⟨S, C, o3, o4, rfl, j⟩
      obtain ⟨J1, jf, jn, jk, cp, j8, jl, jp, kf⟩ := id j
      have hlt := J1.lt S.fl
      have hlo := J1.lo
      have hln := J1.ln
      rw [Int.zero_add]
      walk_at "w3"
      refine ⟨a, _, ns, rfl, hS _ kf, by omega, ?_⟩
      generalize cell ns (3 + (t : Int)) = d
      obtain ⟨s, es, s8⟩ : ∃ s : Nat, d % 9 = (s : Int) ∧ s ≤ 8 := ⟨(d % 9).toNat, by omega, by omega⟩
      obtain ⟨g, eg, g2⟩ : ∃ g : Nat, d / 9 % 2 = (g : Int) ∧ g ≤ 1 := ⟨(d / 9 % 2).toNat, by omega, by omega⟩
      walk_at "w3"
      rw [es, eg, fld_eq J1.ob rfl, recv_eq J1.so rfl, room_eq J1.so]
      walk_at "w3"
      have m8 : ∀ {pt : Nat}, ∀ c ∈ C ++ [(⟨pt, p, List.replicate s (-1)⟩ : CeL)], c.ws.length ≤ 8 := fun {pt} c m => by
        rcases List.mem_append.mp m with m | m
        · exact j8 c m
        · rw [List.mem_singleton.mp m]
          show (List.replicate s (-1 : Int)).length ≤ 8
          rw [List.length_replicate]
          exact s8
      have mp : ∀ {pt : Nat}, ((C.map fun c => (c.p : Int)).map V.int) ++ [V.int (pt : Int)] = ((C ++ [(⟨pt, p, List.replicate s (-1)⟩ : CeL)]).map fun c => (c.p : Int)).map V.int := fun {pt} => by
        rw [List.map_append, List.map_append]
        rfl
      apply ite_and
      · intro c1 c2
        refine ⟨.inl ⟨rfl, _, .of jp⟩, recv J1.ob, A, S, _, rfl, J1, .inl ⟨_, rfl⟩, ?_⟩
        have fit : s + 1 ≤ endA S true - topA S true := (show s + 1 ≤ S.n - S.ot by omega)
        unfold laidW
        rw [slotsW_int, if_pos ⟨by omega, by omega⟩, Int.toNat_natCast]
        dsimp only
        rw [if_pos fit]
        intro H2 I2 k2
        have kf2 := FrA.two (.inl rfl) k2
        have jp2 := kf2.at J1 jp pl (by intro _ _ _ z; cases z)
        refine ⟨p, _, _, rfl, rfl, jp2, by rw [List.length_map, List.length_map]; omega, ?_⟩
        rw [mp]
        have I2 : ArO K H2 A (laidS S true s) := I2
        have cp2 := cp.lay (r := p) (old := true) s8 hln hlo hlt.1 (by show S.ot + (s + 1) ≤ S.n; omega)
        exact ⟨laidS S true s, _, _, _, rfl, I2.put jp2 pl.symm, laidS_same.1.trans jf, laidS_same.2.1.trans jn, laidS_same.2.2.1.trans jk, cp2, m8, by rw [List.length_append]; show C.length + 1 ≤ t + 1; omega, upd_same, (kf.trans kf2).new np⟩
      · intro c3
        rw [fld_eq J1.ob rfl, recv_eq (J1.half S.fl) rfl, room_eq (J1.half S.fl)]
        walk_at "w3"
        split
        · rename_i c4
          refine ⟨.inl ⟨rfl, _, .of jp⟩, recv J1.ob, A, S, _, rfl, J1, .inl ⟨_, rfl⟩, ?_⟩
          have fit : s + 1 ≤ endA S false - topA S false := (show s + 1 ≤ S.b S.fl + S.k - S.t S.fl by omega)
          unfold laidW
          rw [slotsW_int, if_pos ⟨by omega, by omega⟩, Int.toNat_natCast]
          dsimp only
          rw [if_pos fit]
          intro H2 I2 k2
          have kf2 : FrA A H' H2 := FrA.two (x := A.y S.fl) (by unfold ArA.y; split; exact .inr (.inr rfl); exact .inr (.inl rfl)) k2
          have jp2 := kf2.at J1 jp pl (by intro _ _ _ z; cases z)
          refine ⟨p, _, _, rfl, rfl, jp2, by rw [List.length_map, List.length_map]; omega, ?_⟩
          rw [mp]
          have I2 : ArO K H2 A (laidS S false s) := I2
          have cp2 := cp.lay (r := p) (old := false) s8 hln hlo hlt.1 (by show S.t S.fl + (s + 1) ≤ S.b S.fl + S.k; omega)
          have I3 := I2.put (o := .lst (((C ++ [(⟨S.t S.fl, p, List.replicate s (-1)⟩ : CeL)]).map fun c => (c.p : Int)).map V.int)) jp2 pl.symm
          have m2 : (⟨S.t S.fl, p, List.replicate s (-1)⟩ : CeL) ∈ C ++ [(⟨topA S false, p, List.replicate s (-1)⟩ : CeL)] := List.mem_append_right _ (List.mem_singleton_self _)
          have pl2 := CelP.pl I2 cp2 _ m2
          obtain ⟨k, ek, k4, -⟩ := cp2.head m2 pl2.1
          rw [show (⟨S.t S.fl, p, List.replicate s (-1)⟩ : CeL).ws.length = s from List.length_replicate] at k4
          refine ⟨_, fldIs I3.ob, ?_⟩
          have h3 : upd H2 p (.lst (((C ++ [(⟨S.t S.fl, p, List.replicate s (-1)⟩ : CeL)]).map fun c => (c.p : Int)).map V.int)) p = some (.lst (((C ++ [(⟨S.t S.fl, p, List.replicate s (-1)⟩ : CeL)]).map fun c => (c.p : Int)).map V.int)) := upd_same
          have kf3 : FrA A H (upd H2 p (.lst (((C ++ [(⟨S.t S.fl, p, List.replicate s (-1)⟩ : CeL)]).map fun c => (c.p : Int)).map V.int))) := (kf.trans kf2).new np
          generalize upd H2 p (.lst (((C ++ [(⟨S.t S.fl, p, List.replicate s (-1)⟩ : CeL)]).map fun c => (c.p : Int)).map V.int)) = H3 at I3 h3 kf3 ⊢
          have h3' := h3
          rw [← mp] at h3'
          refine .inl ⟨_, _, _, _, rfl, rfl, .of h3', atI_last _ _, ?_⟩
          refine ⟨A.m, A.mx, A.l, _, _, _, rfl, I3.me, I3.vw, .inl ⟨_, rfl⟩, .inl ⟨_, rfl⟩, ?_⟩
          rw [ek]
          dsimp only
          rw [ageW_int, if_pos (by omega), Int.toNat_natCast]
          dsimp only
          rw [k4]
          have cp3 := cp2.age (a := g) m2 (Nat.lt_of_le_of_lt (Nat.le_add_right _ _) pl2.1) (by omega) (m8 _ m2)
          rw [show (⟨S.t S.fl, p, List.replicate s (-1)⟩ : CeL).ws.length = s from List.length_replicate] at cp3
          have M3 := I3.me.put ((laidS S false s).ws.set (S.t S.fl) (2 * ((4 * s + g : Nat) : Int))) (List.length_set ..)
          have I4 := I3.words M3 (fun b o h g => (upd_ne h).trans g) (I3.vw.set (by rw [word_num (by omega)]; rfl)) (List.length_set ..)
          exact ⟨_, _, _, _, rfl, I4, laidS_same.1.trans jf, laidS_same.2.1.trans jn, laidS_same.2.2.1.trans jk, cp3, m8, by rw [List.length_append]; show C.length + 1 ≤ t + 1; omega, (upd_ne pl).trans h3, kf3.trans fun c o a1 _ _ _ g => (upd_ne a1).trans g⟩
        · exact ⟨S, C, _, _, rfl, J1, jf, jn, jk, cp, j8, by omega, jp, kf⟩
    · rintro σ H' ⟨S, C, o3, o4, rfl, j⟩
      obtain ⟨J1, jf, jn, jk, cp, j8, jl, jp, kf⟩ := id j
      walk_at "w3"
      refine r_lenL jp ?_
      rw [List.length_map, List.length_map]
      walk_at "w3"
      refine ⟨by omega, by omega, ?_⟩
      rw [Int.toNat_natCast]
      let J2 : Hp → ArS → List CeL → Prop := fun H' S' C' => J H' N S' C' ∧ C'.length = C.length
      refine forW_range (lo := 0) (n := C.length) (fun t σ H' => ∃ S C o3 o4 o5, σ = [some (.ref A.a), some (.ref a), some (.ref p), o3, o4, o5] ∧ J2 H' S C) ⟨S, C, _, _, _, rfl, j, rfl⟩ ?_ ?_
      · rintro t σ H1 ht ⟨S1, C1, o3, o4, o5, rfl, j1⟩
        obtain ⟨⟨J1, jf, jn, jk, cp, j8, jl, jp, kf⟩, lC⟩ := id j1
        rw [Int.zero_add]
        walk_at "w3"
        obtain ⟨c, ec⟩ : ∃ c, C1[t]? = some c := ⟨C1[t], List.getElem?_eq_getElem (by omega)⟩
        have mc := List.mem_of_getElem? ec
        have plc := CelP.pl J1 cp c mc
        obtain ⟨k, ek, k4, -⟩ := cp.head mc plc.1
        refine ⟨_, fldIs J1.ob, r_ixL (v := .int (c.p : Int)) jp (by rw [List.getElem?_map, List.getElem?_map, ec]; rfl) ⟨A.m, A.mx, A.l, _, _, rfl, J1.me, J1.vw, .inl ⟨_, rfl⟩, ?_⟩⟩
        rw [ek]
        dsimp only
        rw [k4]
        walk_at "w3"
        have c8 := j8 c mc
        refine ⟨by omega, by omega, ?_⟩
        rw [Int.toNat_natCast]
        refine forW_range (lo := 0) (n := c.ws.length) (fun u σ H' => ∃ S2 C2 o4 o5 c2, σ = [some (.ref A.a), some (.ref a), some (.ref p), some (.int (t : Int)), o4, o5] ∧ J2 H' S2 C2 ∧ C2[t]? = some c2 ∧ c2.p = c.p ∧ c2.ws.length = c.ws.length) ⟨S1, C1, _, _, c, rfl, j1, ec, rfl, rfl⟩ ?_ ?_
        · rintro u σ H2 hu ⟨S2, C2, o4, o5, c2, rfl, j2, ec2, e2p, e2l⟩
          obtain ⟨⟨J1, jf, jn, jk, cp, j8, jl, jp, kf⟩, lC⟩ := id j2
          have mc2 := List.mem_of_getElem? ec2
          have pl2 := CelP.pl J1 cp c2 mc2
          rw [Int.zero_add]
          walk_at "w3"
          refine ⟨a, _, ns, rfl, hS _ kf, by omega, ?_⟩
          walk_at "w3"
          refine ⟨_, fldIs J1.ob, recv J1.me.ob, r_ixL (v := .int (c2.p : Int)) jp (by rw [List.getElem?_map, List.getElem?_map, ec2]; rfl) ?_⟩
          walk_at "w3"
          refine ⟨_, p, _, rfl, jp, fun x mx => ?_, by rw [List.length_map]; omega, fun w H3 s3 hw _ => ?_⟩
          · obtain ⟨d, md, rfl⟩ := List.mem_map.mp mx
            have := CelP.pl J1 cp d md
            omega
          · refine ⟨A.m, A.mx, A.l, _, _, _, rfl, J1.me.same s3, .inl ⟨_, rfl⟩, .inl ⟨_, rfl⟩, ?_⟩
            have e5 : ((c2.p : Int) + 1 + (u : Int)).toNat = c2.p + 1 + u := by omega
            rw [placeOf_int, if_pos ⟨by omega, by omega⟩, e5, wordV_int, if_pos hw]
            dsimp only
            have I3 := J1.same s3
            have M3 := I3.me.put (S2.ws.set (c2.p + 1 + u) w) (List.length_set ..)
            have I4 := I3.words M3 (fun b o h g => (upd_ne h).trans g) (I3.vw.set hw) (List.length_set ..)
            obtain ⟨c3, ec3, e3p, e3l⟩ := setC_at (p := c2.p) (j := u) (n := w) ec2
            refine ⟨_, setC C2 c2.p u w, _, _, c3, rfl, ⟨⟨I4, jf, jn, jk, cp.put mc2 (by omega) pl2.1, fun d md => ?_, by rw [setC_len]; exact jl, ?_, kf.trans ((FrA.same s3).trans fun c o a1 _ _ _ g => (upd_ne a1).trans g)⟩, by rw [setC_len]; exact lC⟩, ec3, e3p.trans e2p, e3l.trans e2l⟩
            · obtain ⟨b, mb, -, -, e7, -⟩ := setC_mem md
              rw [e7]
              exact j8 b mb
            · rw [setC_p, upd_ne pl]
              exact s3 _ _ jp
        · rintro σ H2 ⟨S2, C2, o4, o5, c2, rfl, j2, -⟩
          exact ⟨_, _, _, _, _, rfl, j2⟩
      · rintro σ H1 ⟨S1, C1, o3, o4, o5, rfl, ⟨J1, jf, jn, jk, cp, j8, jl, jp, kf⟩, lC⟩
        walk_at "w3"
        exact q p H1 S1 C1 J1 jf jn jk cp j8 (by omega) np jp kf
end

local macro_rules | `(tactic| walk_at "w3") => `(tactic| try simp only [↓x_var0, ↓x_varS, ↓x_c, ↓x_op, ↓x_un, ↓x_cb, ↓x_nil, ↓x_cons, ↓x_test, ↓x_b, ↓x_ex, ↓x_and, ↓x_or, ↓x_not, ↓x_andV, ↓x_orV, ↓x_notV, ↓x_tif, ↓x_chain, ↓x_menu, ↓x_menuI, ↓x_lst, ↓x_tup, ↓x_dnew, ↓x_callW, ↓x_callN, ↓x_seq, ↓x_next, ↓x_ret, ↓x_retN, ↓x_drop, ↓x_ifS, ↓x_asg, ↓x_name, ↓x_raise, ↓x_fld, ↓x_setF, ↓x_meth, ↓x_make, ↓x_sub, ↓r_min, ↓r_max, ↓x_yes, ↓x_for, ↓x_lock, ↓x_keys, ↓x_cut, ↓x_lc, ↓x_rng1, ↓x_rng2, ↓x_lst1, ↓x_itup, ↓x_rng3, ↓x_three, ↓x_lstg, ↓x_tupg, ↓x_adrS, ↓x_one, ↓x_two, ↓x_adr, ↓x_sl, ↓x_np, ↓x_pt, ↓x_int, ↓x_bm, ↓x_bm0, ↓x_consg, ↓x_nilg, ↓x_dget2, ↓x_dget1, ↓x_dget, ↓x_din, ↓x_dni, ↓x_dput, ↓x_dpop2, ↓r_isB, ↓r_notB, ↓x_enum, ↓x_zip, wipe, List.map_cons, List.map_nil, ↓x_isT, ↓r_isiII, ↓r_isiBB, ↓r_isiIB, ↓r_isiSS, ↓r_neNS, ↓r_neSN, ↓r_neNN, ↓r_eqNS, ↓r_eqSN, ↓r_eqNN, ↓r_eqIS, ↓r_neIS, ↓r_neSI, ↓r_neBS, ↓r_eqBB, ↓r_neBB, ↓x_start, ↓x_K, ↓x_start0, ↓r_i0, ↓r_i, ↓r_u, ↓r_addI, ↓r_addS, ↓r_mulI, ↓r_mulS, ↓r_eqI, ↓r_neI, ↓r_eqS, ↓r_neS, ↓r_absI, ↓r_intI, ↓r_intB, List.length_cons, List.length_nil, List.replicate, List.set_cons_zero, List.set_cons_succ, decide_eq_true_eq, Bool.not_eq_true', decide_eq_false_iff_not, if_true, if_false, Bool.false_eq_true, Bool.true_eq_false, ite_true, ite_false, Bool.not_true, Bool.not_false, c_div, n_ten, c_pow, not_true_eq_false, not_false_eq_true, decide_true, decide_false, true_and, and_true, and_self, true_or, or_true, Int.reduceLT, Int.reduceLE, Int.reduceMul, Int.reduceAdd, Int.reduceSub, Int.reducePow, Int.reduceNeg, Int.reduceDiv, Int.reduceMod, Nat.reducePow, Int.reduceToNat, Int.reduceEq, Int.reduceNe, Nat.reduceLT, Nat.reduceLeDiff, Nat.reduceAdd, ↓x_whole, ↓x_kind, Int.natCast_one, Int.natCast_one, Int.natCast_one, Int.natCast_one, Int.natCast_one, Int.natCast_one, Int.natCast_one, Int.natCast_one, Int.natCast_one])
def sp_step11 (K : PySem.W.Frag) : Sp := fun vs H Q _ => ∃ A S C p u c, ∃ sent : List Int, vs = [.ref A.a, .ref p, .ref u, .int c] ∧ ArO K H A S ∧ SnP S C sent ∧ C ≠ [] ∧ C.length ≤ 6 ∧ H p = some (.lst ((C.map fun c => (c.p : Int)).map V.int)) ∧ H u = some (.lst (sent.map V.int)) ∧ u ≠ A.l ∧ sent.length ≤ 100 ∧
  ∀ H' S' sent', ArO K H' A S' → S'.fl = S.fl → S'.n = S.n → S'.k = S.k → SnP S' C sent' → H' u = some (.lst (sent'.map V.int)) → sent'.length ≤ sent.length + 1 → (∀ b o, b ≠ A.l → b ≠ A.o → b ≠ A.p → b ≠ A.q → b ≠ u → H b = some o → H' b = some o) → Q (.bl true) H'
section
variable {P : Program} {w : World} {K : PySem.W.Frag} {mg : Str → Option Value} {base : Heap}
theorem f__law_step (T : Tx K mg) : Fn P w K mg base 9 "_law_step" ["_law_areas", "_law_places", "_law_sent", "_law_cell"] (sp_step11 K) := by
  have c__law_due := f__law_due (P := P) (w := w) (base := base) T
  have c__law_words := f__law_words (P := P) (w := w) (base := base) T
  have c__law_told := f__law_told (P := P) (w := w) (base := base) T
  have c__law_whole := f__law_whole (P := P) (w := w) (base := base) T
  have c__law_stands := f__law_stands (P := P) (w := w) (base := base) T
  refine T.mkFn 45 43 (d := d__law_step) (N := ["_law_areas", "_law_places", "_law_sent", "_law_cell", "_law_at_here", "_law_space", "_law_age", "_law_due_here", "_law_before", "_law_tops", "_law_found", "_law_kinds_here", "_law_k", "_law_stays", "_law_top"]) (k := 8) rfl rfl rfl rfl rfl sc__law_step (fun _ _ _ _ _ _ us hl => match us, hl with | [_, _, _, _], _ => rfl) (fun vs H Q E h => ?len) (fun cdv A outer s H vs Q E hr h => ⟨_,
      (pss_cons (ps_set (i := 4) sc__law_step.nd rfl (Or.inl rfl) (pe_ix (ix_seqK (K := K) rfl) (pv 1) (pe_op op_mod (pv 3) (pe_callB (call_lenK (K := K) rfl) (by rfl) (T.free 57) PySem.boot_len (pa_cons (pv 1) pa_nil))) (fun _ _ => rfl)))
        (pss_cons (ps_set (i := 5) sc__law_step.nd rfl (Or.inl rfl) (pe_menu (pa_cons (pe_fldC (T.cls 99) (T.noat 108) (pv 0)) (pa_cons (pe_fldC (T.cls 99) (T.noat 106) (pv 0)) pa_nil)) (pe_op op_mod (pe_op op_fdiv (pv 3) pe_int) pe_int) (fun _ _ => rfl)))
        (pss_cons (ps_set (i := 6) sc__law_step.nd rfl (Or.inl rfl) (pe_menu (pa_cons pe_int (pa_cons pe_int (pa_cons pe_int (pa_cons pe_int (pa_cons pe_int (pa_cons pe_int (pa_cons (pe_un un_neg pe_int) (pa_cons pe_bl (pa_cons pe_non (pa_cons pe_str pa_nil)))))))))) (pe_op op_mod (pe_op op_fdiv (pv 3) pe_int) pe_int) (fun _ _ => rfl)))
        (pss_cut (ps_set (i := 7) sc__law_step.nd rfl (Or.inr rfl) (pe_fn (takes_of rfl rfl rfl rfl) c__law_due (hr.mono (by decide)) (by rfl) (pa_cons (pv 0) (pa_cons (pv 4) (pa_cons (pv 5) (pa_cons (pv 6) (pa_cons (pe_cmpR (op_inK (K := K) rfl) (pv 4) (pv 2) (by rfl)) pa_nil)))))))
        (pss_cons (ps_set (i := 8) sc__law_step.nd rfl (Or.inl rfl) (pe_fn (takes_of rfl rfl rfl rfl) c__law_words (hr.mono (by decide)) (by rfl) (pa_cons (pv 0) pa_nil)))
        (pss_cons (ps_set (i := 9) sc__law_step.nd rfl (Or.inl rfl) (pe_lst (pa_cons (pe_fldC (T.cls 87) (T.noat 98) (pe_fldC (T.cls 99) (T.noat 106) (pv 0))) (pa_cons (pe_fldC (T.cls 87) (T.noat 98) (pe_fldC (T.cls 99) (T.noat 107) (pv 0))) (pa_cons (pe_fldC (T.cls 87) (T.noat 98) (pe_fldC (T.cls 99) (T.noat 108) (pv 0))) pa_nil)))))
        (pss_cons (ps_set (i := 10) sc__law_step.nd rfl (Or.inl rfl) (pe_fn (takes_of rfl rfl rfl rfl) c__law_told (hr.mono (by decide)) (by rfl) (pa_cons (pv 0) (pa_cons (pv 4) (pa_cons (pv 5) (pa_cons (pv 6) pa_nil))))))
        (pss_cons (ps_if (pt_cmpR op_ge (pv 7) pe_int (nomark _)) (pss_cons (ps_set (i := 11) sc__law_step.nd rfl (Or.inl rfl) (pe_op op_gAdd (pe_lc (own := [("_law_k", 12)]) (g := gName 12) rfl sc__law_step.nd (pi_range1 rfl (T.free 59) (pa_cons pe_int pa_nil)) (blkOk_by (own := [("_law_k", 12)]) (N := ["_law_areas", "_law_places", "_law_sent", "_law_cell", "_law_at_here", "_law_space", "_law_age", "_law_due_here", "_law_before", "_law_tops", "_law_found", "_law_kinds_here", "_law_k", "_law_stays", "_law_top"]) (sc := defScope s__law_step) (by decide +kernel)) (fun _ _ _ _ _ => (pg_name (i := 12) sc__law_step.nd rfl (Or.inl rfl))) (fun _ _ _ _ _ => pts_nil) (fun _ _ _ _ _ => (pe_cmpR (op_eqK (K := K) rfl hr.units) (pv 12) (pv 7) (nomark _)))) (pe_lst (pa_cons pe_bl pa_nil))))
        (pss_cons (ps_set (i := 13) sc__law_step.nd rfl (Or.inl rfl) (pe_and (pe_cmpR (op_eqK (K := K) rfl hr.units) (pe_fn (takes_of rfl rfl rfl rfl) c__law_words (hr.mono (by decide)) (by rfl) (pa_cons (pv 0) pa_nil)) (pv 8) (nomark _)) (pe_one (pe_cmpR (op_eqK (K := K) rfl hr.units) (pe_lst (pa_cons (pe_fldC (T.cls 87) (T.noat 98) (pe_fldC (T.cls 99) (T.noat 106) (pv 0))) (pa_cons (pe_fldC (T.cls 87) (T.noat 98) (pe_fldC (T.cls 99) (T.noat 107) (pv 0))) (pa_cons (pe_fldC (T.cls 87) (T.noat 98) (pe_fldC (T.cls 99) (T.noat 108) (pv 0))) pa_nil)))) (pv 9) (nomark _)))))
        (pss_one (ps_ret (pe_and (pe_callB call_gIsi (by rfl) (T.free 56) (by decide +kernel) (pa_cons (pv 10) (pa_cons (pe_ty (T := "list") (T.free 62) (by decide +kernel) (by rfl)) pa_nil))) (pe_and (pe_cmpR (op_eqK (K := K) rfl hr.units) (pv 10) (pv 11) (nomark _)) (pe_one (pv 13)))))))) pss_nil)
        (pss_cons (ps_set (i := 14) sc__law_step.nd rfl (Or.inl rfl) (pe_ix (ix_seqK (K := K) rfl) (pv 9) (pe_op op_gMul pe_int (pe_callTy call_gInt (by rfl) (T.free 60) (by decide +kernel) (pa_cons (pe_cmpR op_gt (pe_fldC (T.cls 87) (T.noat 96) (pv 5)) pe_int (nomark _)) pa_nil))) (fun _ _ => rfl)))
        (pss_cons (ps_if (PW.pt (pw_or (pt_not (pt_val (pe_fnH c__law_whole (roomN_of (hr.mono (by decide))) (by rfl) (pa_cons (pv 10) pa_nil)))) (pw_or (pt_cmpR (op_neK (K := K) rfl hr.units) (pv 10) (pv 14) (nomark _)) (pw_or1 (pt_cmpR (op_neK (K := K) rfl hr.units) (pe_fldC (T.cls 87) (T.noat 98) (pv 5)) (pe_op op_gAdd (pe_op op_gAdd (pv 14) (pe_op op_fdiv (pe_ix (ix_seqK (K := K) rfl) (pv 8) (pv 4) (fun _ _ => rfl)) pe_int)) pe_int) (nomark _)))))) (pss_one (ps_ret pe_bl)) pss_nil)
        (pss_cons (ps_expr (pe_bm PySem.F.plainAttrs_list PySem.F.slot_list_append PySem.F.type_list_append mt_append (pv 2) (pa_cons (pv 4) pa_nil)))
        (pss_one (ps_ret (pe_fn (takes_of rfl rfl rfl rfl) c__law_stands (hr.mono (by decide)) (by rfl) (pa_cons (pv 0) (pa_cons (pv 8) (pa_cons (pv 4) (pa_cons (pv 10) (pa_cons (pv 6) pa_nil))))))))))))))))))), ?rd⟩)
  case len => obtain ⟨_, _, _, _, _, _, _, rfl, _⟩ := h; rfl
  case rd =>
    obtain ⟨A, S, C, p, u, c, sent, rfl, I, sn, cne, cl, hp, hu, ul, sl, q⟩ := h
    have sz : 10000 ≤ sizeLine := by rw [sizeLine_eq]; omega
    have hn := I.gn
    have hk := I.gk
    have hl := I.ln
    walk_at "w3"
    refine r_lenL hp ?_
    rw [List.length_map, List.length_map]
    walk_at "w3"
    have cpos : 0 < C.length := List.length_pos_iff.mpr cne
    have m0 := Int.emod_nonneg c (show (C.length : Int) ≠ 0 by omega)
    have m1 := Int.emod_lt_of_pos c (show (0 : Int) < C.length by omega)
    obtain ⟨i, ei⟩ := Int.eq_ofNat_of_zero_le m0
    rw [ei] at m1 ⊢
    have hi : i < C.length := by omega
    obtain ⟨d, ec⟩ : ∃ d, C[i]? = some d := ⟨C[i], List.getElem?_eq_getElem hi⟩
    have md := List.mem_of_getElem? ec
    refine ⟨by omega, r_ixL (v := .int (d.p : Int)) hp (by rw [List.getElem?_map, List.getElem?_map, ec]; rfl) ?_⟩
    obtain ⟨o, eo⟩ := spA_menu (A := A) (S := S) (c / 6)
    obtain ⟨z, ez, tz⟩ : ∃ z, atI [V.int 0, V.int 1, V.int 2, V.int 2, V.int 1, V.int 3, V.int (-1), V.bl true, V.non, V.str "1"] (c / 12 % 10) = some z ∧ ∀ H, Thing H z := by
      have e9 : c / 12 % 10 = 0 ∨ c / 12 % 10 = 1 ∨ c / 12 % 10 = 2 ∨ c / 12 % 10 = 3 ∨ c / 12 % 10 = 4 ∨ c / 12 % 10 = 5 ∨ c / 12 % 10 = 6 ∨ c / 12 % 10 = 7 ∨ c / 12 % 10 = 8 ∨ c / 12 % 10 = 9 := by omega
      rcases e9 with e | e | e | e | e | e | e | e | e | e <;> rw [e]
      · exact ⟨_, rfl, fun _ => .inl ⟨_, rfl⟩⟩
      · exact ⟨_, rfl, fun _ => .inl ⟨_, rfl⟩⟩
      · exact ⟨_, rfl, fun _ => .inl ⟨_, rfl⟩⟩
      · exact ⟨_, rfl, fun _ => .inl ⟨_, rfl⟩⟩
      · exact ⟨_, rfl, fun _ => .inl ⟨_, rfl⟩⟩
      · exact ⟨_, rfl, fun _ => .inl ⟨_, rfl⟩⟩
      · exact ⟨_, rfl, fun _ => .inl ⟨_, rfl⟩⟩
      · exact ⟨_, rfl, fun _ => .inr odd_bl⟩
      · exact ⟨_, rfl, fun _ => .inr odd_non⟩
      · exact ⟨_, rfl, fun _ => .inr odd_str⟩
    have le := spE_le I o
    have aw := sn.away I o d md
    have hlen : S.ws.length ≤ 3000 := by omega
    have hdw : d.p + d.ws.length < S.ws.length := by
      have hb : S.b S.fl + S.k ≤ S.n + 2 * S.k := by unfold ArS.b; split <;> omega
      have h1 := (I.lt S.fl).2
      have h2 := I.lo
      rcases sn.ar d md with q | q <;> omega
    have hdp : d.p < S.ws.length := by omega
    refine ⟨_, fldIs I.ob, _, fldIs I.ob, by omega, _, eo, by omega, z, ez, fun σ' H' => H' = H ∧ σ' = [some (.ref A.a), some (.ref p), some (.ref u), some (.int c), some (.int (d.p : Int)), some (.ref (spA A S o)), some z, some (.int (due11 S.ws (spE S o) (spT S o) d.p z (decide ((d.p : Int) ∈ sent)))), none, none, none, none, none, none, none], ?_, ?_⟩
    · refine ⟨u, sent.map V.int, rfl, .inl (.of hu), rfl, List.all_eq_true.mpr fun x m => ?_, ?_⟩
      · obtain ⟨y, -, rfl⟩ := List.mem_map.mp m
        rfl
      · rw [if_neg Bool.false_ne_true, in_ints]
        refine ⟨A, S.ws, _, _, _, _, _, d.p, z, _, (_, _, _), rfl, I.ob, I.me, I.vw, I.space o, tz H, fun f => ?_, rfl, rfl⟩
        obtain ⟨g, -, eg⟩ := sn.hd d md (of_decide_eq_false f)
        exact ⟨_, ans_head' hdp eg⟩
    rintro σ' H' ⟨rfl, rfl⟩
    walk_at "w3"
    refine ⟨A, S.ws, (_, _, _), rfl, I.ob, I.me, fun p1 H1 np1 s1 hp1 => ?_⟩
    have I1 := I.same s1
    refine ⟨_, fldIs I1.ob, _, fldIs I1.so, _, fldIs I1.ob, _, fldIs (I1.half S.fl), _, fldIs I1.ob, _, fldIs (I1.half !S.fl), by omega, fun p2 np2 => ?_⟩
    have s2 := same_new (o := .lst [V.int (S.ot : Int), V.int (S.t S.fl : Int), V.int (S.t (!S.fl) : Int)]) np2
    have h2 : upd H1 p2 (.lst [V.int (S.ot : Int), V.int (S.t S.fl : Int), V.int (S.t (!S.fl) : Int)]) p2 = some (.lst [V.int (S.ot : Int), V.int (S.t S.fl : Int), V.int (S.t (!S.fl) : Int)]) := upd_same
    generalize upd H1 p2 (.lst [V.int (S.ot : Int), V.int (S.t S.fl : Int), V.int (S.t (!S.fl) : Int)]) = H2 at s2 h2 ⊢
    have I2 := I1.same s2
    have D : (∃ due : Int, 0 ≤ due ∧ due11 S.ws (spE S o) (spT S o) d.p z (decide ((d.p : Int) ∈ sent)) = due ∧ (match headW S.ws (.int (d.p : Int)) with
          | .noPlace => due = 7
          | .noCell => due = 3
          | .ok _ h => match ageW z with
            | none => due = 0
            | some _ => due = 8 ∧ ¬ ((h / 4 + 1 : Nat) ≤ (spE S o : Int) - spT S o))) ∨
        (due11 S.ws (spE S o) (spT S o) d.p z (decide ((d.p : Int) ∈ sent)) = -1 ∧ ∃ k a, headW S.ws (.int (d.p : Int)) = .ok d.p k ∧ ageW z = some a ∧ k / 4 = d.ws.length ∧ k ≤ 34 ∧ d.ws.length + 1 ≤ spE S o - spT S o) := by
      unfold due11
      by_cases f : (d.p : Int) ∈ sent
      · rw [decide_eq_true f]
        refine .inl ⟨3, by decide, rfl, ?_⟩
        obtain ⟨g, eg⟩ := sn.gn d md f
        unfold headW
        rw [placeOf_int, if_pos ⟨by omega, by omega⟩, Int.toNat_natCast]
        dsimp only
        rw [show headAt (S.ws.getD d.p 0) = none from by unfold headAt; rw [eg]]
      · rw [decide_eq_false f]
        obtain ⟨g, g2, eg⟩ := sn.hd d md f
        obtain ⟨-, h34, -⟩ := headAt_some eg
        rw [if_neg Bool.false_ne_true, ans_head' hdp eg]
        dsimp only
        cases ea : ageW z with
        | none => exact .inl ⟨0, by decide, rfl, rfl⟩
        | some a =>
          dsimp only
          by_cases fit : (((4 * d.ws.length + g) / 4 + 1 : Nat) : Int) ≤ (spE S o : Int) - spT S o
          · rw [if_pos fit]
            exact .inr ⟨rfl, _, _, rfl, rfl, by omega, h34, by omega⟩
          · rw [if_neg fit]
            exact .inl ⟨8, by decide, rfl, rfl, fit⟩
    rcases D with ⟨due, hd0, ed, hd⟩ | ⟨ed, k, a, eh, ea, k4, k34, fit⟩
    · rw [ed]
      refine told_ref (fs := (_, _, _)) I2.ob I2.me I2.vw (I2.space o) (.inl ⟨_, rfl⟩) (tz _) hd fun p3 H3 np3 s3 h3 => ?_
      walk_at "w3"
      rw [if_pos hd0]
      intro D hD
      refine lc_mapR (fun i => .bl (decide (((0 : Int) + (i : Nat)) = due))) (fun _ => rfl) (by omega) (fun i hi acc Q2 q2 => ?_) ?_
      · walk_at "w3"
        exact q2
      have s4 := same_new (o := .lst (kindsD due)) hD
      have h4 : upd H3 D (.lst (kindsD due)) D = some (.lst (kindsD due)) := upd_same
      rw [show (List.range 13).map (fun i => V.bl (decide (((0 : Int) + (i : Nat)) = due))) = kindsD due from rfl]
      generalize upd H3 D (.lst (kindsD due)) = H4 at s4 h4 ⊢
      refine ⟨by omega, fun p5 np5 => ?_⟩
      have s5 := same_new (o := .lst [.bl true]) np5
      refine ⟨_, _, s5 _ _ h4, upd_same, by unfold kindsD; rw [List.length_map]; show 13 + 1 ≤ sizeLine; omega, fun p6 np6 => ?_⟩
      have s6 := same_new (o := .lst (kindsD due ++ [.bl true])) np6
      have h6 : upd (upd H4 p5 (.lst [.bl true])) p6 (.lst (kindsD due ++ [.bl true])) p6 = some (.lst (kindsD due ++ [.bl true])) := upd_same
      have s46 := (s4.trans s5).trans s6
      generalize upd (upd H4 p5 (.lst [.bl true])) p6 (.lst (kindsD due ++ [.bl true])) = H6 at s46 h6 ⊢
      have s16 := (s2.trans s3).trans s46
      have I6 := I1.same s16
      refine ⟨A, S.ws, (_, _, _), rfl, I6.ob, I6.me, fun p7 H7 np7 s7 h7 => ?_⟩
      have I7 := I6.same s7
      refine r_eqInts h7 ((s16.trans s7) _ _ hp1) ?_
      walk_at "w3"
      refine ⟨_, fldIs I7.ob, _, fldIs I7.so, _, fldIs I7.ob, _, fldIs (I7.half S.fl), _, fldIs I7.ob, _, fldIs (I7.half !S.fl), by omega, fun p8 np8 => ?_⟩
      have s8 := same_new (o := .lst [V.int (S.ot : Int), V.int (S.t S.fl : Int), V.int (S.t (!S.fl) : Int)]) np8
      have s28 := ((s3.trans s46).trans s7).trans s8
      refine r_eqInts (ns := [(S.ot : Int), (S.t S.fl : Int), (S.t (!S.fl) : Int)]) upd_same (s28 _ _ h2) ?_
      refine r_isiL (((s46.trans s7).trans s8) _ _ h3) ?_
      walk_at "w3"
      refine r_eqPlT (((s46.trans s7).trans s8) _ _ h3) ((s7.trans s8) _ _ h6) kindsD_pl ?_
      walk_at "w3"
      have s08 := (s1.trans s2).trans s28
      exact q _ S sent (I.same s08) rfl rfl rfl sn (s08 _ _ hu) (by omega) fun b o _ _ _ _ _ g => s08 _ _ g
    · rw [ed]
      refine ⟨A, S.ws, _, _, _, _, _, _, z, (_, _, _), rfl, I2.ob, I2.me, I2.vw, I2.space o, .inl ⟨_, rfl⟩, tz _, ?_⟩
      rw [eh, ea]
      dsimp only
      rw [k4, if_pos (by omega)]
      refine ⟨⟨by omega, le.1, by omega, by omega⟩, fun H3 M3 v3 sp3 k3 => ?_⟩
      obtain ⟨rfl, a2⟩ : z = .int (a : Int) ∧ a ≤ 2 := by
        cases z with
        | int n =>
          rw [ageW_int] at ea
          split at ea
          · have e := Option.some.inj ea
            exact ⟨by rw [← e, Int.toNat_of_nonneg (by omega)], by omega⟩
          · cases ea
        | _ => cases ea
      have I3 := I2.cop M3 v3 sp3 k3 (by omega)
      have spn : ∀ {c x}, H2 c = some (.lst x) → c ≠ A.l → H3 c = some (.lst x) := fun {c x} g n => k3 _ _ n (ne_of g (I2.space o) fun z => spv_lst z.symm) g
      have n1 : p1 ≠ A.l := (ne_of_none I.me.ls np1).symm
      have n2 : p2 ≠ A.l := (ne_of_none I1.me.ls np2).symm
      have t3 := spn h2 n2
      have b3 := spn (s2 _ _ hp1) n1
      have u3 := spn (s2 _ _ (s1 _ _ hu)) ul
      obtain ⟨j, ej, tj⟩ : ∃ j : Nat, 2 * (if 0 < (spB S o : Int) then (1 : Int) else 0) = (j : Int) ∧ [V.int (S.ot : Int), V.int (S.t S.fl : Int), V.int (S.t (!S.fl) : Int)][j]? = some (.int (spT S o : Int)) := by
        cases o
        · refine ⟨2, ?_, rfl⟩
          have : 0 < spB S false := by show 0 < S.b (!S.fl); unfold ArS.b; split <;> omega
          rw [if_pos (by omega)]
          rfl
        · exact ⟨0, rfl, rfl⟩
      walk_at "w3"
      refine ⟨_, fldIs sp3, ?_⟩
      walk_at "w3"
      rw [ej]
      refine r_ixL t3 tj ?_
      walk_at "w3"
      obtain ⟨-, -, eak⟩ := head_ok eh
      obtain ⟨wk, -, -⟩ := headAt_some eak
      refine ⟨_, fldIs sp3, r_ixL b3 (v := .int (S.ws.getD d.p 0)) (by rw [List.getElem?_map, getD_at (d := 0) hdp]; rfl) ?_⟩
      walk_at "w3"
      rw [if_neg (by omega)]
      refine ⟨.inl ⟨rfl, _, .of u3⟩, u, _, _, rfl, rfl, u3, by rw [List.length_map]; omega, ?_⟩
      have I4 := I3.put (o := .lst (sent.map V.int ++ [V.int (d.p : Int)])) u3 ul.symm
      have cs := copS_same (S := S) (o := o) (i := d.p) (s := d.ws.length) (a := a)
      have M4 := I4.me
      have v4 := I4.vw
      rw [cs.2.2.2.2.1] at M4 v4
      have np1u : p1 ≠ u := (ne_of_none hu np1).symm
      rw [← k4] at M4 v4
      refine ⟨A, S.ws, p1, d.p, spT S o, a, k, (_, _, _), rfl, I4.ob, M4, v4, (upd_ne np1u).trans b3, eh, by omega, by omega, a2, by omega, by omega, by omega, fun H5 s5 => ?_⟩
      refine q H5 _ (sent ++ [(d.p : Int)]) (I4.same s5) cs.1 cs.2.1 cs.2.2.1 (sn.cop I md (by omega) hdp (by omega)) ?_ (by rw [List.length_append]; exact Nat.le_refl _) fun b x h1 h2 h3 h4 h5 g => ?_
      · rw [List.map_append]
        exact s5 _ _ upd_same
      · refine s5 _ _ ((upd_ne h5).trans (k3 _ _ h1 ?_ (s2 _ _ (s1 _ _ g))))
        cases o
        · show b ≠ A.y (!S.fl)
          unfold ArA.y
          split <;> assumption
        · exact h2
end

local macro_rules | `(tactic| walk_at "w3") => `(tactic| try simp only [↓x_var0, ↓x_varS, ↓x_c, ↓x_op, ↓x_un, ↓x_cb, ↓x_nil, ↓x_cons, ↓x_test, ↓x_b, ↓x_ex, ↓x_and, ↓x_or, ↓x_not, ↓x_andV, ↓x_orV, ↓x_notV, ↓x_tif, ↓x_chain, ↓x_menu, ↓x_menuI, ↓x_lst, ↓x_tup, ↓x_dnew, ↓x_callW, ↓x_callN, ↓x_seq, ↓x_next, ↓x_ret, ↓x_retN, ↓x_drop, ↓x_ifS, ↓x_asg, ↓x_name, ↓x_raise, ↓x_fld, ↓x_setF, ↓x_meth, ↓x_make, ↓x_sub, ↓r_min, ↓r_max, ↓x_yes, ↓x_for, ↓x_lock, ↓x_keys, ↓x_cut, ↓x_lc, ↓x_rng1, ↓x_rng2, ↓x_lst1, ↓x_itup, ↓x_rng3, ↓x_three, ↓x_lstg, ↓x_tupg, ↓x_adrS, ↓x_one, ↓x_two, ↓x_adr, ↓x_sl, ↓x_np, ↓x_pt, ↓x_int, ↓x_bm, ↓x_bm0, ↓x_consg, ↓x_nilg, ↓x_dget2, ↓x_dget1, ↓x_dget, ↓x_din, ↓x_dni, ↓x_dput, ↓x_dpop2, ↓r_isB, ↓r_notB, ↓x_enum, ↓x_zip, wipe, List.map_cons, List.map_nil, ↓x_isT, ↓r_isiII, ↓r_isiBB, ↓r_isiIB, ↓r_isiSS, ↓r_neNS, ↓r_neSN, ↓r_neNN, ↓r_eqNS, ↓r_eqSN, ↓r_eqNN, ↓r_eqIS, ↓r_neIS, ↓r_neSI, ↓r_neBS, ↓r_eqBB, ↓r_neBB, ↓x_start, ↓x_K, ↓x_start0, ↓r_i0, ↓r_i, ↓r_u, ↓r_addI, ↓r_addS, ↓r_mulI, ↓r_mulS, ↓r_eqI, ↓r_neI, ↓r_eqS, ↓r_neS, ↓r_absI, ↓r_intI, ↓r_intB, List.length_cons, List.length_nil, List.replicate, List.set_cons_zero, List.set_cons_succ, decide_eq_true_eq, Bool.not_eq_true', decide_eq_false_iff_not, if_true, if_false, Bool.false_eq_true, Bool.true_eq_false, ite_true, ite_false, Bool.not_true, Bool.not_false, c_div, n_ten, c_pow, not_true_eq_false, not_false_eq_true, decide_true, decide_false, true_and, and_true, and_self, true_or, or_true, Int.reduceLT, Int.reduceLE, Int.reduceMul, Int.reduceAdd, Int.reduceSub, Int.reducePow, Int.reduceNeg, Int.reduceDiv, Int.reduceMod, Nat.reducePow, Int.reduceToNat, Int.reduceEq, Int.reduceNe, Nat.reduceLT, Nat.reduceLeDiff, Nat.reduceAdd, ↓x_whole, ↓x_kind, Int.natCast_one, Int.natCast_one, Int.natCast_one, Int.natCast_one, Int.natCast_one, Int.natCast_one, Int.natCast_one, Int.natCast_one, Int.natCast_one, Int.natCast_one])
def sp_law (K : PySem.W.Frag) : Sp := fun vs H Q _ => ∃ (a : Addr) (ns : List Int), vs = [.ref a] ∧ SqL K H a (ns.map V.int) ∧ ns.length ≤ 63 ∧ ∀ H', Q (.bl true) H'
theorem moved_num {ws : List Int} {n : Int} (h : (wordOf n).isSome = true) (ne : ∀ p, wordOf n ≠ some (.place p)) : movedW ws n = .ok n := by
  unfold movedW
  cases e : wordOf n with
  | none => exact absurd h (by rw [e]; exact Bool.false_ne_true)
  | some x =>
    cases x with
    | place p => exact absurd e (ne p)
    | _ => rfl
theorem moved_stay {ws : List Int} {p k : Nat} (hp : p < ws.length) (h9 : p ≤ 9999) (h : headAt (ws.getD p 0) = some k) : movedW ws (2 * (p : Int) + 1) = .ok (2 * (p : Int) + 1) := by
  unfold movedW
  rw [word_place (by omega) (by omega)]
  dsimp only
  rw [placeOf_int, if_pos ⟨by omega, by omega⟩, Int.toNat_natCast]
  dsimp only
  cases e : wordOf (ws.getD p 0) with
  | none =>
    unfold headAt at h
    rw [e] at h
    cases h
  | some x =>
    cases x with
    | num n =>
      dsimp only
      rw [h]
    | _ =>
      unfold headAt at h
      rw [e] at h
      cases h
theorem cutV_len {xs : List V} {lo hi : Option Int} : (cutV xs lo hi).length ≤ xs.length := by
  unfold cutV
  rw [List.length_take, List.length_drop]
  omega
section
variable {P : Program} {w : World} {K : PySem.W.Frag} {mg : Str → Option Value} {base : Heap}
theorem f_law (T : Tx K mg) : Fn P w K mg base 10 "law" ["_law_script"] (sp_law K) := by
  have c_Areas___init__ := f_Areas___init__ (P := P) (w := w) (base := base) T
  have c__law_at := f__law_at (P := P) (w := w) (base := base) T
  have c__law_built := f__law_built (P := P) (w := w) (base := base) T
  have c_moved := f_moved (P := P) (w := w) (base := base) T
  have c__law_no_head := f__law_no_head (P := P) (w := w) (base := base) T
  have c__law_step := f__law_step (P := P) (w := w) (base := base) T
  have c_place_word := f_place_word (P := P) (w := w) (base := base) T
  have c_number_word := f_number_word (P := P) (w := w) (base := base) T
  refine T.mkFn 47 45 (d := d_law) (N := ["_law_script", "_law_areas", "_law_places", "_law_sent", "_law_cell", "_law_at_here", "_law_number"]) (k := 9) rfl rfl rfl rfl rfl sc_law (fun _ _ _ _ _ _ us hl => match us, hl with | [_], _ => rfl) (fun vs H Q E h => ?len) (fun cdv A outer s H vs Q E hr h => ⟨_,
      (pss_cons (ps_set (i := 1) sc_law.nd rfl (Or.inl rfl) (pe_mk (K := K) rfl (takes_of rfl rfl rfl rfl) c_Areas___init__ (hr.mono (by decide)) (by rfl) (pa_cons (pe_op op_gAdd pe_int (pe_op op_mod (pe_fn (takes_of rfl rfl rfl rfl) c__law_at (hr.mono (by decide)) (by rfl) (pa_cons (pv 0) (pa_cons pe_int pa_nil))) pe_int)) (pa_cons (pe_op op_gAdd pe_int (pe_op op_mod (pe_fn (takes_of rfl rfl rfl rfl) c__law_at (hr.mono (by decide)) (by rfl) (pa_cons (pv 0) (pa_cons pe_int pa_nil))) pe_int)) pa_nil))))
        (pss_cons (ps_set (i := 2) sc_law.nd rfl (Or.inl rfl) (pe_fn (takes_of rfl rfl rfl rfl) c__law_built (hr.mono (by decide)) (by rfl) (pa_cons (pv 1) (pa_cons (pv 0) pa_nil))))
        (pss_cons (ps_if (pt_cmpR (op_eqK (K := K) rfl hr.units) (pv 2) (pe_lst pa_nil) (nomark _)) (pss_one (ps_ret (pe_cmpR (op_eqK (K := K) rfl hr.units) (pe_fn (takes_of rfl rfl rfl rfl) c_moved (hr.mono (by decide)) (by rfl) (pa_cons (pe_fldC (T.cls 99) (T.noat 105) (pv 1)) (pa_cons (pe_num (T.num 48) (by rfl)) pa_nil))) (pe_num (T.num 48) (by rfl)) (nomark _)))) pss_nil)
        (pss_cons (ps_set (i := 3) sc_law.nd rfl (Or.inl rfl) (pe_lst pa_nil))
        (pss_cons (ps_for (passes_of rfl) rfl (pi_listK (K := K) rfl (pe_slice (sl_listK (K := K) rfl) (pv 0) (po_some pe_int) (po_some pe_int))) (pg_name (i := 4) sc_law.nd rfl (Or.inl rfl)) (pss_cons (ps_if (PW.pt (pw_or (pt_not (pt_val (pe_fn (takes_of rfl rfl rfl rfl) c__law_step (hr.mono (by decide)) (by rfl) (pa_cons (pv 1) (pa_cons (pv 2) (pa_cons (pv 3) (pa_cons (pv 4) pa_nil))))))) (pw_or1 (pt_not (pt_val (pe_fn (takes_of rfl rfl rfl rfl) c__law_no_head (hr.mono (by decide)) (by rfl) (pa_cons (pv 1) (pa_cons (pe_op op_fdiv (pv 4) pe_int) pa_nil)))))))) (pss_one (ps_ret pe_bl)) pss_nil)
        (pss_one (ps_for (passes_of rfl) rfl (pi_listK (K := K) rfl (pv 2)) (pg_name (i := 5) sc_law.nd rfl (Or.inl rfl)) (pss_one (ps_if (PW.pt (pw_and (pt_cmpR (op_ninK (K := K) rfl) (pv 5) (pv 3) (by rfl)) (pw_and1 (pt_cmpR (op_neK (K := K) rfl hr.units) (pe_fn (takes_of rfl rfl rfl rfl) c_moved (hr.mono (by decide)) (by rfl) (pa_cons (pe_fldC (T.cls 99) (T.noat 105) (pv 1)) (pa_cons (pe_fn (takes_of rfl rfl rfl rfl) c_place_word (hr.mono (by decide)) (by rfl) (pa_cons (pv 5) pa_nil)) pa_nil))) (pe_fn (takes_of rfl rfl rfl rfl) c_place_word (hr.mono (by decide)) (by rfl) (pa_cons (pv 5) pa_nil)) (nomark _))))) (pss_one (ps_ret pe_bl)) pss_nil))))))
        (pss_cons (ps_set (i := 6) sc_law.nd rfl (Or.inl rfl) (pe_fn (takes_of rfl rfl rfl rfl) c_number_word (hr.mono (by decide)) (by rfl) (pa_cons (pe_op op_mod (pe_fn (takes_of rfl rfl rfl rfl) c__law_at (hr.mono (by decide)) (by rfl) (pa_cons (pv 0) (pa_cons pe_int pa_nil))) (pe_op op_pow pe_int pe_int)) pa_nil)))
        (pss_one (ps_ret (pe_and (pe_cmpR (op_eqK (K := K) rfl hr.units) (pe_fn (takes_of rfl rfl rfl rfl) c_moved (hr.mono (by decide)) (by rfl) (pa_cons (pe_fldC (T.cls 99) (T.noat 105) (pv 1)) (pa_cons (pv 6) pa_nil))) (pv 6) (nomark _)) (pe_one (pe_cmpR (op_eqK (K := K) rfl hr.units) (pe_fn (takes_of rfl rfl rfl rfl) c_moved (hr.mono (by decide)) (by rfl) (pa_cons (pe_fldC (T.cls 99) (T.noat 105) (pv 1)) (pa_cons (pe_num (T.num 48) (by rfl)) pa_nil))) (pe_num (T.num 48) (by rfl)) (nomark _)))))))))))), ?rd⟩)
  case len => first | exact len_law h | (repeat (first | (obtain ⟨rfl, _⟩ := h; rfl; done) | obtain ⟨_, h⟩ := h))
  case rd =>
    obtain ⟨a, ns, rfl, hS, hl, q⟩ := h
    have sz : 10000 ≤ sizeLine := by rw [sizeLine_eq]; omega
    walk_at "w3"
    refine ⟨a, _, ns, rfl, hS, by omega, ?_⟩
    walk_at "w3"
    refine ⟨a, _, ns, rfl, hS, by omega, ?_⟩
    walk_at "w3"
    obtain ⟨n, en, hn⟩ : ∃ n : Nat, 4 + cell ns 0 % 37 = (n : Int) ∧ 4 ≤ n ∧ n ≤ 40 := ⟨(4 + cell ns 0 % 37).toNat, by omega, by omega⟩
    obtain ⟨k, ek, hk⟩ : ∃ k : Nat, 2 + cell ns 1 % 19 = (k : Int) ∧ 2 ≤ k ∧ k ≤ 20 := ⟨(2 + cell ns 1 % 19).toNat, by omega, by omega⟩
    rw [en, ek]
    intro g gx ng ngx nge
    have sm := same_mk (C := He.ga K "Areas") ng ngx nge
    refine ⟨g, gx, _, _, rfl, upd_same, .inl ⟨_, rfl⟩, .inl ⟨_, rfl⟩, ?_⟩
    rw [oldV_int, if_pos (by omega), Int.toNat_natCast]
    dsimp only
    rw [youngV_int, if_pos (by omega), Int.toNat_natCast]
    dsimp only
    intro A H1 eA I1 nl no np nq nm k1
    subst eA
    have hA := none_of sm nl
    have hO := none_of sm no
    have hP := none_of sm np
    have hQ := none_of sm nq
    have s1 : Same H H1 := fun b o e => k1 _ _ (ne_of_none e ng) (sm _ _ e)
    have fsame : ∀ {Ha Hb}, Same H Ha → FrA A Ha Hb → Same H Hb := fun {Ha Hb} s f b o e => f _ _ (ne_of_none e hA) (ne_of_none e hO) (ne_of_none e hP) (ne_of_none e hQ) (s _ _ e)
    walk_at "w3"
    refine ⟨A, arS n k, a, ns, rfl, I1, rfl, fun H' f => (fsame s1 f).seq hS, hl, fun p H2 S C I2 fl jn jk cp c8 cl np hp kf => ?_⟩
    have s2 := fsame s1 kf
    have pl : p ≠ A.l := (ne_of_none I1.me.ls np).symm
    walk_at "w3"
    refine ⟨by omega, fun p2 np2 => ?_⟩
    have s3 := same_new (o := .lst []) np2
    refine r_eqNil (s3 _ _ hp) upd_same ?_
    have I3 := I2.same s3
    have s03 := s2.trans s3
    have hp3 := s3 _ _ hp
    have pn2 : p ≠ p2 := ne_of_none hp np2
    generalize upd H2 p2 (.lst []) = H3 at s3 I3 s03 hp3 ⊢
    walk_at "w3"
    split
    · refine ⟨_, fldIs I3.ob, A.m, A.mx, A.l, S.ws, _, rfl, I3.me, I3.vw, rfl, ?_⟩
      rw [moved_num rfl (by intro p z; cases z)]
      dsimp only
      walk_at "w3"
      exact q _
    rename_i c0
    have cne : C ≠ [] := fun z => c0 (by rw [z]; rfl)
    refine ⟨by omega, fun u nu => ?_⟩
    have s4 := same_new (o := .lst []) nu
    have nuH := none_of s03 nu
    have hu4 : upd H3 u (.lst []) u = some (.lst []) := upd_same
    have hp4 := s4 _ _ hp3
    have I4 := I3.same s4
    have ul : u ≠ A.l := (ne_of_none I3.me.ls nu).symm
    have pu : p ≠ u := ne_of_none hp3 nu
    have s04 := s03.trans s4
    generalize upd H3 u (.lst []) = H4 at s4 I4 s04 hp4 hu4 ⊢
    obtain ⟨cs, ecs⟩ := cut_ints ns (some 29) (some 37)
    refine ⟨a, _, rfl, s04.seq hS, fun w nw => ?_⟩
    rw [ecs]
    have hcl : cs.length ≤ 63 := by
      have e := congrArg List.length ecs
      have e2 := cutV_len (xs := ns.map V.int) (lo := some 29) (hi := some 37)
      rw [List.length_map] at e e2
      omega
    have s5 := same_new (o := .lst (cs.map V.int)) nw
    have hw5 : upd H4 w (.lst (cs.map V.int)) w = some (.lst (cs.map V.int)) := upd_same
    have wu : w ≠ u := (ne_of_none hu4 nw).symm
    have wl : w ≠ A.l := (ne_of_none I4.me.ls nw).symm
    have I5 := I4.same s5
    have hu5 := s5 _ _ hu4
    have hp5 := s5 _ _ hp4
    have s05 := s04.trans s5
    generalize upd H4 w (.lst (cs.map V.int)) = H5 at s5 I5 s05 hp5 hu5 hw5 ⊢
    walk_at "w3"
    let J : Nat → Hp → ArS → List Int → Prop := fun i H' S' sent => ArO K H' A S' ∧ S'.n = n ∧ S'.k = k ∧ SnP S' C sent ∧ H' u = some (.lst (sent.map V.int)) ∧ sent.length ≤ i ∧ FrA A (fun x => if x = u then none else H5 x) H'
    have fr5 : ∀ {H'} , FrA A (fun x => if x = u then none else H5 x) H' → ∀ c o, c ≠ u → c ≠ A.l → (∀ C d fs, o ≠ .ins C d fs) → H5 c = some o → H' c = some o := fun {H'} f c o cu cA no g => f c o cA (ne_of g I5.so fun z => no _ _ _ z) (ne_of g I5.sp fun z => no _ _ _ z) (ne_of g I5.sq fun z => no _ _ _ z) (by show (if c = u then none else H5 c) = some o; rw [if_neg cu]; exact g)
    refine ⟨⟨_, .of hw5⟩, forW_list (xs := cs.map V.int) (fun i σ H' => ∃ S' sent o4 o5, σ = [some (.ref a), some (.ref A.a), some (.ref p), some (.ref u), o4, o5, none] ∧ J i H' S' sent) ⟨S, [], _, _, rfl, I5, jn, jk, cp.sn, hu5, Nat.le_refl _, fun c o a1 a2 a3 a4 g => by
      have g : (if c = u then none else H5 c) = some o := g
      split at g
      · cases g
      · exact g⟩ ?_ ?_ ?_⟩
    · rintro i σ H' hi ⟨S', sent, o4, o5, rfl, J1, jn, jk, sn, hu, sl, f⟩
      exact .of (fr5 f _ _ wu wl (by intro _ _ _ z; cases z) hw5)
    · rintro i x σ H6 hx ⟨S', sent, o4, o5, rfl, J6, jn, jk, sn, hu, sl, f6⟩
      obtain ⟨c, rfl, -⟩ := ints_mem hx
      have il := (List.getElem?_eq_some_iff.mp hx).1
      rw [List.length_map] at il
      have hp6 := fr5 f6 _ _ pu pl (by intro _ _ _ z; cases z) hp5
      walk_at "w3"
      refine ⟨A, S', C, p, u, c, sent, rfl, J6, sn, cne, cl, hp6, hu, ul, by omega, fun H7 S7 sent7 J7 fl7 n7 k7 sn7 hu7 sl7 k67 => ?_⟩
      walk_at "w3"
      have hp7 := k67 p _ pl (ne_of hp6 J6.so fun z => spv_lst z.symm) (ne_of hp6 J6.sp fun z => spv_lst z.symm) (ne_of hp6 J6.sq fun z => spv_lst z.symm) pu hp6
      refine ⟨A, S7, c / 120, rfl, J7, by omega, fun H8 s8 => ?_⟩
      walk_at "w3"
      have J8 := J7.same s8
      have hp8 := s8 _ _ hp7
      have hu8 := s8 _ _ hu7
      refine ⟨⟨_, .of hp8⟩, forW_list (xs := (C.map fun c => (c.p : Int)).map V.int) (fun t σ H' => ∃ o5, σ = [some (.ref a), some (.ref A.a), some (.ref p), some (.ref u), some (.int c), o5, none] ∧ H' = H8) ⟨_, rfl, rfl⟩ ?_ ?_ ?_⟩
      · rintro t σ H' ht ⟨o5, rfl, rfl⟩
        exact .of hp8
      · rintro t x σ H' hx ⟨o5, rfl, rfl⟩
        obtain ⟨y, rfl, my⟩ := ints_mem hx
        obtain ⟨d, md, rfl⟩ := List.mem_map.mp my
        walk_at "w3"
        refine ⟨u, sent7.map V.int, rfl, .inl (.of hu8), rfl, List.all_eq_true.mpr fun x m => ?_, ?_⟩
        · obtain ⟨y, -, rfl⟩ := List.mem_map.mp m
          rfl
        rw [if_pos (rfl : true = true), in_ints]
        walk_at "w3"
        split
        · rename_i f
          obtain ⟨h3, -, eg⟩ := sn7.hd d md (by simpa using f)
          have hdp : d.p < S7.ws.length := by
            have hb : S7.b S7.fl + S7.k ≤ S7.n + 2 * S7.k := by unfold ArS.b; split <;> omega
            have h1 := (J7.lt S7.fl).2
            have h2 := J7.lo
            have h3 := J7.ln
            rcases sn7.ar d md with q | q <;> omega
          have h9 := J7.ln
          refine ⟨_, fldIs J8.ob, ?_⟩
          rw [x_place_word, if_pos (by omega)]
          refine ⟨A.m, A.mx, A.l, _, _, rfl, J8.me, J8.vw, by rw [word_place (by omega) (by omega)]; rfl, ?_⟩
          rw [moved_stay hdp (by omega) eg]
          dsimp only
          rw [x_place_word, if_pos (by omega)]
          walk_at "w3"
          exact ⟨_, rfl⟩
        · exact ⟨_, rfl⟩
      · rintro σ H' ⟨o5, rfl, rfl⟩
        exact ⟨S7, sent7, _, _, rfl, J8, n7.trans jn, k7.trans jk, sn7, hu8, by omega, fun c o a1 a2 a3 a4 g => s8 _ _ (k67 c o a1 a2 a3 a4 (fun z => by have g : (if c = u then none else H5 c) = some o := g; rw [if_pos z] at g; cases g) (f6 c o a1 a2 a3 a4 g))⟩
    · rintro σ H6 ⟨S', sent, o4, o5, rfl, J6, jn, jk, sn, hu, sl, f6⟩
      walk_at "w3"
      have s6 : Same H H6 := fun b o e => f6 b o (ne_of_none e hA) (ne_of_none e hO) (ne_of_none e hP) (ne_of_none e hQ) (by show (if b = u then none else H5 b) = some o; rw [if_neg (ne_of_none e nuH)]; exact s05 _ _ e)
      refine ⟨a, _, ns, rfl, s6.seq hS, by omega, ?_⟩
      walk_at "w3"
      rw [x_number_word, if_pos (by omega)]
      have wn : wordOf (2 * (cell ns 29 % 1000000000000)) = some (.num (cell ns 29 % 1000000000000)) := word_num (by omega)
      refine ⟨_, fldIs J6.ob, A.m, A.mx, A.l, _, _, rfl, J6.me, J6.vw, by rw [wn]; rfl, ?_⟩
      rw [moved_num (by rw [wn]; rfl) (by rw [wn]; intro p z; cases z)]
      dsimp only
      walk_at "w3"
      refine ⟨_, fldIs J6.ob, A.m, A.mx, A.l, _, _, rfl, J6.me, J6.vw, rfl, ?_⟩
      rw [moved_num rfl (by intro p z; cases z)]
      dsimp only
      walk_at "w3"
      exact q _
end

theorem facts {w : World} {K : PySem.W.Frag} {h : Heap} {mg : Str → Option Value} {f : Addr} (X : K.In h) (G : h.Ns mainGlobals mg) (hfa : mg ("law" : Str) = some (.ref f)) (c : He.SaysD fa fn K) (ce : exOk exL K = true) :
    ∃ fd : FuncData, (∀ (s : Shared) (v : Value), BindsTo s fd ⟨[v], []⟩ [("_law_script", v)]) ∧ ∀ base : Heap, K.In base → base.Ns mainGlobals mg → FnOk (PySem.Challenge.rw_cellkeep_k11_a_cell_copied).prog w K mg base CX0 10 f fd ["_law_script"] (sp_law K) := by
  have T : Tx K mg := ⟨⟨h, X, G⟩, c, ce⟩
  have e := hfa.symm.trans (T.glo 45)
  cases e
  have F : ∀ base : Heap, Fn (PySem.Challenge.rw_cellkeep_k11_a_cell_copied).prog w K mg base 10 "law" ["_law_script"] (sp_law K) := fun base => f_law T
  exact ⟨_, fun s v => (F h).bd s [v] rfl, fun base _ _ => quiet (F base).ok fun _ _ _ _ z => z⟩

end Pr
open PySem PySem.W PySem.Calls PyProof.Rows
theorem PySem.Challenge.cw_cellkeep_k11_a_cell_copied_holds : PySem.Challenge.rw_cellkeep_k11_a_cell_copied.Holds := by
  w_on; o_law
  refine HandSHeadRun.head_any (r := OpenLaw.row PySem.Challenge.rw_cellkeep_k11_a_cell_copied) (q := view (OpenLaw.row PySem.Challenge.rw_cellkeep_k11_a_cell_copied).prog [63]) (H := Pr.hk) (ob := Pr.ob) (M := 16000) (loose := Pr.loose) (d := HandSHeadRun.topDef (OpenLaw.row PySem.Challenge.rw_cellkeep_k11_a_cell_copied).prog 63) (kwd := []) Pr.ob_eq
    (by kernel_rfl) (fun s => by kernel_rfl) Pr.run (by kernel_rfl) (by kernel_rfl) (by kernel_rfl) (by rfl) (by first | assumption | decide +kernel) (by decide +kernel) ⟨rfl, rfl, rfl, rfl, rfl, by decide +kernel⟩ ?hw ?hc
  case hw => w_witness2
  case hc =>
    refine L2.walk_ofE (l := PySem.Challenge.rw_cellkeep_k11_a_cell_copied) (n := 63) (k := 10) (x := "_law_script") (CX := L2.CX0) rfl (by decide) (by kernel_rfl) ⟨rfl, by decide, by decide⟩ ?F (fun _ _ _ _ z => z)
    case F =>
      intro w mg fa h Y G hmg0
      obtain ⟨K, KX, c, ce⟩ := Y
      have hmg : mg ("law" : PySem.Str) = some (.ref fa) := by
        have e : (HandSHeadRun.topDef (OpenLaw.row PySem.Challenge.rw_cellkeep_k11_a_cell_copied).prog 63).name = ("law" : PySem.Str) := by kernel_rfl
        rw [← e]
        exact hmg0
      obtain ⟨fd, hb, hF⟩ := Pr.facts (w := w) KX G hmg c ce
      exact ⟨K, fd, Pr.sp_law K, KX, hb, fun H a ns hl _ hS => ⟨a, ns, rfl, hS, hl, fun _ => rfl⟩, hF⟩
#print axioms PySem.Challenge.cw_cellkeep_k11_a_cell_copied_holds

