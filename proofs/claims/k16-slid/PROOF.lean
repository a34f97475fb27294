import PyProof.Rows.All
import Wide.All
import OpenK.AllK
import Wide.FinOn
import KE.KStateDown
import HandS.Base
import HandS.Call
import HandS.List
import HandS.Comp
import HandS.Ends
import HandS.Dict
import HandS.Iter
import HandS.Walk
import HandS.Text
import HandS.Words
import HandS.WordsList
import HandS.WordsDict
import HandS.Exc
import HandS.TryOnly
import HandS.TryMany
import HandS.ExcOwn
import HandS.WordsExc
import HandS.IsInst
import HandS.ExcIs
import HandS.Flow
import HandS.More
import HandS.Wide
import HandS.SortInts
import HandS.Defaults
import HandS.Head0
import HandS.Head1
import HandS.Head2
import HandS.HeadEnd
import HandS.HeadHook1
import HandS.HeadHook2
import KE.KDictCopyH
import PySem.Challenge.RW_cellkeep_k16_whole_slid
set_option Elab.async false
set_option linter.all false
set_option maxRecDepth 100000
set_option maxHeartbeats 4000000
namespace G
open PySem PySem.Spec PyProof.Rows L2

/-! ## a caught exception as a tracked thing -/
/-- an exception object of class cls stands at a -/
def ExA (cls : Value) (a : Addr) : HO := .ext fun h => ∃ (o : Obj) (fv : Array Value), h.get? a = some o ∧ Zc cls none o ∧ o.data = .fields fv
theorem exA_ok {P : Program} {w : World} {H : Hp} {h : Heap} {a : Addr} {cls : Value} {o : Obj} {fv : Array Value} (e : h.get? a = some o) (z : Zc cls none o) (d : o.data = .fields fv) : ObjOk P w H h a (ExA cls a) :=
  ⟨⟨o, fv, e, z, d⟩, ⟨o, e⟩, fun _ _ ⟨o', fv', e', z', d'⟩ k => ⟨o', fv', k _ e', z', d'⟩⟩

section
variable {X : Cx} {pins : List (Addr × Obj)} {σ : L2.St} {H : Hp} {s : Shared}
/-- an object that stands untracked is tracked from now on -/
theorem track {a : Addr} {u : HO} (I : Inv X pins σ H s) (na : H a = none) (n0 : X.s_0.heap.get? a = none) (nL : a ≠ X.env.locals) (nC : ∀ x c, X.env.cells.lookup x = some c → c ≠ a)
    (nP : ∀ p ∈ X.pn ++ pins, p.1 ≠ a) (new : ObjOk X.prog X.w (upd H a u) s.heap a u) : Inv X pins σ (upd H a u) s := by
  have ne0 : ∀ b o, X.s_0.heap.get? b = some o → b ≠ a := fun b o e z => by rw [z, n0] at e; cases e
  have neH : ∀ b o, H b = some o → b ≠ a := fun b o e z => by rw [z, na] at e; cases e
  refine ⟨I.ok, I.os, I.bare, ⟨I.base.keep, I.base.slot, ?_, I.base.there, ?_, ?_, ?_⟩, I.loc, I.cell, ?_, ?_, ?_, ?_, I.len⟩
  · intro b o e n hx
    rw [upd_ne (ne0 b o e)]
    exact I.base.free b o e n hx
  · intro b xs e
    have q := I.base.tups b xs e
    rw [upd_ne (neH b _ q)]
    exact q
  · intro b o u' e
    have q := I.base.frzs b o u' e
    rw [upd_ne (neH b _ q)]
    exact q
  · intro b ps e
    obtain ⟨m, q⟩ := I.base.tbls b ps e
    exact ⟨m, by rw [upd_ne (neH b _ q)]; exact q⟩
  · rw [upd_ne (Ne.symm nL)]
    exact I.free
  · intro x c e
    rw [upd_ne (nC x c e)]
    exact I.freeC x c e
  · intro p hp
    obtain ⟨e, n, ne, nf, d⟩ := I.pin p hp
    exact ⟨e, by rw [upd_ne (nP p hp)]; exact n, ne, nf, d⟩
  · intro b o e
    by_cases hb : b = a
    · subst hb
      rw [upd_same] at e
      cases e
      exact new
    · rw [upd_ne hb] at e
      refine (I.hok b o e).stay (fun _ _ _ z => z) (fun c z => ?_) fun c xs z => ?_
      · rw [upd_ne (neH c _ z)]
        exact z
      · rw [upd_ne (neH c _ z)]
        exact z
/-- a list that was laid since the def began is forgotten -/
theorem forget {a : Addr} {xs : List V} (I : Inv X pins σ (upd H a (.lst xs)) s) (na : H a = none) (n0 : X.H_0 a = none) : Inv X pins σ H s := by
  have back : ∀ b, b ≠ a → upd H a (.lst xs) b = H b := fun b hb => upd_ne hb
  have nn : ∀ b, upd H a (.lst xs) b = none → H b = none := fun b e => by
    by_cases hb : b = a
    · rw [hb, upd_same] at e
      cases e
    · rw [upd_ne hb] at e
      exact e
  refine ⟨I.ok, I.os, I.bare, ⟨I.base.keep, I.base.slot, fun b o e n hx => nn b (I.base.free b o e n hx), I.base.there, ?_, ?_, ?_⟩, I.loc, I.cell, nn _ I.free, fun x c e => nn _ (I.freeC x c e), fun p hp => ?_, ?_, I.len⟩
  · intro b ys e
    rw [← back b (fun z => by rw [z, n0] at e; cases e)]
    exact I.base.tups b ys e
  · intro b o u' e
    rw [← back b (fun z => by rw [z, n0] at e; cases e)]
    exact I.base.frzs b o u' e
  · intro b ps e
    rw [← back b (fun z => by rw [z, n0] at e; cases e)]
    exact I.base.tbls b ps e
  · obtain ⟨e, n, r⟩ := I.pin p hp
    exact ⟨e, nn _ n, r⟩
  · intro b o e
    have hb : b ≠ a := fun z => by rw [z, na] at e; cases e
    have q : upd H a (.lst xs) b = some o := by rw [upd_ne hb]; exact e
    refine (I.hok b o q).stay (fun _ _ _ z => z) (fun c z => ?_) fun c ys z => ?_
    · rw [← back c (fun y => by rw [y, upd_same] at z; cases z)]
      exact z
    · rw [← back c (fun y => by rw [y, upd_same] at z; cases z)]
      exact z
/-- what a fresh address of now was ahead of the def -/
theorem fresh0 {a : Addr} (I : Inv X pins σ H s) (na : H a = none) (nt : ∀ o, X.H_0 a = some o → ∃ ob, X.s_0.heap.get? a = some ob) (hs : s.heap.objs.size ≤ a) : X.H_0 a = none := by
  cases e : X.H_0 a with
  | none => rfl
  | some o =>
    obtain ⟨ob, q⟩ := nt o e
    exact absurd (Nat.lt_of_lt_of_le (Heap.lt_size q) (Nat.le_trans I.sz hs)) (Nat.lt_irrefl _)
end
end G
namespace G
open PySem PySem.Spec PyProof.Rows L2
/-! ## a display that is subscripted at once -/
section
variable {X : Cx} {pins : List (Addr × Obj)} {σ : L2.St} {H : Hp} {s : Shared}
theorem itemAt {value slice : Expr} {E : Value → Shared → Prop} {Q : Value → Shared → Prop} {p : Addr} {xs : List V} {its : List Value} {i : Int} {t : Tok} {z : V} (r : Vals xs its) (pl : PlainL s.heap p its.toArray) (hz : xs.length ≤ sizeLine) (he : atI xs i = some z)
    (fin : ∀ w, RelV z w → Q w s) (hs : subscripted slice false (.ref p) (.int i t) = operate [.ref p, .int i t] (getItem (.ref p) (.int i t))) :
    wpAny (model X.prog X.w) X.A (subscriptTail value slice (.ref p) (.int i t)) Q E s := by
  obtain ⟨j, g1, g2, g3, g4, g5⟩ := atI_get he
  obtain ⟨u, eu, ru⟩ := r.get g2
  have ln := r.length
  have big := line63
  by_cases c : 0 ≤ i
  · have ej : i.toNat = j := Option.some.inj ((seqIndex_of c g5).symm.trans g1)
    exact item_listR pl.isList c (by omega) (by subst ej; simpa using eu) (fin u ru) hs
  · have ej : (i + (its.toArray.size : Int)).toNat = j := by
      have z1 := (seqIndex_neg (by omega) g4).symm.trans g1
      simp only [List.size_toArray, ← ln]
      exact Option.some.inj z1
    refine subscriptTail_builtinR (x := u) pl.isList.typeIs slot_list_getitem.lookup ?_ hs
    refine wpAny_getItem_list_neg (Q := fun r s' => r = u ∧ Q r s') pl.isList (by omega) ?_ (by omega) (by subst ej; simpa using eu) ⟨rfl, fin u ru⟩
    simp only [List.size_toArray]
    omega
/-- [a, b, ..][i]: the list is never seen again -/
def tMenu (ta : TA) (ti : TE) : TE := fun σ H Q => ta σ H fun xs H1 => xs.length ≤ sizeLine ∧ ti σ H1 fun y H2 => ∃ i v, y = .int i ∧ atI xs i = some v ∧ Q v H2
theorem pe_menu {es : List Expr} {b : Expr} {ta : TA} {tb : TE} {p1 pos : Pos} (ha : PA X es ta) (hb : PE X b tb) (hs : PlainIx b) : PE X (.Subscript (.List es p1) b pos) (tMenu ta tb) := by
  refine ⟨fun pins s σ H Q I h => ?_⟩
  refine Subscript_ (wpAny_List_spliced (thn (ha.run p1 pins s σ H _ I h) fun us s1 ⟨xs, H1, I1, r, z, q⟩ => ⟨by rw [← r.length]; exact z, ?_⟩))
  have hf : H1 s1.heap.objs.size = none := I1.hok.fresh (Nat.le_refl _)
  have I2 : Inv X pins σ H1 { s1 with heap := s1.heap.push { cls := .type "list", data := .seq us.toArray } } := I1.kept (t' := s1.toks) fun _ _ e => Heap.get?_push_of_some _ e
  have eo : (s1.heap.push { cls := .type "list", data := .seq us.toArray }).get? s1.heap.objs.size = some { cls := .type "list", data := .seq us.toArray } := Heap.get?_push_size _ rfl
  have I3 := I2.pinned (fp := [s1.heap.objs.size]) (fun b hb => by
    have e : b = s1.heap.objs.size := by simpa using hb
    subst e
    exact I1.fpOk (Nat.le_refl _) hf) fun b hb => by
    have e : b = s1.heap.objs.size := by simpa using hb
    subst e
    exact ⟨_, eo, fun v z => by cases z⟩
  refine thn (hb.run _ _ σ H1 _ I3 q) fun u s2 ⟨y, H2, I4, ry, i, v, ey, hv, q2⟩ => ?_
  subst ey
  obtain ⟨t, rfl⟩ := ry
  have e2 : s2.heap.get? s1.heap.objs.size = some { cls := .type "list", data := .seq us.toArray } :=
    (I4.pin (s1.heap.objs.size, _) (List.mem_append_right _ (List.mem_append_right _ (mem_pinsAt (List.mem_cons_self) eo)))).1
  exact itemAt r ⟨_, _, e2, rfl, rfl, rfl⟩ z hv (fun w rw' => ⟨v, H2, I4.unpinned, rw', q2⟩) (hs _ _)
end
/-! ## defs that may be called while an exception is handled: they raise nothing -/
structure RoomN (k : Nat) (A : Around) : Prop where
  dp : A.depth + 3 * k + 5 < recursionLimit
  un : A.units + 16 * k + 200 < cLine
theorem roomN_of {k : Nat} {A : Around} (r : Room k A) : RoomN k A := ⟨r.dp, r.un⟩
theorem roomN_mark {k : Nat} {A : Around} {v : Option Value} (r : Room k A) : RoomN k (A.mark v) := ⟨r.dp, r.un⟩
theorem RoomN.mono {j k : Nat} {A : Around} (r : RoomN k A) (h : j ≤ k) : RoomN j A := ⟨by have := r.dp; omega, by have := r.un; omega⟩
theorem RoomN.deeper {k : Nat} {A : Around} (r : RoomN (k + 1) A) (env : Env) : RoomN k (A.deeper env) :=
  ⟨by have h := r.dp; show A.depth + 1 + (3 * k + 5) < _; omega, by have h := r.un; show A.units + 3 + (16 * k + 200) < _; omega⟩
abbrev cxN (P : Program) (w : World) (K : PySem.W.Frag) (mg : Str → Option Value) (base : Heap) (N : List Str) (qual : Str) (scope : Scope) (f : Addr) (cd : Value) (A : Around) (outer : List Env) (s : Shared) (H : Hp) : Cx :=
  { cxOf CX0 P w K mg base N qual scope f cd A outer s H E0 with calm := false }
structure FnN (P : Program) (w : World) (K : PySem.W.Frag) (mg : Str → Option Value) (base : Heap) (k : Nat) (f : Addr) (fd : FuncData) (ps : List Str) (sp : Sp) : Prop where
  len : ∀ vs H Q E, sp vs H Q E → vs.length = ps.length
  run : ∀ (A : Around) (outer : List Env) (s : Shared) (H : Hp) (args : Args) (us : List Value) (vs : List V) (Q : VK), RoomN k A → Env0 P w K mg base A outer s H → BindsTo s fd args (ps.zip us) → Vals vs us → sp vs H Q E0 →
    codeAny (model P w) A (.call (.ref f) args) (CR CX0 outer P w H s Q E0) s
theorem FnN.mono {P : Program} {w : World} {K : PySem.W.Frag} {mg : Str → Option Value} {base : Heap} {j k : Nat} {f : Addr} {fd : FuncData} {ps : List Str} {sp : Sp} (F : FnN P w K mg base j f fd ps sp) (h : j ≤ k) : FnN P w K mg base k f fd ps sp :=
  ⟨F.len, fun A outer s H args us vs Q hr => F.run A outer s H args us vs Q (hr.mono h)⟩
section
variable {P : Program} {w : World} {K : PySem.W.Frag} {mg : Str → Option Value} {base : Heap}
theorem fn_ofN {x qual : Str} {params : Arguments} {body : List Stmt} {scope : Scope} {dvs : List V} {kws : List (Str × V)} {f : Addr} {fd : FuncData} {N ps : List Str} {k : Nat} {sp : Sp} (F : FunD K x qual params body scope dvs kws f fd) (S : FnScope N ps scope)
    (len : ∀ vs H Q E, sp vs H Q E → vs.length = ps.length)
    (hbody : ∀ (cdv : Value) (A : Around) (outer : List Env) (s : Shared) (H : Hp) (vs : List V) (Q : VK), RoomN k (A.deeper (envOfC qual scope s.heap.objs.size f cdv)) → sp vs H Q E0 →
      ∃ t, PSs (cxN P w K mg base N qual scope f cdv A outer s H) body t ∧ t { nx := fun _ H' => Q .non H', rt := Q } (start N vs) H) : FnN P w K mg base (k + 1) f fd ps sp := by
  obtain ⟨oc, od, dV, kV, doc, pm, an, cdv, ct, osl, rfl, lk, hcd, -, -⟩ := F.ex
  refine ⟨len, fun A outer s H args us vs Q hr e0 hb r hsp => ?_⟩
  have hl := len _ _ _ _ hsp
  have st : ∀ b o, base.get? b = some o → s.heap.get? b = some o := fun b o e => (e0.bs b o e).1
  have KX : K.In s.heap := e0.mod.kin.keeps st
  refine codeAny_call_function (by have := hr.dp; omega) (KX _ _ lk) rfl S.co S.gen rfl (PySem.W.codeRec_of KX hcd) (hb _ _ _ _ ?_)
  refine wpAny_newFunctionEnv_cells S.kind (fun y hy => ?_) fun env he s1 x => ?_
  · rcases S.par y.1 (List.of_mem_zip hy).1 with q | q
    · exact .inl q
    · exact .inr ⟨q, PySem.W.cellsFrom_some _ _ _ (.inl q)⟩
  subst he
  refine ⟨(e0.mod.nolimit.keeps st).keeps x.toInCall.keep, codeAny_func ?_⟩
  obtain ⟨t, ht, hq⟩ := hbody cdv A outer s H vs Q (hr.deeper _) hsp
  have J : Inv (cxOf CX0 P w K mg base N qual scope f cdv { A with handled := none } outer s H E0) [] (start N vs) H s1 := inv_start S rfl ⟨e0.frames, e0.mod, e0.bs, e0.bsz, e0.funs, e0.frf, e0.hok, e0.bare⟩ hl r x
  have I : Inv (cxN P w K mg base N qual scope f cdv A outer s H) [] (start N vs) H s1 :=
    ⟨⟨J.ok.mod, J.ok.kind, J.ok.glob, J.ok.blt, J.ok.above, J.ok.inj, J.ok.has, J.ok.cab, fun z => Bool.noConfusion (show false = true from z), Around.frames_deeper e0.frames, J.ok.stk, J.ok.exf, J.ok.bs, J.ok.bsz, J.ok.noex, J.ok.exfs, J.ok.funs, J.ok.frf⟩,
      J.os, J.bare, J.base, J.loc, J.cell, J.free, J.freeC, J.pin, J.hok, J.len⟩
  refine wpAny_mono (ht.run [] s1 (start N vs) H _ I hq) (fun fl s' hs => ?_) fun e s' hs => hs
  cases fl with
  | ret u =>
    obtain ⟨v, σ', H', J', rv, q⟩ := hs
    exact ⟨v, H', J'.os, J'.bare, J'.base, J'.hok, rv, q⟩
  | next =>
    obtain ⟨σ', H', J', q⟩ := hs
    exact ⟨.non, H', J'.os, J'.bare, J'.base, J'.hok, rfl, q⟩
  | brk => exact hs.elim fun _ z => z.elim fun _ y => y.2.elim
  | cont => exact hs.elim fun _ z => z.elim fun _ y => y.2.elim
/-- as any def -/
theorem FnN.ok {k : Nat} {f : Addr} {fd : FuncData} {ps : List Str} {sp : Sp} (F : FnN P w K mg base k f fd ps sp) (h0 : ∀ vs H Q E, sp vs H Q E → sp vs H Q E0) : FnOk P w K mg base (L2.CX P w) k f fd ps sp :=
  ⟨F.len, fun A outer s H args us vs Q E hr e0 hb r hsp => codeAny_mono (F.run A outer s H args us vs Q (roomN_of hr) e0 hb r (h0 _ _ _ _ hsp)) fun r s' hq => by
    cases r with
    | error e => exact hq.elim
    | ok fl => cases fl with
      | ret u => exact hq
      | next => exact hq.elim
      | brk => exact hq.elim
      | cont => exact hq.elim⟩
end
section
variable {X : Cx} {k : Nat} {f : Addr} {fd : FuncData} {ps : List Str} {sp : Sp} {x : Str} {q pos : Pos} {e : Expr} {es : List Expr} {t : TA}
def tCallN (sp : Sp) (t : TA) : TE := fun σ H Q => t σ H fun vs H1 => sp vs H1 Q E0
theorem pe_callN (F : FnN X.prog X.w X.K X.mg X.base k f fd ps sp) (hr : RoomN k X.A) (hg : Gl X x) (hm : X.mg x = some (.ref f)) (hk : PySem.W.keepIn X.K (.ref f) = true) (hb : Binds X.K fd ps [])
    (ha : PA X (e :: es) t) (hdb : (x == ("__debug__" : Str)) = false := by decide) (he : starEach (e :: es) X.env = (false, eval e X.env) :: starEach es X.env := by rfl) (hpl : (backTo pos (starEach es X.env)).any (·.1) = false := by rfl) :
    PE X (.Call (.Name x q) (e :: es) [] pos) (tCallN sp t) := by
  refine ⟨fun pins s σ H Q I h => ?_⟩
  refine wpAny_Call_Name_kw (ld_glob I hg hm ?_ hdb)
  refine PySem.W.callWith_K (h₀ := X.base) I.ok.mod.kin hk (thn (ha.run pos pins s σ H _ I h) fun us s1 hh => ?_) he hpl
  obtain ⟨vs, H1, I1, r, h2⟩ := hh
  refine ⟨I1.kIn, ?_⟩
  have hl : us.length = ps.length := by rw [← r.length]; exact F.len _ _ _ _ h2
  have b := hb s1 us I1.kIn (by rw [List.append_nil]; exact hl)
  rw [List.append_nil] at b
  refine wpAny_call (codeAny_mono (F.run X.A X.stack s1 H1 ⟨us, []⟩ us vs Q hr I1.env0 b r h2) fun r s' hq => ?_)
  cases r with
  | error e => exact hq.elim
  | ok fl => cases fl with
    | ret u => exact I1.after hq
    | next => exact hq.elim
    | brk => exact hq.elim
    | cont => exact hq.elim
end
end G
namespace G
open PySem PySem.Spec PyProof.Rows L2
/-! ## calls whose exceptions the surroundings take (W) -/
section
variable {X : Cx} {k : Nat} {f C : Addr} {fd : FuncData} {ps : List Str} {sp : Sp} {W : WX} {x m : Str} {p pos apos : Pos} {e o : Expr} {es : List Expr} {ta : TE} {t : TA}
/-- f(..) -/
def tCallW (sp : Sp) (W : WX) (t : TA) : TE := fun σ H Q => t σ H fun vs H1 => sp vs H1 Q fun c d H2 => W c d σ H2
theorem pe_callW (tk : Takes X W) (F : FnOk X.prog X.w X.K X.mg X.base (L2.CX X.prog X.w) k f fd ps sp) (hr : Room k X.A) (hg : Gl X x) (hm : X.mg x = some (.ref f)) (hk : PySem.W.keepIn X.K (.ref f) = true) (hb : Binds X.K fd ps [])
    (ha : PA X (e :: es) t) (hdb : (x == ("__debug__" : Str)) = false := by decide) (he : starEach (e :: es) X.env = (false, eval e X.env) :: starEach es X.env := by rfl) (hpl : (backTo pos (starEach es X.env)).any (·.1) = false := by rfl) :
    PE X (.Call (.Name x p) (e :: es) [] pos) (tCallW sp W t) := pe_callS F hr hg hm hk hb (fun σ => passAt tk σ) ha hdb he hpl
theorem pe_callW0 (tk : Takes X W) (F : FnOk X.prog X.w X.K X.mg X.base (L2.CX X.prog X.w) k f fd ps sp) (hr : Room k X.A) (hg : Gl X x) (hm : X.mg x = some (.ref f)) (hk : PySem.W.keepIn X.K (.ref f) = true) (hb : Binds X.K fd ps [])
    (hdb : (x == ("__debug__" : Str)) = false := by decide) : PE X (.Call (.Name x p) [] [] pos) (tCallW sp W tNil) := by
  refine ⟨fun pins s σ H Q I h => wpAny_Call_Name_kw (ld_glob I hg hm ?_ hdb)⟩
  exact PySem.W.callWith_K0 I.kIn hk (run_fnS (us := []) (E := WE W) F hr hb (passAt tk σ) I .nil h)
/-- o.m(..) -/
def tMethW (C : Addr) (m : Str) (sp : Sp) (W : WX) (ta : TE) (t : TA) : TE := fun σ H Q => ta σ H fun x H1 => ∃ a dx fs, x = .ref a ∧ H1 a = some (.ins C dx fs) ∧ fs.lookup m = none ∧ t σ H1 fun vs H2 => sp (x :: vs) H2 Q fun c d H3 => W c d σ H3
theorem pe_methW {pl : Sem Bool} (tk : Takes X W) (he : PE X o ta) (c : Cls X.K C) (hm : Meth X.K C m f) (F : FnOk X.prog X.w X.K X.mg X.base (L2.CX X.prog X.w) k f fd ps sp) (hr : Room k X.A) (hb : Binds X.K fd ps []) (ha : PA X (e :: es) t)
    (hst : starEach (e :: es) X.env = (false, eval e X.env) :: starEach es X.env := by rfl) (hpl : (backTo pos (starEach es X.env)).any (·.1) = false := by rfl)
    (ht : eval (.Call (.Attribute o m apos) (e :: es) [] pos) X.env = (do
      let z ← eval o X.env
      standAt apos.atName
      let (g, one) ← holding [z] (getMethod z m pl)
      callWith pos g one (backTo pos (starEach (e :: es) X.env)) (backToKw pos (keywordEach [] X.env))) := by rfl) :
    PE X (.Call (.Attribute o m apos) (e :: es) [] pos) (tMethW C m sp W ta t) := by
  refine ⟨fun pins s σ H Q I h => ?_⟩
  refine PySem.W.methodCall_KW (pl := pl) (thn (he.run pins s σ H _ I h) fun u s1 hh => ?_) ht
  obtain ⟨y, H1, I1, ry, a, dx, fs, ey, ea, l, q⟩ := hh
  subst ey
  obtain rfl : u = Value.ref a := ry
  refine getmeth_ok I1 ea c hm l ?_
  refine PySem.W.callWith_K (first := [.ref a]) (h₀ := X.base) I.ok.mod.kin hm.kp (thn (ha.run pos pins s1 σ H1 _ I1 q) fun us s2 h2 => ?_) hst hpl
  obtain ⟨vs, H2, I2, r, q2⟩ := h2
  exact ⟨I2.kIn, run_fnS (us := .ref a :: us) (vs := .ref a :: vs) (E := WE W) F hr hb (passAt tk σ) I2 (.cons rfl r) q2⟩
theorem pe_methW0 {pl : Sem Bool} (tk : Takes X W) (he : PE X o ta) (c : Cls X.K C) (hm : Meth X.K C m f) (F : FnOk X.prog X.w X.K X.mg X.base (L2.CX X.prog X.w) k f fd ps sp) (hr : Room k X.A) (hb : Binds X.K fd ps [])
    (ht : eval (.Call (.Attribute o m apos) [] [] pos) X.env = (do
      let z ← eval o X.env
      standAt apos.atName
      let (g, one) ← holding [z] (getMethod z m pl)
      callWith pos g one (backTo pos (starEach [] X.env)) (backToKw pos (keywordEach [] X.env))) := by rfl) :
    PE X (.Call (.Attribute o m apos) [] [] pos) (tMethW C m sp W ta tNil) := by
  refine ⟨fun pins s σ H Q I h => ?_⟩
  refine PySem.W.methodCall_KW (pl := pl) (thn (he.run pins s σ H _ I h) fun u s1 hh => ?_) ht
  obtain ⟨y, H1, I1, ry, a, dx, fs, ey, ea, l, q⟩ := hh
  subst ey
  obtain rfl : u = Value.ref a := ry
  refine getmeth_ok I1 ea c hm l ?_
  exact PySem.W.callWith_K0 (first := [.ref a]) I1.kIn hm.kp (run_fnS (us := [.ref a]) (vs := [.ref a]) (E := WE W) F hr hb (passAt tk σ) I1 (.cons rfl .nil) q)
/-- C(..) -/
def tMakeW (C : Addr) (sp : Sp) (W : WX) (t : TA) : TE := fun σ H Q => t σ H fun vs H1 => ∀ x dx, H1 x = none → H1 dx = none → dx ≠ x →
  sp (.ref x :: vs) (upd (upd H1 dx (.own x)) x (.ins C dx [])) (fun v H2 => v = .non ∧ Q (.ref x) H2) fun c d H3 => W c d σ H3
theorem run_makeW {pins : List (Addr × Obj)} {σ : L2.St} {H : Hp} {s : Shared} {Q : VK} {us : List Value} {vs : List V} (tk : Takes X W) (M : Mk X.K C f) (F : FnOk X.prog X.w X.K X.mg X.base (L2.CX X.prog X.w) k f fd ps sp) (hr : Room (k + 1) X.A) (hb : Binds X.K fd ps [])
    (I : Inv X pins σ H s) (r : Vals vs us)
    (h : ∀ x dx, H x = none → H dx = none → dx ≠ x → sp (.ref x :: vs) (upd (upd H dx (.own x)) x (.ins C dx [])) (fun v H2 => v = .non ∧ Q (.ref x) H2) fun c d H3 => W c d σ H3) :
    wpAny (model X.prog X.w) X.A (call (.ref C) us) (EP X pins σ Q) X.xe s := by
  have go := h (s.heap.objs.size + 1) s.heap.objs.size (I.hok.fresh (Nat.le_succ _)) (I.hok.fresh (Nat.le_refl _)) (Nat.ne_of_lt (Nat.lt_succ_self _))
  have J := Inv.made (C := C) I
  have r2 : Vals (V.ref (s.heap.objs.size + 1) :: vs) (Value.ref (s.heap.objs.size + 1) :: us) := .cons rfl r
  have hl : (Value.ref (s.heap.objs.size + 1) :: us).length = ps.length := r2.length.symm.trans (F.len _ _ _ _ go)
  have b := hb { s with heap := (s.heap.push PySem.W.emptyDict).push (PySem.W.instObj C s.heap.objs.size) } (Value.ref (s.heap.objs.size + 1) :: us) J.kIn (by rw [List.append_nil]; exact hl)
  rw [List.append_nil] at b
  refine wpAny_call (make_map (f := f) I.kIn M.makes M.init (beq_iff_eq.mp M.fn) (codeAny_mono (F.run _ X.stack _ _ ⟨Value.ref (s.heap.objs.size + 1) :: us, []⟩ _ _ _ _ (hr.make C us []) (J.env0.make C us []) b r2 go) fun r s' hq => ?_))
  cases r with
  | error e => exact passAt tk σ pins _ _ e s' J hq
  | ok fl =>
    cases fl with
    | ret u =>
      obtain ⟨v, H', I3, rv, ev, q3⟩ := J.after hq
      subst ev
      exact ⟨rv, V.ref (s.heap.objs.size + 1), H', I3, rfl, q3⟩
    | next => exact hq.elim
    | brk => exact hq.elim
    | cont => exact hq.elim
theorem pe_makeW (tk : Takes X W) (M : Mk X.K C f) (F : FnOk X.prog X.w X.K X.mg X.base (L2.CX X.prog X.w) k f fd ps sp) (hr : Room (k + 1) X.A) (hg : Gl X x) (hm : X.mg x = some (.ref C)) (hb : Binds X.K fd ps [])
    (ha : PA X (e :: es) t) (hdb : (x == ("__debug__" : Str)) = false := by decide) (he : starEach (e :: es) X.env = (false, eval e X.env) :: starEach es X.env := by rfl) (hpl : (backTo pos (starEach es X.env)).any (·.1) = false := by rfl) :
    PE X (.Call (.Name x p) (e :: es) [] pos) (tMakeW C sp W t) := by
  refine ⟨fun pins s σ H Q I h => wpAny_Call_Name_kw (ld_glob I hg hm ?_ hdb)⟩
  refine PySem.W.callWith_K (h₀ := X.base) I.ok.mod.kin M.kp (thn (ha.run pos pins s σ H _ I h) fun us s1 hh => ?_) he hpl
  obtain ⟨vs, H1, I1, r, q⟩ := hh
  exact ⟨I1.kIn, run_makeW tk M F hr hb I1 r q⟩
theorem pe_makeW0 (tk : Takes X W) (M : Mk X.K C f) (F : FnOk X.prog X.w X.K X.mg X.base (L2.CX X.prog X.w) k f fd ps sp) (hr : Room (k + 1) X.A) (hg : Gl X x) (hm : X.mg x = some (.ref C)) (hb : Binds X.K fd ps [])
    (hdb : (x == ("__debug__" : Str)) = false := by decide) : PE X (.Call (.Name x p) [] [] pos) (tMakeW C sp W tNil) := by
  refine ⟨fun pins s σ H Q I h => wpAny_Call_Name_kw (ld_glob I hg hm ?_ hdb)⟩
  exact PySem.W.callWith_K0 I.kIn M.kp (run_makeW (us := []) tk M F hr hb I .nil h)
end

/-! ## try .. except x as n, the exception a tracked thing in the suite -/
/-- what the clause wishes; slot i is n's -/
def wTr (K : PySem.W.Frag) (c : Value) (i : Nat) (ts : TS) (Wo : WX) (D : Ends) : WX := fun cls d σ H => ∃ b, PySem.W.exmOne K cls c = some b ∧
  (b = true → d = none ∧ ∀ a, H a = none → ts { nx := fun σ' H' => D.nx (σ'.set i none) H', rt := D.rt, bk := fun σ' H' => D.bk (σ'.set i none) H', ct := fun σ' H' => D.ct (σ'.set i none) H' } (σ.set i (some (.ref a))) (upd H a (ExA cls a))) ∧ (b = false → Wo cls d σ H)
section
variable {X : Cx} {x n : Str} {c : Value} {i : Nat} {body suite : List Stmt} {b0 : Stmt} {np pos pos' : Pos} {tb : WX → TS} {ts : TS} {Wo : WX}
theorem toSuite {pins : List (Addr × Obj)} {σ : L2.St} {H : Hp} {s : Shared} (I : Inv X pins σ H s) (a : Addr) : Inv (X.suite a (X.pn ++ pins)) [] σ H s :=
  ⟨I.ok.suite _ _, I.os, I.bare, I.base, I.loc, I.cell, I.free, I.freeC, fun p hp => I.pin p (by simpa using hp), I.hok, I.len⟩
theorem ofSuite {pins pl : List (Addr × Obj)} {σ : L2.St} {H : Hp} {s : Shared} {a : Addr} (ok : X.Ok) (I : Inv (X.suite a (X.pn ++ pins)) pl σ H s) : Inv X pins σ H s :=
  ⟨ok, I.os, I.bare, I.base, I.loc, I.cell, I.free, I.freeC, fun p hp => I.pin p (List.mem_append_left _ hp), I.hok, I.len⟩
theorem ps_tryT (hs : X.stack = X.env :: X.outer) (hf : X.env.frame = some X.env.locals) (hex : X.ex = []) (hN : X.N.Nodup) (hi : X.N[i]? = some n) (hln : X.env.kindOf n = some .local) (hc : Names X x c) (tk : Takes X Wo)
    (hb : ∀ (W : WX) (pn : List (Addr × Obj)) (xe : Value → Shared → Prop), Takes (X.tr pn xe) W → PassesOwn (model X.prog X.w) X.A X.env xe → PSs (X.tr pn xe) body (tb W))
    (hsu : ∀ (a : Addr) (pn : List (Addr × Obj)), PSs (X.suite a pn) (b0 :: suite) ts) :
    PS X (.Try body [.ExceptHandler (some (.Name x np)) (some n) (b0 :: suite) pos'] [] [] pos) (fun D σ H => tb (wTr X.K c i ts Wo D) D σ H) := by
  refine ⟨fun pins s σ H D I h => ?_⟩
  have ok := I.ok
  have hfr : X.A.frames = some (X.env :: X.outer) := by rw [ok.frames, hs]
  have lo : Loc X.env.scope n := .inl hln
  let rest : List ExceptHandler := [.ExceptHandler (some (.Name x np)) (some n) (b0 :: suite) pos']
  let M := model X.prog X.w
  let wish : Value → Shared → Prop := fun e u1 => wpAny M X.A (noteFrame e X.env) (fun _ u2 => wpAny M X.A (setFlight e none) (fun _ u3 => wpAny M X.A (handleBy e X.env rest) (SP X pins D) X.xe u3) X.xe u2) X.xe u1
  refine wpAny_Try_except (wpAny_mono ((hb (wTr X.K c i ts Wo D) (X.pn ++ pins) wish (fun u s' air => ?_) PassesOwn.looking).run [] s σ H D (I.toTry _) h) (fun fl s1 hsp => ?_) (fun e s1 he => he))
  · obtain ⟨a, B, sg, pi', σ1, H1, cls, d, rfl, Jt, nb, up, sky, na, os, ag, b, e1, yes, no⟩ := air
    have J : Inv X pins σ1 H1 sg := Jt.ofTry ok
    have sky' : Sky B (X.env :: X.outer) a (Zc cls d) X.env.locals s'.heap := by rw [← hs]; exact sky
    show wpAny M X.A (noteFrame (.ref a) X.env) _ _ _
    refine Sky.land Zc.steady hfr hf sky' fun h3 fl3 up3 => ?_
    have u3 := up.trans up3
    have J3 : Inv X pins σ1 H1 { s' with heap := h3 } := J.landed nb fl3.1 u3 os ag
    obtain ⟨o3, f3, g3, z3, d3⟩ := fl3.there
    have nfr : a ∉ frs (X.env :: X.outer) := fun hm => by
      obtain ⟨-, o', g', nf⟩ := fl3.2.2.1.mem hm
      rw [g3] at g'
      cases g'
      exact nf _ d3
    have nL : a ≠ X.env.locals := fun z => nfr (List.mem_filterMap.mpr ⟨X.env, List.mem_cons_self, by rw [hf, z]⟩)
    have nst : a ∉ frs X.stack := by rw [hs]; exact nfr
    have nB : B.get? a = none := fl3.2.1
    have ng : sg.heap.get? a = none := by
      cases e : sg.heap.get? a with
      | none => rfl
      | some o =>
        rw [nb a o e nst] at nB
        cases nB
    have n0 : X.s_0.heap.get? a = none := by
      cases e : X.s_0.heap.get? a with
      | none => rfl
      | some o =>
        obtain ⟨o', q⟩ := J.base.there a o e (by rw [hex]; exact List.not_mem_nil)
        rw [ng] at q
        cases q
    have nC : ∀ y z, X.env.cells.lookup y = some z → z ≠ a := fun y z e q => by
      obtain ⟨v, ob, e2, -⟩ := J.cell y z e
      rw [q, ng] at e2
      cases e2
    have nP : ∀ p ∈ X.pn ++ pins, p.1 ≠ a := fun p hp q => by
      have e2 := (J.pin p hp).1
      rw [q, ng] at e2
      cases e2
    have S3 := toSuite J3 a
    refine wpAny_handleBy_cons (codeAny_handlers_test ?_) (by intro q; cases q)
    have LT : PySem.W.Looks M h3 (typeOf (.ref a)) cls := fun _ _ _ _ k q => wpAny_typeOf_ref (k _ _ g3) (by rw [z3.1]; exact q)
    have LM := PySem.W.exm_one (M := M) J3.kIn LT e1
    have test : ∀ {Q : Value → Shared → Prop} {E : Value → Shared → Prop}, Q c { s' with heap := h3 } → wpAny M (X.A.mark (some (.ref a))) (eval (.Name x np) X.env) Q E { s' with heap := h3 } := fun {Q E} q => by
      obtain ⟨hg, hdb, hm | ⟨hm, hv, hnn⟩⟩ := hc
      · exact ld_glob (X := X.suite a (X.pn ++ pins)) S3 hg hm q hdb
      · exact ld_blt (X := X.suite a (X.pn ++ pins)) S3 hg hm hv q hnn hdb
    refine test (LM.here ?_)
    cases b with
    | true =>
      refine codeAny_handlers_suite_as (HandSPX.lands_againZ fl3 fun h4 fl4 up4 => ?_)
      have J4 : Inv X pins σ1 H1 { s' with heap := h4 } := J.landed nb fl4.1 (u3.trans up4) os ag
      obtain ⟨o4, f4, g4, z4, d4⟩ := fl4.there
      obtain ⟨ed, go⟩ := yes rfl
      subst ed
      have J5 := track (u := ExA cls a) J4 na n0 nL nC nP (exA_ok g4 z4 d4)
      refine store_ok (X := X.suite a (X.pn ++ pins)) (v := .ref a) (toSuite J5 a) hN hi lo rfl (fun s5 S5 => ?_) (.inr hln)
      refine wpAny_mono ((hsu a (X.pn ++ pins)).run [] s5 _ _ _ S5 (go a na)) (fun fl s6 hsp => ?_) (fun _ _ z => False.elim z)
      have out : ∀ {σ6 : L2.St} {H6 : Hp} {Q : Shared → Prop}, Inv (X.suite a (X.pn ++ pins)) [] σ6 H6 s6 → (∀ s7, Inv X pins (σ6.set i none) H6 s7 → Q s7) →
          wpAny M X.A (do bindName X.env n .none; unbindBehindTheSuite X.env n pos') (fun _ s7 => Q s7) X.xe s6 := fun S6 hq => gone_ok (ofSuite ok S6) hN hi hln hq
      cases fl with
      | next => exact hsp.elim fun _ z => z.elim fun _ q => out q.1 fun s7 J7 => ⟨_, _, J7, q.2⟩
      | brk => exact hsp.elim fun _ z => z.elim fun _ q => out q.1 fun s7 J7 => ⟨_, _, J7, q.2⟩
      | cont => exact hsp.elim fun _ z => z.elim fun _ q => out q.1 fun s7 J7 => ⟨_, _, J7, q.2⟩
      | ret u =>
        obtain ⟨v6, σ6, H6, S6, r6, q6⟩ := hsp
        exact out S6 fun s7 J7 => ⟨_, _, _, J7, r6, q6⟩
    | false =>
      show wpAny M X.A (handleBy (.ref a) X.env []) _ _ _
      refine wpAny_handleBy_nil ?_
      obtain ⟨-, -, -, oe, vs, T, oT, ts', he, hz, hd, h1, hr⟩ := id fl3
      unfold PySem.passOn
      refine wpAny_bind (wpAny_field he hd h1 ?_)
      rw [if_neg (show ¬ ((Value.ref T == Value.none) = true) from by simp)]
      have fin : wpAny M X.A (setFlight (.ref a) X.env.frame) (fun _ u4 => wpAny M X.A (throw (.ref a) : Sem Flow) (SP X pins D) X.xe u4) X.xe { s' with heap := h3 } := by
        rw [hf]
        refine HandSPX.setFlight_upZ fl3 fun h4 hh4 up4 => wpAny_throw (tk _ _ ?_)
        exact ⟨a, B, sg, pins, σ1, H1, cls, d, rfl, J, nb, u3.trans up4, .inr (.inr (by rw [hs]; exact hh4)), na, os, ag, no rfl⟩
      first
        | exact wpAny_bind (wpAny_pure (wpAny_bind fin))
        | exact wpAny_bind fin
  · cases fl with
    | next => exact hsp.elim fun σ1 z => z.elim fun H1 q => wpAny_execs_nil ⟨σ1, H1, q.1.ofTry ok, q.2⟩
    | brk => exact hsp.elim fun σ1 z => z.elim fun H1 q => ⟨σ1, H1, q.1.ofTry ok, q.2⟩
    | cont => exact hsp.elim fun σ1 z => z.elim fun H1 q => ⟨σ1, H1, q.1.ofTry ok, q.2⟩
    | ret u =>
      obtain ⟨v, σ1, H1, J, r, q⟩ := hsp
      exact ⟨v, σ1, H1, J.ofTry ok, r, q⟩
end
end G
namespace G
open PySem PySem.Spec PyProof.Rows L2
/-! ## isinstance -/
def tyO : Option HO → Option String
  | some (.lst _) => some "list"
  | some (.frz _ (.lst _)) => some "list"
  | some (.tup _) => some "tuple"
  | some (.dK _) => some "dict"
  | some (.dT _) => some "dict"
  | _ => none
def tyOf : V → Hp → Option String
  | .non, _ => some "NoneType"
  | .bl _, _ => some "bool"
  | .int _, _ => some "int"
  | .str _, _ => some "str"
  | .ref a, H => tyO (H a)
  | _, _ => none
theorem tyOf_ok {K : PySem.W.Frag} {x : V} {H : Hp} {t : String} (h : tyOf x H = some t) : TyX K H x (.type t) := by
  cases x with
  | non => cases h; exact .base .non
  | bl b => cases h; exact .base (.bl b)
  | int i => cases h; exact .base (.int i)
  | str z => cases h; exact .base (.str z)
  | byt z => cases h
  | flt z => cases h
  | ty z => cases h
  | ref a =>
    have h1 : tyO (H a) = some t := h
    unfold tyO at h1
    split at h1
    · rename_i e; cases h1; exact .base (.lst e)
    · rename_i e; cases h1; exact .base (.frz e)
    · rename_i e; cases h1; exact .base (.tup e)
    · rename_i e; cases h1; exact .base (.dK e)
    · rename_i e; cases h1; exact .base (.dT e)
    · cases h1
/-- the classes that are asked of plain things, and the answer -/
def isB (t n : String) : Bool := t == n || (t == "bool" && n == "int")
def tys : List String := ["NoneType", "bool", "int", "str", "list", "tuple", "dict"]
theorem isB_all : ∀ t ∈ tys, ∀ n ∈ (["int", "bool", "str", "list", "tuple", "dict"] : List String), kitB t n = some (isB t n) := by decide +kernel
theorem tyOf_in {x : V} {H : Hp} {t : String} (h : tyOf x H = some t) : t ∈ tys := by
  unfold tyOf at h
  split at h
  all_goals first
    | (cases h; decide)
    | (unfold tyO at h; split at h <;> first | (cases h; decide) | (cases h))
    | (cases h)
/-- isinstance(x, T) of a plain thing -/
def gIsi : List V → Hp → VK → Prop
  | [x, .ty n], H, Q => n ∈ (["int", "bool", "str", "list", "tuple", "dict"] : List String) ∧ ∃ t, tyOf x H = some t ∧ Q (.bl (isB t n)) H
  | _, _, _ => False
section
variable {X : Cx}
theorem call_gIsi : CallR X (.builtin "isinstance") gIsi := by
  intro pins s σ H xs us Q I r h
  unfold gIsi at h
  split at h
  · obtain ⟨hn, t, ht, q⟩ := h
    exact call_isi pins s σ _ _ us Q I r ⟨_, _, .type t, .type _, _, rfl, .ty _, tyOf_ok ht, kit_ty (isB_all t (tyOf_in ht) _ hn), q⟩
  · exact h.elim
/-- isinstance(e, C) of a caught error -/
def gIsE (K : PySem.W.Frag) : List V → Hp → VK → Prop
  | [.ref a, c], H, Q => ∃ D u b, H a = some (ExA (.ref D) a) ∧ ExcC K D ∧ ClsV c u ∧ PySem.W.kitOne K (.ref D) u = some b ∧ Q (.bl b) H
  | _, _, _ => False
theorem exA_kit {pins : List (Addr × Obj)} {σ : L2.St} {H : Hp} {s : Shared} {a D : Addr} (I : Inv X pins σ H s) (h : H a = some (ExA (.ref D) a)) (C : ExcC X.K D) : ∃ P : Heap → Prop, PySem.W.KitX X.K (.ref a) (.ref D) P ∧ P s.heap := by
  obtain ⟨⟨o, fv, e, z, d⟩, -, -⟩ := I.hok a _ h
  have J : PySem.W.InstAt s.heap a o D none := by
    obtain ⟨oc, od, dt, sl⟩ := o
    obtain ⟨z1, z2⟩ := z
    dsimp only at z1 z2 d
    subst z1 z2 d
    exact ⟨e, rfl, rfl, trivial⟩
  exact ⟨_, PySem.W.handS_kitx_exc C.hg C.hk C.hs C.hd C.ha C.hn C.ht C.hm, J⟩
theorem call_gIsE : CallR X (.builtin "isinstance") (gIsE X.K) := by
  intro pins s σ H xs us Q I r h
  unfold gIsE at h
  split at h
  · obtain ⟨D, u, b, ha, C, hc, hk, q⟩ := h
    obtain ⟨u1, u2, rfl, r1, r2⟩ := vals2 r
    have e2 := hc.eq r2
    subst e2
    cases (show u1 = Value.ref _ from r1)
    obtain ⟨P, Z, p⟩ := exA_kit I ha C
    exact PySem.W.kia_one Z I.kIn p hk (fun z => nomatch z) fun tk => ⟨.bl b, _, I.tok tk, rfl, q⟩
  · exact h.elim
/-- isinstance(e, (C1, C2, ..)) of a caught error: the tuple is never seen again -/
def tIsT (K : PySem.W.Frag) (ta : TE) (tc : TA) : TE := fun σ H Q => ta σ H fun x H1 => tc σ H1 fun cs H2 => cs.length ≤ sizeLine ∧ ∃ a D us b, x = .ref a ∧ H2 a = some (ExA (.ref D) a) ∧ ExcC K D ∧ Paired ClsV cs us ∧ PySem.W.kitAny K (.ref D) us = some b ∧ Q (.bl b) H2
theorem pe_isT {a : Expr} {es : List Expr} {x1} {ta : TE} {tc : TA} {p tp pos : Pos} (hg : Gl X "isinstance") (hm : X.mg "isinstance" = none) (ha : PE X a ta) (hc : PA X es tc)
    (he : starEach [a, .Tuple es x1 tp] X.env = [(false, eval a X.env), (false, eval (.Tuple es x1 tp) X.env)] := by rfl) : PE X (.Call (.Name "isinstance" p) [a, .Tuple es x1 tp] [] pos) (tIsT X.K ta tc) := by
  refine ⟨fun pins s σ H Q I h => ?_⟩
  refine wpAny_Call_Name_kw (ld_blt I hg hm (by decide +kernel : bootBuiltins "isinstance" = some (.builtin "isinstance")) ?_ (by decide) (by decide))
  refine PyProof.Rows.callWith_builtin1 (rest := [.Tuple es x1 tp]) ?_ he rfl
  rw [he]
  show wpAny _ _ (spliced [(false, eval a X.env), (false, eval (.Tuple es x1 tp) X.env)]) _ _ _
  refine Calls.spliced_cons (thn (ha.run pins s σ H _ I h) fun u s1 ⟨x, H1, I1, rx, q1⟩ => ?_)
  refine Calls.spliced_cons (wpAny_Tuple_spliced (x1 := x1) (thn (hc.run tp pins s1 σ H1 _ I1 q1) fun us s2 hh => ?_))
  obtain ⟨cs, H2, I2, rc, hz, y, D, ws, b, ex, hy, C, hcl, hk, q⟩ := hh
  subst ex
  cases (show u = Value.ref y from rx)
  refine ⟨by rw [← rc.length]; exact hz, Calls.spliced_nil ?_⟩
  have e3 := ClsV.all hcl rc
  subst e3
  have I3 : Inv X pins σ H2 { s2 with heap := s2.heap.push { cls := .type "tuple", data := .seq us.toArray } } := I2.kept (t' := s2.toks) fun _ _ e => Heap.get?_push_of_some _ e
  obtain ⟨P, Z, p⟩ := exA_kit I3 hy C
  exact PySem.W.kia_tup Z I3.kIn p (Heap.get?_push_size _ rfl) hk (fun z => nomatch z) fun tk => ⟨.bl b, H2, I3.tok tk, rfl, q⟩

/-! ## operators by the kinds of their values -/
def gAdd : R2
  | .int i, .int j, H, Q => Q (.int (i + j)) H
  | .str i, .str j, H, Q => i.length + j.length ≤ sizeLine ∧ Q (.str (i ++ j)) H
  | .ref a, .ref b, H, Q => ∃ xs zs, H a = some (.lst xs) ∧ H b = some (.lst zs) ∧ xs.length + zs.length ≤ sizeLine ∧ ∀ p, H p = none → Q (.ref p) (upd H p (.lst (xs ++ zs)))
  | _, _, _, _ => False
theorem op_gAdd : OpR X (binaryOp .Add) gAdd := by
  intro pins s σ H x y v u Q I rx ry h
  unfold gAdd at h
  split at h
  · exact op_add pins s σ _ _ _ v u Q I rx ry ⟨_, _, rfl, rfl, h⟩
  · exact op_add_str pins s σ _ _ _ v u Q I rx ry ⟨_, _, rfl, rfl, h.1, h.2⟩
  · obtain ⟨xs, zs, h1, h2, h3, h4⟩ := h
    exact op_cat pins s σ _ _ _ v u Q I rx ry ⟨_, _, xs, zs, rfl, rfl, h1, h2, h3, h4⟩
  · exact h.elim
def gMul : R2
  | .int i, .int j, H, Q => ((-(2 ^ 64) < i ∧ i < 2 ^ 64) ∨ (-(2 ^ 64) < j ∧ j < 2 ^ 64)) ∧ Q (.int (i * j)) H
  | .str z, .int n, H, Q => (n = 0 ∨ n = 1) ∧ Q (.str (if n = 1 then z else Str.empty)) H
  | .ref a, .int k, H, Q => ∃ xs, H a = some (.lst xs) ∧ -(2 ^ 63) ≤ k ∧ k < 2 ^ 63 ∧ xs.length * k.toNat ≤ sizeLine ∧ ∀ p, H p = none → Q (.ref p) (upd H p (.lst ((List.replicate k.toNat xs).flatten)))
  | _, _, _, _ => False
theorem op_gMul : OpR X (binaryOp .Mult) gMul := by
  intro pins s σ H x y v u Q I rx ry h
  unfold gMul at h
  split at h
  · exact op_mul pins s σ _ _ _ v u Q I rx ry ⟨_, _, rfl, rfl, h.1, h.2⟩
  · rename_i z n
    obtain ⟨hn, q⟩ := h
    obtain ⟨t, rfl⟩ := rx
    obtain ⟨t', rfl⟩ := ry
    rcases hn with rfl | rfl
    · exact PySem.P.mul_str_none (by decide) (by decide) ⟨.str Str.empty, _, I.tok _, ⟨_, rfl⟩, q⟩
    · refine PySem.P.mul_str (by decide) (fun _ z => by simp at z) (fun _ z => by simp at z) ?_
      exact ⟨.str z, _, I, ⟨_, rfl⟩, q⟩
  · obtain ⟨xs, h1, h2, h3, h4, h5⟩ := h
    exact op_rep pins s σ _ _ _ v u Q I rx ry ⟨_, _, xs, rfl, rfl, h1, h2, h3, h4, h5⟩
  · exact h.elim
/-- == : flat values; else data of any depth -/
def gEq (K : PySem.W.Frag) : R2 := fun x y H Q => if flatV x && flatV y then Q (.bl (eqV x y)) H else rEqD K x y H Q
def gNe (K : PySem.W.Frag) : R2 := fun x y H Q => if flatV x && flatV y then Q (.bl (!eqV x y)) H else rNeD K x y H Q
theorem flat_eqv {K : PySem.W.Frag} {H : Hp} {x y : V} (hx : flatV x = true) (hy : flatV y = true) :
    (scal x y = true ∧ decide (x = y) = eqV x y) ∨ ∃ d e, Dp K H x d ∧ Dp K H y e ∧ SeqAt.shaped d = true ∧ SeqAt.shaped e = true ∧ PyData.eqv d e = eqV x y := by
  cases x <;> first | (cases hx; done) | skip
  all_goals (cases y <;> first | (cases hy; done) | skip)
  case bl.int b i => exact .inr ⟨_, _, .bl b, .int i, by cases b <;> decide, rfl, rfl⟩
  case int.bl i b => exact .inr ⟨_, _, .int i, .bl b, rfl, by cases b <;> decide, rfl⟩
  all_goals refine .inl ⟨rfl, ?_⟩
  all_goals first
    | rfl
    | exact dec_int
    | exact dec_bl
    | exact dec_str
theorem op_gEq (hu : X.A.units + 64 < cLine) : OpR X (compareOp .Eq) (gEq X.K) := by
  intro pins s σ H x y v u Q I rx ry h
  unfold gEq at h
  split at h
  · rename_i c
    obtain ⟨c1, c2⟩ := Bool.and_eq_true_iff.mp c
    rcases flat_eqv (K := X.K) (H := H) c1 c2 with ⟨h1, h2⟩ | ⟨d, e, h1, h2, h3, h4, h5⟩
    · exact op_eq pins s σ _ _ _ v u Q I rx ry ⟨h1, by rw [h2]; exact h⟩
    · exact op_eqD hu pins s σ _ _ _ v u Q I rx ry ⟨d, e, h1, h2, h3, h4, by rw [h5]; exact h⟩
  · exact op_eqD hu pins s σ _ _ _ v u Q I rx ry h
theorem op_gNe (hu : X.A.units + 64 < cLine) : OpR X (compareOp .NotEq) (gNe X.K) := by
  intro pins s σ H x y v u Q I rx ry h
  unfold gNe at h
  split at h
  · rename_i c
    obtain ⟨c1, c2⟩ := Bool.and_eq_true_iff.mp c
    rcases flat_eqv (K := X.K) (H := H) c1 c2 with ⟨h1, h2⟩ | ⟨d, e, h1, h2, h3, h4, h5⟩
    · exact op_ne pins s σ _ _ _ v u Q I rx ry ⟨h1, by rw [h2]; exact h⟩
    · exact op_neD hu pins s σ _ _ _ v u Q I rx ry ⟨d, e, h1, h2, h3, h4, by rw [h5]; exact h⟩
  · exact op_neD hu pins s σ _ _ _ v u Q I rx ry h
/-- abs, int(..) -/
def gAbs : List V → Hp → VK → Prop
  | [.int i], H, Q => Q (.int (i.natAbs : Int)) H
  | _, _, _ => False
theorem call_gAbs : CallR X (.builtin "abs") gAbs := by
  intro pins s σ H xs us Q I r h
  unfold gAbs at h
  split at h
  · rename_i i
    refine call_abs pins s σ _ _ us Q I r ⟨i, rfl, ?_⟩
    have e : (if i < 0 then -i else i) = (i.natAbs : Int) := by split <;> omega
    rw [e]
    exact h
  · exact h.elim
def gInt : List V → Hp → VK → Prop
  | [.int i], H, Q => Q (.int i) H
  | [.bl k], H, Q => Q (.int (if k then 1 else 0)) H
  | _, _, _ => False
theorem call_gInt : CallR X (.type "int") gInt := by
  intro pins s σ H xs us Q I r h
  unfold gInt at h
  split at h
  · exact call_int1 pins s σ _ _ us Q I r (.inl ⟨_, rfl, h⟩)
  · exact call_int1 pins s σ _ _ us Q I r (.inr ⟨_, rfl, h⟩)
  · exact h.elim
end
end G
namespace G
open PySem PySem.Spec PyProof.Rows L2
open He (ga ma fAd Fa DefD SaysD)
/-! ## what the top has written, by names -/
/-- what isinstance asks of an error's class -/
def excB (K : PySem.W.Frag) (D : Addr) : Bool :=
  (decide (PySem.W.findIn K (.ref D) "__getattribute__" = some (some (.builtin "BaseException.__getattribute__"))) && (decide (PySem.W.findIn K (.ref D) "__getattr__" = some none) && (decide (PySem.W.subIn K (.ref D) (.type "BaseException") = some true) && PySem.W.hasDictIn K D))) &&
  (decide (PySem.W.findIn K (.ref D) "__class__" = some (some (.builtin "object.__class__"))) && (decide (PySem.W.specialIn K (.builtin "object.__class__") "__get__" = some (some (.builtin "getset_descriptor.__get__"))) &&
    (decide (PySem.W.takesIn K (.builtin "object.__class__") = some true) && decide (PySem.W.mroIn K D (.type "object") = some true))))
theorem excB_ok {K : PySem.W.Frag} {D : Addr} (h : excB K D = true) : ExcC K D := by
  obtain ⟨h1, h2⟩ := He.ba h
  obtain ⟨a1, h1⟩ := He.ba h1
  obtain ⟨a2, h1⟩ := He.ba h1
  obtain ⟨a3, a4⟩ := He.ba h1
  obtain ⟨b1, h2⟩ := He.ba h2
  obtain ⟨b2, h2⟩ := He.ba h2
  obtain ⟨b3, b4⟩ := He.ba h2
  exact ⟨of_decide_eq_true a1, of_decide_eq_true a2, of_decide_eq_true a3, a4, of_decide_eq_true b1, of_decide_eq_true b2, of_decide_eq_true b3, of_decide_eq_true b4⟩
/-- d is a class under c -/
def under (d c : Str) : Bool := d == c || c == "KeepError"
/-- a class of the module, no text -/
structure ClN (K : PySem.W.Frag) (C : Addr) : Prop where
  ha : PySem.W.findIn K (.ref C) "__class__" = some (some (.builtin "object.__class__"))
  hn : PySem.W.specialIn K (.builtin "object.__class__") "__get__" = some (some (.builtin "getset_descriptor.__get__"))
  htk : PySem.W.takesIn K (.builtin "object.__class__") = some true
  hm : PySem.W.mroIn K C (.type "object") = some true
  no : PySem.W.kitOne K (.ref C) (.type "str") = some false
def clB (K : PySem.W.Frag) (C : Addr) : Bool := (decide (PySem.W.findIn K (.ref C) "__class__" = some (some (.builtin "object.__class__"))) && (decide (PySem.W.specialIn K (.builtin "object.__class__") "__get__" = some (some (.builtin "getset_descriptor.__get__"))) &&
  (decide (PySem.W.takesIn K (.builtin "object.__class__") = some true) && (decide (PySem.W.mroIn K C (.type "object") = some true) && decide (PySem.W.kitOne K (.ref C) (.type "str") = some false)))))
theorem clB_ok {K : PySem.W.Frag} {C : Addr} (h : clB K C = true) : ClN K C := by
  obtain ⟨h1, h⟩ := He.ba h
  obtain ⟨h2, h⟩ := He.ba h
  obtain ⟨h3, h⟩ := He.ba h
  obtain ⟨h4, h5⟩ := He.ba h
  exact ⟨of_decide_eq_true h1, of_decide_eq_true h2, of_decide_eq_true h3, of_decide_eq_true h4, of_decide_eq_true h5⟩
structure XL where
  (ex cl : List Str)
/-- the errors' classes, and others -/
def exOk1 (L : List Str) (K : PySem.W.Frag) : Bool := L.all fun d => excB K (ga K d) && (decide (PySem.W.kitOne K (.ref (ga K d)) (.type "ValueError") = some true) &&
  (L.all fun c => decide (PySem.W.kitOne K (.ref (ga K d)) (.ref (ga K c)) = some (under d c)) && decide (PySem.W.exmOne K (.ref (ga K d)) (.ref (ga K c)) = some (under d c))))
def exOk (L : XL) (K : PySem.W.Frag) : Bool := exOk1 L.ex K && L.cl.all fun c => clB K (ga K c)
structure Told (fa : List Fa) (fn : List DefD) (xl : XL) (K : PySem.W.Frag) (mg : Str → Option Value) : Prop where
  ex : ∃ h : Heap, K.In h ∧ h.Ns mainGlobals mg
  says : SaysD fa fn K
  errs : exOk xl K = true
/-- what an object names, but for its class and the classes over it -/
def refsX (o : Obj) : List Addr := (match o.data with
  | .seq its _ => its.toList.flatMap He.refV
  | .dict es _ => es.toList.flatMap fun e => He.refV e.val
  | .func fd => He.refV fd.code ++ He.refV fd.defaults ++ He.refV fd.kwdefaults ++ fd.closure.map (·.2)
  | .cls cd => [cd.ns]
  | .fields vs => vs.toList.flatMap He.refV
  | .cell (some v) => He.refV v
  | _ => []) ++ match o.dict with
  | some d => [d]
  | none => []
def nextX (g : Addr → Option Obj) (as : List Addr) : List Addr := as.flatMap fun a => match g a with
  | some o => refsX o
  | none => []
/-- what the module's names lead to, level by level -/
def asX (g : Addr → Option Obj) : Nat → List Addr → List Addr
  | 0, as => as
  | n + 1, as => as ++ asX g n (nextX g as)
/-- the head's look -/
def lookG (n : Nat) (fa : List Fa) (fn : List DefD) (xl : XL) (g : Addr → Option Obj) : He.AlD × Bool := (He.obsD fa fn (He.frG g (asX g n [mainGlobals])), exOk xl (He.frG g (asX g n [mainGlobals])))
def hookG (n : Nat) (fa : List Fa) (fn : List DefD) (xl : XL) : PySem.W.Hook where
  α := He.AlD × Bool
  obs := fun s => lookG n fa fn xl s.heap.get?
  val := fun _ => (He.valD fn, true)
  says := fun _ h => ∃ K : PySem.W.Frag, K.In h ∧ SaysD fa fn K ∧ exOk xl K = true
  of := fun _ _ e => ⟨_, He.frG_in, congrArg (fun z : He.AlD × Bool => z.1) e, congrArg (fun z : He.AlD × Bool => z.2) e⟩
  keeps := fun _ _ _ ⟨K, hK, c⟩ k => ⟨K, PySem.W.Frag.In.keeps hK k, c⟩
theorem lookG_eq {n : Nat} {fa : List Fa} {fn : List DefD} {xl : XL} {g : Addr → Option Obj} {s : Shared} (h : ∀ a, g a = s.heap.get? a) : lookG n fa fn xl g = (hookG n fa fn xl).obs s := by
  have e : g = s.heap.get? := funext h
  rw [e]
  rfl
section
variable {fa : List Fa} {fn : List DefD} {xl : XL} {K : PySem.W.Frag} {mg : Str → Option Value}
theorem Told.glo (T : Told fa fn xl K mg) (i : Nat) {x : Str} (h : fa[i]? = some (.glo x) := by rfl) : mg x = some (.ref (ga K x)) := let ⟨_, X, N⟩ := T.ex; He.glo_ok X N (T.says.fact i h)
theorem Told.free (T : Told fa fn xl K mg) (i : Nat) {x : Str} (h : fa[i]? = some (.free x) := by rfl) : mg x = none := let ⟨_, X, N⟩ := T.ex; He.free_ok X N (T.says.fact i h)
theorem Told.num (T : Told fa fn xl K mg) (i : Nat) {x : Str} {n : Int} (h : fa[i]? = some (.int x n) := by rfl) : ∃ t, mg x = some (.int n t) := let ⟨_, X, N⟩ := T.ex; He.int_ok X N (T.says.fact i h)
theorem Told.txt (T : Told fa fn xl K mg) (i : Nat) {x z : Str} (h : fa[i]? = some (.str x z) := by rfl) : ∃ t, mg x = some (.str z t) := let ⟨_, X, N⟩ := T.ex; He.str_ok X N (T.says.fact i h)
theorem Told.err (T : Told fa fn xl K mg) {d : Str} (h : d ∈ xl.ex) : ExcC K (ga K d) ∧ PySem.W.kitOne K (.ref (ga K d)) (.type "ValueError") = some true ∧
    ∀ c ∈ xl.ex, PySem.W.kitOne K (.ref (ga K d)) (.ref (ga K c)) = some (under d c) ∧ PySem.W.exmOne K (.ref (ga K d)) (.ref (ga K c)) = some (under d c) := by
  obtain ⟨h1, h2⟩ := He.ba (List.all_eq_true.mp (He.ba T.errs).1 d h)
  obtain ⟨h3, h4⟩ := He.ba h2
  refine ⟨excB_ok h1, of_decide_eq_true h3, fun c hc => ?_⟩
  obtain ⟨h5, h6⟩ := He.ba (List.all_eq_true.mp h4 c hc)
  exact ⟨of_decide_eq_true h5, of_decide_eq_true h6⟩
theorem Told.cln (T : Told fa fn xl K mg) {c : Str} (h : c ∈ xl.cl) : ClN K (ga K c) := clB_ok (List.all_eq_true.mp (He.ba T.errs).2 c h)
/-- isinstance(e, c) of an error of class d -/
theorem Told.isE (T : Told fa fn xl K mg) {d c : Str} {a : Addr} {H : Hp} {Q : VK} (ha : H a = some (ExA (.ref (ga K d)) a)) (hd : d ∈ xl.ex) (hc : c ∈ xl.ex) (q : Q (.bl (under d c)) H) : gIsE K [.ref a, .ref (ga K c)] H Q :=
  ⟨_, _, _, ha, (T.err hd).1, .own _, ((T.err hd).2.2 c hc).1, q⟩
theorem Told.isY (T : Told fa fn xl K mg) {d c : Str} {a : Addr} {H : Hp} {Q : VK} (ha : H a = some (ExA (.ref (ga K d)) a)) (hd : d ∈ xl.ex) (hc : c ∈ xl.ex) (e : under d c = true) (q : Q (.bl true) H) : gIsE K [.ref a, .ref (ga K c)] H Q := T.isE ha hd hc (e ▸ q)
theorem Told.isN (T : Told fa fn xl K mg) {d c : Str} {a : Addr} {H : Hp} {Q : VK} (ha : H a = some (ExA (.ref (ga K d)) a)) (hd : d ∈ xl.ex) (hc : c ∈ xl.ex) (e : under d c = false) (q : Q (.bl false) H) : gIsE K [.ref a, .ref (ga K c)] H Q := T.isE ha hd hc (e ▸ q)
theorem Told.isV (T : Told fa fn xl K mg) {d : Str} {a : Addr} {H : Hp} {Q : VK} (ha : H a = some (ExA (.ref (ga K d)) a)) (hd : d ∈ xl.ex) (q : Q (.bl true) H) : gIsE K [.ref a, .ty "ValueError"] H Q :=
  ⟨_, _, _, ha, (T.err hd).1, .ty _, (T.err hd).2.1, q⟩
end
section
variable {fa : List Fa} {fn : List DefD} {xl : XL} {K : PySem.W.Frag} {mg : Str → Option Value}
/-- an error of class d reaches «except c», c over it -/
theorem Told.caught (T : Told fa fn xl K mg) {d c : Str} {i : Nat} {ts : TS} {Wo : WX} {D : Ends} {σ : L2.St} {H : Hp} (hd : d ∈ xl.ex) (hc : c ∈ xl.ex) (hu : under d c = true)
    (h : ∀ a, H a = none → ts { nx := fun σ' H' => D.nx (σ'.set i none) H', rt := D.rt, bk := fun σ' H' => D.bk (σ'.set i none) H', ct := fun σ' H' => D.ct (σ'.set i none) H' } (σ.set i (some (.ref a))) (upd H a (ExA (.ref (ga K d)) a))) :
    wTr K (.ref (ga K c)) i ts Wo D (.ref (ga K d)) none σ H :=
  ⟨true, by rw [((T.err hd).2.2 c hc).2, hu], fun _ => ⟨rfl, h⟩, fun z => by cases z⟩
end
/-- the function object at f -/
def fdAt (K : PySem.W.Frag) (f : Addr) : FuncData := match K.lookup f with
  | some ⟨_, _, .func fd, _⟩ => fd
  | _ => PySem.W.fnOf "" "" { posonlyargs := [], args := [], vararg := none, kwonlyargs := [], kw_defaults := [], kwarg := none, defaults := [] } [] { kind := .function, names := [], isGenerator := false, isCoroutine := false } .none .none .none .none none .none .none
theorem fdAt_of {K : PySem.W.Frag} {x qual : Str} {params : Arguments} {body : List Stmt} {scope : Scope} {dvs : List V} {kws : List (Str × V)} {f : Addr} {fd : FuncData} (F : FunD K x qual params body scope dvs kws f fd) : fd = fdAt K f := by
  obtain ⟨oc, od, dV, kV, doc, pm, an, cdv, ct, osl, rfl, lk, -⟩ := F.ex
  unfold fdAt
  rw [lk]
/-- every argument is given -/
def Bnd (fd : FuncData) (ps : List Str) : Prop := ∀ (s : Shared) (us : List Value), us.length = ps.length → BindsTo s fd ⟨us, []⟩ (ps.zip us)
theorem Bnd.to {K : PySem.W.Frag} {fd : FuncData} {ps : List Str} (b : Bnd fd ps) : Binds K fd ps [] := fun s us _ hl => by
  rw [List.append_nil] at hl ⊢
  exact b s us hl
/-- a def of the module: its promise sp -/
structure Fn (P : Program) (w : World) (K : PySem.W.Frag) (mg : Str → Option Value) (base : Heap) (k : Nat) (x : Str) (ps : List Str) (sp : Sp) : Prop where
  ok : FnOk P w K mg base (L2.CX P w) k (ga K x) (fdAt K (ga K x)) ps sp
  bd : Bnd (fdAt K (ga K x)) ps
  kp : PySem.W.keepIn K (.ref (ga K x)) = true
  at_ : mg x = some (.ref (ga K x))
/-- nothing is raised -/
theorem quiet {P : Program} {w : World} {K : PySem.W.Frag} {mg : Str → Option Value} {base : Heap} {k : Nat} {f : Addr} {fd : FuncData} {ps : List Str} {sp : Sp} (F : FnOk P w K mg base (L2.CX P w) k f fd ps sp) (h0 : ∀ vs H Q E, sp vs H Q E → sp vs H Q E0) : FnOk P w K mg base CX0 k f fd ps sp :=
  ⟨F.len, fun A outer s H args us vs Q E hr e0 hb r hsp => codeAny_mono (F.run A outer s H args us vs Q E0 hr e0 hb r (h0 _ _ _ _ hsp)) fun r s' hq => by
    cases r with
    | error e =>
      obtain ⟨_, _, _, _, _, _, _, _, _, _, _, _, y⟩ := hq
      exact y.elim
    | ok fl => cases fl with
      | ret u => exact hq
      | next => exact hq.elim
      | brk => exact hq.elim
      | cont => exact hq.elim⟩
/-- .. that may be called in an except suite, too -/
structure FnH (P : Program) (w : World) (K : PySem.W.Frag) (mg : Str → Option Value) (base : Heap) (k : Nat) (x : Str) (ps : List Str) (sp : Sp) : Prop where
  ok : FnN P w K mg base k (ga K x) (fdAt K (ga K x)) ps sp
  bd : Bnd (fdAt K (ga K x)) ps
  kp : PySem.W.keepIn K (.ref (ga K x)) = true
  at_ : mg x = some (.ref (ga K x))
section
variable {fa : List Fa} {fn : List DefD} {xl : XL} {P : Program} {w : World} {K : PySem.W.Frag} {mg : Str → Option Value} {base : Heap}
theorem Told.mkFn (T : Told fa fn xl K mg) (i j : Nat) {d : DefD} {x : Str} {N ps : List Str} {k : Nat} {sp : Sp} (hd : fn[i]? = some d) (hx : d.at_ = (x, none)) (h0 : d.dfl = []) (h1 : d.kwd = []) (hg : fa[j]? = some (.glo x)) (S : FnScope N ps d.scope)
    (bnd : ∀ (kV doc pm : Value) (an : Option Addr) (cdv ct : Value) (us : List Value), us.length = ps.length → bindArgs (PySem.W.fnOf d.name d.qual d.params d.body d.scope .none kV doc pm an cdv ct) ⟨us, []⟩ = pure (ps.zip us))
    (len : ∀ vs H Q E, sp vs H Q E → vs.length = ps.length)
    (body : ∀ (cdv : Value) (A : Around) (outer : List Env) (s : Shared) (H : Hp) (vs : List V) (Q : VK) (E : XK), Room k (A.deeper (envOfC d.qual d.scope s.heap.objs.size (ga K x) cdv)) → sp vs H Q E →
      ∃ t, PSs (cxOf (L2.CX P w) P w K mg base N d.qual d.scope (ga K x) cdv A outer s H E) d.body t ∧ t { nx := fun _ H' => Q .non H', rt := Q } (start N vs) H) : Fn P w K mg base (k + 1) x ps sp := by
  obtain ⟨fd, F⟩ := T.says.def_ i hd
  have e : fAd K d.at_ = ga K x := by rw [hx]; rfl
  have e0 : d.dvs K = [] := by unfold DefD.dvs; rw [h0]; rfl
  have e1 : d.kws K = [] := by unfold DefD.kws; rw [h1]; rfl
  rw [e, e0, e1] at F
  have ef := fdAt_of F
  subst ef
  exact ⟨F.ok S len body, F.bindsA bnd, F.kp, T.glo j hg⟩
theorem Told.mkFnH (T : Told fa fn xl K mg) (i j : Nat) {d : DefD} {x : Str} {N ps : List Str} {k : Nat} {sp : Sp} (hd : fn[i]? = some d) (hx : d.at_ = (x, none)) (h0 : d.dfl = []) (h1 : d.kwd = []) (hg : fa[j]? = some (.glo x)) (S : FnScope N ps d.scope)
    (bnd : ∀ (kV doc pm : Value) (an : Option Addr) (cdv ct : Value) (us : List Value), us.length = ps.length → bindArgs (PySem.W.fnOf d.name d.qual d.params d.body d.scope .none kV doc pm an cdv ct) ⟨us, []⟩ = pure (ps.zip us))
    (len : ∀ vs H Q E, sp vs H Q E → vs.length = ps.length)
    (body : ∀ (cdv : Value) (A : Around) (outer : List Env) (s : Shared) (H : Hp) (vs : List V) (Q : VK), RoomN k (A.deeper (envOfC d.qual d.scope s.heap.objs.size (ga K x) cdv)) → sp vs H Q E0 →
      ∃ t, PSs (cxN P w K mg base N d.qual d.scope (ga K x) cdv A outer s H) d.body t ∧ t { nx := fun _ H' => Q .non H', rt := Q } (start N vs) H) : FnH P w K mg base (k + 1) x ps sp := by
  obtain ⟨fd, F⟩ := T.says.def_ i hd
  have e : fAd K d.at_ = ga K x := by rw [hx]; rfl
  have e0 : d.dvs K = [] := by unfold DefD.dvs; rw [h0]; rfl
  have e1 : d.kws K = [] := by unfold DefD.kws; rw [h1]; rfl
  rw [e, e0, e1] at F
  have ef := fdAt_of F
  subst ef
  exact ⟨fn_ofN F S len body, F.bindsA bnd, F.kp, T.glo j hg⟩
end
section
variable {X : Cx} {k : Nat} {ps : List Str} {sp : Sp} {W : WX} {x : Str} {p pos : Pos} {e : Expr} {es : List Expr} {t : TA}
theorem pe_fn (tk : Takes X W) (F : Fn X.prog X.w X.K X.mg X.base k x ps sp) (hr : Room k X.A) (hg : Gl X x) (ha : PA X (e :: es) t) (hdb : (x == ("__debug__" : Str)) = false := by decide)
    (he : starEach (e :: es) X.env = (false, eval e X.env) :: starEach es X.env := by rfl) (hpl : (backTo pos (starEach es X.env)).any (·.1) = false := by rfl) : PE X (.Call (.Name x p) (e :: es) [] pos) (tCallW sp W t) := by
  exact pe_callW tk F.ok hr hg F.at_ F.kp F.bd.to ha hdb he hpl
theorem pe_fn0 (tk : Takes X W) (F : Fn X.prog X.w X.K X.mg X.base k x ps sp) (hr : Room k X.A) (hg : Gl X x) (hdb : (x == ("__debug__" : Str)) = false := by decide) : PE X (.Call (.Name x p) [] [] pos) (tCallW sp W tNil) := by
  exact pe_callW0 tk F.ok hr hg F.at_ F.kp F.bd.to hdb
theorem pe_fnH (F : FnH X.prog X.w X.K X.mg X.base k x ps sp) (hr : RoomN k X.A) (hg : Gl X x) (ha : PA X (e :: es) t) (hdb : (x == ("__debug__" : Str)) = false := by decide)
    (he : starEach (e :: es) X.env = (false, eval e X.env) :: starEach es X.env := by rfl) (hpl : (backTo pos (starEach es X.env)).any (·.1) = false := by rfl) : PE X (.Call (.Name x p) (e :: es) [] pos) (tCallN sp t) := by
  exact pe_callN F.ok hr hg F.at_ F.kp F.bd.to ha hdb he hpl
theorem call_gLen : CallR X (.builtin "len") (L2.rLen X.K) := call_len
theorem call_lenK {K : PySem.W.Frag} (hK : X.K = K) : CallR X (.builtin "len") (L2.rLen K) := hK ▸ call_len
theorem op_eqK {K : PySem.W.Frag} (hK : X.K = K) (hu : X.A.units + 64 < cLine) : OpR X (compareOp .Eq) (gEq K) := hK ▸ op_gEq hu
theorem op_neK {K : PySem.W.Frag} (hK : X.K = K) (hu : X.A.units + 64 < cLine) : OpR X (compareOp .NotEq) (gNe K) := hK ▸ op_gNe hu
theorem ix_seqK {K : PySem.W.Frag} (hK : X.K = K) : IxR X (rIx K) := hK ▸ ix_seq
theorem call_isEK {K : PySem.W.Frag} (hK : X.K = K) : CallR X (.builtin "isinstance") (gIsE K) := hK ▸ call_gIsE
theorem sl_listK {K : PySem.W.Frag} (hK : X.K = K) : SlR X (rSlL K) := hK ▸ sl_list
theorem pi_listK {K : PySem.W.Frag} {tg l : Expr} {tl : TE} (hK : X.K = K) (h : PE X l tl) : PI X tg l (iList K tl) := hK ▸ pi_list h
def rListG (K : PySem.W.Frag) : List V → Hp → VK → Prop := fun xs H Q => ∃ p ys, xs = [.ref p] ∧ (SqL K H p ys ∨ SqT K H p ys) ∧ ∀ l, H l = none → Q (.ref l) (upd H l (.lst ys))
theorem call_listK {K : PySem.W.Frag} (hK : X.K = K) : CallR X (.type "list") (rListG K) := hK ▸ call_list_of
theorem pe_clsK {K : PySem.W.Frag} (hK : X.K = K) (h : X.mg x = some (.ref (ga K x))) (hg : Gl X x) (hdb : (x == ("__debug__" : Str)) = false := by decide) : PE X (.Name x pos) (tC (.ref (ga K x))) := pe_glob hg h rfl hdb
/-- a constant of the module -/
theorem pe_num {n : Int} (h : ∃ t, X.mg x = some (.int n t)) (hg : Gl X x) (hdb : (x == ("__debug__" : Str)) = false := by decide) : PE X (.Name x pos) (tC (.int n)) := by
  obtain ⟨t, e⟩ := h
  exact pe_glob hg e ⟨t, rfl⟩ hdb
theorem pe_txt {z : Str} (h : ∃ t, X.mg x = some (.str z t)) (hg : Gl X x) (hdb : (x == ("__debug__" : Str)) = false := by decide) : PE X (.Name x pos) (tC (.str z)) := by
  obtain ⟨t, e⟩ := h
  exact pe_glob hg e ⟨t, rfl⟩ hdb
/-- a class of the module as a value; a built-in class -/
theorem pe_cls (h : X.mg x = some (.ref (ga X.K x))) (hg : Gl X x) (hdb : (x == ("__debug__" : Str)) = false := by decide) : PE X (.Name x pos) (tC (.ref (ga X.K x))) := pe_glob hg h rfl hdb
theorem pe_ty {T : String} (hm : X.mg x = none) (hv : bootBuiltins x = some (.type T)) (hg : Gl X x) (hn : x ≠ "__name__" := by decide) (hdb : (x == ("__debug__" : Str)) = false := by decide) : PE X (.Name x pos) (tC (.ty T)) := pe_bltn hg hm hv rfl hn hdb
/-- raise C('..') -/
def tRaise (C : Addr) (W : WX) : TS := fun _ σ H => W (.ref C) none σ H
theorem ps_raiseK {K : PySem.W.Frag} {m : Str} {j : Nat} {p2 pos2 : Pos} (hK : X.K = K) (hc : X.calm = true) (tk : Takes X W) (h : (Fa.exc x).ok K = true) (hm : X.mg x = some (.ref (ga K x))) (hg : Gl X x) (hdb : (x == ("__debug__" : Str)) = false := by decide) :
    PS X (.Raise (some (.Call (.Name x p) [.Constant (.str m) j p2] [] pos)) none pos2) (tRaise (ga K x) W) := by
  subst hK
  obtain ⟨h1, h2, h3, h4⟩ := He.exc_ok h
  exact ps_raise hc tk (pmk_own PySem.F.excBase_ValueError h1 hm h2 (raises_own h3 h4) hg hdb)
theorem ps_raiseW {m : Str} {j : Nat} {p2 pos2 : Pos} (hc : X.calm = true) (tk : Takes X W) (h : (Fa.exc x).ok X.K = true) (hm : X.mg x = some (.ref (ga X.K x))) (hg : Gl X x) (hdb : (x == ("__debug__" : Str)) = false := by decide) :
    PS X (.Raise (some (.Call (.Name x p) [.Constant (.str m) j p2] [] pos)) none pos2) (tRaise (ga X.K x) W) := by
  obtain ⟨h1, h2, h3, h4⟩ := He.exc_ok h
  exact ps_raise hc tk (pmk_own PySem.F.excBase_ValueError h1 hm h2 (raises_own h3 h4) hg hdb)
end

/-! ## readings, step by step -/
section
variable {σ : L2.St} {H : Hp} {Q : VK} {QT : Bool → Hp → Prop} {QA : List V → Hp → Prop} {D : Ends} {v x y z : V} {i : Nat} {o : Option V} {ta tb te tc : TE} {t u c : TT} {ts us : TS} {as : TA} {r r' : R2} {g : TG} {b : Bool}
theorem x_K {CX : CXT} {P : Program} {w : World} {K : PySem.W.Frag} {mg : Str → Option Value} {base : Heap} {N : List Str} {qual : Str} {scope : Scope} {f : Addr} {cd : Value} {A : Around} {outer : List Env} {s : Shared} {E : XK} : (cxOf CX P w K mg base N qual scope f cd A outer s H E).K = K := rfl
theorem x_var0 : tVar 0 (some v :: σ) H Q = Q v H := propext ⟨fun ⟨_, e, q⟩ => by cases e; exact q, fun q => ⟨v, rfl, q⟩⟩
theorem x_varS : tVar (i + 1) (o :: σ) H Q = tVar i σ H Q := rfl
theorem x_c : tC v σ H Q = Q v H := rfl
theorem x_op : tOp r ta tb σ H Q = ta σ H fun x H1 => tb σ H1 fun y H2 => r x y H2 Q := rfl
theorem x_un {r : V → Hp → VK → Prop} : tUn r ta σ H Q = ta σ H fun x H1 => r x H1 Q := rfl
theorem x_cb {r : List V → Hp → VK → Prop} : tCB r as σ H Q = as σ H fun vs H1 => r vs H1 Q := rfl
theorem x_nil : tNil σ H QA = QA [] H := rfl
theorem x_cons : tCons te as σ H QA = te σ H fun x H1 => as σ H1 fun xs H2 => QA (x :: xs) H2 := rfl
theorem x_test : tTest te σ H QT = te σ H fun x H1 => ∃ k, x = .bl k ∧ QT k H1 := rfl
theorem x_b : tB te σ H QT = te σ H fun x H1 => ∃ k, x = .bl k ∧ QT k H1 := rfl
theorem x_ex {P : Bool → Prop} : (∃ k, V.bl b = .bl k ∧ P k) = P b := propext ⟨fun ⟨_, e, q⟩ => by cases e; exact q, fun q => ⟨b, rfl, q⟩⟩
theorem x_and : tAnd t u σ H QT = t σ H fun c H1 => if c = true then u σ H1 QT else QT false H1 := rfl
theorem x_or : tOr t u σ H QT = t σ H fun c H1 => if c = true then QT true H1 else u σ H1 QT := rfl
theorem x_not : tNot t σ H QT = t σ H fun c H1 => QT (!c) H1 := rfl
theorem x_andV : tAndV ta tb σ H Q = ta σ H fun x H1 => ∃ c, x = .bl c ∧ if c = true then tb σ H1 Q else Q (.bl false) H1 := rfl
theorem x_orV : tOrV ta tb σ H Q = ta σ H fun x H1 => ∃ c, x = .bl c ∧ if c = true then Q (.bl true) H1 else tb σ H1 Q := rfl
theorem x_notV : tNotV ta σ H Q = ta σ H fun x H1 => ∃ c, x = .bl c ∧ Q (.bl (!c)) H1 := rfl
theorem x_tif : tIf t ta tb σ H Q = t σ H fun c H1 => if c = true then ta σ H1 Q else tb σ H1 Q := rfl
theorem x_chain : tChain r r' ta tb tc σ H Q = ta σ H fun x H1 => tb σ H1 fun y H2 => r x y H2 fun z H3 => ∃ k, z = .bl k ∧ (if k = true then tc σ H3 fun u H4 => r' y u H4 Q else Q (.bl false) H3) := rfl
theorem x_menu : tMenu as te σ H Q = as σ H fun xs H1 => xs.length ≤ sizeLine ∧ te σ H1 fun y H2 => ∃ i v, y = .int i ∧ atI xs i = some v ∧ Q v H2 := rfl
theorem x_menuI {xs : List V} {n : Int} {P : V → Prop} : (∃ i v, V.int n = .int i ∧ atI xs i = some v ∧ P v) = ∃ v, atI xs n = some v ∧ P v := propext ⟨fun ⟨_, w, e, q⟩ => by cases e; exact ⟨w, q⟩, fun ⟨w, q⟩ => ⟨n, w, rfl, q⟩⟩
theorem x_lst : tLst as σ H Q = as σ H fun xs H1 => xs.length ≤ sizeLine ∧ ∀ p, H1 p = none → Q (.ref p) (upd H1 p (.lst xs)) := rfl
theorem x_tup : tTup as σ H Q = as σ H fun xs H1 => xs.length ≤ sizeLine ∧ ∀ p, H1 p = none → Q (.ref p) (upd H1 p (.tup xs)) := rfl
theorem x_dnew : tDNewK σ H Q = ∀ p, H p = none → Q (.ref p) (upd H p (.dK [])) := rfl
theorem x_callW {sp : Sp} {W : WX} : tCallW sp W as σ H Q = as σ H fun vs H1 => sp vs H1 Q fun c d H2 => W c d σ H2 := rfl
theorem x_callN {sp : Sp} : tCallN sp as σ H Q = as σ H fun vs H1 => sp vs H1 Q E0 := rfl
theorem x_seq : tSeq ts us D σ H = ts { D with nx := us D } σ H := rfl
theorem x_next : tNext D σ H = D.nx σ H := rfl
theorem x_ret : tRet te D σ H = te σ H D.rt := rfl
theorem x_retN : tRetN D σ H = D.rt .non H := rfl
theorem x_drop : tDrop te D σ H = te σ H fun _ H1 => D.nx σ H1 := rfl
theorem x_ifS : tIfS c ts us D σ H = c σ H fun b H1 => if b = true then ts D σ H1 else us D σ H1 := rfl
theorem x_asg : tAsg te g D σ H = te σ H fun x H1 => g x σ H1 D.nx := rfl
theorem x_name {N : L2.St → Hp → Prop} : gName i v σ H N = N (σ.set i (some v)) H := rfl
theorem x_raise {C : Addr} {W : WX} : tRaise C W D σ H = W (.ref C) none σ H := rfl
theorem x_start {N : List Str} {n : Str} {vs : List V} : start (n :: N) (v :: vs) = some v :: start N vs := by
  unfold L2.start
  simp only [List.map_cons, List.length_cons, List.cons_append, Nat.add_sub_add_right]
theorem x_start0 {N : List Str} : start N [] = List.replicate N.length none := by
  unfold L2.start
  simp
theorem q_str {a b : Str} (q : Q (.str a) H) (e : a = b) : Q (.str b) H := e ▸ q
theorem r_i0 {g : Int → Int → V} {a b : Int} : rI0 g (.int a) (.int b) H Q = Q (g a b) H := propext ⟨fun ⟨_, _, e, e', q⟩ => by cases e; cases e'; exact q, fun q => ⟨a, b, rfl, rfl, q⟩⟩
theorem r_i {C : Int → Int → Prop} {g : Int → Int → V} {a b : Int} : rI C g (.int a) (.int b) H Q = (C a b ∧ Q (g a b) H) := propext ⟨fun ⟨_, _, e, e', q⟩ => by cases e; cases e'; exact q, fun q => ⟨a, b, rfl, rfl, q⟩⟩
theorem r_u {g : Int → V} {a : Int} : rU g (.int a) H Q = Q (g a) H := propext ⟨fun ⟨_, e, q⟩ => by cases e; exact q, fun q => ⟨a, rfl, q⟩⟩
theorem r_addI {a b : Int} : gAdd (.int a) (.int b) H Q = Q (.int (a + b)) H := rfl
theorem r_addS {a b : Str} : gAdd (.str a) (.str b) H Q = (a.length + b.length ≤ sizeLine ∧ Q (.str (a ++ b)) H) := rfl
theorem r_mulI {a b : Int} : gMul (.int a) (.int b) H Q = (((-(2 ^ 64) < a ∧ a < 2 ^ 64) ∨ (-(2 ^ 64) < b ∧ b < 2 ^ 64)) ∧ Q (.int (a * b)) H) := rfl
theorem r_mulS {a : Str} {b : Int} : gMul (.str a) (.int b) H Q = ((b = 0 ∨ b = 1) ∧ Q (.str (if b = 1 then a else Str.empty)) H) := rfl
theorem r_eqI {K : PySem.W.Frag} {a b : Int} : gEq K (.int a) (.int b) H Q = Q (.bl (decide (a = b))) H := by
  show (if true = true then Q (.bl (a == b)) H else rEqD K (.int a) (.int b) H Q) = _
  rw [if_pos (rfl : true = true), Bool.beq_eq_decide_eq]
theorem r_neI {K : PySem.W.Frag} {a b : Int} : gNe K (.int a) (.int b) H Q = Q (.bl (!decide (a = b))) H := by
  show (if true = true then Q (.bl (!(a == b))) H else rNeD K (.int a) (.int b) H Q) = _
  rw [if_pos (rfl : true = true), Bool.beq_eq_decide_eq]
theorem r_eqF {K : PySem.W.Frag} (hx : flatV x = true) (hy : flatV y = true) : gEq K x y H Q = Q (.bl (eqV x y)) H := by unfold gEq; rw [hx, hy]; rfl
theorem r_neF {K : PySem.W.Frag} (hx : flatV x = true) (hy : flatV y = true) : gNe K x y H Q = Q (.bl (!eqV x y)) H := by unfold gNe; rw [hx, hy]; rfl
theorem r_eqS {K : PySem.W.Frag} {a b : Str} : gEq K (.str a) (.str b) H Q = Q (.bl (decide (a = b))) H := by
  show (if true = true then Q (.bl (a == b)) H else rEqD K (.str a) (.str b) H Q) = _
  rw [if_pos (rfl : true = true), Bool.beq_eq_decide_eq]
theorem r_neS {K : PySem.W.Frag} {a b : Str} : gNe K (.str a) (.str b) H Q = Q (.bl (!decide (a = b))) H := by
  show (if true = true then Q (.bl (!(a == b))) H else rNeD K (.str a) (.str b) H Q) = _
  rw [if_pos (rfl : true = true), Bool.beq_eq_decide_eq]
theorem n_ten : Int.natAbs 10 < 18446744073709551616 := by decide
theorem c_div {i j : Int} : CDiv i j = (0 < j ∧ j < 1073741824) := rfl
theorem c_pow {i j : Int} : CPow i j = (0 ≤ j ∧ j ≤ 1000000 ∧ i.natAbs < 2 ^ 64) := rfl
theorem r_absI {a : Int} : gAbs [.int a] H Q = Q (.int (a.natAbs : Int)) H := rfl
theorem r_intI {a : Int} : gInt [.int a] H Q = Q (.int a) H := rfl
theorem r_intB {k : Bool} : gInt [.bl k] H Q = Q (.int (if k then 1 else 0)) H := rfl
theorem r_lenL {K : PySem.W.Frag} {a : Addr} {xs : List V} (h : H a = some (.lst xs)) (q : Q (.int (xs.length : Int)) H) : L2.rLen K [.ref a] H Q := ⟨_, _, rfl, .inl ⟨_, SqL.of h, rfl⟩, q⟩
end
end G
namespace G
open PySem PySem.Spec PyProof.Rows L2
open He (ga ma fAd Fa DefD SaysD)
/-! ## classes of the module: fields, methods, instances -/
section
variable {fa : List Fa} {fn : List DefD} {xl : XL} {K : PySem.W.Frag} {mg : Str → Option Value}
theorem Told.cls (T : Told fa fn xl K mg) (i : Nat) {x : Str} (h : fa[i]? = some (.cls x) := by rfl) : Cls K (ga K x) := He.cls_ok (T.says.fact i h)
theorem Told.noat (T : Told fa fn xl K mg) (i : Nat) {x f : Str} (h : fa[i]? = some (.noat x f) := by rfl) : NoAttr K (ga K x) f := He.noat_ok (T.says.fact i h)
end
/-- x holds v in its field f, an instance of the class at C -/
def FldIs (C : Addr) (f : Str) (x : V) (H : Hp) (v : V) : Prop := ∃ a dx fs, x = .ref a ∧ H a = some (.ins C dx fs) ∧ fs.lookup f = some v
theorem fldIs {C : Addr} {f : Str} {a dx : Addr} {H : Hp} {fs : List (Str × V)} {v : V} (h : H a = some (.ins C dx fs)) (e : fs.lookup f = some v := by rfl) : FldIs C f (.ref a) H v := ⟨a, dx, fs, rfl, h, e⟩
def gFld (C : Addr) (ta : TE) (f : Str) : TE := fun σ H Q => ta σ H fun x H1 => ∃ v, FldIs C f x H1 v ∧ Q v H1
def gSetF (C : Addr) (ta tv : TE) (f : Str) : TS := fun D σ H => tv σ H fun y H1 => ta σ H1 fun x H2 => ∃ a dx fs, x = .ref a ∧ H2 a = some (.ins C dx fs) ∧ fs.length < 1000 ∧ D.nx σ (upd H2 a (.ins C dx (putF f y fs)))
section
variable {X : Cx} {C : Addr} {o e value : Expr} {f : Str} {pos pos' : Pos} {ta tv : TE}
theorem pe_fldC (c : Cls X.K C) (n : NoAttr X.K C f) (he : PE X e ta) (hb : attributeBase e f X.env (eval e X.env) = eval e X.env := by rfl) : PE X (.Attribute e f pos) (gFld C ta f) := by
  refine ⟨fun pins s σ H Q I h => attr_of hb (thn (he.run pins s σ H _ I h) fun u s1 hh => ?_)⟩
  obtain ⟨x, H1, I1, rx, v, ⟨a, dx, fs, ex, ea, l⟩, q⟩ := hh
  subst ex
  obtain rfl : u = Value.ref a := rx
  exact getattr_ok I1 ea c n l fun _ _ I2 ru => ⟨v, H1, I2, ru, q⟩
theorem ps_fldC (c : Cls X.K C) (n : NoAttr X.K C f) (ha : PE X o ta) (hv : PE X value tv) (hs : swapsWith value (some (.Attribute o f pos')) pos.line X.env = pure false := by rfl) : PS X (.Assign [.Attribute o f pos'] value pos) (gSetF C ta tv f) := by
  refine ⟨fun pins s σ H D I h => plainObj_wpAny_Assign_Attribute (thn (hv.run pins s σ H _ I h) fun u s1 hh => ?_) hs⟩
  obtain ⟨y, H1, I1, ry, q⟩ := hh
  refine thn (ha.run pins s1 σ H1 _ I1 q) fun ov s2 h2 => ?_
  obtain ⟨x, H2, I2, rx, a, dx, fs, ex, ea, l, q2⟩ := h2
  subst ex
  obtain rfl : ov = Value.ref a := rx
  exact setattr_ok I2 ea c n l ry fun _ I3 => ⟨σ, _, I3, q2⟩
end
/-- a method of a class of the module: its promise -/
structure Mt (P : Program) (w : World) (K : PySem.W.Frag) (mg : Str → Option Value) (base : Heap) (k : Nat) (C m : Str) (ps : List Str) (sp : Sp) : Prop where
  ok : FnOk P w K mg base (L2.CX P w) k (ma K (ga K C) m) (fdAt K (ma K (ga K C) m)) ps sp
  bd : Bnd (fdAt K (ma K (ga K C) m)) ps
  me : Meth K (ga K C) m (ma K (ga K C) m)
  cl : Cls K (ga K C)
/-- the __init__ of a class -/
structure Mi (P : Program) (w : World) (K : PySem.W.Frag) (mg : Str → Option Value) (base : Heap) (k : Nat) (C : Str) (ps : List Str) (sp : Sp) : Prop where
  ok : FnOk P w K mg base (L2.CX P w) k (ma K (ga K C) "__init__") (fdAt K (ma K (ga K C) "__init__")) ps sp
  bd : Bnd (fdAt K (ma K (ga K C) "__init__")) ps
  mkr : Mk K (ga K C) (ma K (ga K C) "__init__")
  at_ : mg C = some (.ref (ga K C))
section
variable {fa : List Fa} {fn : List DefD} {xl : XL} {P : Program} {w : World} {K : PySem.W.Frag} {mg : Str → Option Value} {base : Heap}
theorem Told.mkAny (T : Told fa fn xl K mg) (i : Nat) {d : DefD} {f : Addr} {N ps : List Str} {k : Nat} {sp : Sp} (hd : fn[i]? = some d) (hx : fAd K d.at_ = f) (h0 : d.dfl = []) (h1 : d.kwd = []) (S : FnScope N ps d.scope)
    (bnd : ∀ (kV doc pm : Value) (an : Option Addr) (cdv ct : Value) (us : List Value), us.length = ps.length → bindArgs (PySem.W.fnOf d.name d.qual d.params d.body d.scope .none kV doc pm an cdv ct) ⟨us, []⟩ = pure (ps.zip us))
    (len : ∀ vs H Q E, sp vs H Q E → vs.length = ps.length)
    (body : ∀ (cdv : Value) (A : Around) (outer : List Env) (s : Shared) (H : Hp) (vs : List V) (Q : VK) (E : XK), Room k (A.deeper (envOfC d.qual d.scope s.heap.objs.size f cdv)) → sp vs H Q E →
      ∃ t, PSs (cxOf (L2.CX P w) P w K mg base N d.qual d.scope f cdv A outer s H E) d.body t ∧ t { nx := fun _ H' => Q .non H', rt := Q } (start N vs) H) : FnOk P w K mg base (L2.CX P w) (k + 1) f (fdAt K f) ps sp ∧ Bnd (fdAt K f) ps := by
  obtain ⟨fd, F⟩ := T.says.def_ i hd
  have e0 : d.dvs K = [] := by unfold DefD.dvs; rw [h0]; rfl
  have e1 : d.kws K = [] := by unfold DefD.kws; rw [h1]; rfl
  rw [hx, e0, e1] at F
  have ef := fdAt_of F
  subst ef
  exact ⟨F.ok S len body, F.bindsA bnd⟩
theorem Told.mkMt (T : Told fa fn xl K mg) (i j l : Nat) {d : DefD} {C m : Str} {N ps : List Str} {k : Nat} {sp : Sp} (hd : fn[i]? = some d) (hx : d.at_ = (C, some m)) (h0 : d.dfl = []) (h1 : d.kwd = []) (hg : fa[j]? = some (.meth C m)) (hc : fa[l]? = some (.cls C)) (S : FnScope N ps d.scope)
    (bnd : ∀ (kV doc pm : Value) (an : Option Addr) (cdv ct : Value) (us : List Value), us.length = ps.length → bindArgs (PySem.W.fnOf d.name d.qual d.params d.body d.scope .none kV doc pm an cdv ct) ⟨us, []⟩ = pure (ps.zip us))
    (len : ∀ vs H Q E, sp vs H Q E → vs.length = ps.length)
    (body : ∀ (cdv : Value) (A : Around) (outer : List Env) (s : Shared) (H : Hp) (vs : List V) (Q : VK) (E : XK), Room k (A.deeper (envOfC d.qual d.scope s.heap.objs.size (ma K (ga K C) m) cdv)) → sp vs H Q E →
      ∃ t, PSs (cxOf (L2.CX P w) P w K mg base N d.qual d.scope (ma K (ga K C) m) cdv A outer s H E) d.body t ∧ t { nx := fun _ H' => Q .non H', rt := Q } (start N vs) H) : Mt P w K mg base (k + 1) C m ps sp := by
  obtain ⟨a, b⟩ := T.mkAny (P := P) (w := w) (base := base) i hd (by rw [hx]; rfl) h0 h1 S bnd len body
  exact ⟨a, b, He.meth_ok (T.says.fact j hg), T.cls l hc⟩
theorem Told.mkMi (T : Told fa fn xl K mg) (i j l : Nat) {d : DefD} {C : Str} {N ps : List Str} {k : Nat} {sp : Sp} (hd : fn[i]? = some d) (hx : d.at_ = (C, some ("__init__" : Str))) (h0 : d.dfl = []) (h1 : d.kwd = []) (hg : fa[j]? = some (.mkr C)) (hc : fa[l]? = some (.glo C)) (S : FnScope N ps d.scope)
    (bnd : ∀ (kV doc pm : Value) (an : Option Addr) (cdv ct : Value) (us : List Value), us.length = ps.length → bindArgs (PySem.W.fnOf d.name d.qual d.params d.body d.scope .none kV doc pm an cdv ct) ⟨us, []⟩ = pure (ps.zip us))
    (len : ∀ vs H Q E, sp vs H Q E → vs.length = ps.length)
    (body : ∀ (cdv : Value) (A : Around) (outer : List Env) (s : Shared) (H : Hp) (vs : List V) (Q : VK) (E : XK), Room k (A.deeper (envOfC d.qual d.scope s.heap.objs.size (ma K (ga K C) "__init__") cdv)) → sp vs H Q E →
      ∃ t, PSs (cxOf (L2.CX P w) P w K mg base N d.qual d.scope (ma K (ga K C) "__init__") cdv A outer s H E) d.body t ∧ t { nx := fun _ H' => Q .non H', rt := Q } (start N vs) H) : Mi P w K mg base (k + 1) C ps sp := by
  obtain ⟨a, b⟩ := T.mkAny (P := P) (w := w) (base := base) i hd (by rw [hx]; rfl) h0 h1 S bnd len body
  exact ⟨a, b, He.mkr_ok (T.says.fact j hg), T.glo l hc⟩
end
/-- x is an instance of the class at C, its attributes none of the name m -/
def Recv (C : Addr) (m : Str) (x : V) (H : Hp) : Prop := ∃ a dx fs, x = .ref a ∧ H a = some (.ins C dx fs) ∧ fs.lookup m = none
theorem recv {C : Addr} {m : Str} {a dx : Addr} {H : Hp} {fs : List (Str × V)} (h : H a = some (.ins C dx fs)) (e : fs.lookup m = none := by rfl) : Recv C m (.ref a) H := ⟨a, dx, fs, rfl, h, e⟩
section
variable {X : Cx} {k : Nat} {C m : Str} {ps : List Str} {sp : Sp} {W : WX} {p pos apos : Pos} {o e : Expr} {es : List Expr} {ta : TE} {t : TA}
def gMeth (C : Addr) (m : Str) (sp : Sp) (W : WX) (ta : TE) (t : TA) : TE := fun σ H Q => ta σ H fun x H1 => Recv C m x H1 ∧ t σ H1 fun vs H2 => sp (x :: vs) H2 Q fun c d H3 => W c d σ H3
theorem pe_mt {pl : Sem Bool} {K : PySem.W.Frag} (hK : X.K = K) (tk : Takes X W) (he : PE X o ta) (F : Mt X.prog X.w K X.mg X.base k C m ps sp) (hr : Room k X.A) (ha : PA X (e :: es) t)
    (hst : starEach (e :: es) X.env = (false, eval e X.env) :: starEach es X.env := by rfl) (hpl : (backTo pos (starEach es X.env)).any (·.1) = false := by rfl)
    (ht : eval (.Call (.Attribute o m apos) (e :: es) [] pos) X.env = (do
      let z ← eval o X.env
      standAt apos.atName
      let (g, one) ← holding [z] (getMethod z m pl)
      callWith pos g one (backTo pos (starEach (e :: es) X.env)) (backToKw pos (keywordEach [] X.env))) := by rfl) :
    PE X (.Call (.Attribute o m apos) (e :: es) [] pos) (gMeth (ga K C) m sp W ta t) := by
  subst hK
  refine ⟨fun pins s σ H Q I h => ?_⟩
  refine PySem.W.methodCall_KW (pl := pl) (thn (he.run pins s σ H _ I h) fun u s1 hh => ?_) ht
  obtain ⟨y, H1, I1, ry, ⟨a, dx, fs, ey, ea, l⟩, q⟩ := hh
  subst ey
  obtain rfl : u = Value.ref a := ry
  refine getmeth_ok I1 ea F.cl F.me l ?_
  refine PySem.W.callWith_K (first := [.ref a]) (h₀ := X.base) I.ok.mod.kin F.me.kp (thn (ha.run pos pins s1 σ H1 _ I1 q) fun us s2 h2 => ?_) hst hpl
  obtain ⟨vs, H2, I2, r, q2⟩ := h2
  exact ⟨I2.kIn, run_fnS (us := .ref a :: us) (vs := .ref a :: vs) (E := WE W) F.ok hr F.bd.to (passAt tk σ) I2 (.cons rfl r) q2⟩
theorem pe_mt0 {pl : Sem Bool} {K : PySem.W.Frag} (hK : X.K = K) (tk : Takes X W) (he : PE X o ta) (F : Mt X.prog X.w K X.mg X.base k C m ps sp) (hr : Room k X.A)
    (ht : eval (.Call (.Attribute o m apos) [] [] pos) X.env = (do
      let z ← eval o X.env
      standAt apos.atName
      let (g, one) ← holding [z] (getMethod z m pl)
      callWith pos g one (backTo pos (starEach [] X.env)) (backToKw pos (keywordEach [] X.env))) := by rfl) :
    PE X (.Call (.Attribute o m apos) [] [] pos) (gMeth (ga K C) m sp W ta tNil) := by
  subst hK
  refine ⟨fun pins s σ H Q I h => ?_⟩
  refine PySem.W.methodCall_KW (pl := pl) (thn (he.run pins s σ H _ I h) fun u s1 hh => ?_) ht
  obtain ⟨y, H1, I1, ry, ⟨a, dx, fs, ey, ea, l⟩, q⟩ := hh
  subst ey
  obtain rfl : u = Value.ref a := ry
  refine getmeth_ok I1 ea F.cl F.me l ?_
  exact PySem.W.callWith_K0 (first := [.ref a]) I1.kIn F.me.kp (run_fnS (us := [.ref a]) (vs := [.ref a]) (E := WE W) F.ok hr F.bd.to (passAt tk σ) I1 (.cons rfl .nil) q)
theorem pe_mk {K : PySem.W.Frag} (hK : X.K = K) (tk : Takes X W) (F : Mi X.prog X.w K X.mg X.base k C ps sp) (hr : Room (k + 1) X.A) (hg : Gl X C) (ha : PA X (e :: es) t) (hdb : (C == ("__debug__" : Str)) = false := by decide)
    (he : starEach (e :: es) X.env = (false, eval e X.env) :: starEach es X.env := by rfl) (hpl : (backTo pos (starEach es X.env)).any (·.1) = false := by rfl) : PE X (.Call (.Name C p) (e :: es) [] pos) (tMakeW (ga K C) sp W t) := by
  subst hK
  exact pe_makeW tk F.mkr F.ok hr hg F.at_ F.bd.to ha hdb he hpl
theorem pe_mk0 {K : PySem.W.Frag} (hK : X.K = K) (tk : Takes X W) (F : Mi X.prog X.w K X.mg X.base k C ps sp) (hr : Room (k + 1) X.A) (hg : Gl X C) (hdb : (C == ("__debug__" : Str)) = false := by decide) : PE X (.Call (.Name C p) [] [] pos) (tMakeW (ga K C) sp W tNil) := by
  subst hK
  exact pe_makeW0 tk F.mkr F.ok hr hg F.at_ F.bd.to hdb
/-- least, greatest of two -/
def gMin : List V → Hp → VK → Prop
  | [.int i, .int j], H, Q => Q (.int (min i j)) H
  | _, _, _ => False
def gMax : List V → Hp → VK → Prop
  | [.int i, .int j], H, Q => Q (.int (max i j)) H
  | _, _, _ => False
theorem call_gMin (hc : X.calm = true) : CallR X (.builtin "min") gMin := by
  intro pins s σ H xs us Q I r h
  unfold gMin at h
  split at h
  · rename_i i j
    refine call_min2 hc pins s σ _ _ us Q I r ⟨i, j, rfl, ?_⟩
    have e : (if j < i then j else i) = min i j := by split <;> omega
    rw [e]
    exact h
  · exact h.elim
theorem call_gMax (hc : X.calm = true) : CallR X (.builtin "max") gMax := by
  intro pins s σ H xs us Q I r h
  unfold gMax at h
  split at h
  · rename_i i j
    refine call_max2 hc pins s σ _ _ us Q I r ⟨i, j, rfl, ?_⟩
    have e : (if j > i then j else i) = max i j := by split <;> omega
    rw [e]
    exact h
  · exact h.elim
end
section
variable {σ : L2.St} {H : Hp} {Q : VK} {D : Ends} {C : Addr} {f m : Str} {ta tv : TE} {as : TA} {sp : Sp} {W : WX} {a b : Int} {y x i : V} {S : TSet}
theorem x_fld : gFld C ta f σ H Q = ta σ H fun x H1 => ∃ v, FldIs C f x H1 v ∧ Q v H1 := rfl
theorem x_setF : gSetF C ta tv f D σ H = tv σ H fun y H1 => ta σ H1 fun x H2 => ∃ a dx fs, x = .ref a ∧ H2 a = some (.ins C dx fs) ∧ fs.length < 1000 ∧ D.nx σ (upd H2 a (.ins C dx (putF f y fs))) := rfl
theorem x_meth : gMeth C m sp W ta as σ H Q = ta σ H fun x H1 => Recv C m x H1 ∧ as σ H1 fun vs H2 => sp (x :: vs) H2 Q fun c d H3 => W c d σ H3 := rfl
theorem x_make : tMakeW C sp W as σ H Q = as σ H fun vs H1 => ∀ x dx, H1 x = none → H1 dx = none → dx ≠ x → sp (.ref x :: vs) (upd (upd H1 dx (.own x)) x (.ins C dx [])) (fun v H2 => v = .non ∧ Q (.ref x) H2) fun c d H3 => W c d σ H3 := rfl
theorem x_sub {to ti : TE} {N : L2.St → Hp → Prop} : gSub to ti S y σ H N = to σ H fun o H1 => ti σ H1 fun i H2 => S o i y H2 fun H3 => N σ H3 := rfl
theorem r_min : gMin [.int a, .int b] H Q = Q (.int (min a b)) H := rfl
theorem r_max : gMax [.int a, .int b] H Q = Q (.int (max a b)) H := rfl
/-- a store to a list at i -/
theorem r_setL {p : Addr} {xs : List V} {k : Int} {N : Hp → Prop} (h : H p = some (.lst xs)) (h0 : 0 ≤ k) (h1 : k < xs.length) (q : N (upd H p (.lst (xs.set k.toNat y)))) : rSetL (.ref p) (.int k) y H N :=
  ⟨p, xs, k, k.toNat, rfl, rfl, h, by unfold ixN; rw [if_pos h0, if_pos h1], q⟩
end
end G
namespace G
open PySem PySem.Spec PyProof.Rows L2
/-! ## comprehensions whose parts leave the heap as it is -/
section
variable {σ : L2.St} {vs : List Nat} {H1 : Hp} {D : Addr} {Qd : Hp → Prop} {te : TE} {tt : TT} {k : Nat} {f : Nat → V} {K : PySem.W.Frag} {a : Addr} {xs : List V}
theorem tYes_on {σ2 : L2.St} {H : Hp} {A B : Hp → Prop} (h : A H) : tYes σ2 H fun b H3 => if b = true then A H3 else B H3 := by
  show (if true = true then A H else B H)
  rw [if_pos (rfl : true = true)]
  exact h
/-- [e for x in range(..)] -/
theorem lc_mapR {lo : Int} {n : Nat} (f : Nat → V) (hw : ∀ v, wipe ((wipe σ vs).set k (some v)) vs = wipe σ vs) (hn : n ≤ sizeLine)
    (he : ∀ i, i < n → ∀ acc (Q : VK), Q (f i) (upd H1 D (.lst acc)) → te ((wipe σ vs).set k (some (.int (lo + i)))) (upd H1 D (.lst acc)) Q) (hd : Qd (upd H1 D (.lst ((List.range n).map f)))) :
    ∃ W : Nat → Nat → Hp → Prop, (∃ m, W 0 m (upd H1 D (.lst []))) ∧ ∀ i m H, W i m H →
      ((Itr lo n).stop i H ∧ Qd H) ∨ ((Itr lo n).go i H ∧ ∃ Nx : Hp → Prop, (∀ H', Nx H' → ∃ m', m' < m ∧ W (i + 1) m' H') ∧ ∀ x H', (Itr lo n).yld i H x H' → gName k x (wipe σ vs) H' fun σ2 H2 => wipe σ2 vs = wipe σ vs ∧ tYes σ2 H2 fun b H3 =>
        if b = true then te σ2 H3 fun y H4 => ∃ acc, H4 D = some (.lst acc) ∧ acc.length < sizeLine ∧ Nx (upd H4 D (.lst (acc ++ [y]))) else Nx H3) := by
  refine lc_range (Qd := Qd) (fun i H => H = upd H1 D (.lst ((List.range i).map f))) rfl ?_ fun H e => by rw [e]; exact hd
  rintro i H hi rfl
  refine ⟨hw _, tYes_on (he i hi _ _ ⟨_, upd_same, by rw [List.length_map, List.length_range]; omega, ?_⟩)⟩
  rw [upd_upd, List.range_succ, List.map_append]
  rfl
/-- [e for x in xs] -/
theorem lc_mapL {ys : List V} (hw : ∀ v, wipe ((wipe σ vs).set k (some v)) vs = wipe σ vs) (hl : ∀ acc, SqL K (upd H1 D (.lst acc)) a xs) (hn : xs.length ≤ sizeLine) (hy : ys.length = xs.length)
    (he : ∀ (i : Nat) (x y : V), xs[i]? = some x → ys[i]? = some y → ∀ acc (Q : VK), Q y (upd H1 D (.lst acc)) → te ((wipe σ vs).set k (some x)) (upd H1 D (.lst acc)) Q) (hd : Qd (upd H1 D (.lst ys))) :
    ∃ W : Nat → Nat → Hp → Prop, (∃ m, W 0 m (upd H1 D (.lst []))) ∧ ∀ i m H, W i m H →
      ((Itl K a).stop i H ∧ Qd H) ∨ ((Itl K a).go i H ∧ ∃ Nx : Hp → Prop, (∀ H', Nx H' → ∃ m', m' < m ∧ W (i + 1) m' H') ∧ ∀ x H', (Itl K a).yld i H x H' → gName k x (wipe σ vs) H' fun σ2 H2 => wipe σ2 vs = wipe σ vs ∧ tYes σ2 H2 fun b H3 =>
        if b = true then te σ2 H3 fun y H4 => ∃ acc, H4 D = some (.lst acc) ∧ acc.length < sizeLine ∧ Nx (upd H4 D (.lst (acc ++ [y]))) else Nx H3) := by
  refine lc_list (Qd := Qd) (xs := xs) (fun i H => H = upd H1 D (.lst (ys.take i))) (by rfl) (fun i H _ e => by rw [e]; exact hl _) ?_ fun H e => by
    rw [e, ← hy, List.take_length]
    exact hd
  rintro i x H hi rfl
  have hlt : i < ys.length := by rw [hy]; exact (List.getElem?_eq_some_iff.mp hi).1
  refine ⟨hw _, tYes_on (he i x ys[i] hi (List.getElem?_eq_getElem hlt) _ _ ⟨_, upd_same, by rw [List.length_take]; omega, ?_⟩)⟩
  rw [upd_upd, List.take_succ_eq_append_getElem hlt]
/-- [e for x in xs if t], ys the kept ones, by the places of what is kept -/
theorem lc_iffL {g : V → Option V} (hw : ∀ v, wipe ((wipe σ vs).set k (some v)) vs = wipe σ vs) (hl : ∀ acc, SqL K (upd H1 D (.lst acc)) a xs) (hn : xs.length ≤ sizeLine)
    (he : ∀ (i : Nat) (x : V), xs[i]? = some x → ∀ acc (N : Bool → Hp → Prop), ((g x).isSome = true → N true (upd H1 D (.lst acc))) → ((g x).isSome = false → N false (upd H1 D (.lst acc))) → tt ((wipe σ vs).set k (some x)) (upd H1 D (.lst acc)) N)
    (hy : ∀ (i : Nat) (x y : V), xs[i]? = some x → g x = some y → ∀ acc (Q : VK), Q y (upd H1 D (.lst acc)) → te ((wipe σ vs).set k (some x)) (upd H1 D (.lst acc)) Q) (hd : Qd (upd H1 D (.lst (xs.filterMap g)))) :
    ∃ W : Nat → Nat → Hp → Prop, (∃ m, W 0 m (upd H1 D (.lst []))) ∧ ∀ i m H, W i m H →
      ((Itl K a).stop i H ∧ Qd H) ∨ ((Itl K a).go i H ∧ ∃ Nx : Hp → Prop, (∀ H', Nx H' → ∃ m', m' < m ∧ W (i + 1) m' H') ∧ ∀ x H', (Itl K a).yld i H x H' → gName k x (wipe σ vs) H' fun σ2 H2 => wipe σ2 vs = wipe σ vs ∧ tt σ2 H2 fun b H3 =>
        if b = true then te σ2 H3 fun y H4 => ∃ acc, H4 D = some (.lst acc) ∧ acc.length < sizeLine ∧ Nx (upd H4 D (.lst (acc ++ [y]))) else Nx H3) := by
  refine lc_list (Qd := Qd) (xs := xs) (fun i H => H = upd H1 D (.lst ((xs.take i).filterMap g))) (by rfl) (fun i H _ e => by rw [e]; exact hl _) ?_ fun H e => by
    rw [e, List.take_length]
    exact hd
  rintro i x H hi rfl
  have hlt : i < xs.length := (List.getElem?_eq_some_iff.mp hi).1
  have ex : xs[i] = x := by rw [List.getElem?_eq_getElem hlt] at hi; exact Option.some.inj hi
  have small : ((xs.take i).filterMap g).length < sizeLine := Nat.lt_of_le_of_lt (List.length_filterMap_le _ _) (by rw [List.length_take]; omega)
  refine ⟨hw _, he i x hi _ _ (fun c => ?_) fun c => ?_⟩
  · obtain ⟨y, ey⟩ := Option.isSome_iff_exists.mp c
    rw [if_pos (rfl : true = true)]
    refine hy i x y hi ey _ _ ⟨_, upd_same, small, ?_⟩
    rw [upd_upd, List.take_succ_eq_append_getElem hlt, List.filterMap_append, ex]
    simp only [List.filterMap_cons, ey, List.filterMap_nil]
  · rw [if_neg Bool.false_ne_true, List.take_succ_eq_append_getElem hlt, List.filterMap_append, ex]
    have e0 : g x = none := by cases e : g x with
      | none => rfl
      | some y => rw [e] at c; cases c
    simp only [List.filterMap_cons, e0, List.filterMap_nil, List.append_nil]
end
/-- a statement, then the rest, by what holds between them -/
def tCut (t u : TS) : TS := fun D σ H => ∃ M : L2.St → Hp → Prop, t { D with nx := M } σ H ∧ ∀ σ' H', M σ' H' → u D σ' H'
theorem pss_cut {X : Cx} {st : Stmt} {rest : List Stmt} {t u : TS} (h1 : PS X st t) (h2 : PSs X rest u) : PSs X (st :: rest) (tCut t u) := by
  refine ⟨fun pins s σ H D I h => ?_⟩
  obtain ⟨M, a, b⟩ := h
  refine wpAny_execs_cons (thn (h1.run pins s σ H { D with nx := M } I a) fun f s1 q => ?_)
  cases f with
  | next => exact q.elim fun σ1 z => z.elim fun H1 y => h2.run pins s1 σ1 H1 D y.1 (b σ1 H1 y.2)
  | ret v => exact q
  | brk => exact q
  | cont => exact q
/-- what is wanted of a loop over J; of a comprehension -/
def ForW (J : It) (g : TG) (tb : TS) (D : Ends) (σ : L2.St) (H : Hp) : Prop := ∃ W : Nat → Nat → L2.St → Hp → Prop, (∃ m, W 0 m σ H) ∧ ∀ i m σ H, W i m σ H →
  (J.stop i H ∧ D.nx σ H) ∨ (J.go i H ∧ ∃ N : L2.St → Hp → Prop, (∀ σ' H', N σ' H' → ∃ m', m' < m ∧ W (i + 1) m' σ' H') ∧ ∀ x H', J.yld i H x H' → g x σ H' fun σ2 H2 => tb { D with nx := N, ct := N, bk := D.nx } σ2 H2)
def LcW (J : It) (g : TG) (tt : TT) (te : TE) (vs : List Nat) (σ : L2.St) (H1 : Hp) (Q : VK) : Prop := ∀ D, H1 D = none → ∃ W : Nat → Nat → Hp → Prop, (∃ m, W 0 m (upd H1 D (.lst []))) ∧ ∀ i m H, W i m H →
  (J.stop i H ∧ Q (.ref D) H) ∨ (J.go i H ∧ ∃ Nx : Hp → Prop, (∀ H', Nx H' → ∃ m', m' < m ∧ W (i + 1) m' H') ∧ ∀ x H', J.yld i H x H' → g x (wipe σ vs) H' fun σ2 H2 => wipe σ2 vs = wipe σ vs ∧ tt σ2 H2 fun b H3 =>
    if b = true then te σ2 H3 fun y H4 => ∃ acc, H4 D = some (.lst acc) ∧ acc.length < sizeLine ∧ Nx (upd H4 D (.lst (acc ++ [y]))) else Nx H3)
section
variable {σ : L2.St} {H : Hp} {Q : VK} {D : Ends} {wi : TI} {g : TG} {tb : TS} {tt : TT} {te : TE} {ta : TA} {vs : List Nat} {R : It → Hp → Prop} {K : PySem.W.Frag} {a b : Addr} {n m : Int}
theorem x_for : tFor wi g tb D σ H = wi σ H fun J H1 => ForW J g tb D σ H1 := rfl
theorem x_lc : tLc wi g tt te vs σ H Q = wi σ H fun J H1 => LcW J g tt te vs σ H1 Q := rfl
theorem x_rng1 : iRng1 ta σ H R = ta σ H fun vs H1 => ∃ j : Int, vs = [.int j] ∧ -(2 ^ 62) ≤ j ∧ j < 2 ^ 62 ∧ R (Itr 0 j.toNat) H1 := rfl
theorem x_rng2 : iRng2 ta σ H R = ta σ H fun vs H1 => ∃ i j : Int, vs = [.int i, .int j] ∧ (-(2 ^ 62) ≤ i ∧ i < 2 ^ 62 ∧ -(2 ^ 62) ≤ j ∧ j < 2 ^ 62) ∧ R (Itr i (j - i).toNat) H1 := rfl
theorem x_lst1 {tl : TE} : iList K tl σ H R = tl σ H fun x H1 => ∃ a, x = .ref a ∧ (∃ xs, SqL K H1 a xs) ∧ R (Itl K a) H1 := rfl
theorem x_one {P : Int → Prop} : (∃ j : Int, [V.int n] = [V.int j] ∧ P j) = P n := propext ⟨fun ⟨_, e, q⟩ => by cases e; exact q, fun q => ⟨n, rfl, q⟩⟩
theorem x_two {P : Int → Int → Prop} : (∃ i j : Int, [V.int n, V.int m] = [V.int i, V.int j] ∧ P i j) = P n m := propext ⟨fun ⟨_, _, e, q⟩ => by cases e; exact q, fun q => ⟨n, m, rfl, q⟩⟩
theorem x_adr {P : Addr → Prop} : (∃ b, V.ref a = V.ref b ∧ P b) = P a := propext ⟨fun ⟨_, e, q⟩ => by cases e; exact q, fun q => ⟨a, rfl, q⟩⟩
theorem x_sl {r : V → Option Int → Option Int → Hp → VK → Prop} {tl th : TO} : tSl r te tl th σ H Q = te σ H fun x H1 => tl σ H1 fun l H2 => th σ H2 fun u H3 => r x l u H3 Q := rfl
theorem x_np {QO : Option Int → Hp → Prop} : tNoPart σ H QO = QO none H := rfl
theorem x_pt {QO : Option Int → Hp → Prop} : tPart te σ H QO = te σ H fun x H1 => ∃ i, x = .int i ∧ QO (some i) H1 := rfl
theorem x_int {P : Int → Prop} : (∃ j : Int, V.int n = V.int j ∧ P j) = P n := propext ⟨fun ⟨_, e, q⟩ => by cases e; exact q, fun q => ⟨n, rfl, q⟩⟩
theorem x_bm {T : String} {r : V → List V → Hp → VK → Prop} : tBM K T r te ta σ H Q = te σ H fun x H1 => tyV K T x H1 ∧ ta σ H1 fun xs H2 => r x xs H2 Q := rfl
theorem x_bm0 {T : String} {r : V → List V → Hp → VK → Prop} : tBM0 K T r te σ H Q = te σ H fun x H1 => tyV K T x H1 ∧ r x [] H1 Q := rfl
theorem x_tupg {ts : TGs} {n : Nat} {v : V} {N : L2.St → Hp → Prop} : gTup K n ts v σ H N = ∃ a xs, v = .ref a ∧ SqT K H a xs ∧ xs.length = n ∧ ts xs σ H N := rfl
theorem x_consg {t : TG} {u : TGs} {v : V} {r : List V} {N : L2.St → Hp → Prop} : gCons t u (v :: r) σ H N = t v σ H fun σ' H' => u r σ' H' N := propext ⟨fun ⟨_, _, e, q⟩ => by cases e; exact q, fun q => ⟨v, r, rfl, q⟩⟩
theorem x_nilg {N : L2.St → Hp → Prop} : gNil [] σ H N = N σ H := propext ⟨fun z => z.2, fun z => ⟨rfl, z⟩⟩
theorem x_cut {t u : TS} : tCut t u D σ H = ∃ M : L2.St → Hp → Prop, t { D with nx := M } σ H ∧ ∀ σ' H', M σ' H' → u D σ' H' := rfl
theorem x_dget2 {td ty tx : TE} : tDGet2 td ty tx σ H Q = td σ H fun x H1 => ∃ a, x = .ref a ∧ IsD H1 a ∧ ty σ H1 fun y H2 => tx σ H2 fun z H3 => ∃ o, DGet H3 a y o ∧ Q (o.getD z) H3 := rfl
theorem x_dget1 {td ty : TE} : tDGet1 td ty σ H Q = td σ H fun x H1 => ∃ a, x = .ref a ∧ IsD H1 a ∧ ty σ H1 fun y H2 => ∃ o, DGet H2 a y o ∧ Q (o.getD .non) H2 := rfl
theorem x_dget {td ty : TE} : tDGet td ty σ H Q = td σ H fun x H1 => ty σ H1 fun y H2 => ∃ a v, x = .ref a ∧ DGet H2 a y (some v) ∧ Q v H2 := rfl
theorem x_din {td ty : TE} : tDIn ty td σ H Q = ty σ H fun y H1 => td σ H1 fun x H2 => ∃ a o, x = .ref a ∧ DGet H2 a y o ∧ Q (.bl o.isSome) H2 := rfl
theorem x_dni {td ty : TE} : tDNotIn ty td σ H Q = ty σ H fun y H1 => td σ H1 fun x H2 => ∃ a o, x = .ref a ∧ DGet H2 a y o ∧ Q (.bl (!o.isSome)) H2 := rfl
theorem x_dput {td ty tv : TE} : sDPut td ty tv D σ H = tv σ H fun v H1 => td σ H1 fun x H2 => ty σ H2 fun y H3 => ∃ a H4, x = .ref a ∧ DPut H3 a y v H4 ∧ D.nx σ H4 := rfl
theorem isD_k {kvs : List (Key × V)} (h : H a = some (.dK kvs)) : IsD H a := .inl ⟨kvs, .inl h⟩
theorem dget_i {kvs : List (Key × V)} {i : Int} (h : H a = some (.dK kvs)) : DGet H a (.int i) (valV kvs (.inl i : Key)) := DGet.k (k := .inl i) h
theorem dput_i {kvs : List (Key × V)} {i : Int} {v : V} (h : H a = some (.dK kvs)) (hl : kvs.length < sizeLine) : DPut H a (.int i) v (upd H a (.dK (putK kvs (.inl i : Key) v))) := DPut.k (k := .inl i) h hl
theorem forW_range {lo : Int} {n : Nat} (Pv : Nat → L2.St → Hp → Prop) (h0 : Pv 0 σ H) (hs : ∀ i σ H, i < n → Pv i σ H → g (.int (lo + i)) σ H fun σ2 H2 => tb { D with nx := Pv (i + 1), ct := Pv (i + 1), bk := D.nx } σ2 H2) (hd : ∀ σ H, Pv n σ H → D.nx σ H) : ForW (Itr lo n) g tb D σ H := for_range Pv h0 hs hd
theorem forW_list {xs : List V} (Pv : Nat → L2.St → Hp → Prop) (h0 : Pv 0 σ H) (hl : ∀ i σ H, i ≤ xs.length → Pv i σ H → SqL K H a xs) (hs : ∀ i x σ H, xs[i]? = some x → Pv i σ H → g x σ H fun σ2 H2 => tb { D with nx := Pv (i + 1), ct := Pv (i + 1), bk := D.nx } σ2 H2)
    (hd : ∀ σ H, Pv xs.length σ H → D.nx σ H) : ForW (Itl K a) g tb D σ H := for_list (xs := xs) Pv h0 hl hs hd
end
theorem x_yes {σ : L2.St} {H : Hp} {Q : Bool → Hp → Prop} : tYes σ H Q = Q true H := rfl
end G
namespace G
open PySem PySem.Spec PySem.Calls PyProof.Rows L2
/-! ### more shapes of loops, of targets -/
section
variable {σ : L2.St} {H : Hp} {Q : VK} {D : Ends} {g : TG} {tb : TS} {tl : TE} {ta : TA} {R : It → Hp → Prop} {K : PySem.W.Frag} {a : Addr}
theorem x_itup : iTup K tl σ H R = tl σ H fun x H1 => ∃ a, x = .ref a ∧ (∃ xs, SqT K H1 a xs) ∧ R (Itt K a) H1 := rfl
theorem x_rng3 : iRng3 ta σ H R = ta σ H fun vs H1 => ∃ (i j c : Int) (n : Nat), vs = [.int i, .int j, .int c] ∧ RgC i j c n ∧ R (Itc i c n) H1 := rfl
theorem x_three {x y z : Int} {P : Int → Int → Int → Nat → Prop} : (∃ (i j c : Int) (n : Nat), [V.int x, V.int y, V.int z] = [.int i, .int j, .int c] ∧ P i j c n) = ∃ n, P x y z n :=
  propext ⟨fun ⟨_, _, _, n, e, q⟩ => by cases e; exact ⟨n, q⟩, fun ⟨n, q⟩ => ⟨x, y, z, n, rfl, q⟩⟩
theorem x_lstg {ts : TGs} {n : Nat} {v : V} {N : L2.St → Hp → Prop} : gLst K n ts v σ H N = ∃ a xs, v = .ref a ∧ SqL K H a xs ∧ xs.length = n ∧ ts xs σ H N := rfl
theorem x_adrS {β : Type} {P : Addr → β → Prop} : (∃ b xs, V.ref a = V.ref b ∧ P b xs) = ∃ xs, P a xs := propext ⟨fun ⟨_, xs, e, q⟩ => by cases e; exact ⟨xs, q⟩, fun ⟨xs, q⟩ => ⟨a, xs, rfl, q⟩⟩
theorem forW_tup {xs : List V} (Pv : Nat → L2.St → Hp → Prop) (h0 : Pv 0 σ H) (hl : ∀ i σ H, i ≤ xs.length → Pv i σ H → SqT K H a xs) (hs : ∀ i x σ H, xs[i]? = some x → Pv i σ H → g x σ H fun σ2 H2 => tb { D with nx := Pv (i + 1), ct := Pv (i + 1), bk := D.nx } σ2 H2)
    (hd : ∀ σ H, Pv xs.length σ H → D.nx σ H) : ForW (Itt K a) g tb D σ H := for_tup (xs := xs) Pv h0 hl hs hd
theorem forW_step {lo c : Int} {n : Nat} (Pv : Nat → L2.St → Hp → Prop) (h0 : Pv 0 σ H) (hs : ∀ i σ H, i < n → Pv i σ H → g (.int (lo + (i : Nat) * c)) σ H fun σ2 H2 => tb { D with nx := Pv (i + 1), ct := Pv (i + 1), bk := D.nx } σ2 H2)
    (hd : ∀ σ H, Pv n σ H → D.nx σ H) : ForW (Itc lo c n) g tb D σ H := for_rangeC Pv h0 hs hd
end
end G
namespace G
open PySem PySem.Spec PySem.Calls PyProof.Rows L2 He
/-! ### is True, in, sorted, all -/
section
variable {X : Cx} {K : PySem.W.Frag}
def gIsB : R2 := fun x y H Q => ∃ b, y = .bl b ∧ Q (.bl (decide (x = .bl b))) H
def gNotB : R2 := fun x y H Q => ∃ b, y = .bl b ∧ Q (.bl (!decide (x = .bl b))) H
theorem relV_bl {x : V} {b : Bool} (r : RelV x (.bool b)) : x = .bl b := by
  cases x with
  | bl c => cases r; rfl
  | int i => obtain ⟨t, e⟩ := r; cases e
  | str i => obtain ⟨t, e⟩ := r; cases e
  | byt i => obtain ⟨t, e⟩ := r; cases e
  | flt i => obtain ⟨t, e⟩ := r; cases e
  | non => cases r
  | ref a => cases r
  | ty n => cases r
theorem relV_plain {x : V} {v : Value} {b : Bool} (r : RelV x v) : plainIs v (.bool b) = true := by
  cases x with
  | bl c => cases r; rfl
  | int i => obtain ⟨t, e⟩ := r; subst e; rfl
  | str i => obtain ⟨t, e⟩ := r; subst e; rfl
  | byt i => obtain ⟨t, e⟩ := r; subst e; rfl
  | flt i => obtain ⟨t, e⟩ := r; subst e; rfl
  | non => cases r; rfl
  | ref a => cases r; rfl
  | ty n => cases r; rfl
theorem op_gIsB : OpR X (compareOp .Is) gIsB := by
  intro pins s σ H x y v u Q I rx ry h
  obtain ⟨b, rfl, q⟩ := h
  cases (show u = Value.bool b from ry)
  by_cases e : v = .bool b
  · subst e
    have ex := relV_bl rx
    exact wpAny_is_self rfl ⟨.bl true, H, I, rfl, by rw [decide_eq_true ex] at q; exact q⟩
  · have ex : ¬ x = .bl b := fun z => e (by subst z; exact rx)
    exact wpAny_is_other (relV_plain rx) e ⟨.bl false, H, I, rfl, by rw [decide_eq_false ex] at q; exact q⟩
theorem op_gNotB : OpR X (compareOp .IsNot) gNotB := by
  intro pins s σ H x y v u Q I rx ry h
  obtain ⟨b, rfl, q⟩ := h
  cases (show u = Value.bool b from ry)
  by_cases e : v = .bool b
  · subst e
    have ex := relV_bl rx
    exact wpAny_isNot_self rfl ⟨.bl false, H, I, rfl, by rw [decide_eq_true ex] at q; exact q⟩
  · have ex : ¬ x = .bl b := fun z => e (by subst z; exact rx)
    exact wpAny_isNot_other (relV_plain rx) e ⟨.bl true, H, I, rfl, by rw [decide_eq_false ex] at q; exact q⟩
theorem op_inK (hK : X.K = K) : OpR X (compareOp .In) (rIn K false) := hK ▸ op_in_seq
theorem op_ninK (hK : X.K = K) : OpR X (compareOp .NotIn) (rIn K true) := hK ▸ op_notIn_seq
theorem call_sortedK (hK : X.K = K) : CallR X (.builtin "sorted") (rSortedI K) := hK ▸ cr_sortedI
theorem call_allK (hK : X.K = K) (hc : X.calm = true) : CallR X (.builtin "all") (rAll K) := hK ▸ cr_all hc
theorem call_anyK (hK : X.K = K) (hc : X.calm = true) : CallR X (.builtin "any") (rAny K) := hK ▸ cr_any hc
end
section
variable {σ : L2.St} {H : Hp} {Q : VK} {x : V} {b : Bool}
theorem r_isB : gIsB x (.bl b) H Q = Q (.bl (decide (x = .bl b))) H := propext ⟨fun ⟨_, e, q⟩ => by cases e; exact q, fun q => ⟨b, rfl, q⟩⟩
theorem r_notB : gNotB x (.bl b) H Q = Q (.bl (!decide (x = .bl b))) H := propext ⟨fun ⟨_, e, q⟩ => by cases e; exact q, fun q => ⟨b, rfl, q⟩⟩
theorem x_dpop2 {td ty tx : TE} : tDPop2 td ty tx σ H Q = td σ H fun x H1 => ∃ a, x = .ref a ∧ IsD H1 a ∧ ty σ H1 fun y H2 => tx σ H2 fun z H3 => ∃ kvs k, H3 a = some (.dK kvs) ∧ y = kV k ∧
  (∀ v, valV kvs k = some v → Q v (upd H3 a (.dK (dropK kvs k)))) ∧ (valV kvs k = none → Q z H3) := rfl
theorem r_isi {v : V} {T t : String} (e : tyOf v H = some t) (q : Q (.bl (isB t T)) H) (hT : T ∈ (["int", "bool", "str", "list", "tuple", "dict"] : List String) := by decide) : gIsi [v, .ty T] H Q := ⟨hT, t, e, q⟩
theorem r_isiL {a : Addr} {xs : List V} (h : H a = some (.lst xs)) (q : Q (.bl true) H) : gIsi [.ref a, .ty "list"] H Q := r_isi (t := "list") (by show tyO (H a) = _; rw [h]; rfl) q
theorem r_isiT {a : Addr} {xs : List V} (h : H a = some (.tup xs)) (q : Q (.bl true) H) : gIsi [.ref a, .ty "tuple"] H Q := r_isi (t := "tuple") (by show tyO (H a) = _; rw [h]; rfl) q
theorem r_isiII {n : Int} : gIsi [.int n, .ty "int"] H Q = Q (.bl true) H := propext ⟨fun ⟨_, t, e, q⟩ => by cases e; exact q, fun q => ⟨by decide, _, rfl, q⟩⟩
theorem r_isiBB : gIsi [.bl b, .ty "bool"] H Q = Q (.bl true) H := propext ⟨fun ⟨_, t, e, q⟩ => by cases e; exact q, fun q => ⟨by decide, _, rfl, q⟩⟩
theorem r_isiIB {n : Int} : gIsi [.int n, .ty "bool"] H Q = Q (.bl false) H := propext ⟨fun ⟨_, t, e, q⟩ => by cases e; exact q, fun q => ⟨by decide, _, rfl, q⟩⟩
theorem r_isiSS {z : Str} : gIsi [.str z, .ty "str"] H Q = Q (.bl true) H := propext ⟨fun ⟨_, t, e, q⟩ => by cases e; exact q, fun q => ⟨by decide, _, rfl, q⟩⟩
theorem r_neNS {K : PySem.W.Frag} {z : Str} : gNe K .non (.str z) H Q = Q (.bl true) H := rfl
theorem r_neSN {K : PySem.W.Frag} {z : Str} : gNe K (.str z) .non H Q = Q (.bl true) H := rfl
theorem r_neNN {K : PySem.W.Frag} : gNe K .non .non H Q = Q (.bl false) H := rfl
theorem r_eqNS {K : PySem.W.Frag} {z : Str} : gEq K .non (.str z) H Q = Q (.bl false) H := rfl
theorem r_eqSN {K : PySem.W.Frag} {z : Str} : gEq K (.str z) .non H Q = Q (.bl false) H := rfl
theorem r_eqNN {K : PySem.W.Frag} : gEq K .non .non H Q = Q (.bl true) H := rfl
theorem r_eqIS {K : PySem.W.Frag} {n : Int} {z : Str} : gEq K (.int n) (.str z) H Q = Q (.bl false) H := rfl
theorem r_neIS {K : PySem.W.Frag} {n : Int} {z : Str} : gNe K (.int n) (.str z) H Q = Q (.bl true) H := rfl
theorem r_neSI {K : PySem.W.Frag} {n : Int} {z : Str} : gNe K (.str z) (.int n) H Q = Q (.bl true) H := rfl
theorem r_neBS {K : PySem.W.Frag} {z : Str} : gNe K (.bl b) (.str z) H Q = Q (.bl true) H := rfl
theorem r_eqBB {K : PySem.W.Frag} {c : Bool} : gEq K (.bl b) (.bl c) H Q = Q (.bl (b == c)) H := rfl
theorem r_neBB {K : PySem.W.Frag} {c : Bool} : gNe K (.bl b) (.bl c) H Q = Q (.bl (!(b == c))) H := rfl
theorem r_ixL {K : PySem.W.Frag} {a : Addr} {xs : List V} {i : Nat} {v : V} (h : H a = some (.lst xs)) (e : xs[i]? = some v) (q : Q v H) : rIx K (.ref a) (.int (i : Int)) H Q := .inl ⟨_, _, _, _, rfl, rfl, .of h, by
  have hl := (List.getElem?_eq_some_iff.mp e).1
  unfold atI ixN
  rw [if_pos (by omega), if_pos (by omega), Int.toNat_natCast]
  exact e, q⟩
end
/-! ### isinstance(e, (C, D, ..)) of a caught error -/
def tIsQ (K : PySem.W.Frag) (x : V) (cs : List V) (H : Hp) (Q : VK) : Prop := cs.length ≤ sizeLine ∧ ∃ a D us b, x = .ref a ∧ H a = some (ExA (.ref D) a) ∧ ExcC K D ∧ Paired ClsV cs us ∧ PySem.W.kitAny K (.ref D) us = some b ∧ Q (.bl b) H
theorem x_isT {K : PySem.W.Frag} {σ : L2.St} {H : Hp} {Q : VK} {ta : TE} {tc : TA} : tIsT K ta tc σ H Q = ta σ H fun x H1 => tc σ H1 fun cs H2 => tIsQ K x cs H2 Q := rfl
inductive NamesK (K : PySem.W.Frag) : List V → List Str → Prop where
  | nil : NamesK K [] []
  | cons (c : Str) {cs : List V} {ns : List Str} (t : NamesK K cs ns) : NamesK K (.ref (ga K c) :: cs) (c :: ns)
theorem NamesK.len {K : PySem.W.Frag} {cs : List V} {ns : List Str} (h : NamesK K cs ns) : cs.length = ns.length := by
  induction h with
  | nil => rfl
  | cons c t ih => exact congrArg (· + 1) ih
theorem NamesK.pair {K : PySem.W.Frag} {cs : List V} {ns : List Str} (h : NamesK K cs ns) : Paired ClsV cs (ns.map fun c => Value.ref (ga K c)) := by
  induction h with
  | nil => exact .nil
  | cons c t ih => exact .cons (.own _) ih
theorem Told.anyOf {fa : List Fa} {fn : List DefD} {xl : XL} {K : PySem.W.Frag} {mg : Str → Option Value} (T : Told fa fn xl K mg) {d : Str} (hd : d ∈ xl.ex) : ∀ ns : List Str, (∀ c ∈ ns, c ∈ xl.ex) → PySem.W.kitAny K (.ref (ga K d)) (ns.map fun c => Value.ref (ga K c)) = some (ns.any (under d))
  | [], _ => rfl
  | c :: r, h => by
    show (match PySem.W.kitOne K (.ref (ga K d)) (.ref (ga K c)) with
      | some true => some true
      | some false => PySem.W.kitAny K (.ref (ga K d)) (r.map fun c => Value.ref (ga K c))
      | none => none) = some (under d c || r.any (under d))
    rw [((T.err hd).2.2 c (h c (List.mem_cons_self))).1]
    cases under d c with
    | true => rfl
    | false => exact T.anyOf hd r fun c hc => h c (List.mem_cons_of_mem _ hc)
theorem Told.isA {fa : List Fa} {fn : List DefD} {xl : XL} {K : PySem.W.Frag} {mg : Str → Option Value} (T : Told fa fn xl K mg) {d : Str} {a : Addr} {H : Hp} {Q : VK} {cs : List V} {ns : List Str} {b : Bool} (ha : H a = some (ExA (.ref (ga K d)) a)) (n : NamesK K cs ns)
    (hd : d ∈ xl.ex) (hc : (ns.all fun c => decide (c ∈ xl.ex)) = true) (hl : ns.length ≤ 1000) (e : ns.any (under d) = b) (q : Q (.bl b) H) : tIsQ K (.ref a) cs H Q :=
  ⟨by rw [n.len, sizeLine_eq]; omega, a, _, _, b, rfl, ha, (T.err hd).1, n.pair, (T.anyOf hd ns fun c h => of_decide_eq_true (List.all_eq_true.mp hc c h)).trans (congrArg some e), q⟩
end G
namespace G
open PySem PySem.Spec PySem.Calls PyProof.Rows L2 He
/-! ### == of data of some depth -/
def ShK (k : Nat) (d : PyData) : Prop := d.canLay0 = true ∧ d.depth ≤ k
theorem ShK.up {k n : Nat} {d : PyData} (h : ShK k d) (e : k ≤ n) : ShK n d := ⟨h.1, Nat.le_trans h.2 e⟩
theorem ShK.all {k : Nat} : ∀ {ds : List PyData}, (∀ z ∈ ds, ShK k z) → PyData.canLayAll0 ds = true ∧ PyData.depthAll ds ≤ k
  | [], _ => ⟨by simp [PyData.canLayAll0], by simp [PyData.depthAll]⟩
  | z :: zs, h => by
    have h1 := ShK.all (ds := zs) fun y hy => h y (List.mem_cons_of_mem _ hy)
    have h2 := h z (List.mem_cons_self)
    refine ⟨by simp [PyData.canLayAll0, h2.1, h1.1], ?_⟩
    have a := h2.2
    have b := h1.2
    simp only [PyData.depthAll]
    omega
theorem ShK.lst {k : Nat} {ds : List PyData} (h : ∀ z ∈ ds, ShK k z) : ShK (k + 1) (.list ds) := by
  have a := ShK.all h
  refine ⟨by simp [PyData.canLay0, a.1], ?_⟩
  have b := a.2
  simp only [PyData.depth]
  omega
theorem ShK.tup {k : Nat} {ds : List PyData} (h : ∀ z ∈ ds, ShK k z) : ShK (k + 1) (.tuple ds) := by
  have a := ShK.all h
  refine ⟨by simp [PyData.canLay0, a.1], ?_⟩
  have b := a.2
  simp only [PyData.depth]
  omega
theorem ShK.ok {k : Nat} {d : PyData} (h : ShK k d) (e : k ≤ 64) : SeqAt.shaped d = true := by
  show (d.canLay0 && decide (d.depth ≤ 64)) = true
  rw [h.1, decide_eq_true (Nat.le_trans h.2 e)]
  rfl
/-- flat things as data -/
def toD : V → PyData
  | .bl b => .bool b
  | .int i => .int i
  | _ => .none
def flatI : V → Bool
  | .non => true
  | .bl _ => true
  | .int _ => true
  | _ => false
theorem toD_sh {v : V} : ShK 0 (toD v) := by cases v <;> exact ⟨by simp [toD, PyData.canLay0], by simp [toD, PyData.depth]⟩
theorem toD_dp {K : PySem.W.Frag} {H : Hp} {v : V} (h : flatI v = true) : Dp K H v (toD v) := by
  cases v <;> first | (cases h; done) | skip
  · exact .non
  · exact .bl _
  · exact .int _
theorem toDs_dp {K : PySem.W.Frag} {H : Hp} : ∀ {xs : List V}, (∀ x ∈ xs, flatI x = true) → DpAll K H xs (xs.map toD)
  | [], _ => .nil
  | _ :: _, h => .cons (toD_dp (h _ (List.mem_cons_self))) (toDs_dp fun y hy => h y (List.mem_cons_of_mem _ hy))
theorem toDs_sh {xs : List V} : ∀ z ∈ xs.map toD, ShK 0 z := fun z h => by
  obtain ⟨v, -, e⟩ := List.mem_map.mp h
  subst e
  exact toD_sh
/-- lists of flat things; of tuples of flat things -/
theorem dp_flat {K : PySem.W.Frag} {H : Hp} {a : Addr} {xs : List V} (h : H a = some (.lst xs)) (f : ∀ x ∈ xs, flatI x = true) : Dp K H (.ref a) (.list (xs.map toD)) := .lst (.of h) (toDs_dp f)
theorem sh_flat {xs : List V} : SeqAt.shaped (.list (xs.map toD)) = true := (ShK.lst toDs_sh).ok (by decide)
inductive TupAll (H : Hp) : List V → List (List V) → Prop where
  | nil : TupAll H [] []
  | cons {tp : Addr} {xs : List V} {rs : List V} {yss : List (List V)} (h : H tp = some (.tup xs)) (f : ∀ x ∈ xs, flatI x = true) (t : TupAll H rs yss) : TupAll H (.ref tp :: rs) (xs :: yss)
def tupD (yss : List (List V)) : PyData := .list (yss.map fun xs => .tuple (xs.map toD))
theorem TupAll.dp {K : PySem.W.Frag} {H : Hp} : ∀ {rs : List V} {yss : List (List V)}, TupAll H rs yss → DpAll K H rs (yss.map fun xs => .tuple (xs.map toD))
  | _, _, .nil => .nil
  | _, _, .cons h f t => .cons (.tup (.inl (.inl h)) (toDs_dp f)) t.dp
theorem TupAll.same {H H' : Hp} {rs : List V} {yss : List (List V)} (h : TupAll H rs yss) (s : Same H H') : TupAll H' rs yss := by
  induction h with
  | nil => exact .nil
  | cons h f t ih => exact .cons (s _ _ h) f ih
theorem TupAll.snoc {H : Hp} {rs : List V} {yss : List (List V)} {tp : Addr} {xs : List V} (h : TupAll H rs yss) (e : H tp = some (.tup xs)) (f : ∀ x ∈ xs, flatI x = true) : TupAll H (rs ++ [.ref tp]) (yss ++ [xs]) := by
  induction h with
  | nil => exact .cons e f .nil
  | cons h f' t ih => exact .cons h f' ih
theorem TupAll.put {H : Hp} {rs : List V} {yss : List (List V)} {D : Addr} {o o' : HO} (h : TupAll H rs yss) (e : H D = some o) (n : ∀ xs, o ≠ .tup xs) : TupAll (upd H D o') rs yss := by
  induction h with
  | nil => exact .nil
  | cons h f t ih => exact .cons (by rw [upd_ne (ne_of h e fun z => n _ z.symm)]; exact h) f ih
theorem TupAll.len {H : Hp} {rs : List V} {yss : List (List V)} (h : TupAll H rs yss) : rs.length = yss.length := by
  induction h with
  | nil => rfl
  | cons h f t ih => exact congrArg (· + 1) ih
theorem TupAll.mem {H : Hp} {rs : List V} {yss : List (List V)} (h : TupAll H rs yss) : ∀ r ∈ rs, ∃ tp xs, r = .ref tp ∧ H tp = some (.tup xs) ∧ xs ∈ yss := by
  induction h with
  | nil => exact fun r h => (List.not_mem_nil h).elim
  | cons h f t ih =>
    intro r hr
    rcases List.mem_cons.mp hr with rfl | hr
    · exact ⟨_, _, rfl, h, List.mem_cons_self⟩
    · obtain ⟨tp, xs, e, h', m⟩ := ih r hr
      exact ⟨tp, xs, e, h', List.mem_cons_of_mem _ m⟩
theorem dp_tups {K : PySem.W.Frag} {H : Hp} {a : Addr} {rs : List V} {yss : List (List V)} (h : H a = some (.lst rs)) (t : TupAll H rs yss) : Dp K H (.ref a) (tupD yss) := .lst (.of h) t.dp
theorem sh_tups {yss : List (List V)} : SeqAt.shaped (tupD yss) = true := by
  refine (ShK.lst (k := 1) fun z h => ?_).ok (by decide)
  obtain ⟨xs, -, e⟩ := List.mem_map.mp h
  subst e
  exact ShK.tup toDs_sh
theorem shaped_refl {d : PyData} (s : SeqAt.shaped d = true) : PyData.eqv d d = true := PySem.SeqAt.eqv_refl d (SeqAt.canLay_of_shaped s)
theorem r_eqSame {K : PySem.W.Frag} {H : Hp} {Q : VK} {a b : Addr} {d : PyData} (h1 : Dp K H (.ref a) d) (h2 : Dp K H (.ref b) d) (s : SeqAt.shaped d = true) (q : Q (.bl true) H) : gEq K (.ref a) (.ref b) H Q := ⟨d, d, h1, h2, s, s, by rw [shaped_refl s]; exact q⟩
theorem r_neSame {K : PySem.W.Frag} {H : Hp} {Q : VK} {a b : Addr} {d : PyData} (h1 : Dp K H (.ref a) d) (h2 : Dp K H (.ref b) d) (s : SeqAt.shaped d = true) (q : Q (.bl false) H) : gNe K (.ref a) (.ref b) H Q := ⟨d, d, h1, h2, s, s, by rw [shaped_refl s]; exact q⟩
theorem getD_range {ts : List V} {d : V} : (List.range ts.length).map (fun i => ts.getD i d) = ts := by
  refine List.ext_getElem (by rw [List.length_map, List.length_range]) fun i h1 h2 => ?_
  rw [List.getElem_map, List.getElem_range, List.getD_eq_getElem?_getD, List.getElem?_eq_getElem h2]
  rfl
theorem getD_at {α : Type} {ts : List α} {d : α} {i : Nat} (h : i < ts.length) : ts[i]? = some (ts.getD i d) := by
  rw [List.getElem?_eq_getElem h, List.getD_eq_getElem?_getD, List.getElem?_eq_getElem h]
  rfl
theorem r_ixT {K : PySem.W.Frag} {H : Hp} {Q : VK} {a : Addr} {xs : List V} {i : Nat} {v : V} (h : H a = some (.tup xs)) (e : xs[i]? = some v) (q : Q v H) : rIx K (.ref a) (.int (i : Int)) H Q := .inr (.inl ⟨_, _, _, _, rfl, rfl, .inl (.inl h), by
  have hl := (List.getElem?_eq_some_iff.mp e).1
  unfold atI ixN
  rw [if_pos (by omega), if_pos (by omega), Int.toNat_natCast]
  exact e, q⟩)
theorem op_catTK {X : Cx} {K : PySem.W.Frag} (hK : X.K = K) : OpR X (binaryOp .Add) (rCatT K) := hK ▸ op_catT
theorem r_cat {K : PySem.W.Frag} {H : Hp} {Q : VK} {a b : Addr} {xs ys : List V} (h1 : H a = some (.tup xs)) (h2 : H b = some (.tup ys)) (nx : xs ≠ []) (ny : ys ≠ []) (hl : xs.length + ys.length ≤ sizeLine) (q : ∀ p, H p = none → Q (.ref p) (upd H p (.tup (xs ++ ys)))) : rCatT K (.ref a) (.ref b) H Q :=
  ⟨a, b, xs, ys, rfl, rfl, .inl (.inl h1), .inl (.inl h2), nx, hl, fun e => absurd e ny, fun _ => q⟩
/-- addresses that are in use -/
def Live (H : Hp) (L : List Addr) : Prop := L.Nodup ∧ ∀ c ∈ L, ∃ o, H c = some o
theorem Live.nil {H : Hp} : Live H [] := ⟨List.nodup_nil, fun c h => (List.not_mem_nil h).elim⟩
theorem Live.same {H H' : Hp} {L : List Addr} (h : Live H L) (s : Same H H') : Live H' L := ⟨h.1, fun c m => let ⟨o, e⟩ := h.2 c m; ⟨o, s _ _ e⟩⟩
theorem Live.cons {H H' : Hp} {L : List Addr} {x : Addr} {o : HO} (h : Live H L) (s : Same H H') (e : H x = none) (e' : H' x = some o) : Live H' (x :: L) := by
  refine ⟨List.nodup_cons.mpr ⟨fun m => ?_, h.1⟩, fun c m => ?_⟩
  · obtain ⟨o, g⟩ := h.2 x m
    rw [e] at g
    cases g
  · rcases List.mem_cons.mp m with rfl | m
    · exact ⟨_, e'⟩
    · obtain ⟨o, g⟩ := h.2 c m
      exact ⟨o, s _ _ g⟩
/-! ### enumerate -/
theorem x_enum {σ : L2.St} {H : Hp} {ta : TA} {R : It → Hp → Prop} {K : PySem.W.Frag} : iEnum K ta σ H R = ta σ H fun vs H1 => ∃ a xs, vs = [.ref a] ∧ SqL K H1 a xs ∧ R (Ite K a) H1 := rfl
end G
namespace G
open PySem PySem.Spec PySem.Calls PyProof.Rows L2 He
/-! ### while -/
def WhB (W : Nat → L2.St → Hp → Prop) (k : Nat) (tb : TS) (D : Ends) (σ : L2.St) (H : Hp) : Prop :=
  ∃ N : L2.St → Hp → Prop, (∀ σ' H', N σ' H' → ∃ m', m' < k ∧ W m' σ' H') ∧ tb { D with nx := N, ct := N, bk := D.nx } σ H
theorem whW {c : TT} {tb : TS} {D : Ends} {σ : L2.St} {H : Hp} (W : Nat → L2.St → Hp → Prop) (h0 : ∃ k, W k σ H) (hs : ∀ k σ H, W k σ H → c σ H fun b H1 => if b = true then WhB W k tb D σ H1 else D.nx σ H1) : tWhile c tb D σ H :=
  ⟨W, h0, hs⟩
theorem whB {W : Nat → L2.St → Hp → Prop} {k : Nat} {tb : TS} {D : Ends} {σ : L2.St} {H : Hp} (h : tb { D with nx := fun σ' H' => ∃ m', m' < k ∧ W m' σ' H', ct := fun σ' H' => ∃ m', m' < k ∧ W m' σ' H', bk := D.nx } σ H) : WhB W k tb D σ H :=
  ⟨_, fun _ _ q => q, h⟩
end G
namespace G
open PySem PySem.Spec PySem.Calls PyProof.Rows L2 He
theorem call_sumK {X : Cx} {K : PySem.W.Frag} (hK : X.K = K) (hc : X.calm = true) : CallR X (.builtin "sum") (rSum K) := hK ▸ cr_sum hc
theorem r_sumL {K : PySem.W.Frag} {H : Hp} {Q : VK} {a : Addr} {ns : List Int} (h : H a = some (.lst (ns.map V.int))) (q : Q (.int ns.sum) H) : rSum K [.ref a] H Q := ⟨a, ns, rfl, .of h, q⟩
/-- all of a list of truths is true -/
theorem r_allT {K : PySem.W.Frag} {H : Hp} {Q : VK} {a : Addr} {n : Nat} (h : H a = some (.lst (List.replicate n (.bl true)))) (q : Q (.bl true) H) : rAll K [.ref a] H Q := by
  refine ⟨a, List.replicate n true, rfl, .of (by rw [List.map_replicate]; exact h), ?_⟩
  rw [show (List.replicate n true).all id = true from List.all_eq_true.mpr fun b hb => (List.mem_replicate.mp hb).2]
  exact q
/-- [True for .. in xs] -/
theorem lc_trueL {σ : L2.St} {vs : List Nat} {H1 : Hp} {D : Addr} {Qd : Hp → Prop} {te : TE} {k : Nat} {K : PySem.W.Frag} {a : Addr} {xs : List V} (hw : ∀ v, wipe ((wipe σ vs).set k (some v)) vs = wipe σ vs) (hl : ∀ acc, SqL K (upd H1 D (.lst acc)) a xs) (hn : xs.length ≤ sizeLine)
    (he : ∀ (i : Nat) (x : V), xs[i]? = some x → ∀ acc (Q : VK), Q (.bl true) (upd H1 D (.lst acc)) → te ((wipe σ vs).set k (some x)) (upd H1 D (.lst acc)) Q) (hd : Qd (upd H1 D (.lst (List.replicate xs.length (.bl true))))) :
    ∃ W : Nat → Nat → Hp → Prop, (∃ m, W 0 m (upd H1 D (.lst []))) ∧ ∀ i m H, W i m H →
      ((Itl K a).stop i H ∧ Qd H) ∨ ((Itl K a).go i H ∧ ∃ Nx : Hp → Prop, (∀ H', Nx H' → ∃ m', m' < m ∧ W (i + 1) m' H') ∧ ∀ x H', (Itl K a).yld i H x H' → gName k x (wipe σ vs) H' fun σ2 H2 => wipe σ2 vs = wipe σ vs ∧ tYes σ2 H2 fun b H3 =>
        if b = true then te σ2 H3 fun y H4 => ∃ acc, H4 D = some (.lst acc) ∧ acc.length < sizeLine ∧ Nx (upd H4 D (.lst (acc ++ [y]))) else Nx H3) :=
  lc_mapL (ys := List.replicate xs.length (.bl true)) hw hl hn (List.length_replicate) (fun i x y hx hy acc Q q => by
    have e := (List.mem_replicate.mp (List.mem_of_getElem? hy)).2
    subst e
    exact he i x hx acc Q q) hd
/-- whole numbers in a list -/
theorem ints_mem {ns : List Int} {i : Nat} {x : V} (h : (ns.map V.int)[i]? = some x) : ∃ n, x = .int n ∧ n ∈ ns := by
  obtain ⟨n, m, e⟩ := List.mem_map.mp (List.mem_of_getElem? h)
  exact ⟨n, e.symm, m⟩
theorem ints_flat {ns : List Int} : ∀ x ∈ ns.map V.int, flatI x = true := fun x h => by
  obtain ⟨i, -, e⟩ := List.mem_map.mp h
  subst e
  rfl
theorem dp_ints {K : PySem.W.Frag} {H : Hp} {a : Addr} {ns : List Int} (h : H a = some (.lst (ns.map V.int))) : Dp K H (.ref a) (.list ((ns.map V.int).map toD)) := dp_flat h ints_flat
/-- two lists of the same whole numbers -/
theorem r_eqInts {K : PySem.W.Frag} {H : Hp} {Q : VK} {a b : Addr} {ns : List Int} (h1 : H a = some (.lst (ns.map V.int))) (h2 : H b = some (.lst (ns.map V.int))) (q : Q (.bl true) H) : gEq K (.ref a) (.ref b) H Q := r_eqSame (dp_ints h1) (dp_ints h2) sh_flat q
theorem r_neInts {K : PySem.W.Frag} {H : Hp} {Q : VK} {a b : Addr} {ns : List Int} (h1 : H a = some (.lst (ns.map V.int))) (h2 : H b = some (.lst (ns.map V.int))) (q : Q (.bl false) H) : gNe K (.ref a) (.ref b) H Q := r_neSame (dp_ints h1) (dp_ints h2) sh_flat q
/-- [text, thing]: what law's tries tell -/
inductive PlD : V → PyData → Prop where
  | non : PlD .non .none
  | bl (b : Bool) : PlD (.bl b) (.bool b)
  | int (i : Int) : PlD (.int i) (.int i)
  | str (z : Str) (h : PyData.strOk z = true) : PlD (.str z) (.str z)
theorem PlD.dp {K : PySem.W.Frag} {H : Hp} {v : V} {d : PyData} (h : PlD v d) : Dp K H v d := by
  cases h with
  | non => exact .non
  | bl b => exact .bl b
  | int i => exact .int i
  | str z h => exact .str z
theorem PlD.sh {v : V} {d : PyData} (h : PlD v d) : ShK 0 d := by
  cases h with
  | str z h => exact ⟨by simp only [PyData.canLay0]; exact h, by simp [PyData.depth]⟩
  | _ => exact ⟨by simp [PyData.canLay0], by simp [PyData.depth]⟩
inductive PlAll : List V → List PyData → Prop where
  | nil : PlAll [] []
  | cons {v : V} {d : PyData} {vs : List V} {ds : List PyData} (h : PlD v d) (t : PlAll vs ds) : PlAll (v :: vs) (d :: ds)
theorem PlAll.dp {K : PySem.W.Frag} {H : Hp} {vs : List V} {ds : List PyData} (h : PlAll vs ds) : DpAll K H vs ds := by
  induction h with
  | nil => exact .nil
  | cons h t ih => exact .cons h.dp ih
theorem PlAll.sh {vs : List V} {ds : List PyData} (h : PlAll vs ds) : ∀ z ∈ ds, ShK 0 z := by
  induction h with
  | nil => exact fun z h => (List.not_mem_nil h).elim
  | cons h t ih =>
    intro z m
    rcases List.mem_cons.mp m with rfl | m
    · exact h.sh
    · exact ih z m
/-- == of lists of plain things -/
theorem r_eqPl {K : PySem.W.Frag} {H : Hp} {Q : VK} {a b : Addr} {xs ys : List V} {ds es : List PyData} (h1 : H a = some (.lst xs)) (h2 : H b = some (.lst ys)) (p1 : PlAll xs ds) (p2 : PlAll ys es) (q : Q (.bl (PyData.eqv (.list ds) (.list es))) H) : gEq K (.ref a) (.ref b) H Q :=
  ⟨_, _, .lst (.of h1) p1.dp, .lst (.of h2) p2.dp, (ShK.lst p1.sh).ok (by decide), (ShK.lst p2.sh).ok (by decide), q⟩
theorem r_nePl {K : PySem.W.Frag} {H : Hp} {Q : VK} {a b : Addr} {xs ys : List V} {ds es : List PyData} (h1 : H a = some (.lst xs)) (h2 : H b = some (.lst ys)) (p1 : PlAll xs ds) (p2 : PlAll ys es) (q : Q (.bl (!PyData.eqv (.list ds) (.list es))) H) : gNe K (.ref a) (.ref b) H Q :=
  ⟨_, _, .lst (.of h1) p1.dp, .lst (.of h2) p2.dp, (ShK.lst p1.sh).ok (by decide), (ShK.lst p2.sh).ok (by decide), q⟩
theorem r_eqPlT {K : PySem.W.Frag} {H : Hp} {Q : VK} {a b : Addr} {xs : List V} {ds : List PyData} (h1 : H a = some (.lst xs)) (h2 : H b = some (.lst xs)) (p : PlAll xs ds) (q : Q (.bl true) H) : gEq K (.ref a) (.ref b) H Q :=
  r_eqSame (.lst (.of h1) p.dp) (.lst (.of h2) p.dp) ((ShK.lst p.sh).ok (by decide)) q
theorem r_nePlT {K : PySem.W.Frag} {H : Hp} {Q : VK} {a b : Addr} {xs : List V} {ds : List PyData} (h1 : H a = some (.lst xs)) (h2 : H b = some (.lst xs)) (p : PlAll xs ds) (q : Q (.bl false) H) : gNe K (.ref a) (.ref b) H Q :=
  r_neSame (.lst (.of h1) p.dp) (.lst (.of h2) p.dp) ((ShK.lst p.sh).ok (by decide)) q
end G
namespace G
open PySem PySem.Spec PySem.Calls PyProof.Rows L2 He
/-! ### isinstance of an own class's instance; in a written tuple -/
theorem call_isiK {X : Cx} {K : PySem.W.Frag} (hK : X.K = K) : CallR X (.builtin "isinstance") (rIsi K) := hK ▸ call_isi
theorem r_isiIns {K : PySem.W.Frag} {H : Hp} {Q : VK} {a C dx : Addr} {fs : List (Str × V)} (h : H a = some (.ins C dx fs)) (c : Cls K C) (n : ClN K C) (q : Q (.bl false) H) : rIsi K [.ref a, .ty "str"] H Q :=
  ⟨_, _, _, _, _, rfl, .ty _, .base (TyOf.ins h c n.ha n.hn n.htk n.hm), n.no, q⟩
theorem r_isiOwn {K : PySem.W.Frag} {H : Hp} {Q : VK} {a C dx : Addr} {fs : List (Str × V)} (h : H a = some (.ins C dx fs)) (c : Cls K C) (n : ClN K C) (q : Q (.bl true) H) : rIsi K [.ref a, .ref C] H Q :=
  ⟨_, _, _, _, _, rfl, .own _, .base (TyOf.ins h c n.ha n.hn n.htk n.hm), (by show (if (Value.ref C == Value.ref C) = true then some true else _) = _; rw [if_pos (beq_self_eq_true _)]), q⟩
theorem r_isiPl {K : PySem.W.Frag} {H : Hp} {Q : VK} {x : V} {t n : String} (h : tyOf x H = some t) (hn : n ∈ (["int", "bool", "str", "list", "tuple", "dict"] : List String)) (q : Q (.bl (isB t n)) H) : rIsi K [x, .ty n] H Q :=
  ⟨_, _, _, _, _, rfl, .ty _, tyOf_ok h, kit_ty (isB_all t (tyOf_in h) _ hn), q⟩
/-- x in a written tuple: flat things; data -/
def rInG (K : PySem.W.Frag) (neg : Bool) : R2 := fun x y H Q => rIn K neg x y H Q ∨ ∃ d ds, Dp K H x d ∧ Dp K H y (.tuple ds) ∧ SeqAt.shaped d = true ∧ SeqAt.shaped (.tuple ds) = true ∧ Q (.bl (if neg then !ds.any fun z => PyData.eqv z d else ds.any fun z => PyData.eqv z d)) H
theorem op_inTG {X : Cx} {K : PySem.W.Frag} (hK : X.K = K) (hu : X.A.units + 65 < cLine) : OpR X (compareOp .In) (rInG K false) := by
  subst hK
  intro pins s σ H x y v u Q I rx ry h
  rcases h with h | ⟨d, ds, hd, he, sd, se, q⟩
  · exact op_in_seq pins s σ H x y v u Q I rx ry h
  obtain ⟨as, r1⟩ := Dp.reads I d x v hd rx
  obtain ⟨bs, r2⟩ := Dp.reads I (.tuple ds) y u he ry
  exact SeqAt.in_tuple_reads r2 r1 (SeqAt.canLay_of_shaped se) (SeqAt.canLay_of_shaped sd) (room_in_shaped sd hu) ⟨.bl _, H, I, rfl, q⟩
theorem op_ninTG {X : Cx} {K : PySem.W.Frag} (hK : X.K = K) (hu : X.A.units + 65 < cLine) : OpR X (compareOp .NotIn) (rInG K true) := by
  subst hK
  intro pins s σ H x y v u Q I rx ry h
  rcases h with h | ⟨d, ds, hd, he, sd, se, q⟩
  · exact op_notIn_seq pins s σ H x y v u Q I rx ry h
  obtain ⟨as, r1⟩ := Dp.reads I d x v hd rx
  obtain ⟨bs, r2⟩ := Dp.reads I (.tuple ds) y u he ry
  exact SeqAt.notIn_tuple_reads r2 r1 (SeqAt.canLay_of_shaped se) (SeqAt.canLay_of_shaped sd) (room_in_shaped sd hu) ⟨.bl _, H, I, rfl, q⟩
end G
namespace G
open PySem PySem.Spec PySem.Calls PyProof.Rows L2 He
theorem hu65 {k : Nat} {A : Around} (r : Room k A) : A.units + 65 < cLine := by have := r.un; omega
theorem hu65N {k : Nat} {A : Around} (r : RoomN k A) : A.units + 65 < cLine := by have := r.un; omega
end G
namespace G
open PySem PySem.Spec PySem.Calls PyProof.Rows L2 He
/-! ### two named except clauses -/
section
variable {X : Cx} {x x2 n : Str} {c c2 : Value} {i : Nat} {body suite suite2 : List Stmt} {b0 b2 : Stmt} {np np2 pos pos' pos2' : Pos} {tb : WX → TS} {ts ts2 : TS} {Wo : WX}
theorem ps_tryT2 (hs : X.stack = X.env :: X.outer) (hf : X.env.frame = some X.env.locals) (hex : X.ex = []) (hN : X.N.Nodup) (hi : X.N[i]? = some n) (hln : X.env.kindOf n = some .local) (hc : Names X x c) (hc2 : Names X x2 c2) (tk : Takes X Wo)
    (hb : ∀ (W : WX) (pn : List (Addr × Obj)) (xe : Value → Shared → Prop), Takes (X.tr pn xe) W → PassesOwn (model X.prog X.w) X.A X.env xe → PSs (X.tr pn xe) body (tb W))
    (hsu : ∀ (a : Addr) (pn : List (Addr × Obj)), PSs (X.suite a pn) (b0 :: suite) ts) (hsu2 : ∀ (a : Addr) (pn : List (Addr × Obj)), PSs (X.suite a pn) (b2 :: suite2) ts2) :
    PS X (.Try body [.ExceptHandler (some (.Name x np)) (some n) (b0 :: suite) pos', .ExceptHandler (some (.Name x2 np2)) (some n) (b2 :: suite2) pos2'] [] [] pos) (fun D σ H => tb (wTr X.K c i ts (wTr X.K c2 i ts2 Wo D) D) D σ H) := by
  refine ⟨fun pins s σ H D I h => ?_⟩
  have ok := I.ok
  have hfr : X.A.frames = some (X.env :: X.outer) := by rw [ok.frames, hs]
  have lo : Loc X.env.scope n := .inl hln
  let rest : List ExceptHandler := [.ExceptHandler (some (.Name x np)) (some n) (b0 :: suite) pos', .ExceptHandler (some (.Name x2 np2)) (some n) (b2 :: suite2) pos2']
  let M := model X.prog X.w
  let wish : Value → Shared → Prop := fun e u1 => wpAny M X.A (noteFrame e X.env) (fun _ u2 => wpAny M X.A (setFlight e none) (fun _ u3 => wpAny M X.A (handleBy e X.env rest) (SP X pins D) X.xe u3) X.xe u2) X.xe u1
  refine wpAny_Try_except (wpAny_mono ((hb (wTr X.K c i ts (wTr X.K c2 i ts2 Wo D) D) (X.pn ++ pins) wish (fun u s' air => ?_) PassesOwn.looking).run [] s σ H D (I.toTry _) h) (fun fl s1 hsp => ?_) (fun e s1 he => he))
  · obtain ⟨a, B, sg, pi', σ1, H1, cls, d, rfl, Jt, nb, up, sky, na, os, ag, b, e1, yes, no⟩ := air
    have J : Inv X pins σ1 H1 sg := Jt.ofTry ok
    have sky' : Sky B (X.env :: X.outer) a (Zc cls d) X.env.locals s'.heap := by rw [← hs]; exact sky
    show wpAny M X.A (noteFrame (.ref a) X.env) _ _ _
    refine Sky.land Zc.steady hfr hf sky' fun h3 fl3 up3 => ?_
    have u3 := up.trans up3
    have J3 : Inv X pins σ1 H1 { s' with heap := h3 } := J.landed nb fl3.1 u3 os ag
    obtain ⟨o3, f3, g3, z3, d3⟩ := fl3.there
    have nfr : a ∉ frs (X.env :: X.outer) := fun hm => by
      obtain ⟨-, o', g', nf⟩ := fl3.2.2.1.mem hm
      rw [g3] at g'
      cases g'
      exact nf _ d3
    have nL : a ≠ X.env.locals := fun z => nfr (List.mem_filterMap.mpr ⟨X.env, List.mem_cons_self, by rw [hf, z]⟩)
    have nst : a ∉ frs X.stack := by rw [hs]; exact nfr
    have nB : B.get? a = none := fl3.2.1
    have ng : sg.heap.get? a = none := by
      cases e : sg.heap.get? a with
      | none => rfl
      | some o =>
        rw [nb a o e nst] at nB
        cases nB
    have n0 : X.s_0.heap.get? a = none := by
      cases e : X.s_0.heap.get? a with
      | none => rfl
      | some o =>
        obtain ⟨o', q⟩ := J.base.there a o e (by rw [hex]; exact List.not_mem_nil)
        rw [ng] at q
        cases q
    have nC : ∀ y z, X.env.cells.lookup y = some z → z ≠ a := fun y z e q => by
      obtain ⟨v, ob, e2, -⟩ := J.cell y z e
      rw [q, ng] at e2
      cases e2
    have nP : ∀ p ∈ X.pn ++ pins, p.1 ≠ a := fun p hp q => by
      have e2 := (J.pin p hp).1
      rw [q, ng] at e2
      cases e2
    have S3 := toSuite J3 a
    refine wpAny_handleBy_cons (codeAny_handlers_test ?_) (by intro q; cases q)
    have LT : PySem.W.Looks M h3 (typeOf (.ref a)) cls := fun _ _ _ _ k q => wpAny_typeOf_ref (k _ _ g3) (by rw [z3.1]; exact q)
    have LM := PySem.W.exm_one (M := M) J3.kIn LT e1
    have test : ∀ {Q : Value → Shared → Prop} {E : Value → Shared → Prop}, Q c { s' with heap := h3 } → wpAny M (X.A.mark (some (.ref a))) (eval (.Name x np) X.env) Q E { s' with heap := h3 } := fun {Q E} q => by
      obtain ⟨hg, hdb, hm | ⟨hm, hv, hnn⟩⟩ := hc
      · exact ld_glob (X := X.suite a (X.pn ++ pins)) S3 hg hm q hdb
      · exact ld_blt (X := X.suite a (X.pn ++ pins)) S3 hg hm hv q hnn hdb
    refine test (LM.here ?_)
    cases b with
    | true =>
      refine codeAny_handlers_suite_as (HandSPX.lands_againZ fl3 fun h4 fl4 up4 => ?_)
      have J4 : Inv X pins σ1 H1 { s' with heap := h4 } := J.landed nb fl4.1 (u3.trans up4) os ag
      obtain ⟨o4, f4, g4, z4, d4⟩ := fl4.there
      obtain ⟨ed, go⟩ := yes rfl
      subst ed
      have J5 := track (u := ExA cls a) J4 na n0 nL nC nP (exA_ok g4 z4 d4)
      refine store_ok (X := X.suite a (X.pn ++ pins)) (v := .ref a) (toSuite J5 a) hN hi lo rfl (fun s5 S5 => ?_) (.inr hln)
      refine wpAny_mono ((hsu a (X.pn ++ pins)).run [] s5 _ _ _ S5 (go a na)) (fun fl s6 hsp => ?_) (fun _ _ z => False.elim z)
      have out : ∀ {σ6 : L2.St} {H6 : Hp} {Q : Shared → Prop}, Inv (X.suite a (X.pn ++ pins)) [] σ6 H6 s6 → (∀ s7, Inv X pins (σ6.set i none) H6 s7 → Q s7) →
          wpAny M X.A (do bindName X.env n .none; unbindBehindTheSuite X.env n pos') (fun _ s7 => Q s7) X.xe s6 := fun S6 hq => gone_ok (ofSuite ok S6) hN hi hln hq
      cases fl with
      | next => exact hsp.elim fun _ z => z.elim fun _ q => out q.1 fun s7 J7 => ⟨_, _, J7, q.2⟩
      | brk => exact hsp.elim fun _ z => z.elim fun _ q => out q.1 fun s7 J7 => ⟨_, _, J7, q.2⟩
      | cont => exact hsp.elim fun _ z => z.elim fun _ q => out q.1 fun s7 J7 => ⟨_, _, J7, q.2⟩
      | ret u =>
        obtain ⟨v6, σ6, H6, S6, r6, q6⟩ := hsp
        exact out S6 fun s7 J7 => ⟨_, _, _, J7, r6, q6⟩
    | false =>
      obtain ⟨b', e1', yes', no'⟩ := no rfl
      refine wpAny_handleBy_cons (codeAny_handlers_test ?_) (by intro q; cases q)
      have LM2 := PySem.W.exm_one (M := M) J3.kIn LT e1'
      have test2 : ∀ {Q : Value → Shared → Prop} {E : Value → Shared → Prop}, Q c2 { s' with heap := h3 } → wpAny M (X.A.mark (some (.ref a))) (eval (.Name x2 np2) X.env) Q E { s' with heap := h3 } := fun {Q E} q => by
        obtain ⟨hg, hdb, hm | ⟨hm, hv, hnn⟩⟩ := hc2
        · exact ld_glob (X := X.suite a (X.pn ++ pins)) S3 hg hm q hdb
        · exact ld_blt (X := X.suite a (X.pn ++ pins)) S3 hg hm hv q hnn hdb
      refine test2 (LM2.here ?_)
      cases b' with
      | true =>
        refine codeAny_handlers_suite_as (HandSPX.lands_againZ fl3 fun h4 fl4 up4 => ?_)
        have J4 : Inv X pins σ1 H1 { s' with heap := h4 } := J.landed nb fl4.1 (u3.trans up4) os ag
        obtain ⟨o4, f4, g4, z4, d4⟩ := fl4.there
        obtain ⟨ed, go⟩ := yes' rfl
        subst ed
        have J5 := track (u := ExA cls a) J4 na n0 nL nC nP (exA_ok g4 z4 d4)
        refine store_ok (X := X.suite a (X.pn ++ pins)) (v := .ref a) (toSuite J5 a) hN hi lo rfl (fun s5 S5 => ?_) (.inr hln)
        refine wpAny_mono ((hsu2 a (X.pn ++ pins)).run [] s5 _ _ _ S5 (go a na)) (fun fl s6 hsp => ?_) (fun _ _ z => False.elim z)
        have out : ∀ {σ6 : L2.St} {H6 : Hp} {Q : Shared → Prop}, Inv (X.suite a (X.pn ++ pins)) [] σ6 H6 s6 → (∀ s7, Inv X pins (σ6.set i none) H6 s7 → Q s7) →
            wpAny M X.A (do bindName X.env n .none; unbindBehindTheSuite X.env n pos2') (fun _ s7 => Q s7) X.xe s6 := fun S6 hq => gone_ok (ofSuite ok S6) hN hi hln hq
        cases fl with
        | next => exact hsp.elim fun _ z => z.elim fun _ q => out q.1 fun s7 J7 => ⟨_, _, J7, q.2⟩
        | brk => exact hsp.elim fun _ z => z.elim fun _ q => out q.1 fun s7 J7 => ⟨_, _, J7, q.2⟩
        | cont => exact hsp.elim fun _ z => z.elim fun _ q => out q.1 fun s7 J7 => ⟨_, _, J7, q.2⟩
        | ret u =>
          obtain ⟨v6, σ6, H6, S6, r6, q6⟩ := hsp
          exact out S6 fun s7 J7 => ⟨_, _, _, J7, r6, q6⟩
      | false =>
        show wpAny M X.A (handleBy (.ref a) X.env []) _ _ _
        refine wpAny_handleBy_nil ?_
        obtain ⟨-, -, -, oe, vs, T, oT, ts', he, hz, hd, h1, hr⟩ := id fl3
        unfold PySem.passOn
        refine wpAny_bind (wpAny_field he hd h1 ?_)
        rw [if_neg (show ¬ ((Value.ref T == Value.none) = true) from by simp)]
        have fin : wpAny M X.A (setFlight (.ref a) X.env.frame) (fun _ u4 => wpAny M X.A (throw (.ref a) : Sem Flow) (SP X pins D) X.xe u4) X.xe { s' with heap := h3 } := by
          rw [hf]
          refine HandSPX.setFlight_upZ fl3 fun h4 hh4 up4 => wpAny_throw (tk _ _ ?_)
          exact ⟨a, B, sg, pins, σ1, H1, cls, d, rfl, J, nb, u3.trans up4, .inr (.inr (by rw [hs]; exact hh4)), na, os, ag, no' rfl⟩
        first
          | exact wpAny_bind (wpAny_pure (wpAny_bind fin))
          | exact wpAny_bind fin
  · cases fl with
    | next => exact hsp.elim fun σ1 z => z.elim fun H1 q => wpAny_execs_nil ⟨σ1, H1, q.1.ofTry ok, q.2⟩
    | brk => exact hsp.elim fun σ1 z => z.elim fun H1 q => ⟨σ1, H1, q.1.ofTry ok, q.2⟩
    | cont => exact hsp.elim fun σ1 z => z.elim fun H1 q => ⟨σ1, H1, q.1.ofTry ok, q.2⟩
    | ret u =>
      obtain ⟨v, σ1, H1, J, r, q⟩ := hsp
      exact ⟨v, σ1, H1, J.ofTry ok, r, q⟩
end

section
variable {fa : List Fa} {fn : List DefD} {xl : XL} {K : PySem.W.Frag} {mg : Str → Option Value}
theorem Told.missed (T : Told fa fn xl K mg) {d c : Str} {i : Nat} {ts : TS} {Wo : WX} {D : Ends} {σ : L2.St} {H : Hp} (hd : d ∈ xl.ex) (hc : c ∈ xl.ex) (hu : under d c = false) (h : Wo (.ref (ga K d)) none σ H) :
    wTr K (.ref (ga K c)) i ts Wo D (.ref (ga K d)) none σ H :=
  ⟨false, by rw [((T.err hd).2.2 c hc).2, hu], (fun z => by cases z), (fun _ => h)⟩
theorem Told.caughtU (T : Told fa fn xl K mg) {d c : Str} {ts : Addr → Value → Option Addr → TS} {r : List (Value × (Addr → Value → Option Addr → TS))} {Wo : WX} {D : Ends} {σ : L2.St} {H : Hp} (hd : d ∈ xl.ex) (hc : c ∈ xl.ex) (hu : under d c = true)
    (h : ∀ a, H a = none → ts a (.ref (ga K d)) none D σ H) : wMany K Wo D ((.ref (ga K c), ts) :: r) (.ref (ga K d)) none σ H :=
  ⟨true, by rw [((T.err hd).2.2 c hc).2, hu], (fun _ => h), (fun z => by cases z)⟩
theorem Told.missedU (T : Told fa fn xl K mg) {d c : Str} {ts : Addr → Value → Option Addr → TS} {r : List (Value × (Addr → Value → Option Addr → TS))} {Wo : WX} {D : Ends} {σ : L2.St} {H : Hp} (hd : d ∈ xl.ex) (hc : c ∈ xl.ex) (hu : under d c = false)
    (h : wMany K Wo D r (.ref (ga K d)) none σ H) : wMany K Wo D ((.ref (ga K c), ts) :: r) (.ref (ga K d)) none σ H :=
  ⟨false, by rw [((T.err hd).2.2 c hc).2, hu], (fun z => by cases z), (fun _ => h)⟩
end
end G
namespace G
open PySem PySem.Spec PySem.Calls PyProof.Rows L2 He
/-! ### for k in d -/
def LockW (t : TS) (D : Ends) (σ : L2.St) (H : Hp) : Prop := tLock t D σ H
section
variable {t : TS} {D : Ends} {σ : L2.St} {H : Hp} {d : Addr} {kvs : List (Key × V)} {td : TE} {R : It → Hp → Prop} {o : Obj} {g : TG} {tb : TS}
theorem x_lock : tLock t D σ H = LockW t D σ H := rfl
theorem lockD (hd : H d = some (.dK kvs)) (h : ∀ od, t ⟨fun σ' H' => H' d = some (.frz od (.dK kvs)) ∧ D.nx σ' (upd H' d (.dK kvs)), fun v H' => H' d = some (.frz od (.dK kvs)) ∧ D.rt v (upd H' d (.dK kvs)), fun σ' H' => H' d = some (.frz od (.dK kvs)) ∧ D.bk σ' (upd H' d (.dK kvs)), fun σ' H' => H' d = some (.frz od (.dK kvs)) ∧ D.ct σ' (upd H' d (.dK kvs))⟩ σ (upd H d (.frz od (.dK kvs)))) : LockW t D σ H := ⟨d, _, hd, trivial, h⟩
theorem x_keys : iKeys td σ H R = td σ H fun x H1 => ∃ d o, x = .ref d ∧ ((∃ kvs, H1 d = some (.frz o (.dK kvs)) ∧ R (Itk d o kvs) H1) ∨ ∃ kvs, H1 d = some (.frz o (.dT kvs)) ∧ R (Itkt d o kvs) H1) := rfl
theorem forW_keys (Pv : Nat → L2.St → Hp → Prop) (h0 : Pv 0 σ H) (hG : ∀ i σ H, i ≤ kvs.length → Pv i σ H → H d = some (.frz o (.dK kvs)))
    (hs : ∀ i k v σ H, kvs[i]? = some (k, v) → Pv i σ H → g (kV k) σ H fun σ2 H2 => tb { D with nx := Pv (i + 1), ct := Pv (i + 1), bk := D.nx } σ2 H2) (hd : ∀ σ H, Pv kvs.length σ H → D.nx σ H) : ForW (Itk d o kvs) g tb D σ H :=
  for_it walk_keys Pv h0 hG (fun i x σ H H' hi p y => by
    obtain ⟨rfl, k, v, e, rfl⟩ := y
    exact hs i k v σ _ e p) hd
theorem dget_f {i : Int} (h : H d = some (.frz o (.dK kvs))) : DGet H d (.int i) (valV kvs (.inl i : Key)) := .inl ⟨kvs, .inl i, .inr ⟨o, h⟩, rfl, rfl⟩
end
end G
namespace G
open PySem PySem.Spec PySem.Calls PyProof.Rows L2 He
/-! ### == of dicts, dict(d), xs.pop(i) -/
section
variable {X : Cx} {σ : L2.St} {H : Hp} {Q : VK}
def gEqDD : R2 := fun x y H Q => ∃ a b kvs kvs', x = .ref a ∧ y = .ref b ∧ H a = some (.dK kvs) ∧ H b = some (.dK kvs') ∧ ((kvs = kvs' ∧ (kvs.map (·.1)).Nodup ∧ (∀ p ∈ kvs, flatB p.2 = true) ∧ Q (.bl true) H) ∨ (kvs.length ≠ kvs'.length ∧ Q (.bl false) H))
def gNeDD : R2 := fun x y H Q => ∃ a b kvs kvs', x = .ref a ∧ y = .ref b ∧ H a = some (.dK kvs) ∧ H b = some (.dK kvs') ∧ ((kvs = kvs' ∧ (kvs.map (·.1)).Nodup ∧ (∀ p ∈ kvs, flatB p.2 = true) ∧ Q (.bl false) H) ∨ (kvs.length ≠ kvs'.length ∧ Q (.bl true) H))
theorem op_eqDD (hu : X.A.units < cLine) : OpR X (compareOp .Eq) gEqDD := by
  intro pins s σ H x y v u Q I rx ry h
  obtain ⟨a, b, kvs, kvs', rfl, rfl, ea, eb, h⟩ := h
  obtain rfl : v = Value.ref a := rx
  obtain rfl : u = Value.ref b := ry
  obtain ⟨_, ya, va, ra, da⟩ := (show ObjOk X.prog X.w H s.heap a (.dK kvs) from I.hok a _ ea)
  obtain ⟨_, yb, vb, rb, db⟩ := (show ObjOk X.prog X.w H s.heap b (.dK kvs') from I.hok b _ eb)
  rcases h with ⟨rfl, nd, fl, q⟩ | ⟨ne, q⟩
  · have hl : va.length = vb.length := ra.length.symm.trans rb.length
    exact PySem.W.keq_eq (knd := mixKind X.prog X.w) (r := true) ya yb da db hu (fun _ => hits_all rb ra fun p hp => ⟨val_nodup nd p hp, fl p hp⟩) (fin_bl I q (by simp [hl]))
  · have hl : va.length ≠ vb.length := fun z => ne (ra.length.trans (z.trans rb.length.symm))
    exact PySem.W.keq_eq (knd := mixKind X.prog X.w) (r := true) ya yb da db hu (fun z => absurd z hl) (fin_bl I q (by simp [hl]))
theorem op_neDD (hu : X.A.units < cLine) : OpR X (compareOp .NotEq) gNeDD := by
  intro pins s σ H x y v u Q I rx ry h
  obtain ⟨a, b, kvs, kvs', rfl, rfl, ea, eb, h⟩ := h
  obtain rfl : v = Value.ref a := rx
  obtain rfl : u = Value.ref b := ry
  obtain ⟨_, ya, va, ra, da⟩ := (show ObjOk X.prog X.w H s.heap a (.dK kvs) from I.hok a _ ea)
  obtain ⟨_, yb, vb, rb, db⟩ := (show ObjOk X.prog X.w H s.heap b (.dK kvs') from I.hok b _ eb)
  rcases h with ⟨rfl, nd, fl, q⟩ | ⟨ne, q⟩
  · have hl : va.length = vb.length := ra.length.symm.trans rb.length
    exact PySem.W.keq_ne (knd := mixKind X.prog X.w) (r := true) ya yb da db hu (fun _ => hits_all rb ra fun p hp => ⟨val_nodup nd p hp, fl p hp⟩) (fin_bl I q (by simp [hl]))
  · have hl : va.length ≠ vb.length := fun z => ne (ra.length.trans (z.trans rb.length.symm))
    exact PySem.W.keq_ne (knd := mixKind X.prog X.w) (r := true) ya yb da db hu (fun z => absurd z hl) (fin_bl I q (by simp [hl]))
theorem r_eqDD {a b : Addr} {kvs : List (Key × V)} (h1 : H a = some (.dK kvs)) (h2 : H b = some (.dK kvs)) (nd : (kvs.map (·.1)).Nodup) (fl : ∀ p ∈ kvs, flatB p.2 = true) (q : Q (.bl true) H) : gEqDD (.ref a) (.ref b) H Q := ⟨a, b, kvs, kvs, rfl, rfl, h1, h2, .inl ⟨rfl, nd, fl, q⟩⟩
theorem r_neDD {a b : Addr} {kvs : List (Key × V)} (h1 : H a = some (.dK kvs)) (h2 : H b = some (.dK kvs)) (nd : (kvs.map (·.1)).Nodup) (fl : ∀ p ∈ kvs, flatB p.2 = true) (q : Q (.bl false) H) : gNeDD (.ref a) (.ref b) H Q := ⟨a, b, kvs, kvs, rfl, rfl, h1, h2, .inl ⟨rfl, nd, fl, q⟩⟩
theorem r_eqDL {a b : Addr} {kvs kvs' : List (Key × V)} (h1 : H a = some (.dK kvs)) (h2 : H b = some (.dK kvs')) (ne : kvs.length ≠ kvs'.length) (q : Q (.bl false) H) : gEqDD (.ref a) (.ref b) H Q := ⟨a, b, kvs, kvs', rfl, rfl, h1, h2, .inr ⟨ne, q⟩⟩
def rDictD : List V → Hp → VK → Prop := fun xs H Q => ∃ (a : Addr) (kvs : List (Key × V)), xs = [.ref a] ∧ Rd H a (.dK kvs) ∧ ∀ p, H p = none → Q (.ref p) (upd H p (.dK kvs))
theorem call_dictDK : CallR X (.type "dict") rDictD := call_dictD
theorem r_isiD {a : Addr} {kvs : List (Key × V)} (h : H a = some (.dK kvs)) (q : Q (.bl true) H) : gIsi [.ref a, .ty "dict"] H Q := r_isi (t := "dict") (by show tyO (H a) = _; rw [h]; rfl) q
def rLenDD : List V → Hp → VK → Prop := fun xs H Q => ∃ a kvs, xs = [V.ref a] ∧ H a = some (.dK kvs) ∧ Q (.int kvs.length) H
theorem call_lenDD : CallR X (.builtin "len") rLenDD := call_lenD
theorem r_lenDD {a : Addr} {kvs : List (Key × V)} (h : H a = some (.dK kvs)) (q : Q (.int (kvs.length : Int)) H) : rLenDD [.ref a] H Q := ⟨_, _, rfl, h, q⟩
theorem r_popAt {a : Addr} {xs : List V} {i : Nat} {y : V} (h : H a = some (.lst xs)) (hi : xs[i]? = some y) (hs : xs.length ≤ sizeLine) (q : Q y (upd H a (.lst (xs.eraseIdx i)))) : rPopAt (.ref a) [.int (i : Int)] H Q := by
  have hl := (List.getElem?_eq_some_iff.mp hi).1
  have sz := sizeLine_eq
  refine ⟨a, xs, _, i, y, rfl, rfl, h, by omega, by omega, ?_, hi, q⟩
  unfold seqIndex?
  simp only [if_neg (show ¬ ((i : Int) < 0) by omega)]
  rw [if_pos (by rw [Bool.and_eq_true, decide_eq_true_eq, decide_eq_true_eq]; omega), Int.toNat_natCast]
theorem cutV_one {xs : List V} : cutV xs (some 1) none = xs.drop 1 := by
  have e : HT.sIx xs.length 0 (some 1) = min 1 xs.length := HT.sIx_nat _ _ 1
  unfold cutV
  rw [e, HT.sIx_none]
  cases xs with
  | nil => rfl
  | cons x r =>
    have e : min 1 (x :: r).length = 1 := by rw [List.length_cons]; omega
    rw [e]
    show (r.take (r.length + 1 - 1)) = r
    rw [Nat.add_sub_cancel, List.take_length]
/-! ### zip -/
theorem x_zip {ta : TA} {R : It → Hp → Prop} {K : PySem.W.Frag} : iZip K ta σ H R = ta σ H fun vs H1 => ∃ a b xs ys, vs = [.ref a, .ref b] ∧ SqL K H1 a xs ∧ SqL K H1 b ys ∧ R (Itz K a b) H1 := rfl
theorem forW_zip {K : PySem.W.Frag} {g : TG} {tb : TS} {D : Ends} {a b : Addr} {xs ys : List V} (Pv : Nat → L2.St → Hp → Prop) (h0 : Pv 0 σ H) (hG : ∀ i σ H, i ≤ min xs.length ys.length → Pv i σ H → SqL K H a xs ∧ SqL K H b ys)
    (hs : ∀ i x y T σ H, xs[i]? = some x → ys[i]? = some y → H T = none → Pv i σ H → g (.ref T) σ (upd H T (.tup [x, y])) fun σ2 H2 => tb { D with nx := Pv (i + 1), ct := Pv (i + 1), bk := D.nx } σ2 H2) (hd : ∀ σ H, Pv (min xs.length ys.length) σ H → D.nx σ H) : ForW (Itz K a b) g tb D σ H :=
  for_it (walk_zip rfl) Pv h0 hG (fun i x σ H H' hi p y => by
    obtain ⟨T, u, v, rfl, nT, rfl, e1, e2⟩ := y
    exact hs i u v T σ H e1 e2 nT p) hd
end
end G
namespace G
open PySem PySem.Spec PySem.Calls PyProof.Rows L2 He
/-! ### a comprehension whose item may raise -/
/-- what is wanted behind a block that began in env: an error goes on in env's frame -/
def PostX (M : Model) (A : Around) (E : Value → Shared → Prop) (env : Env) (Q : Value → Shared → Prop) (acc : Value) (C : Addr) : Result → Shared → Prop
  | .ok _, t => ∃ m, t.heap.Ns C m ∧ ∀ h', Heap.SameBut C t.heap h' → Q acc { t with heap := h' }
  | .error x, t => ∃ m, t.heap.Ns C m ∧ ∀ h', Heap.SameBut C t.heap h' → ∀ ce : Env, ce.locals = C → ce.frame = env.frame → wpAny M A (PySem.passOn "comprehension.variables-let-go" x ce : Sem Value) (fun _ _ => False) E { t with heap := h' }
section
variable {M : Model} {A : Around} {E : Value → Shared → Prop} {s : Shared} {env : Env}
theorem compX {e : Expr} {scope : Scope} {pos : Pos} {new fst : Sem Value} {g : Comprehension} {gs : List Comprehension} {cl : List (Str × Addr)} {Q : Value → Shared → Prop}
    (c1 : clausesOf e = g :: gs) (c2 : ∀ x, foldedSetIterable g.iter env x = pure x) (c3 : closureFor scope env = pure cl) (c4 : scope.kind = .function) (c5 : ∀ x ∈ scope.names, x.2 = .local → scope.names.lookup x.1 = some .local)
    (c6 : wpAny M A fst (fun x s1 => wpAny M A (pyIter x) (fun it s2 => wpAny M A new (fun acc s3 => wpAny M A (newFunctionEnv scope env.globals cl [] env.qual none .none (some env)) (fun ce s4 => ce.frame = env.frame ∧
        codeAny M A (.compStart e 0 it acc { ce with scope := relabel scope env }) (PostX M A E env Q acc ce.locals) s4) E s3) E s2) E s1) E s) :
    wpAny M A (comprehension e scope env pos new false fst none) Q E s := by
  have again : ∀ {α : Type} {m : Sem α} {R R' : α → Shared → Prop} {t : Shared}, wpAny M A m R E t → (∀ a u, R a u → R' a u) → wpAny M A m R' E t := fun k f => wpAny_mono k f fun _ _ z => z
  unfold comprehension
  rw [c3, c1]
  refine wpAny_bind (again c6 fun x s1 k1 => wpAny_bind (wpAny_standAt (wpAny_bind (wpAny_of_eq (c2 x) (wpAny_bind (wpAny_holding (again k1 fun it s2 k2 => ?_)))))))
  refine wpAny_standIf (wpAny_bind (again k2 fun acc s3 k3 => wpAny_bind (wpAny_pure (wpAny_bind (again k3 fun ce s4 k4 => ?_)))))
  obtain ⟨fr, k4⟩ := k4
  dsimp only
  have see : ∀ y ∈ (scope.names.filter fun y => (y.2 == .local || y.2 == .cell) && y.1 != (".0" : Str)).reverse, y.2 = .local → Env.kindOf { ce with scope := relabel scope env } y.1 = some .local := fun y hy hl =>
    lookup_relabel_local (c5 y (List.mem_filter.mp (List.mem_reverse.mp hy)).1 hl)
  refine wpAny_holding (wpAny_bind (wpAny_attempt (wpAny_holding (wpAny_run (codeAny_mono k4 fun r t k5 => ?_)))))
  cases r with
  | ok f =>
    obtain ⟨m, n5, k6⟩ := k5
    exact wpAny_bind (wpAny_holding (wpAny_comp_letGo (cenv := { ce with scope := relabel scope env }) c4 _ t m see n5 fun h' m' _ z => wpAny_pure (k6 h' z)))
  | error x =>
    obtain ⟨m, n5, k6⟩ := k5
    exact wpAny_bind (wpAny_holding (wpAny_comp_letGo (cenv := { ce with scope := relabel scope env }) c4 _ t m see n5 fun h' m' _ z => wpAny_mono (k6 h' z _ rfl fr) (fun _ _ f => f.elim) fun _ _ y => y))
end
section
variable {M : Model} {A : Around} {E : Value → Shared → Prop} {s : Shared} {Z : Obj → Prop} {base : Heap} {env : Env} {outer : List Env} {L e : Addr}
/-- a frame is noted behind another one -/
theorem look_fromZ {fl : Value} {Q : Unit → Shared → Prop} (hZ : HandSPX.Steady Z) (fr : A.frames = some (env :: outer)) (ef : env.frame = some L) (b1 : base.StaysIn s.heap) (b2 : base.get? e = none) (b3 : s.heap.FunFrames base (env :: outer))
    (tr : HandSPX.TracedZ s.heap base e Z fl) (ne : (fl == rawInt L) = false) (hQ : ∀ h', HandSPX.HeldZ base (env :: outer) e Z L h' → s.heap.UpToSlots h' → Q () { s with heap := h' }) : wpAny M A (noteFrame (.ref e) env) Q E s := by
  obtain ⟨oe, vs, T, oT, ts, he, hz, hd, h1, hnT, hTe, hT, hdT, h3⟩ := tr
  unfold noteFrame
  simp only [ef]
  refine wpAny_bind (wpAny_field he hd h1 ?_)
  rw [if_pos (by simp : (Value.ref T != Value.none) = true)]
  refine wpAny_bind (wpAny_field hT hdT h3 ?_)
  rw [if_neg (by rw [ne]; exact Bool.false_ne_true : ¬ ((fl == rawInt L) = true))]
  refine wpAny_bind (wpAny_setField hT hdT (Array.getElem?_eq_some_iff.mp h3).1 ?_)
  have off : ∀ b, b ≠ T → (s.heap.update T (Obj.mapFields (·.setIfInBounds 3 Value.none))).get? b = s.heap.get? b := fun b n => Heap.get?_update_other _ _ n.symm
  have plain : ∀ b o, s.heap.get? b = some o → (∀ v, o.data ≠ .fields v) → b ≠ T := fun b o g n q => by
    rw [q, hT] at g
    cases g
    exact n ts hdT
  refine HandSPX.wpAny_entryZ hZ fr (b3.of_keeps fun b o g n => ⟨o, (off b (plain b o g n)).trans g, rfl⟩) ef ((off e hTe.symm).trans he)
    (fun b o g => (off b fun q => by rw [q, hnT] at g; cases g).trans (b1 b o g)) b2 hd (Array.getElem?_eq_some_iff.mp h1).1 hz fun h' nt => ?_
  obtain ⟨x1, x2, x3, x4⟩ := nt
  exact hQ h' ⟨x1, b2, x2, x3⟩ fun b o g n => x4 b o ((off b (plain b o g n)).trans g) n
theorem funFrames_off {base base' h h' : Heap} {C : Addr} (k : ∀ b o, b ≠ C → h.get? b = some o → h'.get? b = some o) (kb : ∀ b, base.get? b = none → base'.get? b = none) : ∀ {l : List Env}, h.FunFrames base l → C ∉ frs l → h'.FunFrames base' l
  | [], _, _ => trivial
  | env :: l, ff, nC => by
    obtain ⟨hk, ⟨L, o, hf, hb, ho, hd⟩, hr⟩ := ff
    have nL : L ≠ C := fun z => nC (List.mem_filterMap.mpr ⟨env, List.mem_cons_self, by rw [hf, z]⟩)
    exact ⟨hk, ⟨L, o, hf, kb L hb, k L o nL ho, hd⟩, funFrames_off k kb hr fun m => by
      obtain ⟨e, he, q⟩ := List.mem_filterMap.mp m
      exact nC (List.mem_filterMap.mpr ⟨e, List.mem_cons_of_mem _ he, q⟩)⟩
end
/-- the context of a block that may raise -/
abbrev blkX (X : Cx) (s : Shared) (H : Hp) (scope : Scope) (ce : Env) (fp : List Addr) (xe : Value → Shared → Prop) : Cx := { X.blk s H scope ce fp with xe := xe }
theorem blkX_inv {X : Cx} {s : Shared} {H : Hp} {scope : Scope} {ce : Env} {fp : List Addr} {xe : Value → Shared → Prop} {pins : List (Addr × Obj)} {σ : L2.St} {H' : Hp} {t : Shared} (I : Inv (X.blk s H scope ce fp) pins σ H' t) : Inv (blkX X s H scope ce fp xe) pins σ H' t :=
  ⟨⟨I.ok.mod, I.ok.kind, I.ok.glob, I.ok.blt, I.ok.above, I.ok.inj, I.ok.has, I.ok.cab, I.ok.hd, I.ok.frames, I.ok.stk, I.ok.exf, I.ok.bs, I.ok.bsz, I.ok.noex, I.ok.exfs, I.ok.funs, I.ok.frf⟩, I.os, I.bare, I.base, I.loc, I.cell, I.free, I.freeC, I.pin, I.hok, I.len⟩
/-- an error leaves a block -/
theorem blk_err {X : Cx} {pins0 : List (Addr × Obj)} {σ : L2.St} {H3 : Hp} {s3 : Shared} {scope : Scope} {ce : Env} {fp : List Addr} {xe : Value → Shared → Prop} {Eo : XK} {Q : Value → Shared → Prop} {acc u : Value} {t : Shared} {E1 : Value → Shared → Prop}
    (hs : X.stack = X.env :: X.outer) (hf : X.env.frame = some X.env.locals) (I3 : Inv X pins0 σ H3 s3) (f3 : ∀ b ∈ fp, FpOk X pins0 H3 b) (cL : ce.locals = s3.heap.objs.size) (cf : ce.frame = X.env.frame)
    (tk : Takes X fun c d _ H => Eo c d H) (x : XE (blkX X s3 H3 scope ce fp xe) (fun c d _ H => Eo c d H) u t) :
    wpAny (model X.prog X.w) X.A (noteFrame u ce) (fun _ t' => PostX (model X.prog X.w) X.A X.xe X.env Q acc s3.heap.objs.size (.error u) t') E1 t := by
  obtain ⟨a, B, sI, pins, σ', H', cls, d, rfl, I, nb, up, sky, na, os, ag, w⟩ := x
  have fr : X.A.frames = some (X.env :: X.outer) := by rw [I3.ok.frames, hs]
  have J : Inv X pins0 σ H' sI := I3.call' (ch := fp) I.os I.base I.hok I.bare fun b hb => ⟨(f3 b hb).2.2.2.1, (f3 b hb).2.1, (f3 b hb).2.2.2.2.1, (f3 b hb).2.2.2.2.2⟩
  have free : H' ce.locals = none := I.free
  obtain ⟨m, ns, -⟩ := I.loc
  have ns : sI.heap.Ns ce.locals m := ns
  rw [cL] at free ns
  generalize hC : s3.heap.objs.size = C at free ns cL ⊢
  have fC : FpOk X pins0 H' C := I3.fpOk (Nat.le_of_eq hC) free
  have Cst : C ∉ frs X.stack := by
    rw [hs]
    intro z
    obtain ⟨v, hv, q⟩ := List.mem_filterMap.mp z
    rcases List.mem_cons.mp hv with rfl | hv
    · rw [hf] at q
      exact fC.2.1 (Option.some.inj q).symm
    · exact fC.2.2.1 (List.mem_filterMap.mpr ⟨v, hv, q⟩)
  obtain ⟨oC, es, ep, gC, rC⟩ := ns
  have bC : B.get? C = some oC := nb C oC gC Cst
  have en : (noteFrame (.ref a) ce : Sem Unit) = noteFrame (.ref a) X.env := by
    unfold noteFrame PySem.frameOf
    rw [cf]
  rw [en]
  have go : ∀ h1, HandSPX.HeldZ B (X.env :: X.outer) a (Zc cls d) X.env.locals h1 → t.heap.UpToSlots h1 → PostX (model X.prog X.w) X.A X.xe X.env Q acc C (.error (.ref a)) { t with heap := h1 } := fun h1 hh up1 => by
    obtain ⟨b1, b2, b3, oe, vs, T, oT, ts, he, hz, hd, h1', hnT, hTe, hT, hdT, h3⟩ := hh
    refine ⟨m, ⟨oC, es, ep, b1 _ _ bC, rC⟩, fun h' sb ce' e1 e2 => ?_⟩
    have aC : a ≠ C := fun z => by rw [z, bC] at b2; cases b2
    have TC : T ≠ C := fun z => by rw [z, bC] at hnT; cases hnT
    have off : ∀ b o, b ≠ C → h1.get? b = some o → h'.get? b = some o := fun b o n g => (sb.2 b n).trans g
    have hid : ∀ b, B.get? b = none → (PySem.W.hideAll B [C]).get? b = none := fun b g => by
      cases q : (PySem.W.hideAll B [C]).get? b with
      | none => rfl
      | some o => rw [PySem.W.of_hideAll _ q] at g; cases g
    have hidC : ∀ {h : Heap} {b o}, (PySem.W.hideAll h [C]).get? b = some o → b ≠ C := fun {h b o} g z => by
      rw [z, PySem.W.hideAll_none [C] (List.mem_singleton_self C)] at g
      cases g
    unfold PySem.passOn
    refine wpAny_bind (wpAny_field (off a oe aC he) hd h1' ?_)
    rw [if_neg (by simp : ¬ ((Value.ref T == Value.none) = true))]
    have fin : wpAny (model X.prog X.w) X.A (setFlight (.ref a) ce'.frame) (fun _ u4 => wpAny (model X.prog X.w) X.A (throw (.ref a) : Sem Value) (fun _ _ => False) X.xe u4) X.xe { t with heap := h' } := by
      rw [e2, hf]
      refine HandSPX.setFlight_anyZ (base := PySem.W.hideAll B [C]) (l := X.env :: X.outer) (Z := Zc cls d) (fl := rawInt X.env.locals) (fun b o g => off b o (hidC g) (b1 b o (PySem.W.of_hideAll _ g))) (funFrames_off off hid b3 (by rw [← hs]; exact Cst))
        ⟨oe, vs, T, oT, ts, off a oe aC he, hz, hd, h1', hid T hnT, hTe, off T oT TC hT, hdT, h3⟩ fun h4 k1 k2 k3 k4 => wpAny_throw (tk _ _ ?_)
      have J' : Inv X pins0 σ H' { sI with heap := PySem.W.hideAll sI.heap [C], toks := sI.toks } := J.turned (it := C) (fun b o n g => PySem.W.hideAll_get [C] g (fun z => n (List.mem_singleton.mp z))) free fC.2.1 fC.2.2.2.1 fC.2.2.2.2.1 fC.2.2.2.2.2
      refine ⟨a, PySem.W.hideAll B [C], _, pins0, σ, H', cls, d, rfl, J', fun b o g n => ?_, fun b o g nf => ?_, .inr (.inr (by rw [hs]; exact ⟨k1, hid a b2, k2, k3⟩)), na, os, ag, w⟩
      · exact PySem.W.hideAll_get [C] (nb b o (PySem.W.of_hideAll _ g) n) fun z => hidC g (List.mem_singleton.mp z)
      · have bn := hidC g
        obtain ⟨l1, g1⟩ := up b o (PySem.W.of_hideAll _ g) nf
        obtain ⟨l2, g2⟩ := up1 b _ g1 nf
        obtain ⟨l4, g4⟩ := k4 b _ (off b _ bn g2) nf
        exact ⟨l4, g4⟩
    first
      | exact wpAny_bind (wpAny_pure (wpAny_bind fin))
      | exact wpAny_bind fin
  rw [hs] at sky
  rcases sky with ⟨hB, hn, hl, oe, vs, he, hz, hd, h1⟩ | fl | hh
  · exact HandSPX.look_newZ Zc.steady fr hl hf he hB hn hd h1 hz go
  · exact HandSPX.looks_onZ Zc.steady fr hf fl go
  · obtain ⟨b1, b2, b3, b4⟩ := hh
    refine look_fromZ Zc.steady fr hf b1 b2 b3 b4 ?_ go
    have ne : ce.locals ≠ X.env.locals := by rw [cL]; exact fC.2.1
    simp [rawInt]
    exact fun z => ne (Int.ofNat.inj z)
/-- [elt for tg in iter if ..], of which elt may raise -/
theorem pe_lcX {X : Cx} {elt tg iter : Expr} {ifs : List Expr} {scope : Scope} {own : List (Str × Nat)} {pos : Pos} {wi : TI} {g : TG} {tt : TT} {te : XK → TE} {Eo : XK} (tk : Takes X fun c d _ H => Eo c d H) (es : X.stack = X.env :: X.outer) (ef : X.env.frame = some X.env.locals) (hc : X.calm = true)
    (hN : X.N.Nodup) (hi : PI X tg iter wi) (ok : BlkOk X.N X.env.scope scope own) (hg : ∀ (s : Shared) (H : Hp) (C : Addr) (cl : List (Str × Addr)) (fp : List Addr) (xe : Value → Shared → Prop), PG (blkX X s H scope (compEnvC scope cl C X.env) fp xe) tg g)
    (ht : ∀ (s : Shared) (H : Hp) (C : Addr) (cl : List (Str × Addr)) (fp : List Addr) (xe : Value → Shared → Prop), PTs (blkX X s H scope (compEnvC scope cl C X.env) fp xe) ifs tt)
    (he : ∀ (s : Shared) (H : Hp) (C : Addr) (cl : List (Str × Addr)) (fp : List Addr) (xe : Value → Shared → Prop) (E : XK), Takes (blkX X s H scope (compEnvC scope cl C X.env) fp xe) (fun c d _ H => E c d H) → PE (blkX X s H scope (compEnvC scope cl C X.env) fp xe) elt (te E))
    (hset : ∀ x, foldedSetIterable iter X.env x = pure x := by intro _; rfl) : PE X (.ListComp elt [⟨tg, iter, ifs, 0⟩] scope pos) (tLc wi g tt (te Eo) (own.map (·.2))) := by
  refine ⟨fun pins s σ H Q I h => ?_⟩
  rw [eval_ListComp]
  have clo : ∀ y ∈ scope.names, y.2 = .free → ∃ c, X.env.cells.lookup y.1 = some c := fun y hy e => (ok.free y hy e).elim (fun k => I.ok.has _ (.inl k)) fun k => I.ok.has _ (.inr k)
  refine compX rfl hset (closure_ok clo) ok.kind (fun y hy z => by rw [ok.uniq y hy, z]) (thn (hi.run pins s σ H _ I h) fun xv t1 hx => thn hx fun itv t2 h2 => ?_)
  obtain ⟨it, fp, tn, J, H2, e, I2, T, st2, f2, q⟩ := h2
  subst e
  refine wpAny_newObj_type (newEnv_comp ⟨rfl, ?_⟩) (by show 0 ≤ sizeLine; decide)
  generalize eD : t2.heap.objs.size = D
  obtain ⟨W, ⟨m0, w0⟩, turn⟩ := q D (I2.hok.fresh (Nat.le_of_eq eD))
  generalize e3 : ({ t2 with heap := t2.heap.push { cls := .type "list", data := .seq ([] : List Value).toArray } } : Shared) = t3
  have g3 : t3.heap = t2.heap.push { cls := .type "list", data := .seq ([] : List Value).toArray } := by rw [← e3]
  have I3 : Inv X pins σ (upd H2 D (.lst [])) t3 := by
    rw [← e3]
    refine I2.laid (t' := t2.toks) (fun b o g => Heap.get?_push_of_some _ g) (Nat.le_of_eq eD) ⟨Nat.zero_le _, [], 0, .nil, ?_⟩
    rw [← eD]
    exact Heap.get?_push_size _ rfl
  have lt2 : ∀ b ∈ fp, b < t2.heap.objs.size := fun b hb => let ⟨o, e, _⟩ := T.obj _ _ st2 b hb; Heap.lt_size e
  have f3 : ∀ b ∈ fp, FpOk X pins (upd H2 D (.lst [])) b ∧ b < t3.heap.objs.size := fun b hb => by
    have hl := lt2 b hb
    refine ⟨⟨?_, (f2 b hb).2⟩, by rw [g3, Heap.size_push]; exact Nat.lt_succ_of_lt hl⟩
    rw [upd_ne (by rw [← eD]; exact Nat.ne_of_lt hl)]
    exact (f2 b hb).1
  have st3 : tn 0 t3.heap := T.keep _ _ _ st2 fun b _ o g => by rw [g3]; exact Heap.get?_push_of_some _ g
  have I4 := block_start I3 ok hN f3
  have pg := hg t3 (upd H2 D (.lst [])) t3.heap.objs.size (cellsFrom (t3.heap.objs.size + 1) scope.names (cloFrom X.env.cells scope.names [])) fp
  have pt := ht t3 (upd H2 D (.lst [])) t3.heap.objs.size (cellsFrom (t3.heap.objs.size + 1) scope.names (cloFrom X.env.cells scope.names [])) fp
  have pe := he t3 (upd H2 D (.lst [])) t3.heap.objs.size (cellsFrom (t3.heap.objs.size + 1) scope.names (cloFrom X.env.cells scope.names [])) fp
  show codeAny _ _ (.compStart (.ListComp elt [⟨tg, iter, ifs, 0⟩] scope pos) 0 (.ref it) (.ref D) (compEnvC scope (cellsFrom (t3.heap.objs.size + 1) scope.names (cloFrom X.env.cells scope.names [])) t3.heap.objs.size X.env)) (PostX (model X.prog X.w) X.A X.xe X.env (EP X pins σ Q) (.ref D) t3.heap.objs.size) { t3 with heap := pushCells (t3.heap.push { cls := .type "dict", data := .dict #[] }) scope.names }
  have nfp : ∀ b ∈ fp, (upd H2 D (.lst [])) b = none := fun b hb => (f3 b hb).1.1
  generalize ece : compEnvC scope (cellsFrom (t3.heap.objs.size + 1) scope.names (cloFrom X.env.cells scope.names [])) t3.heap.objs.size X.env = ce at I4 pg pt pe ⊢
  have cL : ce.locals = t3.heap.objs.size := by subst ece; rfl
  have cf : ce.frame = X.env.frame := by subst ece; rfl
  generalize eH3 : upd H2 D (.lst []) = H3 at I3 I4 pg pt pe w0 nfp f3
  generalize e4 : ({ t3 with heap := pushCells (t3.heap.push { cls := .type "dict", data := .dict #[] }) scope.names } : Shared) = t4 at I4 ⊢
  have st4 : tn 0 t4.heap := T.keep _ _ _ st3 fun b _ o g => by rw [← e4]; exact pushCells_keeps _ _ _ _ (Heap.get?_push_of_some _ g)
  let R := PostX (model X.prog X.w) X.A X.xe X.env (EP X pins σ Q) (.ref D) t3.heap.objs.size
  let xe := notedBy (model X.prog X.w) X.A ce fun e t' => R (.error e) t'
  have tkb : Takes (blkX X t3 H3 scope ce fp xe) (fun c d _ H => Eo c d H) := fun u t x => blk_err (pins0 := pins) (xe := xe) es ef I3 (fun b hb => (f3 b hb).1) cL cf tk x
  have pg := pg xe
  have pt := pt xe
  have pe := pe xe Eo tkb
  have I4 : Inv (blkX X t3 H3 scope ce fp xe) [] (wipe σ (own.map (·.2))) H3 t4 := blkX_inv I4
  have stat : ∀ {σ' : L2.St} {H' : Hp} {t' : Shared}, Inv (blkX X t3 H3 scope ce fp xe) [] σ' H' t' → (∀ b ∈ fp, H' b = none) → ∀ b ∈ fp, FpOk (blkX X t3 H3 scope ce fp xe) [] H' b := fun {σ' H' t'} I' hn b hb =>
    ⟨hn b hb, (I'.ok.exf b hb).1, I'.ok.exfs b hb, .inl hb, fun x c e => (I'.ok.exf b hb).2 x c e, fun p hp => absurd (show p ∈ ([] : List (Addr × Obj)) ++ [] from hp) (by simp)⟩
  have loop : codeAny (model X.prog X.w) X.A (.compLoop (.ListComp elt [⟨tg, iter, ifs, 0⟩] scope pos) 0 (.ref it) (.ref D) ce) R t4 := by
    refine compLoop_any (fun n t' => ∃ i H', Inv (blkX X t3 H3 scope ce fp xe) [] (wipe σ (own.map (·.2))) H' t' ∧ tn i t'.heap ∧ (∀ b ∈ fp, H' b = none) ∧ W i n H') ?_ m0 ⟨0, H3, I4, st4, nfp, w0⟩
    rintro n t5 ⟨i, H5, I5, st5, n5, w5⟩
    rcases turn i n H5 w5 with ⟨stop, qq⟩ | ⟨go, Nx, hNx, step⟩
    · have td := T.done (blkX X t3 H3 scope ce fp xe) rfl rfl rfl hc i [] t5 _ H5 (fun _ _ => False) I5 (stat I5 n5) st5 stop
      refine thnF td fun r t6 ⟨hr, I6⟩ => ?_
      subst hr
      have I7 : Inv X pins σ H5 t6 := I3.call' (ch := fp) I6.os I6.base I6.hok I6.bare fun b hb => ⟨(f3 b hb).1.2.2.2.1, (f3 b hb).1.2.1, (f3 b hb).1.2.2.2.2.1, (f3 b hb).1.2.2.2.2.2⟩
      have nC : H5 t3.heap.objs.size = none := cL ▸ (show H5 ce.locals = none from I6.free)
      obtain ⟨m, hn, -⟩ := I6.loc
      have hn : t6.heap.Ns ce.locals m := hn
      rw [cL] at hn
      obtain ⟨a0, a1, a2, a3, a4, a5⟩ := I3.fpOk (Nat.le_refl _) nC
      exact ⟨m, hn, fun h' sb => ⟨.ref D, H5, I7.turned (t' := t6.toks) (fun b o n g => (sb.2 b n).trans g) a0 a1 a3 a4 a5, rfl, qq⟩⟩
    · have ti := T.item (blkX X t3 H3 scope ce fp xe) rfl rfl rfl hc i [] t5 _ H5 (fun _ _ => False) I5 (stat I5 n5) st5 go
      refine thnF ti fun r t6 ⟨u, hr, h6⟩ => ?_
      subst hr
      refine thnF h6 fun _ t7 ⟨x, H7, I7, r7, y7, st7, n7⟩ => ?_
      refine thn (pg.run _ t7 _ H7 x u _ (I7.pinned (stat I7 n7) (T.obj _ _ st7)) r7 (step x H7 y7)) fun _ t8 ⟨σ8, H8, I8, hw8, q8⟩ => ?_
      refine thn (pt.run _ t8 σ8 H8 _ I8 q8) fun b t9 ⟨H9, I9, q9⟩ => ?_
      have fin : ∀ {t' : Shared} {H' : Hp}, Inv (blkX X t3 H3 scope ce fp xe) ([] ++ pinsAt fp t7.heap) σ8 H' t' → Nx H' → ∃ m, m < n ∧ ∃ i H', Inv (blkX X t3 H3 scope ce fp xe) [] (wipe σ (own.map (·.2))) H' t' ∧ tn i t'.heap ∧ (∀ b ∈ fp, H' b = none) ∧ W i m H' := fun {t' H'} I' nx => by
        obtain ⟨m', hm, w'⟩ := hNx H' nx
        have pn : ∀ b ∈ fp, ∀ o, t7.heap.get? b = some o → t'.heap.get? b = some o ∧ H' b = none := fun b hb o g =>
          let z := I'.pin (b, o) (List.mem_append_right _ (List.mem_append_right _ (mem_pinsAt hb g))); ⟨z.1, z.2.1⟩
        have el : (wipe σ (own.map (·.2))).length = σ8.length := by rw [← hw8, wipe_length]
        refine ⟨m', hm, i + 1, H', (I'.unpinned (pins := [])).weak el (fun j v g => ?_), T.keep _ _ _ st7 fun b hb o g => (pn b hb o g).1, fun b hb => ?_, w'⟩
        · rw [← hw8] at g
          exact (wipe_some g).1
        · obtain ⟨o, g, _⟩ := T.obj _ _ st7 b hb
          exact (pn b hb o g).2
      cases b with
      | false =>
        simp only [Bool.false_eq_true, if_false] at q9 ⊢
        exact fin I9 q9
      | true =>
        simp only [if_true] at q9 ⊢
        refine thn (pe.run _ t9 σ8 H9 _ I9 q9) fun z t10 ⟨yv, H10, I10, r10, acc, hD10, hz10, nx⟩ => ?_
        exact app_ok (X := blkX X t3 H3 scope ce fp xe) I10 hD10 hz10 r10 fun t11 I11 => fin I11 nx
  exact codeAny_compStart_list loop (T.self X.A 0 _ _ _ st4 loop)
end G
namespace G
open PySem PySem.Spec PySem.Calls PyProof.Rows L2 He
/-! ### texts -/
/-- a text by its signs -/
abbrev Sg (l : List Nat) : Str := ⟨l.toArray⟩
theorem Sg_tl (l : List Nat) : TL.tl (Sg l) = l := rfl
theorem Sg_of (z : Str) : z = Sg (TL.tl z) := (TL.mk_tl z).symm
theorem Sg_inj {a b : List Nat} : Sg a = Sg b ↔ a = b := ⟨fun h => by have := congrArg TL.tl h; exact this, fun h => by rw [h]⟩
theorem Sg_add (a b : List Nat) : Sg a ++ Sg b = Sg (a ++ b) := TL.ext_tl (by rw [TL.tl_append])
theorem Sg_len (a : List Nat) : (Sg a).length = a.length := by rw [TL.len_tl]
theorem Sg_eq {a b : List Nat} : decide (Sg a = Sg b) = decide (a = b) := by
  by_cases h : a = b
  · rw [decide_eq_true h, decide_eq_true (Sg_inj.mpr h)]
  · rw [decide_eq_false h, decide_eq_false fun z => h (Sg_inj.mp z)]
def cutL (l : List Nat) (lo hi : Option Int) : List Nat := (l.drop (HT.sIx l.length 0 lo)).take (HT.sIx l.length l.length hi - HT.sIx l.length 0 lo)
theorem cutS_S {l : List Nat} {lo hi : Option Int} : cutS (Sg l) lo hi = Sg (cutL l lo hi) := by
  unfold cutS cutL
  rw [show (Sg l).length = l.length from Sg_len l]
theorem cutL_to {l : List Nat} {k : Nat} : cutL l none (some (k : Int)) = l.take k := by
  unfold cutL
  rw [HT.sIx_none, HT.sIx_nat, List.drop_zero, Nat.sub_zero]
  by_cases h : k ≤ l.length
  · rw [Nat.min_eq_left h]
  · rw [Nat.min_eq_right (by omega), List.take_length, List.take_of_length_le (by omega)]
theorem cutL_from {l : List Nat} {k : Nat} : cutL l (some (k : Int)) none = l.drop k := by
  unfold cutL
  rw [HT.sIx_none, HT.sIx_nat]
  by_cases h : k ≤ l.length
  · rw [Nat.min_eq_left h, List.take_of_length_le (by rw [List.length_drop]; omega)]
  · rw [Nat.min_eq_right (by omega), Nat.sub_self, List.take_zero, List.drop_eq_nil_of_le (by omega)]
theorem cutL_to1 {l : List Nat} : cutL l none (some 1) = l.take 1 := cutL_to (k := 1)
theorem cutL_from1 {l : List Nat} : cutL l (some 1) none = l.drop 1 := cutL_from (k := 1)
section
variable {X : Cx} {K : PySem.W.Frag} {σ : L2.St} {H : Hp} {Q : VK} {D : Ends} {g : TG} {tb : TS}
/-- a text so many times -/
def repL (l : List Nat) : Nat → List Nat
  | 0 => []
  | n + 1 => l ++ repL l n
theorem repL_len {l : List Nat} : ∀ {n : Nat}, (repL l n).length = n * l.length
  | 0 => by rw [Nat.zero_mul]; rfl
  | n + 1 => by
    show (l ++ repL l n).length = _
    rw [List.length_append, repL_len, Nat.succ_mul, Nat.add_comm]
theorem rep_fold : ∀ {n : Nat} {a : Array Nat} {l : List Nat}, ((List.replicate n l.toArray).foldl (· ++ ·) a).toList = a.toList ++ repL l n
  | 0, a, l => by
    rw [show repL l 0 = [] from rfl, List.append_nil]
    rfl
  | n + 1, a, l => by
    show ((List.replicate n l.toArray).foldl (· ++ ·) (a ++ l.toArray)).toList = _
    rw [rep_fold, Array.toList_append, List.append_assoc]
    rfl
def gRepS : R2
  | .str z, .int n, H, Q => 0 ≤ n ∧ n ≤ 1000 ∧ z.length ≤ 1000 ∧ Q (.str (Sg (repL (TL.tl z) n.toNat))) H
  | _, _, _, _ => False
theorem op_gRepS : OpR X (binaryOp .Mult) gRepS := by
  intro pins s σ H x y v u Q I rx ry h
  unfold gRepS at h
  split at h
  · rename_i z n
    obtain ⟨h0, h1, h2, q⟩ := h
    obtain ⟨t, rfl⟩ := rx
    obtain ⟨t', rfl⟩ := ry
    rcases Int.lt_or_le n 1 with c | c
    · obtain rfl : n = 0 := by omega
      exact PySem.P.mul_str_none (by decide) (by decide) ⟨.str Str.empty, _, I.tok _, ⟨_, rfl⟩, q⟩
    · obtain ⟨m, rfl⟩ := Int.eq_ofNat_of_zero_le h0
      refine PySem.P.mul_str (by rw [Bool.or_eq_false_iff]; exact ⟨decide_eq_false (by omega), decide_eq_false (by omega)⟩) (fun _ _ => ?_) (fun _ _ => ?_) ?_
      · have : (1000 : Int) ≤ (2 ^ 63 - 1) / (m : Int) := (Int.le_ediv_iff_mul_le (by omega)).mpr (by omega)
        omega
      · rw [Int.toNat_natCast]
        have : z.length * m ≤ 1000 * 1000 := Nat.mul_le_mul h2 (by omega)
        have sz : sizeLine = 16777216 := sizeLine_eq
        exact decide_eq_false (by omega)
      · rw [if_neg (by omega)]
        have e1 : (⟨(List.replicate m z.cps).foldl (· ++ ·) #[]⟩ : Str) = Sg (repL (TL.tl z) m) := TL.ext_tl (by
          have := rep_fold (n := m) (a := #[]) (l := z.cps.toList)
          rw [Array.toArray_toList] at this
          exact this)
        rw [Int.toNat_natCast] at q ⊢
        split
        · rename_i c2
          have e2 : z = Sg (repL (TL.tl z) m) := by
            rw [Bool.or_eq_true] at c2
            rcases c2 with c2 | c2
            · obtain rfl : m = 1 := by
                have := of_decide_eq_true c2
                omega
              exact TL.ext_tl (by show TL.tl z = TL.tl z ++ []; rw [List.append_nil])
            · have c2 : z.length = 0 := by simpa using c2
              rw [TL.len_tl] at c2
              refine TL.ext_tl ?_
              have e : (repL (TL.tl z) m).length = 0 := by rw [repL_len, c2, Nat.mul_zero]
              rw [List.eq_nil_of_length_eq_zero c2]
              rw [List.eq_nil_of_length_eq_zero c2] at e
              exact (List.eq_nil_of_length_eq_zero e).symm
          rw [← e2] at q
          exact ⟨.str z, _, I, ⟨_, rfl⟩, q⟩
        · rw [e1]
          refine ⟨?_, .str _, _, I.tok _, ⟨_, rfl⟩, q⟩
          have sz : sizeLine = 16777216 := sizeLine_eq
          have : m * (TL.tl z).length ≤ 1000 * 1000 := Nat.mul_le_mul (by omega) (by rw [← TL.len_tl]; exact h2)
          rw [Sg_len, repL_len]
          omega
  · exact h.elim
theorem r_repS {l : List Nat} {n : Int} : gRepS (.str (Sg l)) (.int n) H Q = (0 ≤ n ∧ n ≤ 1000 ∧ (Sg l).length ≤ 1000 ∧ Q (.str (Sg (repL l n.toNat))) H) := rfl
/-- a sign in a text -/
def gInS : R2 := fun x y H Q => ∃ (c : Nat) (z : Str), x = .str ⟨#[c]⟩ ∧ y = .str z ∧ Q (.bl (decide (c ∈ z.cps.toList))) H
def gNinS : R2 := fun x y H Q => ∃ (c : Nat) (z : Str), x = .str ⟨#[c]⟩ ∧ y = .str z ∧ Q (.bl (!decide (c ∈ z.cps.toList))) H
theorem op_gInS : OpR X (compareOp .In) gInS := op_in_sign
theorem op_gNinS : OpR X (compareOp .NotIn) gNinS := op_notIn_sign
theorem r_inS {c : Nat} {z : Str} : gInS (.str ⟨#[c]⟩) (.str z) H Q = Q (.bl (decide (c ∈ TL.tl z))) H := propext ⟨fun ⟨_, _, e, e', q⟩ => by cases e; cases e'; exact q, fun q => ⟨c, z, rfl, rfl, q⟩⟩
theorem r_ninS {c : Nat} {z : Str} : gNinS (.str ⟨#[c]⟩) (.str z) H Q = Q (.bl (!decide (c ∈ TL.tl z))) H := propext ⟨fun ⟨_, _, e, e', q⟩ => by cases e; cases e'; exact q, fun q => ⟨c, z, rfl, rfl, q⟩⟩
/-- x in a written tuple of flat things -/
theorem r_inT {a : Addr} {xs : List V} {x : V} (h : H a = some (.tup xs)) (fx : flatV x = true) (fs : xs.all flatV = true) (q : Q (.bl (inV x xs)) H) : rInG K false x (.ref a) H Q := .inl ⟨a, xs, rfl, .inr (.inl (.inl h)), fx, fs, by rw [if_neg Bool.false_ne_true]; exact q⟩
theorem r_ninT {a : Addr} {xs : List V} {x : V} (h : H a = some (.tup xs)) (fx : flatV x = true) (fs : xs.all flatV = true) (q : Q (.bl (!inV x xs)) H) : rInG K true x (.ref a) H Q := .inl ⟨a, xs, rfl, .inr (.inl (.inl h)), fx, fs, by rw [if_pos (rfl : true = true)]; exact q⟩
theorem r_inL {a : Addr} {xs : List V} {x : V} (h : SqL K H a xs) (fx : flatV x = true) (fs : xs.all flatV = true) (q : Q (.bl (inV x xs)) H) : rIn K false x (.ref a) H Q := ⟨a, xs, rfl, .inl h, fx, fs, by rw [if_neg Bool.false_ne_true]; exact q⟩
theorem r_ninL {a : Addr} {xs : List V} {x : V} (h : SqL K H a xs) (fx : flatV x = true) (fs : xs.all flatV = true) (q : Q (.bl (!inV x xs)) H) : rIn K true x (.ref a) H Q := ⟨a, xs, rfl, .inl h, fx, fs, by rw [if_pos (rfl : true = true)]; exact q⟩
/-- for c in a text -/
theorem x_str {te : TE} {R : It → Hp → Prop} : iStr te σ H R = te σ H fun v H1 => ∃ x, v = .str x ∧ R (Its x) H1 := rfl
theorem x_strE {z : Str} {P : Str → Prop} : (∃ x, V.str z = V.str x ∧ P x) = P z := propext ⟨fun ⟨_, e, q⟩ => by cases e; exact q, fun q => ⟨z, rfl, q⟩⟩
theorem forW_str {l : List Nat} (Pv : Nat → L2.St → Hp → Prop) (h0 : Pv 0 σ H) (hs : ∀ (i c : Nat) σ H, l[i]? = some c → Pv i σ H → g (.str (Sg [c])) σ H fun σ2 H2 => tb { D with nx := Pv (i + 1), ct := Pv (i + 1), bk := D.nx } σ2 H2)
    (hd : ∀ σ H, Pv l.length σ H → D.nx σ H) : ForW (Its (Sg l)) g tb D σ H :=
  for_it (walk_str (z := Sg l)) Pv h0 (fun _ _ _ _ _ => trivial) (fun i x σ H H' hi p y => by
    obtain ⟨rfl, c, e, rfl⟩ := y
    exact hs i c σ _ (by simpa using e) p) (by simpa using hd)
/-! ### calls -/
def gIntS : List V → Hp → VK → Prop := fun xs H Q => ∃ a n, xs = [.str a] ∧ PySem.intText? a = some n ∧ a.length ≤ 640 ∧ Q (.int n) H
theorem call_gIntS : CallR X (.type "int") gIntS := call_int_str
def gStrI : List V → Hp → VK → Prop
  | [.int i], H, Q => i.natAbs.log2 < 1920 ∧ Q (.str (toString i)) H
  | _, _, _ => False
theorem call_gStrI : CallR X (.type "str") gStrI := by
  intro pins s σ H xs us Q I r h
  unfold gStrI at h
  split at h
  · exact call_str_int pins s σ _ _ us Q I r ⟨_, rfl, h.1, h.2⟩
  · exact h.elim
theorem r_strI {i : Int} (h : i.natAbs.log2 < 1920) (q : Q (.str (Str.ofString (toString i))) H) : gStrI [.int i] H Q := ⟨h, q⟩
def rTupG (K : PySem.W.Frag) : List V → Hp → VK → Prop := fun xs H Q => ∃ p ys, xs = [.ref p] ∧ ((SqL K H p ys ∧ ∀ l, H l = none → Q (.ref l) (upd H l (.tup ys))) ∨ (SqT K H p ys ∧ Q (.ref p) H))
theorem call_tupK (hK : X.K = K) : CallR X (.type "tuple") (rTupG K) := hK ▸ call_tuple_of
def rJoin (K : PySem.W.Frag) : V → List V → Hp → VK → Prop := fun x xs H Q => ∃ a p, ∃ ys : List Str, x = .str a ∧ xs = [.ref p] ∧ (SqL K H p (ys.map V.str) ∨ SqT K H p (ys.map V.str)) ∧ (ys.map (·.length)).sum + ys.length * a.length ≤ 16777216 ∧ Q (.str (Txt.join a ys)) H
theorem mt_joinK (hK : X.K = K) : MtR X "str.join" (rJoin K) := hK ▸ mt_join
def rSplit : V → List V → Hp → VK → Prop := fun x xs H Q => ∃ a b, x = .str a ∧ xs = [.str b] ∧ (b.length == 0) = false ∧ a.length + 2 ≤ sizeLine ∧ rNewStrs (Txt.split a b) H Q
theorem mt_splitG : MtR X "str.split" rSplit := mt_split
def rFindS : V → List V → Hp → VK → Prop := fun x xs H Q => ∃ a b, x = .str a ∧ xs = [.str b] ∧ Q (.int (Txt.find a b)) H
theorem mt_findG : MtR X "str.find" rFindS := mt_find
theorem mt_indexK (hK : X.K = K) : MtR X "list.index" (rIndex K) := hK ▸ mt_index
/-- texts by their signs -/
def SgL (ps : List (List Nat)) : List V := ps.map fun p => V.str (Sg p)
theorem r_split {l : List Nat} {c : Nat} (hc : c < 256) (hz : l.length + 2 ≤ sizeLine) (q : ∀ p, H p = none → Q (.ref p) (upd H p (.lst (SgL (TL.spl [c] 0 [] l))))) : rSplit (.str (Sg l)) [.str (Sg [c])] H Q := by
  refine ⟨_, _, rfl, rfl, rfl, by rw [Sg_len]; exact hz, fun p hp => ?_⟩
  have e := TL.split_spl (Sg l) (Sg [c]) (by simp) (TL.kind_ok (by simp [hc]))
  have e2 : (Txt.split (Sg l) (Sg [c])).map V.str = SgL (TL.spl [c] 0 [] l) := by
    have e : (Txt.split (Sg l) (Sg [c])).map TL.tl = TL.spl [c] 0 [] l := e
    rw [← e]
    unfold SgL
    rw [List.map_map]
    refine List.map_congr_left fun z _ => ?_
    show V.str z = V.str (Sg (TL.tl z))
    rw [← Sg_of]
  rw [e2]
  exact q p hp
theorem r_join {sep : List Nat} {ps : List (List Nat)} {p : Addr} (h : SqL K H p (SgL ps)) (hz : (ps.map List.length).sum + ps.length * sep.length ≤ 16777216) (q : Q (.str (Sg (TL.joinL sep ps))) H) : rJoin K (.str (Sg sep)) [.ref p] H Q := by
  refine ⟨_, p, ps.map Sg, rfl, rfl, .inl (by rw [List.map_map]; exact h), ?_, ?_⟩
  · rw [List.map_map, List.length_map, Sg_len, show ((·.length) ∘ Sg : List Nat → Nat) = List.length from funext fun l => Sg_len l]
    exact hz
  · have e : Txt.join (Sg sep) (ps.map Sg) = Sg (TL.joinL sep ps) := TL.ext_tl (by
      rw [TL.join_eq, TL.tl_join, List.map_map, show (TL.tl ∘ Sg) = (id : List Nat → List Nat) from rfl, List.map_id])
    rw [e]
    exact q
theorem r_ixStr {l : List Nat} {i c : Nat} (hz : l.length ≤ sizeLine) (e : l[i]? = some c) (q : Q (.str (Sg [c])) H) : rIx K (.str (Sg l)) (.int (i : Int)) H Q :=
  .inr (.inr ⟨_, _, c, rfl, rfl, by rw [Sg_len]; exact hz, atI_nat e, q⟩)
theorem r_lenStr {l : List Nat} : (q : l.length ≤ sizeLine ∧ Q (.int (l.length : Int)) H) → L2.rLen K [.str (Sg l)] H Q := fun q => ⟨_, _, rfl, by show (Sg l).length ≤ sizeLine ∧ _ = (Sg l).length; rw [Sg_len]; exact ⟨q.1, rfl⟩, q.2⟩
theorem r_slStr {l : List Nat} {lo hi : Option Int} (hz : l.length ≤ sizeLine) (q : Q (.str (Sg (cutL l lo hi))) H) : rSlS (.str (Sg l)) lo hi H Q := ⟨_, rfl, by rw [Sg_len]; exact hz, by rw [cutS_S]; exact q⟩
theorem r_tupL {a : Addr} {xs : List V} (h : SqL K H a xs) (q : ∀ l, H l = none → Q (.ref l) (upd H l (.tup xs))) : rTupG K [.ref a] H Q := ⟨a, xs, rfl, .inl ⟨h, q⟩⟩
end
end G
namespace G
open PySem PySem.Spec PySem.Calls PyProof.Rows L2 He
/-! ### suites of some statements -/
section
variable {X : Addr → List (Addr × Obj) → Cx} {st : Stmt} {rest a b : List Stmt} {t u : TS} {tc : TT} {c : Expr} {pos : Pos}
theorem su_nil : ∀ x y, PSs (X x y) [] tNext := fun _ _ => pss_nil
theorem su_one (h : ∀ x y, PS (X x y) st t) : ∀ x y, PSs (X x y) [st] t := fun x y => pss_one (h x y)
theorem su_cons (h1 : ∀ x y, PS (X x y) st t) (h2 : ∀ x y, PSs (X x y) rest u) : ∀ x y, PSs (X x y) (st :: rest) (tSeq t u) := fun x y => pss_cons (h1 x y) (h2 x y)
theorem su_if (h : ∀ x y, PT (X x y) c tc) (h1 : ∀ x y, PSs (X x y) a t) (h2 : ∀ x y, PSs (X x y) b u) : ∀ x y, PS (X x y) (.If c a b pos) (tIfS tc t u) := fun x y => ps_if (h x y) (h1 x y) (h2 x y)
end
theorem pe_isTK {X : Cx} {K : PySem.W.Frag} {a : Expr} {es : List Expr} {x1} {ta : TE} {tc : TA} {p tp pos : Pos} (hK : X.K = K) (hg : Gl X "isinstance") (hm : X.mg "isinstance" = none) (ha : PE X a ta) (hc : PA X es tc)
    (he : starEach [a, .Tuple es x1 tp] X.env = [(false, eval a X.env), (false, eval (.Tuple es x1 tp) X.env)] := by rfl) : PE X (.Call (.Name "isinstance" p) [a, .Tuple es x1 tp] [] pos) (tIsT K ta tc) := by
  subst hK
  exact pe_isT hg hm ha hc he
end G
namespace G
open PySem PySem.Spec PySem.Calls PyProof.Rows L2 He
/-! ### a written dict -/
section
variable {σ : L2.St} {H : Hp} {Q : VK} {K : PySem.W.Frag}
theorem x_disp {trs : List (TE × TE)} : tDisp trs σ H Q = ∀ p, H p = none → tPairs trs σ (upd H p (.dK [])) fun ps H2 => H2 p = some (.dK []) ∧ ∃ kvs : List (Key × V), ps = kvs.map (fun kv => (kV kv.1, kv.2)) ∧ kvs.length ≤ 15 ∧ Q (.ref p) (upd H2 p (.dK (mergeK [] kvs))) := rfl
theorem x_pnil {R : List (V × V) → Hp → Prop} : tPairs [] σ H R = R [] H := rfl
theorem x_pcons {tk tv : TE} {r : List (TE × TE)} {R : List (V × V) → Hp → Prop} : tPairs ((tk, tv) :: r) σ H R = tk σ H fun x H1 => tv σ H1 fun y H2 => tPairs r σ H2 fun ps H3 => R ((x, y) :: ps) H3 := rfl
theorem r_lenT {a : Addr} {xs : List V} (h : H a = some (.tup xs)) (q : Q (.int (xs.length : Int)) H) : L2.rLen K [.ref a] H Q := ⟨_, _, rfl, .inr ⟨_, .inl (.inl h), rfl⟩, q⟩
theorem call_maxK {X : Cx} {K : PySem.W.Frag} (hK : X.K = K) (hc : X.calm = true) : CallR X (.builtin "max") (rMax K) := hK ▸ cr_max hc
theorem call_minK {X : Cx} {K : PySem.W.Frag} (hK : X.K = K) (hc : X.calm = true) : CallR X (.builtin "min") (rMin K) := hK ▸ cr_min hc
end
end G
namespace G
open PySem PySem.Spec PySem.Calls PyProof.Rows L2 He
/-! ### d.get(x), x None too -/
/-- a dict of ints and texts, seen with keys that may be None -/
theorem leaf_map {P : Program} {w : World} {h : Heap} {a : Addr} {vs : List (Key × Value)} (d : h.DictOf (mixKind P w) a vs) : ∃ f, h.MapOf (leafKind P w) a f ∧ f .none = none := by
  obtain ⟨o, es, ep, h1, h2, h3, h4, -, -⟩ := d
  refine ⟨fun k => findBy (leafKind P w).is es k, ⟨o, es, ep, h1, h2, h3, fun e m => ?_, fun k => rfl⟩, ?_⟩
  · obtain ⟨k, hk, hh⟩ := h4 e m
    cases k with
    | inl i =>
      obtain ⟨t, et⟩ := Value.isInt_shape (k := i) (v := e.key) hk
      exact ⟨.num i, by rw [et]; exact decide_eq_true rfl, hh⟩
    | inr x => exact ⟨.text x, hk, hh⟩
  · show (Array.find? (fun e => (leafKind P w).is .none e.key) es).map (·.val) = none
    rw [Array.find?_eq_none.mpr fun e m => ?_]
    · rfl
    · obtain ⟨k, hk, -⟩ := h4 e m
      rcases keyIs_shape hk with ⟨i, t, -, e2⟩ | ⟨x, t, -, e2⟩ <;> (rw [e2]; exact Bool.false_ne_true)
theorem d_getN {X : Cx} {pins : List (Addr × Obj)} {σ : L2.St} {H : Hp} {s : Shared} {a : Addr} {kvs : List (Key × V)} {A : Around} {E : Value → Shared → Prop} {Q : Value → Shared → Prop} (I : Inv X pins σ H s) (e : Rd H a (.dK kvs)) (h : ∀ s', Inv X pins σ H s' → Q .none s') :
    wpAny (model X.prog X.w) A (call (.builtin "dict.get") [.ref a, .none]) Q E s := by
  obtain ⟨z, hd, vs, rel, dd⟩ := dk_rd I.hok e
  obtain ⟨f, fm, fn⟩ := leaf_map dd
  refine call_meetsIn PySem.F.slot_dict_get dd.typeIs PySem.F.entry_dict_get (PySem.F.args_dict_get_2 _ _) (meets_dict_get (leafKind X.prog X.w) (k := .none) (key := .none) a rfl hd) ⟨f, fm, ?_⟩
  rw [fn]
  exact h _ (I.tok _)
def tDGetN (td ty : TE) : TE := fun σ H Q => td σ H fun x H1 => ∃ a, x = .ref a ∧ IsD H1 a ∧ ty σ H1 fun y H2 => (y = .non ∧ (∃ kvs, Rd H2 a (.dK kvs)) ∧ Q .non H2) ∨ ∃ o, DGet H2 a y o ∧ Q (o.getD .non) H2
theorem pe_dgetN {X : Cx} {o e : Expr} {apos cpos : Pos} {td ty : TE} (hu : X.A.units + 1 < cLine) (ho : PE X o td) (he : PE X e ty) (m : M1 X o "get" apos e cpos) : PE X (.Call (.Attribute o "get" apos) [e] [] cpos) (tDGetN td ty) := by
  refine ⟨fun pins s σ H Q I h => ?_⟩
  refine wpAny_Call_method m.base m.few m.line PySem.F.plainAttrs_dict PySem.F.slot_dict_get PySem.F.type_dict_get (thn (ho.run pins s σ H _ I h) fun u s1 ⟨x, H1, I1, rx, a, ex, d, q1⟩ => ?_)
  subst ex
  obtain rfl : u = Value.ref a := rx
  obtain ⟨t1, t2, _⟩ := isD_at I1 d
  refine ⟨t1, t2, ?_⟩
  rw [m.trees]
  refine Calls.callWith_builtin rfl (Calls.evalArgs_plain (Calls.spliced_cons (thn (he.run pins s1 σ H1 _ I1 q1) fun iv s2 ⟨y, H2, I2, ry, q2⟩ => Calls.spliced_nil ?_)))
  rcases q2 with ⟨rfl, ⟨kvs, rd⟩, q2⟩ | ⟨ov, g, q2⟩
  · obtain rfl : iv = Value.none := ry
    exact d_getN I2 rd fun s3 I3 => ⟨.non, H2, I3, rfl, q2⟩
  · exact d_get1 hu I2 g ry fun w' s3 I3 rw' => ⟨_, H2, I3, rw', q2⟩
theorem x_dgetN {σ : L2.St} {H : Hp} {Q : VK} {td ty : TE} : tDGetN td ty σ H Q = td σ H fun x H1 => ∃ a, x = .ref a ∧ IsD H1 a ∧ ty σ H1 fun y H2 => (y = .non ∧ (∃ kvs, Rd H2 a (.dK kvs)) ∧ Q .non H2) ∨ ∃ o, DGet H2 a y o ∧ Q (o.getD .non) H2 := rfl
end G
namespace Pr
open PySem PySem.Spec PyProof.Rows L2 G
local macro_rules | `(tactic| walk_at "x") => `(tactic| try simp only [↓x_var0, ↓x_varS, ↓x_c, ↓x_op, ↓x_un, ↓x_cb, ↓x_nil, ↓x_cons, ↓x_test, ↓x_b, ↓x_ex, ↓x_and, ↓x_or, ↓x_not, ↓x_andV, ↓x_orV, ↓x_notV, ↓x_tif, ↓x_chain, ↓x_menu, ↓x_menuI, ↓x_lst, ↓x_tup, ↓x_dnew, ↓x_callW, ↓x_callN, ↓x_seq, ↓x_next, ↓x_ret, ↓x_retN, ↓x_drop, ↓x_ifS, ↓x_asg, ↓x_name, ↓x_raise, ↓x_fld, ↓x_setF, ↓x_meth, ↓x_make, ↓x_sub, ↓r_min, ↓r_max, ↓x_yes, ↓x_for, ↓x_lock, ↓x_keys, ↓x_cut, ↓x_lc, ↓x_rng1, ↓x_rng2, ↓x_lst1, ↓x_itup, ↓x_rng3, ↓x_three, ↓x_lstg, ↓x_tupg, ↓x_adrS, ↓x_one, ↓x_two, ↓x_adr, ↓x_sl, ↓x_np, ↓x_pt, ↓x_int, ↓x_bm, ↓x_bm0, ↓x_consg, ↓x_nilg, ↓x_dget2, ↓x_dget1, ↓x_dgetN, ↓x_dget, ↓x_din, ↓x_dni, ↓x_dput, ↓x_dpop2, ↓r_isB, ↓r_notB, ↓x_enum, ↓x_zip, ↓x_str, ↓x_strE, ↓r_inS, ↓r_ninS, wipe, List.map_cons, List.map_nil, ↓x_isT, ↓r_isiII, ↓r_isiBB, ↓r_isiIB, ↓r_isiSS, ↓r_neNS, ↓r_neSN, ↓r_neNN, ↓r_eqNS, ↓r_eqSN, ↓r_eqNN, ↓r_eqIS, ↓r_neIS, ↓r_neSI, ↓r_neBS, ↓r_eqBB, ↓r_neBB, ↓x_start, ↓x_K, ↓x_start0, ↓r_i0, ↓r_i, ↓r_u, ↓r_addI, ↓r_addS, ↓r_mulI, ↓r_mulS, ↓r_eqI, ↓r_neI, ↓r_eqS, ↓r_neS, ↓r_absI, ↓r_intI, ↓r_intB, List.length_cons, List.length_nil, List.replicate, List.set_cons_zero, List.set_cons_succ, decide_eq_true_eq, Bool.not_eq_true', decide_eq_false_iff_not, if_true, if_false, Bool.false_eq_true, Bool.true_eq_false, ite_true, ite_false, Bool.not_true, Bool.not_false, c_div, n_ten, c_pow, not_true_eq_false, not_false_eq_true, decide_true, decide_false, true_and, and_true, and_self, true_or, or_true, Int.reduceLT, Int.reduceLE, Int.reduceMul, Int.reduceAdd, Int.reduceSub, Int.reducePow, Int.reduceNeg, Int.reduceDiv, Int.reduceMod, Nat.reducePow, Int.reduceToNat, Int.reduceEq, Int.reduceNe, Nat.reduceLT, Nat.reduceLeDiff, Nat.reduceAdd])

/-! ## the text by places -/
def top (i : Nat) : Stmt := PySem.Challenge.pw_cellkeep_k16_whole_slid.main.body.getD i (.Pass ⟨0, 0, 0, 0⟩)
abbrev s_is_whole : Stmt := top 15
abbrev s_number_word : Stmt := top 16
abbrev s_place_word : Stmt := top 17
abbrev s_kind : Stmt := top 18
abbrev s_worth : Stmt := top 19
abbrev s_need_slots : Stmt := top 23
abbrev s_lay : Stmt := top 24
abbrev s_head_of : Stmt := top 25
abbrev s_slots_of : Stmt := top 26
abbrev s_words_of : Stmt := top 27
abbrev s_aged : Stmt := top 28
abbrev s_slot_place : Stmt := top 29
abbrev s_children : Stmt := top 30
abbrev s_reached : Stmt := top 32
abbrev s_goals : Stmt := top 34
abbrev s_turned : Stmt := top 35
abbrev s_turn_slots : Stmt := top 36
abbrev s_turn_roots : Stmt := top 37
abbrev s_collect_all : Stmt := top 38
abbrev s_Memory___init__ : Stmt := inClass (top 41) 0
abbrev s_Memory_need : Stmt := inClass (top 41) 1
abbrev s_Memory_read : Stmt := inClass (top 41) 2
abbrev s_Memory_write : Stmt := inClass (top 41) 3
abbrev s_Memory_need_stretch : Stmt := inClass (top 41) 4
abbrev s_Memory_copy : Stmt := inClass (top 41) 5
abbrev s_Space___init__ : Stmt := inClass (top 43) 0
abbrev s_Space_room : Stmt := inClass (top 43) 1
abbrev s_Space_used : Stmt := inClass (top 43) 2
abbrev s_Space_has : Stmt := inClass (top 43) 3
abbrev s_Space_take : Stmt := inClass (top 43) 4
abbrev s_Space_empty : Stmt := inClass (top 43) 5
abbrev s_Space_cut : Stmt := inClass (top 43) 6
abbrev s_Space_cells : Stmt := inClass (top 43) 7
abbrev s_Areas___init__ : Stmt := inClass (top 49) 0
abbrev s_Areas_flip : Stmt := inClass (top 49) 1
abbrev s_Areas_area_of : Stmt := inClass (top 49) 2
abbrev s_Areas_lay_young : Stmt := inClass (top 49) 3
abbrev s_Areas_lay_old : Stmt := inClass (top 49) 4
abbrev s_Book___init__ : Stmt := inClass (top 51) 0
abbrev s_Book_write : Stmt := inClass (top 51) 1
abbrev s_Book_rub : Stmt := inClass (top 51) 2
abbrev s_Book_has : Stmt := inClass (top 51) 3
abbrev s_Book_places : Stmt := inClass (top 51) 4
abbrev s_Book_clear : Stmt := inClass (top 51) 5
abbrev s_Hands___init__ : Stmt := inClass (top 54) 0
abbrev s_Hands_need : Stmt := inClass (top 54) 1
abbrev s_Hands_get : Stmt := inClass (top 54) 2
abbrev s_Hands_put : Stmt := inClass (top 54) 3
abbrev s_Hands_row : Stmt := inClass (top 54) 4
abbrev s_Lasts___init__ : Stmt := inClass (top 56) 0
abbrev s_Lasts_give : Stmt := inClass (top 56) 1
abbrev s_Lasts_need : Stmt := inClass (top 56) 2
abbrev s_Lasts_move : Stmt := inClass (top 56) 3
abbrev s_Lasts_say : Stmt := inClass (top 56) 4
abbrev s_Lasts_pending : Stmt := inClass (top 56) 5
abbrev s_Lasts_said : Stmt := inClass (top 56) 6
abbrev s_Weak___init__ : Stmt := inClass (top 58) 0
abbrev s_Weak_name : Stmt := inClass (top 58) 1
abbrev s_Weak_need : Stmt := inClass (top 58) 2
abbrev s_Weak_at : Stmt := inClass (top 58) 3
abbrev s_Weak_need_there : Stmt := inClass (top 58) 4
abbrev s_Weak_move : Stmt := inClass (top 58) 5
abbrev s_Weak_gone : Stmt := inClass (top 58) 6
abbrev s_Weak_names : Stmt := inClass (top 58) 7
abbrev s_Roots___init__ : Stmt := inClass (top 60) 0
abbrev s_Roots_starts : Stmt := inClass (top 60) 1
abbrev s__law_cell_at : Stmt := top 62
abbrev s__law_next : Stmt := top 63
abbrev s__law_lay : Stmt := top 64
abbrev s__law_laid : Stmt := top 65
abbrev s__law_word : Stmt := top 66
abbrev s__law_write : Stmt := top 67
abbrev s__law_filled : Stmt := top 68
abbrev s__law_tabled : Stmt := top 69
abbrev s__law_reached : Stmt := top 70
abbrev s__law_turned : Stmt := top 71
abbrev s__law_moved : Stmt := top 72
abbrev s__law_stands : Stmt := top 73
abbrev s__law_collected : Stmt := top 74
abbrev s__law_changed : Stmt := top 75
abbrev s_law : Stmt := top 76
def F_Memory (v0 v1 : V) : List (Str × V) := [("size", v0), ("words", v1)]
theorem pi_Memory_size {x  : V} : putF "size" x ([] : List (Str × V)) = ([("size", x)] : List (Str × V)) := rfl
theorem pf_Memory_size {x v0 v1 : V} : putF "size" x (F_Memory v0 v1) = F_Memory x v1 := rfl
theorem pi_Memory_words {x v0 : V} : putF "words" x ([("size", v0)] : List (Str × V)) = F_Memory v0 x := rfl
theorem pf_Memory_words {x v0 v1 : V} : putF "words" x (F_Memory v0 v1) = F_Memory v0 x := rfl
def F_Space (v0 v1 v2 : V) : List (Str × V) := [("begin", v0), ("end", v1), ("top", v2)]
theorem pi_Space_begin {x  : V} : putF "begin" x ([] : List (Str × V)) = ([("begin", x)] : List (Str × V)) := rfl
theorem pf_Space_begin {x v0 v1 v2 : V} : putF "begin" x (F_Space v0 v1 v2) = F_Space x v1 v2 := rfl
theorem pi_Space_end {x v0 : V} : putF "end" x ([("begin", v0)] : List (Str × V)) = ([("begin", v0), ("end", x)] : List (Str × V)) := rfl
theorem pf_Space_end {x v0 v1 v2 : V} : putF "end" x (F_Space v0 v1 v2) = F_Space v0 x v2 := rfl
theorem pi_Space_top {x v0 v1 : V} : putF "top" x ([("begin", v0), ("end", v1)] : List (Str × V)) = F_Space v0 v1 x := rfl
theorem pf_Space_top {x v0 v1 v2 : V} : putF "top" x (F_Space v0 v1 v2) = F_Space v0 v1 x := rfl
def F_Areas (v0 v1 v2 v3 : V) : List (Str × V) := [("memory", v0), ("old", v1), ("young", v2), ("spare", v3)]
theorem pi_Areas_memory {x  : V} : putF "memory" x ([] : List (Str × V)) = ([("memory", x)] : List (Str × V)) := rfl
theorem pf_Areas_memory {x v0 v1 v2 v3 : V} : putF "memory" x (F_Areas v0 v1 v2 v3) = F_Areas x v1 v2 v3 := rfl
theorem pi_Areas_old {x v0 : V} : putF "old" x ([("memory", v0)] : List (Str × V)) = ([("memory", v0), ("old", x)] : List (Str × V)) := rfl
theorem pf_Areas_old {x v0 v1 v2 v3 : V} : putF "old" x (F_Areas v0 v1 v2 v3) = F_Areas v0 x v2 v3 := rfl
theorem pi_Areas_young {x v0 v1 : V} : putF "young" x ([("memory", v0), ("old", v1)] : List (Str × V)) = ([("memory", v0), ("old", v1), ("young", x)] : List (Str × V)) := rfl
theorem pf_Areas_young {x v0 v1 v2 v3 : V} : putF "young" x (F_Areas v0 v1 v2 v3) = F_Areas v0 v1 x v3 := rfl
theorem pi_Areas_spare {x v0 v1 v2 : V} : putF "spare" x ([("memory", v0), ("old", v1), ("young", v2)] : List (Str × V)) = F_Areas v0 v1 v2 x := rfl
theorem pf_Areas_spare {x v0 v1 v2 v3 : V} : putF "spare" x (F_Areas v0 v1 v2 v3) = F_Areas v0 v1 v2 x := rfl
def F_Book (v0 : V) : List (Str × V) := [("marks", v0)]
theorem pi_Book_marks {x  : V} : putF "marks" x ([] : List (Str × V)) = F_Book  x := rfl
theorem pf_Book_marks {x v0 : V} : putF "marks" x (F_Book v0) = F_Book x := rfl
def F_Hands (v0 : V) : List (Str × V) := [("kept", v0)]
theorem pi_Hands_kept {x  : V} : putF "kept" x ([] : List (Str × V)) = F_Hands  x := rfl
theorem pf_Hands_kept {x v0 : V} : putF "kept" x (F_Hands v0) = F_Hands x := rfl
def F_Lasts (v0 v1 : V) : List (Str × V) := [("waiting", v0), ("spoken", v1)]
theorem pi_Lasts_waiting {x  : V} : putF "waiting" x ([] : List (Str × V)) = ([("waiting", x)] : List (Str × V)) := rfl
theorem pf_Lasts_waiting {x v0 v1 : V} : putF "waiting" x (F_Lasts v0 v1) = F_Lasts x v1 := rfl
theorem pi_Lasts_spoken {x v0 : V} : putF "spoken" x ([("waiting", v0)] : List (Str × V)) = F_Lasts v0 x := rfl
theorem pf_Lasts_spoken {x v0 v1 : V} : putF "spoken" x (F_Lasts v0 v1) = F_Lasts v0 x := rfl
def F_Weak (v0 : V) : List (Str × V) := [("told", v0)]
theorem pi_Weak_told {x  : V} : putF "told" x ([] : List (Str × V)) = F_Weak  x := rfl
theorem pf_Weak_told {x v0 : V} : putF "told" x (F_Weak v0) = F_Weak x := rfl
def F_Roots (v0 v1 v2 v3 : V) : List (Str × V) := [("hands", v0), ("book", v1), ("weaks", v2), ("lasts", v3)]
theorem pi_Roots_hands {x  : V} : putF "hands" x ([] : List (Str × V)) = ([("hands", x)] : List (Str × V)) := rfl
theorem pf_Roots_hands {x v0 v1 v2 v3 : V} : putF "hands" x (F_Roots v0 v1 v2 v3) = F_Roots x v1 v2 v3 := rfl
theorem pi_Roots_book {x v0 : V} : putF "book" x ([("hands", v0)] : List (Str × V)) = ([("hands", v0), ("book", x)] : List (Str × V)) := rfl
theorem pf_Roots_book {x v0 v1 v2 v3 : V} : putF "book" x (F_Roots v0 v1 v2 v3) = F_Roots v0 x v2 v3 := rfl
theorem pi_Roots_weaks {x v0 v1 : V} : putF "weaks" x ([("hands", v0), ("book", v1)] : List (Str × V)) = ([("hands", v0), ("book", v1), ("weaks", x)] : List (Str × V)) := rfl
theorem pf_Roots_weaks {x v0 v1 v2 v3 : V} : putF "weaks" x (F_Roots v0 v1 v2 v3) = F_Roots v0 v1 x v3 := rfl
theorem pi_Roots_lasts {x v0 v1 v2 : V} : putF "lasts" x ([("hands", v0), ("book", v1), ("weaks", v2)] : List (Str × V)) = F_Roots v0 v1 v2 x := rfl
theorem pf_Roots_lasts {x v0 v1 v2 v3 : V} : putF "lasts" x (F_Roots v0 v1 v2 v3) = F_Roots v0 v1 v2 x := rfl
/-! ## the facts -/
def fa : List He.Fa := [.glo "KeepError", .glo "BadNumber", .glo "BadWord", .glo "BadCount", .glo "NoPlace", .glo "NoRoom", .glo "NoSlot", .glo "NoCell", .glo "NoHand", .glo "NoName", .glo "Memory", .glo "Space", .glo "Areas", .glo "Book", .glo "Hands", .glo "Lasts", .glo "Weak", .glo "Roots", .glo "is_whole", .glo "number_word", .glo "place_word", .glo "kind", .glo "worth", .glo "need_slots", .glo "lay", .glo "head_of", .glo "slots_of", .glo "words_of", .glo "aged", .glo "slot_place", .glo "children", .glo "reached", .glo "goals", .glo "turned", .glo "turn_slots", .glo "turn_roots", .glo "collect_all", .glo "_law_cell_at", .glo "_law_next", .glo "_law_lay", .glo "_law_laid", .glo "_law_word", .glo "_law_write", .glo "_law_filled", .glo "_law_tabled", .glo "_law_reached", .glo "_law_turned", .glo "_law_moved", .glo "_law_stands", .glo "_law_collected", .glo "_law_changed", .glo "law", .int "MOST_NUMBER" (1000000000000), .int "MOST_PLACE" (9999), .int "NOTHING" (-1), .int "MOST_SLOTS" (8), .int "MOST_AGE" (2), .int "MOST_SIZE" (4000), .int "LEAST_OLD" (4), .int "MOST_OLD" (2000), .int "LEAST_YOUNG" (2), .int "MOST_YOUNG" (500), .int "MOST_HANDS" (6), .free "isinstance", .free "len", .free "abs", .free "range", .free "sorted", .free "enumerate", .free "int", .free "bool", .free "list", .free "ValueError", .exc "KeepError", .exc "BadNumber", .exc "BadWord", .exc "BadCount", .exc "NoPlace", .exc "NoRoom", .exc "NoSlot", .exc "NoCell", .exc "NoHand", .exc "NoName", .cls "Memory", .mkr "Memory", .meth "Memory" "need", .meth "Memory" "read", .meth "Memory" "write", .meth "Memory" "need_stretch", .meth "Memory" "copy", .noat "Memory" "size", .noat "Memory" "words", .cls "Space", .mkr "Space", .meth "Space" "room", .meth "Space" "used", .meth "Space" "has", .meth "Space" "take", .meth "Space" "empty", .meth "Space" "cut", .meth "Space" "cells", .noat "Space" "begin", .noat "Space" "end", .noat "Space" "top", .cls "Areas", .mkr "Areas", .meth "Areas" "flip", .meth "Areas" "area_of", .meth "Areas" "lay_young", .meth "Areas" "lay_old", .noat "Areas" "memory", .noat "Areas" "old", .noat "Areas" "young", .noat "Areas" "spare", .cls "Book", .mkr "Book", .meth "Book" "write", .meth "Book" "rub", .meth "Book" "has", .meth "Book" "places", .meth "Book" "clear", .noat "Book" "marks", .cls "Hands", .mkr "Hands", .meth "Hands" "need", .meth "Hands" "get", .meth "Hands" "put", .meth "Hands" "row", .noat "Hands" "kept", .cls "Lasts", .mkr "Lasts", .meth "Lasts" "give", .meth "Lasts" "need", .meth "Lasts" "move", .meth "Lasts" "say", .meth "Lasts" "pending", .meth "Lasts" "said", .noat "Lasts" "waiting", .noat "Lasts" "spoken", .cls "Weak", .mkr "Weak", .meth "Weak" "name", .meth "Weak" "need", .meth "Weak" "at", .meth "Weak" "need_there", .meth "Weak" "move", .meth "Weak" "gone", .meth "Weak" "names", .noat "Weak" "told", .cls "Roots", .mkr "Roots", .meth "Roots" "starts", .noat "Roots" "hands", .noat "Roots" "book", .noat "Roots" "weaks", .noat "Roots" "lasts"]
def d_is_whole : He.DefD := ⟨("is_whole", none), "is_whole", "is_whole", defArgs s_is_whole, defBody s_is_whole, defScope s_is_whole, [], []⟩
def d_number_word : He.DefD := ⟨("number_word", none), "number_word", "number_word", defArgs s_number_word, defBody s_number_word, defScope s_number_word, [], []⟩
def d_place_word : He.DefD := ⟨("place_word", none), "place_word", "place_word", defArgs s_place_word, defBody s_place_word, defScope s_place_word, [], []⟩
def d_kind : He.DefD := ⟨("kind", none), "kind", "kind", defArgs s_kind, defBody s_kind, defScope s_kind, [], []⟩
def d_worth : He.DefD := ⟨("worth", none), "worth", "worth", defArgs s_worth, defBody s_worth, defScope s_worth, [], []⟩
def d_need_slots : He.DefD := ⟨("need_slots", none), "need_slots", "need_slots", defArgs s_need_slots, defBody s_need_slots, defScope s_need_slots, [], []⟩
def d_lay : He.DefD := ⟨("lay", none), "lay", "lay", defArgs s_lay, defBody s_lay, defScope s_lay, [], []⟩
def d_head_of : He.DefD := ⟨("head_of", none), "head_of", "head_of", defArgs s_head_of, defBody s_head_of, defScope s_head_of, [], []⟩
def d_slots_of : He.DefD := ⟨("slots_of", none), "slots_of", "slots_of", defArgs s_slots_of, defBody s_slots_of, defScope s_slots_of, [], []⟩
def d_words_of : He.DefD := ⟨("words_of", none), "words_of", "words_of", defArgs s_words_of, defBody s_words_of, defScope s_words_of, [], []⟩
def d_aged : He.DefD := ⟨("aged", none), "aged", "aged", defArgs s_aged, defBody s_aged, defScope s_aged, [], []⟩
def d_slot_place : He.DefD := ⟨("slot_place", none), "slot_place", "slot_place", defArgs s_slot_place, defBody s_slot_place, defScope s_slot_place, [], []⟩
def d_children : He.DefD := ⟨("children", none), "children", "children", defArgs s_children, defBody s_children, defScope s_children, [], []⟩
def d_reached : He.DefD := ⟨("reached", none), "reached", "reached", defArgs s_reached, defBody s_reached, defScope s_reached, [], []⟩
def d_goals : He.DefD := ⟨("goals", none), "goals", "goals", defArgs s_goals, defBody s_goals, defScope s_goals, [], []⟩
def d_turned : He.DefD := ⟨("turned", none), "turned", "turned", defArgs s_turned, defBody s_turned, defScope s_turned, [], []⟩
def d_turn_slots : He.DefD := ⟨("turn_slots", none), "turn_slots", "turn_slots", defArgs s_turn_slots, defBody s_turn_slots, defScope s_turn_slots, [], []⟩
def d_turn_roots : He.DefD := ⟨("turn_roots", none), "turn_roots", "turn_roots", defArgs s_turn_roots, defBody s_turn_roots, defScope s_turn_roots, [], []⟩
def d_collect_all : He.DefD := ⟨("collect_all", none), "collect_all", "collect_all", defArgs s_collect_all, defBody s_collect_all, defScope s_collect_all, [], []⟩
def d_Memory___init__ : He.DefD := ⟨("Memory", some "__init__"), "__init__", "Memory.__init__", defArgs s_Memory___init__, defBody s_Memory___init__, defScope s_Memory___init__, [], []⟩
def d_Memory_need : He.DefD := ⟨("Memory", some "need"), "need", "Memory.need", defArgs s_Memory_need, defBody s_Memory_need, defScope s_Memory_need, [], []⟩
def d_Memory_read : He.DefD := ⟨("Memory", some "read"), "read", "Memory.read", defArgs s_Memory_read, defBody s_Memory_read, defScope s_Memory_read, [], []⟩
def d_Memory_write : He.DefD := ⟨("Memory", some "write"), "write", "Memory.write", defArgs s_Memory_write, defBody s_Memory_write, defScope s_Memory_write, [], []⟩
def d_Memory_need_stretch : He.DefD := ⟨("Memory", some "need_stretch"), "need_stretch", "Memory.need_stretch", defArgs s_Memory_need_stretch, defBody s_Memory_need_stretch, defScope s_Memory_need_stretch, [], []⟩
def d_Memory_copy : He.DefD := ⟨("Memory", some "copy"), "copy", "Memory.copy", defArgs s_Memory_copy, defBody s_Memory_copy, defScope s_Memory_copy, [], []⟩
def d_Space___init__ : He.DefD := ⟨("Space", some "__init__"), "__init__", "Space.__init__", defArgs s_Space___init__, defBody s_Space___init__, defScope s_Space___init__, [], []⟩
def d_Space_room : He.DefD := ⟨("Space", some "room"), "room", "Space.room", defArgs s_Space_room, defBody s_Space_room, defScope s_Space_room, [], []⟩
def d_Space_used : He.DefD := ⟨("Space", some "used"), "used", "Space.used", defArgs s_Space_used, defBody s_Space_used, defScope s_Space_used, [], []⟩
def d_Space_has : He.DefD := ⟨("Space", some "has"), "has", "Space.has", defArgs s_Space_has, defBody s_Space_has, defScope s_Space_has, [], []⟩
def d_Space_take : He.DefD := ⟨("Space", some "take"), "take", "Space.take", defArgs s_Space_take, defBody s_Space_take, defScope s_Space_take, [], []⟩
def d_Space_empty : He.DefD := ⟨("Space", some "empty"), "empty", "Space.empty", defArgs s_Space_empty, defBody s_Space_empty, defScope s_Space_empty, [], []⟩
def d_Space_cut : He.DefD := ⟨("Space", some "cut"), "cut", "Space.cut", defArgs s_Space_cut, defBody s_Space_cut, defScope s_Space_cut, [], []⟩
def d_Space_cells : He.DefD := ⟨("Space", some "cells"), "cells", "Space.cells", defArgs s_Space_cells, defBody s_Space_cells, defScope s_Space_cells, [], []⟩
def d_Areas___init__ : He.DefD := ⟨("Areas", some "__init__"), "__init__", "Areas.__init__", defArgs s_Areas___init__, defBody s_Areas___init__, defScope s_Areas___init__, [], []⟩
def d_Areas_flip : He.DefD := ⟨("Areas", some "flip"), "flip", "Areas.flip", defArgs s_Areas_flip, defBody s_Areas_flip, defScope s_Areas_flip, [], []⟩
def d_Areas_area_of : He.DefD := ⟨("Areas", some "area_of"), "area_of", "Areas.area_of", defArgs s_Areas_area_of, defBody s_Areas_area_of, defScope s_Areas_area_of, [], []⟩
def d_Areas_lay_young : He.DefD := ⟨("Areas", some "lay_young"), "lay_young", "Areas.lay_young", defArgs s_Areas_lay_young, defBody s_Areas_lay_young, defScope s_Areas_lay_young, [], []⟩
def d_Areas_lay_old : He.DefD := ⟨("Areas", some "lay_old"), "lay_old", "Areas.lay_old", defArgs s_Areas_lay_old, defBody s_Areas_lay_old, defScope s_Areas_lay_old, [], []⟩
def d_Book___init__ : He.DefD := ⟨("Book", some "__init__"), "__init__", "Book.__init__", defArgs s_Book___init__, defBody s_Book___init__, defScope s_Book___init__, [], []⟩
def d_Book_write : He.DefD := ⟨("Book", some "write"), "write", "Book.write", defArgs s_Book_write, defBody s_Book_write, defScope s_Book_write, [], []⟩
def d_Book_rub : He.DefD := ⟨("Book", some "rub"), "rub", "Book.rub", defArgs s_Book_rub, defBody s_Book_rub, defScope s_Book_rub, [], []⟩
def d_Book_has : He.DefD := ⟨("Book", some "has"), "has", "Book.has", defArgs s_Book_has, defBody s_Book_has, defScope s_Book_has, [], []⟩
def d_Book_places : He.DefD := ⟨("Book", some "places"), "places", "Book.places", defArgs s_Book_places, defBody s_Book_places, defScope s_Book_places, [], []⟩
def d_Book_clear : He.DefD := ⟨("Book", some "clear"), "clear", "Book.clear", defArgs s_Book_clear, defBody s_Book_clear, defScope s_Book_clear, [], []⟩
def d_Hands___init__ : He.DefD := ⟨("Hands", some "__init__"), "__init__", "Hands.__init__", defArgs s_Hands___init__, defBody s_Hands___init__, defScope s_Hands___init__, [], []⟩
def d_Hands_need : He.DefD := ⟨("Hands", some "need"), "need", "Hands.need", defArgs s_Hands_need, defBody s_Hands_need, defScope s_Hands_need, [], []⟩
def d_Hands_get : He.DefD := ⟨("Hands", some "get"), "get", "Hands.get", defArgs s_Hands_get, defBody s_Hands_get, defScope s_Hands_get, [], []⟩
def d_Hands_put : He.DefD := ⟨("Hands", some "put"), "put", "Hands.put", defArgs s_Hands_put, defBody s_Hands_put, defScope s_Hands_put, [], []⟩
def d_Hands_row : He.DefD := ⟨("Hands", some "row"), "row", "Hands.row", defArgs s_Hands_row, defBody s_Hands_row, defScope s_Hands_row, [], []⟩
def d_Lasts___init__ : He.DefD := ⟨("Lasts", some "__init__"), "__init__", "Lasts.__init__", defArgs s_Lasts___init__, defBody s_Lasts___init__, defScope s_Lasts___init__, [], []⟩
def d_Lasts_give : He.DefD := ⟨("Lasts", some "give"), "give", "Lasts.give", defArgs s_Lasts_give, defBody s_Lasts_give, defScope s_Lasts_give, [], []⟩
def d_Lasts_need : He.DefD := ⟨("Lasts", some "need"), "need", "Lasts.need", defArgs s_Lasts_need, defBody s_Lasts_need, defScope s_Lasts_need, [], []⟩
def d_Lasts_move : He.DefD := ⟨("Lasts", some "move"), "move", "Lasts.move", defArgs s_Lasts_move, defBody s_Lasts_move, defScope s_Lasts_move, [], []⟩
def d_Lasts_say : He.DefD := ⟨("Lasts", some "say"), "say", "Lasts.say", defArgs s_Lasts_say, defBody s_Lasts_say, defScope s_Lasts_say, [], []⟩
def d_Lasts_pending : He.DefD := ⟨("Lasts", some "pending"), "pending", "Lasts.pending", defArgs s_Lasts_pending, defBody s_Lasts_pending, defScope s_Lasts_pending, [], []⟩
def d_Lasts_said : He.DefD := ⟨("Lasts", some "said"), "said", "Lasts.said", defArgs s_Lasts_said, defBody s_Lasts_said, defScope s_Lasts_said, [], []⟩
def d_Weak___init__ : He.DefD := ⟨("Weak", some "__init__"), "__init__", "Weak.__init__", defArgs s_Weak___init__, defBody s_Weak___init__, defScope s_Weak___init__, [], []⟩
def d_Weak_name : He.DefD := ⟨("Weak", some "name"), "name", "Weak.name", defArgs s_Weak_name, defBody s_Weak_name, defScope s_Weak_name, [], []⟩
def d_Weak_need : He.DefD := ⟨("Weak", some "need"), "need", "Weak.need", defArgs s_Weak_need, defBody s_Weak_need, defScope s_Weak_need, [], []⟩
def d_Weak_at : He.DefD := ⟨("Weak", some "at"), "at", "Weak.at", defArgs s_Weak_at, defBody s_Weak_at, defScope s_Weak_at, [], []⟩
def d_Weak_need_there : He.DefD := ⟨("Weak", some "need_there"), "need_there", "Weak.need_there", defArgs s_Weak_need_there, defBody s_Weak_need_there, defScope s_Weak_need_there, [], []⟩
def d_Weak_move : He.DefD := ⟨("Weak", some "move"), "move", "Weak.move", defArgs s_Weak_move, defBody s_Weak_move, defScope s_Weak_move, [], []⟩
def d_Weak_gone : He.DefD := ⟨("Weak", some "gone"), "gone", "Weak.gone", defArgs s_Weak_gone, defBody s_Weak_gone, defScope s_Weak_gone, [], []⟩
def d_Weak_names : He.DefD := ⟨("Weak", some "names"), "names", "Weak.names", defArgs s_Weak_names, defBody s_Weak_names, defScope s_Weak_names, [], []⟩
def d_Roots___init__ : He.DefD := ⟨("Roots", some "__init__"), "__init__", "Roots.__init__", defArgs s_Roots___init__, defBody s_Roots___init__, defScope s_Roots___init__, [], []⟩
def d_Roots_starts : He.DefD := ⟨("Roots", some "starts"), "starts", "Roots.starts", defArgs s_Roots_starts, defBody s_Roots_starts, defScope s_Roots_starts, [], []⟩
def d__law_cell_at : He.DefD := ⟨("_law_cell_at", none), "_law_cell_at", "_law_cell_at", defArgs s__law_cell_at, defBody s__law_cell_at, defScope s__law_cell_at, [], []⟩
def d__law_next : He.DefD := ⟨("_law_next", none), "_law_next", "_law_next", defArgs s__law_next, defBody s__law_next, defScope s__law_next, [], []⟩
def d__law_lay : He.DefD := ⟨("_law_lay", none), "_law_lay", "_law_lay", defArgs s__law_lay, defBody s__law_lay, defScope s__law_lay, [], []⟩
def d__law_laid : He.DefD := ⟨("_law_laid", none), "_law_laid", "_law_laid", defArgs s__law_laid, defBody s__law_laid, defScope s__law_laid, [], []⟩
def d__law_word : He.DefD := ⟨("_law_word", none), "_law_word", "_law_word", defArgs s__law_word, defBody s__law_word, defScope s__law_word, [], []⟩
def d__law_write : He.DefD := ⟨("_law_write", none), "_law_write", "_law_write", defArgs s__law_write, defBody s__law_write, defScope s__law_write, [], []⟩
def d__law_filled : He.DefD := ⟨("_law_filled", none), "_law_filled", "_law_filled", defArgs s__law_filled, defBody s__law_filled, defScope s__law_filled, [], []⟩
def d__law_tabled : He.DefD := ⟨("_law_tabled", none), "_law_tabled", "_law_tabled", defArgs s__law_tabled, defBody s__law_tabled, defScope s__law_tabled, [], []⟩
def d__law_reached : He.DefD := ⟨("_law_reached", none), "_law_reached", "_law_reached", defArgs s__law_reached, defBody s__law_reached, defScope s__law_reached, [], []⟩
def d__law_turned : He.DefD := ⟨("_law_turned", none), "_law_turned", "_law_turned", defArgs s__law_turned, defBody s__law_turned, defScope s__law_turned, [], []⟩
def d__law_moved : He.DefD := ⟨("_law_moved", none), "_law_moved", "_law_moved", defArgs s__law_moved, defBody s__law_moved, defScope s__law_moved, [], []⟩
def d__law_stands : He.DefD := ⟨("_law_stands", none), "_law_stands", "_law_stands", defArgs s__law_stands, defBody s__law_stands, defScope s__law_stands, [], []⟩
def d__law_collected : He.DefD := ⟨("_law_collected", none), "_law_collected", "_law_collected", defArgs s__law_collected, defBody s__law_collected, defScope s__law_collected, [], []⟩
def d__law_changed : He.DefD := ⟨("_law_changed", none), "_law_changed", "_law_changed", defArgs s__law_changed, defBody s__law_changed, defScope s__law_changed, [], []⟩
def d_law : He.DefD := ⟨("law", none), "law", "law", defArgs s_law, defBody s_law, defScope s_law, [], []⟩
def fn : List He.DefD := [d_is_whole, d_number_word, d_place_word, d_kind, d_worth, d_need_slots, d_lay, d_head_of, d_slots_of, d_words_of, d_aged, d_slot_place, d_children, d_reached, d_goals, d_turned, d_turn_slots, d_turn_roots, d_collect_all, d_Memory___init__, d_Memory_need, d_Memory_read, d_Memory_write, d_Memory_need_stretch, d_Memory_copy, d_Space___init__, d_Space_room, d_Space_used, d_Space_has, d_Space_take, d_Space_empty, d_Space_cut, d_Space_cells, d_Areas___init__, d_Areas_flip, d_Areas_area_of, d_Areas_lay_young, d_Areas_lay_old, d_Book___init__, d_Book_write, d_Book_rub, d_Book_has, d_Book_places, d_Book_clear, d_Hands___init__, d_Hands_need, d_Hands_get, d_Hands_put, d_Hands_row, d_Lasts___init__, d_Lasts_give, d_Lasts_need, d_Lasts_move, d_Lasts_say, d_Lasts_pending, d_Lasts_said, d_Weak___init__, d_Weak_name, d_Weak_need, d_Weak_at, d_Weak_need_there, d_Weak_move, d_Weak_gone, d_Weak_names, d_Roots___init__, d_Roots_starts, d__law_cell_at, d__law_next, d__law_lay, d__law_laid, d__law_word, d__law_write, d__law_filled, d__law_tabled, d__law_reached, d__law_turned, d__law_moved, d__law_stands, d__law_collected, d__law_changed, d_law]
def exL : XL := ⟨["KeepError", "BadNumber", "BadWord", "BadCount", "NoPlace", "NoRoom", "NoSlot", "NoCell", "NoHand", "NoName"], []⟩
abbrev Tx (K : PySem.W.Frag) (mg : Str → Option Value) : Prop := Told fa fn exL K mg
theorem sc_is_whole : FnScope ["thing"] ["thing"] (defScope s_is_whole) := ⟨rfl, rfl, rfl, by decide +kernel, rfl, by decide +kernel, by decide +kernel⟩
theorem sc_number_word : FnScope ["number"] ["number"] (defScope s_number_word) := ⟨rfl, rfl, rfl, by decide +kernel, rfl, by decide +kernel, by decide +kernel⟩
theorem sc_place_word : FnScope ["at"] ["at"] (defScope s_place_word) := ⟨rfl, rfl, rfl, by decide +kernel, rfl, by decide +kernel, by decide +kernel⟩
theorem sc_kind : FnScope ["word"] ["word"] (defScope s_kind) := ⟨rfl, rfl, rfl, by decide +kernel, rfl, by decide +kernel, by decide +kernel⟩
theorem sc_worth : FnScope ["word"] ["word"] (defScope s_worth) := ⟨rfl, rfl, rfl, by decide +kernel, rfl, by decide +kernel, by decide +kernel⟩
theorem sc_need_slots : FnScope ["slots"] ["slots"] (defScope s_need_slots) := ⟨rfl, rfl, rfl, by decide +kernel, rfl, by decide +kernel, by decide +kernel⟩
theorem sc_lay : FnScope ["memory", "at", "slots", "slot"] ["memory", "at", "slots"] (defScope s_lay) := ⟨rfl, rfl, rfl, by decide +kernel, rfl, by decide +kernel, by decide +kernel⟩
theorem sc_head_of : FnScope ["memory", "at", "word"] ["memory", "at"] (defScope s_head_of) := ⟨rfl, rfl, rfl, by decide +kernel, rfl, by decide +kernel, by decide +kernel⟩
theorem sc_slots_of : FnScope ["memory", "at"] ["memory", "at"] (defScope s_slots_of) := ⟨rfl, rfl, rfl, by decide +kernel, rfl, by decide +kernel, by decide +kernel⟩
theorem sc_words_of : FnScope ["memory", "at"] ["memory", "at"] (defScope s_words_of) := ⟨rfl, rfl, rfl, by decide +kernel, rfl, by decide +kernel, by decide +kernel⟩
theorem sc_aged : FnScope ["memory", "at", "age", "slots"] ["memory", "at", "age"] (defScope s_aged) := ⟨rfl, rfl, rfl, by decide +kernel, rfl, by decide +kernel, by decide +kernel⟩
theorem sc_slot_place : FnScope ["memory", "at", "slot", "slots"] ["memory", "at", "slot"] (defScope s_slot_place) := ⟨rfl, rfl, rfl, by decide +kernel, rfl, by decide +kernel, by decide +kernel⟩
theorem sc_children : FnScope ["memory", "at", "found", "slot", "word"] ["memory", "at"] (defScope s_children) := ⟨rfl, rfl, rfl, by decide +kernel, rfl, by decide +kernel, by decide +kernel⟩
theorem sc_reached : FnScope ["memory", "starts", "found", "met", "at", "turn"] ["memory", "starts"] (defScope s_reached) := ⟨rfl, rfl, rfl, by decide +kernel, rfl, by decide +kernel, by decide +kernel⟩
theorem sc_goals : FnScope ["areas", "kept", "found", "top", "at"] ["areas", "kept"] (defScope s_goals) := ⟨rfl, rfl, rfl, by decide +kernel, rfl, by decide +kernel, by decide +kernel⟩
theorem sc_turned : FnScope ["word", "where"] ["word", "where"] (defScope s_turned) := ⟨rfl, rfl, rfl, by decide +kernel, rfl, by decide +kernel, by decide +kernel⟩
theorem sc_turn_slots : FnScope ["memory", "at", "where", "slot", "place"] ["memory", "at", "where"] (defScope s_turn_slots) := ⟨rfl, rfl, rfl, by decide +kernel, rfl, by decide +kernel, by decide +kernel⟩
theorem sc_turn_roots : FnScope ["roots", "where", "words", "hand", "name", "at", "ticket", "number"] ["roots", "where"] (defScope s_turn_roots) := ⟨rfl, rfl, rfl, by decide +kernel, rfl, by decide +kernel, by decide +kernel⟩
theorem sc_collect_all : FnScope ["areas", "roots", "memory", "kept", "where", "at", "top", "many"] ["areas", "roots"] (defScope s_collect_all) := ⟨rfl, rfl, rfl, by decide +kernel, rfl, by decide +kernel, by decide +kernel⟩
theorem sc_Memory___init__ : FnScope ["self", "size", "at"] ["self", "size"] (defScope s_Memory___init__) := ⟨rfl, rfl, rfl, by decide +kernel, rfl, by decide +kernel, by decide +kernel⟩
theorem sc_Memory_need : FnScope ["self", "at"] ["self", "at"] (defScope s_Memory_need) := ⟨rfl, rfl, rfl, by decide +kernel, rfl, by decide +kernel, by decide +kernel⟩
theorem sc_Memory_read : FnScope ["self", "at"] ["self", "at"] (defScope s_Memory_read) := ⟨rfl, rfl, rfl, by decide +kernel, rfl, by decide +kernel, by decide +kernel⟩
theorem sc_Memory_write : FnScope ["self", "at", "word"] ["self", "at", "word"] (defScope s_Memory_write) := ⟨rfl, rfl, rfl, by decide +kernel, rfl, by decide +kernel, by decide +kernel⟩
theorem sc_Memory_need_stretch : FnScope ["self", "at", "many"] ["self", "at", "many"] (defScope s_Memory_need_stretch) := ⟨rfl, rfl, rfl, by decide +kernel, rfl, by decide +kernel, by decide +kernel⟩
theorem sc_Memory_copy : FnScope ["self", "start", "goal", "many", "row", "turn"] ["self", "start", "goal", "many"] (defScope s_Memory_copy) := ⟨rfl, rfl, rfl, by decide +kernel, rfl, by decide +kernel, by decide +kernel⟩
theorem sc_Space___init__ : FnScope ["self", "begin", "end"] ["self", "begin", "end"] (defScope s_Space___init__) := ⟨rfl, rfl, rfl, by decide +kernel, rfl, by decide +kernel, by decide +kernel⟩
theorem sc_Space_room : FnScope ["self"] ["self"] (defScope s_Space_room) := ⟨rfl, rfl, rfl, by decide +kernel, rfl, by decide +kernel, by decide +kernel⟩
theorem sc_Space_used : FnScope ["self"] ["self"] (defScope s_Space_used) := ⟨rfl, rfl, rfl, by decide +kernel, rfl, by decide +kernel, by decide +kernel⟩
theorem sc_Space_has : FnScope ["self", "at"] ["self", "at"] (defScope s_Space_has) := ⟨rfl, rfl, rfl, by decide +kernel, rfl, by decide +kernel, by decide +kernel⟩
theorem sc_Space_take : FnScope ["self", "many", "at"] ["self", "many"] (defScope s_Space_take) := ⟨rfl, rfl, rfl, by decide +kernel, rfl, by decide +kernel, by decide +kernel⟩
theorem sc_Space_empty : FnScope ["self"] ["self"] (defScope s_Space_empty) := ⟨rfl, rfl, rfl, by decide +kernel, rfl, by decide +kernel, by decide +kernel⟩
theorem sc_Space_cut : FnScope ["self", "top"] ["self", "top"] (defScope s_Space_cut) := ⟨rfl, rfl, rfl, by decide +kernel, rfl, by decide +kernel, by decide +kernel⟩
theorem sc_Space_cells : FnScope ["self", "memory", "found", "at"] ["self", "memory"] (defScope s_Space_cells) := ⟨rfl, rfl, rfl, by decide +kernel, rfl, by decide +kernel, by decide +kernel⟩
theorem sc_Areas___init__ : FnScope ["self", "old_words", "young_words"] ["self", "old_words", "young_words"] (defScope s_Areas___init__) := ⟨rfl, rfl, rfl, by decide +kernel, rfl, by decide +kernel, by decide +kernel⟩
theorem sc_Areas_flip : FnScope ["self", "kept"] ["self"] (defScope s_Areas_flip) := ⟨rfl, rfl, rfl, by decide +kernel, rfl, by decide +kernel, by decide +kernel⟩
theorem sc_Areas_area_of : FnScope ["self", "at"] ["self", "at"] (defScope s_Areas_area_of) := ⟨rfl, rfl, rfl, by decide +kernel, rfl, by decide +kernel, by decide +kernel⟩
theorem sc_Areas_lay_young : FnScope ["self", "slots", "at"] ["self", "slots"] (defScope s_Areas_lay_young) := ⟨rfl, rfl, rfl, by decide +kernel, rfl, by decide +kernel, by decide +kernel⟩
theorem sc_Areas_lay_old : FnScope ["self", "slots", "at"] ["self", "slots"] (defScope s_Areas_lay_old) := ⟨rfl, rfl, rfl, by decide +kernel, rfl, by decide +kernel, by decide +kernel⟩
theorem sc_Book___init__ : FnScope ["self"] ["self"] (defScope s_Book___init__) := ⟨rfl, rfl, rfl, by decide +kernel, rfl, by decide +kernel, by decide +kernel⟩
theorem sc_Book_write : FnScope ["self", "place"] ["self", "place"] (defScope s_Book_write) := ⟨rfl, rfl, rfl, by decide +kernel, rfl, by decide +kernel, by decide +kernel⟩
theorem sc_Book_rub : FnScope ["self", "place"] ["self", "place"] (defScope s_Book_rub) := ⟨rfl, rfl, rfl, by decide +kernel, rfl, by decide +kernel, by decide +kernel⟩
theorem sc_Book_has : FnScope ["self", "place"] ["self", "place"] (defScope s_Book_has) := ⟨rfl, rfl, rfl, by decide +kernel, rfl, by decide +kernel, by decide +kernel⟩
theorem sc_Book_places : FnScope ["self"] ["self"] (defScope s_Book_places) := ⟨rfl, rfl, rfl, by decide +kernel, rfl, by decide +kernel, by decide +kernel⟩
theorem sc_Book_clear : FnScope ["self"] ["self"] (defScope s_Book_clear) := ⟨rfl, rfl, rfl, by decide +kernel, rfl, by decide +kernel, by decide +kernel⟩
theorem sc_Hands___init__ : FnScope ["self", "many", "hand"] ["self", "many"] (defScope s_Hands___init__) := ⟨rfl, rfl, rfl, by decide +kernel, rfl, by decide +kernel, by decide +kernel⟩
theorem sc_Hands_need : FnScope ["self", "hand"] ["self", "hand"] (defScope s_Hands_need) := ⟨rfl, rfl, rfl, by decide +kernel, rfl, by decide +kernel, by decide +kernel⟩
theorem sc_Hands_get : FnScope ["self", "hand"] ["self", "hand"] (defScope s_Hands_get) := ⟨rfl, rfl, rfl, by decide +kernel, rfl, by decide +kernel, by decide +kernel⟩
theorem sc_Hands_put : FnScope ["self", "hand", "word"] ["self", "hand", "word"] (defScope s_Hands_put) := ⟨rfl, rfl, rfl, by decide +kernel, rfl, by decide +kernel, by decide +kernel⟩
theorem sc_Hands_row : FnScope ["self"] ["self"] (defScope s_Hands_row) := ⟨rfl, rfl, rfl, by decide +kernel, rfl, by decide +kernel, by decide +kernel⟩
theorem sc_Lasts___init__ : FnScope ["self"] ["self"] (defScope s_Lasts___init__) := ⟨rfl, rfl, rfl, by decide +kernel, rfl, by decide +kernel, by decide +kernel⟩
theorem sc_Lasts_give : FnScope ["self", "at", "number"] ["self", "at", "number"] (defScope s_Lasts_give) := ⟨rfl, rfl, rfl, by decide +kernel, rfl, by decide +kernel, by decide +kernel⟩
theorem sc_Lasts_need : FnScope ["self", "ticket"] ["self", "ticket"] (defScope s_Lasts_need) := ⟨rfl, rfl, rfl, by decide +kernel, rfl, by decide +kernel, by decide +kernel⟩
theorem sc_Lasts_move : FnScope ["self", "ticket", "at"] ["self", "ticket", "at"] (defScope s_Lasts_move) := ⟨rfl, rfl, rfl, by decide +kernel, rfl, by decide +kernel, by decide +kernel⟩
theorem sc_Lasts_say : FnScope ["self", "ticket"] ["self", "ticket"] (defScope s_Lasts_say) := ⟨rfl, rfl, rfl, by decide +kernel, rfl, by decide +kernel, by decide +kernel⟩
theorem sc_Lasts_pending : FnScope ["self", "found", "ticket", "pair"] ["self"] (defScope s_Lasts_pending) := ⟨rfl, rfl, rfl, by decide +kernel, rfl, by decide +kernel, by decide +kernel⟩
theorem sc_Lasts_said : FnScope ["self"] ["self"] (defScope s_Lasts_said) := ⟨rfl, rfl, rfl, by decide +kernel, rfl, by decide +kernel, by decide +kernel⟩
theorem sc_Weak___init__ : FnScope ["self"] ["self"] (defScope s_Weak___init__) := ⟨rfl, rfl, rfl, by decide +kernel, rfl, by decide +kernel, by decide +kernel⟩
theorem sc_Weak_name : FnScope ["self", "at"] ["self", "at"] (defScope s_Weak_name) := ⟨rfl, rfl, rfl, by decide +kernel, rfl, by decide +kernel, by decide +kernel⟩
theorem sc_Weak_need : FnScope ["self", "name"] ["self", "name"] (defScope s_Weak_need) := ⟨rfl, rfl, rfl, by decide +kernel, rfl, by decide +kernel, by decide +kernel⟩
theorem sc_Weak_at : FnScope ["self", "name"] ["self", "name"] (defScope s_Weak_at) := ⟨rfl, rfl, rfl, by decide +kernel, rfl, by decide +kernel, by decide +kernel⟩
theorem sc_Weak_need_there : FnScope ["self", "name"] ["self", "name"] (defScope s_Weak_need_there) := ⟨rfl, rfl, rfl, by decide +kernel, rfl, by decide +kernel, by decide +kernel⟩
theorem sc_Weak_move : FnScope ["self", "name", "at"] ["self", "name", "at"] (defScope s_Weak_move) := ⟨rfl, rfl, rfl, by decide +kernel, rfl, by decide +kernel, by decide +kernel⟩
theorem sc_Weak_gone : FnScope ["self", "name"] ["self", "name"] (defScope s_Weak_gone) := ⟨rfl, rfl, rfl, by decide +kernel, rfl, by decide +kernel, by decide +kernel⟩
theorem sc_Weak_names : FnScope ["self", "name", "at"] ["self"] (defScope s_Weak_names) := ⟨rfl, rfl, rfl, by decide +kernel, rfl, by decide +kernel, by decide +kernel⟩
theorem sc_Roots___init__ : FnScope ["self", "many"] ["self", "many"] (defScope s_Roots___init__) := ⟨rfl, rfl, rfl, by decide +kernel, rfl, by decide +kernel, by decide +kernel⟩
theorem sc_Roots_starts : FnScope ["self", "word"] ["self"] (defScope s_Roots_starts) := ⟨rfl, rfl, rfl, by decide +kernel, rfl, by decide +kernel, by decide +kernel⟩
theorem sc__law_cell_at : FnScope ["_law_script", "_law_k"] ["_law_script", "_law_k"] (defScope s__law_cell_at) := ⟨rfl, rfl, rfl, by decide +kernel, rfl, by decide +kernel, by decide +kernel⟩
theorem sc__law_next : FnScope ["_law_seed"] ["_law_seed"] (defScope s__law_next) := ⟨rfl, rfl, rfl, by decide +kernel, rfl, by decide +kernel, by decide +kernel⟩
theorem sc__law_lay : FnScope ["_law_areas", "_law_side", "_law_slots", "_law_cells", "_law_at", "_law_slot"] ["_law_areas", "_law_side", "_law_slots", "_law_cells"] (defScope s__law_lay) := ⟨rfl, rfl, rfl, by decide +kernel, rfl, by decide +kernel, by decide +kernel⟩
theorem sc__law_laid : FnScope ["_law_areas", "_law_rooms", "_law_script", "_law_cells", "_law_seed", "_law_used", "_law_k", "_law_slots", "_law_side", "_law_at"] ["_law_areas", "_law_rooms", "_law_script"] (defScope s__law_laid) := ⟨rfl, rfl, rfl, by decide +kernel, rfl, by decide +kernel, by decide +kernel⟩
theorem sc__law_word : FnScope ["_law_cells", "_law_seed", "_law_pick"] ["_law_cells", "_law_seed"] (defScope s__law_word) := ⟨rfl, rfl, rfl, by decide +kernel, rfl, by decide +kernel, by decide +kernel⟩
theorem sc__law_write : FnScope ["_law_areas", "_law_roots", "_law_cells", "_law_at", "_law_slot", "_law_word_here"] ["_law_areas", "_law_roots", "_law_cells", "_law_at", "_law_slot", "_law_word_here"] (defScope s__law_write) := ⟨rfl, rfl, rfl, by decide +kernel, rfl, by decide +kernel, by decide +kernel⟩
theorem sc__law_filled : FnScope ["_law_areas", "_law_roots", "_law_cells", "_law_seed", "_law_at", "_law_slot"] ["_law_areas", "_law_roots", "_law_cells", "_law_seed"] (defScope s__law_filled) := ⟨rfl, rfl, rfl, by decide +kernel, rfl, by decide +kernel, by decide +kernel⟩
theorem sc__law_tabled : FnScope ["_law_roots", "_law_cells", "_law_script", "_law_names", "_law_tickets", "_law_some", "_law_cell", "_law_at"] ["_law_roots", "_law_cells", "_law_script", "_law_names", "_law_tickets"] (defScope s__law_tabled) := ⟨rfl, rfl, rfl, by decide +kernel, rfl, by decide +kernel, by decide +kernel⟩
theorem sc__law_reached : FnScope ["_law_cells", "_law_hands", "_law_found", "_law_row", "_law_word_here", "_law_at"] ["_law_cells", "_law_hands"] (defScope s__law_reached) := ⟨rfl, rfl, rfl, by decide +kernel, rfl, by decide +kernel, by decide +kernel⟩
theorem sc__law_turned : FnScope ["_law_word_here", "_law_where"] ["_law_word_here", "_law_where"] (defScope s__law_turned) := ⟨rfl, rfl, rfl, by decide +kernel, rfl, by decide +kernel, by decide +kernel⟩
theorem sc__law_moved : FnScope ["_law_s", "_law_kept", "_law_where", "_law_top", "_law_at", "_law_cells", "_law_word_here", "_law_names", "_law_name", "_law_one"] ["_law_s"] (defScope s__law_moved) := ⟨rfl, rfl, rfl, by decide +kernel, rfl, by decide +kernel, by decide +kernel⟩
theorem sc__law_stands : FnScope ["_law_areas", "_law_roots", "_law_s", "_law_top", "_law_at", "_law_row", "_law_k", "_law_name", "_law_due"] ["_law_areas", "_law_roots", "_law_s", "_law_top"] (defScope s__law_stands) := ⟨rfl, rfl, rfl, by decide +kernel, rfl, by decide +kernel, by decide +kernel⟩
theorem sc__law_collected : FnScope ["_law_areas", "_law_roots", "_law_s", "_law_top", "_law_found"] ["_law_areas", "_law_roots", "_law_s"] (defScope s__law_collected) := ⟨rfl, rfl, rfl, by decide +kernel, rfl, by decide +kernel, by decide +kernel⟩
theorem sc__law_changed : FnScope ["_law_areas", "_law_roots", "_law_s", "_law_cell", "_law_rooms", "_law_seed", "_law_hand", "_law_slots", "_law_wide", "_law_at", "_law_slot"] ["_law_areas", "_law_roots", "_law_s", "_law_cell", "_law_rooms"] (defScope s__law_changed) := ⟨rfl, rfl, rfl, by decide +kernel, rfl, by decide +kernel, by decide +kernel⟩
theorem sc_law : FnScope ["_law_script", "_law_rooms", "_law_areas", "_law_many", "_law_roots", "_law_s", "_law_hand", "_law_k"] ["_law_script"] (defScope s_law) := ⟨rfl, rfl, rfl, by decide +kernel, rfl, by decide +kernel, by decide +kernel⟩

/-! ## the head and the end -/
abbrev RR : PySem.W.OpenRow := PySem.W.OpenLaw.row PySem.Challenge.rw_cellkeep_k16_whole_slid
abbrev hk : PySem.W.Hook := hookG 6 fa fn exL
def ob (s : PySem.W.SharedT) : He.AlD × Bool := lookG 6 fa fn exL (HandSHeadRun.getT s)
theorem ob_eq (s : PySem.W.SharedT) : ob s = hk.obs s.abs := lookG_eq (HandSHeadRun.getT_eq s)
def loose : List Str := (["KeepError", "BadNumber", "BadWord", "BadCount", "NoPlace", "NoRoom", "NoSlot", "NoCell", "NoHand", "NoName", "MOST_NUMBER", "MOST_PLACE", "NOTHING", "is_whole", "number_word", "place_word", "kind", "worth", "MOST_SLOTS", "MOST_AGE", "need_slots", "lay", "head_of", "slots_of", "words_of", "aged", "slot_place", "children", "reached", "goals"] : List Str) ++ (["turned", "turn_slots", "turn_roots", "collect_all", "MOST_SIZE", "Memory", "Space", "LEAST_OLD", "MOST_OLD", "LEAST_YOUNG", "MOST_YOUNG", "Areas", "Book", "MOST_HANDS", "Hands", "Lasts", "Weak", "Roots", "_law_cell_at", "_law_next", "_law_lay", "_law_laid", "_law_word", "_law_write", "_law_filled", "_law_tabled", "_law_reached", "_law_turned", "_law_moved", "_law_stands"] : List Str) ++ (["_law_collected", "_law_changed"] : List Str)
theorem run (w : World) : HandSHeadRun.RunEq RR (PySem.W.view RR.prog [76]) hk ob 16000 loose w := by
  intro os
  kernel_rfl

/-! ## words -/
/-- a plain thing that is no whole number -/
def Odd (H : Hp) (v : V) : Prop := ∃ t, tyOf v H = some t ∧ t ≠ "int"
theorem odd_not {H : Hp} {n : Int} : ¬ Odd H (.int n) := fun ⟨t, e, h⟩ => h (Option.some.inj e).symm
theorem odd_bl {H : Hp} {b : Bool} : Odd H (.bl b) := ⟨"bool", rfl, by decide⟩
theorem odd_non {H : Hp} : Odd H .non := ⟨"NoneType", rfl, by decide⟩
theorem odd_str {H : Hp} {z : Str} : Odd H (.str z) := ⟨"str", rfl, by decide⟩
theorem odd_lst {H : Hp} {a : Addr} {xs : List V} (h : H a = some (.lst xs)) : Odd H (.ref a) := ⟨"list", by show tyO (H a) = _; rw [h]; rfl, by decide⟩
theorem odd_tup {H : Hp} {a : Addr} {xs : List V} (h : H a = some (.tup xs)) : Odd H (.ref a) := ⟨"tuple", by show tyO (H a) = _; rw [h]; rfl, by decide⟩
theorem odd_dK {H : Hp} {a : Addr} {kvs : List (Key × V)} (h : H a = some (.dK kvs)) : Odd H (.ref a) := ⟨"dict", by show tyO (H a) = _; rw [h]; rfl, by decide⟩
inductive Wd where
  | num (n : Int) | place (p : Int) | nothing
  deriving DecidableEq
def Wd.kind : Wd → Str
  | .num _ => "number"
  | .place _ => "place"
  | .nothing => "nothing"
def Wd.worth : Wd → V
  | .num n => .int n
  | .place p => .int p
  | .nothing => .non
def wordOf (n : Int) : Option Wd := if n = -1 then some .nothing else if n % 2 = 0 ∧ (n.natAbs : Int) ≤ 2000000000000 then some (.num (n / 2)) else if n % 2 = 1 ∧ 0 < n ∧ n ≤ 19999 then some (.place (n / 2)) else none
abbrev Ex (K : PySem.W.Frag) (x : Str) : Value := .ref (He.ga K x)
def sp_is_whole : Sp
  | [.int _], H, Q, _ => Q (.bl true) H
  | [v], H, Q, _ => Odd H v ∧ Q (.bl false) H
  | _, _, _, _ => False
theorem len_is_whole {vs H Q E} (h : sp_is_whole vs H Q E) : vs.length = 1 := by unfold sp_is_whole at h; split at h <;> first | rfl | exact h.elim
theorem odd_whole {H : Hp} {v : V} {Q : VK} {E : XK} (h : Odd H v) : sp_is_whole [v] H Q E = Q (.bl false) H := by
  cases v with
  | int n => exact (odd_not h).elim
  | _ => exact propext ⟨fun z => z.2, fun z => ⟨h, z⟩⟩
theorem x_whole {H : Hp} {n : Int} {Q : VK} {E : XK} : sp_is_whole [.int n] H Q E = Q (.bl true) H := rfl
/-- the two questions of is_whole -/
theorem whole_odd {H : Hp} {v : V} {Q : VK} (h : Odd H v) (q : Q (.bl false) H) : gIsi [v, .ty "int"] H fun x H1 => ∃ c, x = .bl c ∧ if c = true then gIsi [v, .ty "bool"] H1 (fun x H2 => ∃ c, x = .bl c ∧ Q (.bl (!c)) H2) else Q (.bl false) H1 := by
  obtain ⟨t, e, ne⟩ := h
  refine ⟨by decide, t, e, _, rfl, ?_⟩
  have m := tyOf_in e
  split
  · rename_i c
    have tb : t = "bool" := by
      simp only [tys, List.mem_cons, List.not_mem_nil, or_false] at m
      rcases m with rfl | rfl | rfl | rfl | rfl | rfl | rfl
      · exact absurd c (by decide)
      · rfl
      · exact absurd rfl ne
      · exact absurd c (by decide)
      · exact absurd c (by decide)
      · exact absurd c (by decide)
      · exact absurd c (by decide)
    subst tb
    exact ⟨by decide, _, e, _, rfl, q⟩
  · exact q
theorem whole_int {H : Hp} {n : Int} {Q : VK} (q : Q (.bl true) H) : gIsi [.int n, .ty "int"] H fun x H1 => ∃ c, x = .bl c ∧ if c = true then gIsi [.int n, .ty "bool"] H1 (fun x H2 => ∃ c, x = .bl c ∧ Q (.bl (!c)) H2) else Q (.bl false) H1 :=
  ⟨by decide, _, rfl, _, rfl, by rw [if_pos (by decide)]; exact ⟨by decide, _, rfl, _, rfl, q⟩⟩
def sp_number_word (K : PySem.W.Frag) : Sp
  | [.int n], H, Q, E => if (n.natAbs : Int) ≤ 1000000000000 then Q (.int (2 * n)) H else E (Ex K "BadNumber") none H
  | [v], H, _, E => Odd H v ∧ E (Ex K "BadNumber") none H
  | _, _, _, _ => False
theorem odd_number_word {K : PySem.W.Frag} {H : Hp} {v : V} {Q : VK} {E : XK} (h : Odd H v) : sp_number_word K [v] H Q E = E (Ex K "BadNumber") none H := by
  cases v with
  | int n => exact (odd_not h).elim
  | _ => exact propext ⟨fun z => z.2, fun z => ⟨h, z⟩⟩
theorem one_number_word {K : PySem.W.Frag} {vs : List V} {H : Hp} {Q : VK} {E : XK} (h : sp_number_word K vs H Q E) : (∃ n, vs = [.int n]) ∨ ∃ v, vs = [v] ∧ Odd H v ∧ E (Ex K "BadNumber") none H := by
  unfold sp_number_word at h
  split at h
  · exact .inl ⟨_, rfl⟩
  · exact .inr ⟨_, rfl, h⟩
  · exact h.elim
theorem len_number_word {K vs H Q E} (h : sp_number_word K vs H Q E) : vs.length = 1 := by unfold sp_number_word at h; split at h <;> first | rfl | exact h.elim
def sp_place_word (K : PySem.W.Frag) : Sp
  | [.int n], H, Q, E => if 0 ≤ n ∧ n ≤ 9999 then Q (.int (2 * n + 1)) H else E (Ex K "NoPlace") none H
  | [v], H, _, E => Odd H v ∧ E (Ex K "NoPlace") none H
  | _, _, _, _ => False
theorem odd_place_word {K : PySem.W.Frag} {H : Hp} {v : V} {Q : VK} {E : XK} (h : Odd H v) : sp_place_word K [v] H Q E = E (Ex K "NoPlace") none H := by
  cases v with
  | int n => exact (odd_not h).elim
  | _ => exact propext ⟨fun z => z.2, fun z => ⟨h, z⟩⟩
theorem one_place_word {K : PySem.W.Frag} {vs : List V} {H : Hp} {Q : VK} {E : XK} (h : sp_place_word K vs H Q E) : (∃ n, vs = [.int n]) ∨ ∃ v, vs = [v] ∧ Odd H v ∧ E (Ex K "NoPlace") none H := by
  unfold sp_place_word at h
  split at h
  · exact .inl ⟨_, rfl⟩
  · exact .inr ⟨_, rfl, h⟩
  · exact h.elim
theorem len_place_word {K vs H Q E} (h : sp_place_word K vs H Q E) : vs.length = 1 := by unfold sp_place_word at h; split at h <;> first | rfl | exact h.elim
def sp_kind (K : PySem.W.Frag) : Sp
  | [.int n], H, Q, E => match wordOf n with
    | some w => Q (.str w.kind) H
    | none => E (Ex K "BadWord") none H
  | [v], H, _, E => Odd H v ∧ E (Ex K "BadWord") none H
  | _, _, _, _ => False
theorem odd_kind {K : PySem.W.Frag} {H : Hp} {v : V} {Q : VK} {E : XK} (h : Odd H v) : sp_kind K [v] H Q E = E (Ex K "BadWord") none H := by
  cases v with
  | int n => exact (odd_not h).elim
  | _ => exact propext ⟨fun z => z.2, fun z => ⟨h, z⟩⟩
theorem one_kind {K : PySem.W.Frag} {vs : List V} {H : Hp} {Q : VK} {E : XK} (h : sp_kind K vs H Q E) : (∃ n, vs = [.int n]) ∨ ∃ v, vs = [v] ∧ Odd H v ∧ E (Ex K "BadWord") none H := by
  unfold sp_kind at h
  split at h
  · exact .inl ⟨_, rfl⟩
  · exact .inr ⟨_, rfl, h⟩
  · exact h.elim
theorem len_kind {K vs H Q E} (h : sp_kind K vs H Q E) : vs.length = 1 := by unfold sp_kind at h; split at h <;> first | rfl | exact h.elim
def sp_worth (K : PySem.W.Frag) : Sp
  | [.int n], H, Q, E => match wordOf n with
    | some w => Q w.worth H
    | none => E (Ex K "BadWord") none H
  | [v], H, _, E => Odd H v ∧ E (Ex K "BadWord") none H
  | _, _, _, _ => False
theorem odd_worth {K : PySem.W.Frag} {H : Hp} {v : V} {Q : VK} {E : XK} (h : Odd H v) : sp_worth K [v] H Q E = E (Ex K "BadWord") none H := by
  cases v with
  | int n => exact (odd_not h).elim
  | _ => exact propext ⟨fun z => z.2, fun z => ⟨h, z⟩⟩
theorem one_worth {K : PySem.W.Frag} {vs : List V} {H : Hp} {Q : VK} {E : XK} (h : sp_worth K vs H Q E) : (∃ n, vs = [.int n]) ∨ ∃ v, vs = [v] ∧ Odd H v ∧ E (Ex K "BadWord") none H := by
  unfold sp_worth at h
  split at h
  · exact .inl ⟨_, rfl⟩
  · exact .inr ⟨_, rfl, h⟩
  · exact h.elim
theorem len_worth {K vs H Q E} (h : sp_worth K vs H Q E) : vs.length = 1 := by unfold sp_worth at h; split at h <;> first | rfl | exact h.elim
section
variable {K : PySem.W.Frag} {H : Hp} {n : Int} {Q : VK} {E : XK}
theorem x_number_word : sp_number_word K [.int n] H Q E = if (n.natAbs : Int) ≤ 1000000000000 then Q (.int (2 * n)) H else E (Ex K "BadNumber") none H := rfl
theorem x_place_word : sp_place_word K [.int n] H Q E = if 0 ≤ n ∧ n ≤ 9999 then Q (.int (2 * n + 1)) H else E (Ex K "NoPlace") none H := rfl
theorem x_kind : sp_kind K [.int n] H Q E = match wordOf n with
    | some w => Q (.str w.kind) H
    | none => E (Ex K "BadWord") none H := rfl
theorem x_worth : sp_worth K [.int n] H Q E = match wordOf n with
    | some w => Q w.worth H
    | none => E (Ex K "BadWord") none H := rfl
end
theorem kind_if {A B C F : Prop} {n : Int} {f : Wd → Prop} (h1 : f .nothing = A) (h2 : f (.num (n / 2)) = B) (h3 : f (.place (n / 2)) = C) :
    (match wordOf n with
    | some w => f w
    | none => F) = if n = -1 then A else if n % 2 = 0 ∧ (n.natAbs : Int) ≤ 2000000000000 then B else if n % 2 = 1 ∧ 0 < n ∧ n ≤ 19999 then C else F := by
  unfold wordOf
  by_cases c1 : n = -1
  · rw [if_pos c1, if_pos c1]; exact h1
  · rw [if_neg c1, if_neg c1]
    by_cases c2 : n % 2 = 0 ∧ (n.natAbs : Int) ≤ 2000000000000
    · rw [if_pos c2, if_pos c2]; exact h2
    · rw [if_neg c2, if_neg c2]
      by_cases c3 : n % 2 = 1 ∧ 0 < n ∧ n ≤ 19999
      · rw [if_pos c3, if_pos c3]; exact h3
      · rw [if_neg c3, if_neg c3]
theorem kind_is (w : Wd) : (w.kind = "nothing" ↔ w = .nothing) ∧ (w.kind = "place" ↔ ∃ p, w = .place p) ∧ (w.kind = "number" ↔ ∃ n, w = .num n) := by
  have d1 : ("number" : Str) ≠ "nothing" := by decide +kernel
  have d2 : ("number" : Str) ≠ "place" := by decide +kernel
  have d3 : ("place" : Str) ≠ "nothing" := by decide +kernel
  cases w with
  | num n => exact ⟨⟨fun z => (d1 z).elim, fun z => by cases z⟩, ⟨fun z => (d2 z).elim, fun ⟨_, z⟩ => by cases z⟩, ⟨fun _ => ⟨n, rfl⟩, fun _ => rfl⟩⟩
  | place n => exact ⟨⟨fun z => (d3 z).elim, fun z => by cases z⟩, ⟨fun _ => ⟨n, rfl⟩, fun _ => rfl⟩, ⟨fun z => (d2 z.symm).elim, fun ⟨_, z⟩ => by cases z⟩⟩
  | nothing => exact ⟨⟨fun _ => rfl, fun _ => rfl⟩, ⟨fun z => (d3 z.symm).elim, fun ⟨_, z⟩ => by cases z⟩, ⟨fun z => (d1 z.symm).elim, fun ⟨_, z⟩ => by cases z⟩⟩
theorem wordOf_div {n : Int} {w : Wd} (h : wordOf n = some w) : w.worth = if w = .nothing then .non else .int (n / 2) := by
  unfold wordOf at h
  repeat' split at h
  all_goals (cases h; try rfl)
local macro_rules | `(tactic| walk_at "w") => `(tactic| try simp only [↓x_var0, ↓x_varS, ↓x_c, ↓x_op, ↓x_un, ↓x_cb, ↓x_nil, ↓x_cons, ↓x_test, ↓x_b, ↓x_ex, ↓x_and, ↓x_or, ↓x_not, ↓x_andV, ↓x_orV, ↓x_notV, ↓x_tif, ↓x_chain, ↓x_menu, ↓x_menuI, ↓x_lst, ↓x_tup, ↓x_dnew, ↓x_callW, ↓x_callN, ↓x_seq, ↓x_next, ↓x_ret, ↓x_retN, ↓x_drop, ↓x_ifS, ↓x_asg, ↓x_name, ↓x_raise, ↓x_fld, ↓x_setF, ↓x_meth, ↓x_make, ↓x_sub, ↓r_min, ↓r_max, ↓x_yes, ↓x_for, ↓x_lock, ↓x_keys, ↓x_cut, ↓x_lc, ↓x_rng1, ↓x_rng2, ↓x_lst1, ↓x_itup, ↓x_rng3, ↓x_three, ↓x_lstg, ↓x_tupg, ↓x_adrS, ↓x_one, ↓x_two, ↓x_adr, ↓x_sl, ↓x_np, ↓x_pt, ↓x_int, ↓x_bm, ↓x_bm0, ↓x_consg, ↓x_nilg, ↓x_dget2, ↓x_dget1, ↓x_dgetN, ↓x_dget, ↓x_din, ↓x_dni, ↓x_dput, ↓x_dpop2, ↓r_isB, ↓r_notB, ↓x_enum, ↓x_zip, ↓x_str, ↓x_strE, ↓r_inS, ↓r_ninS, wipe, List.map_cons, List.map_nil, ↓x_isT, ↓r_isiII, ↓r_isiBB, ↓r_isiIB, ↓r_isiSS, ↓r_neNS, ↓r_neSN, ↓r_neNN, ↓r_eqNS, ↓r_eqSN, ↓r_eqNN, ↓r_eqIS, ↓r_neIS, ↓r_neSI, ↓r_neBS, ↓r_eqBB, ↓r_neBB, ↓x_start, ↓x_K, ↓x_start0, ↓r_i0, ↓r_i, ↓r_u, ↓r_addI, ↓r_addS, ↓r_mulI, ↓r_mulS, ↓r_eqI, ↓r_neI, ↓r_eqS, ↓r_neS, ↓r_absI, ↓r_intI, ↓r_intB, List.length_cons, List.length_nil, List.replicate, List.set_cons_zero, List.set_cons_succ, decide_eq_true_eq, Bool.not_eq_true', decide_eq_false_iff_not, if_true, if_false, Bool.false_eq_true, Bool.true_eq_false, ite_true, ite_false, Bool.not_true, Bool.not_false, c_div, n_ten, c_pow, not_true_eq_false, not_false_eq_true, decide_true, decide_false, true_and, and_true, and_self, true_or, or_true, Int.reduceLT, Int.reduceLE, Int.reduceMul, Int.reduceAdd, Int.reduceSub, Int.reducePow, Int.reduceNeg, Int.reduceDiv, Int.reduceMod, Nat.reducePow, Int.reduceToNat, Int.reduceEq, Int.reduceNe, Nat.reduceLT, Nat.reduceLeDiff, Nat.reduceAdd, ↓x_whole])
section
variable {P : Program} {w : World} {K : PySem.W.Frag} {mg : Str → Option Value} {base : Heap}
theorem f_is_whole (T : Tx K mg) : Fn P w K mg base 1 "is_whole" ["thing"] (sp_is_whole) := by
  refine T.mkFn 0 18 (d := d_is_whole) (N := ["thing"]) (k := 0) rfl rfl rfl rfl rfl sc_is_whole (fun _ _ _ _ _ _ us hl => match us, hl with | [_], _ => rfl) (fun vs H Q E h => ?len) (fun cdv A outer s H vs Q E hr h => ⟨_,
      (pss_one (ps_ret (pe_and (pe_callB call_gIsi (by rfl) (T.free 63) (by decide +kernel) (pa_cons (pv 0) (pa_cons (pe_ty (T := "int") (T.free 69) (by decide +kernel) (by rfl)) pa_nil))) (pe_one (pe_not (pe_callB call_gIsi (by rfl) (T.free 63) (by decide +kernel) (pa_cons (pv 0) (pa_cons (pe_ty (T := "bool") (T.free 70) (by decide +kernel) (by rfl)) pa_nil)))))))), ?rd⟩)
  case len => first | exact len_is_whole h | (repeat (first | (obtain ⟨rfl, _⟩ := h; rfl; done) | obtain ⟨_, h⟩ := h))
  case rd =>
    obtain ⟨v, rfl⟩ : ∃ v, vs = [v] := by unfold sp_is_whole at h; split at h <;> first | exact ⟨_, rfl⟩ | exact h.elim
    walk_at "x"
    cases v with
    | int n => exact whole_int h
    | _ => exact whole_odd h.1 h.2
theorem f_number_word (T : Tx K mg) : Fn P w K mg base 2 "number_word" ["number"] (sp_number_word K) := by
  have c_is_whole := f_is_whole (P := P) (w := w) (base := base) T
  refine T.mkFn 1 19 (d := d_number_word) (N := ["number"]) (k := 1) rfl rfl rfl rfl rfl sc_number_word (fun _ _ _ _ _ _ us hl => match us, hl with | [_], _ => rfl) (fun vs H Q E h => ?len) (fun cdv A outer s H vs Q E hr h => ⟨_,
      (pss_cons (ps_if (PW.pt (pw_or (pt_not (pt_val (pe_fn (takes_of rfl rfl rfl rfl) c_is_whole (hr.mono (by decide)) (by rfl) (pa_cons (pv 0) pa_nil)))) (pw_or1 (pt_cmpR op_gt (pe_callB call_gAbs (by rfl) (T.free 65) (by decide +kernel) (pa_cons (pv 0) pa_nil)) (pe_num (T.num 52) (by rfl)) (nomark _))))) (pss_one (ps_raiseK (K := K) rfl rfl (takes_of rfl rfl rfl rfl) (T.says.fact 74 rfl) (T.glo 1) (by rfl))) pss_nil)
        (pss_one (ps_ret (pe_op op_gMul pe_int (pv 0))))), ?rd⟩)
  case len => first | exact len_number_word h | (repeat (first | (obtain ⟨rfl, _⟩ := h; rfl; done) | obtain ⟨_, h⟩ := h))
  case rd =>
    rcases one_number_word h with ⟨n, rfl⟩ | ⟨v, rfl, o, h⟩
    · walk_at "w"
      rw [x_number_word] at h
      ((repeat' split) <;> (repeat' split at h) <;> first | exact h | (exfalso; omega))
    · walk_at "x"
      rw [odd_whole o]
      walk_at "x"
      exact h
theorem f_place_word (T : Tx K mg) : Fn P w K mg base 2 "place_word" ["at"] (sp_place_word K) := by
  have c_is_whole := f_is_whole (P := P) (w := w) (base := base) T
  refine T.mkFn 2 20 (d := d_place_word) (N := ["at"]) (k := 1) rfl rfl rfl rfl rfl sc_place_word (fun _ _ _ _ _ _ us hl => match us, hl with | [_], _ => rfl) (fun vs H Q E h => ?len) (fun cdv A outer s H vs Q E hr h => ⟨_,
      (pss_cons (ps_if (PW.pt (pw_or (pt_not (pt_val (pe_fn (takes_of rfl rfl rfl rfl) c_is_whole (hr.mono (by decide)) (by rfl) (pa_cons (pv 0) pa_nil)))) (pw_or1 (pt_not (pt_chain op_le op_le pe_int (pv 0) (pe_num (T.num 53) (by rfl))))))) (pss_one (ps_raiseK (K := K) rfl rfl (takes_of rfl rfl rfl rfl) (T.says.fact 77 rfl) (T.glo 4) (by rfl))) pss_nil)
        (pss_one (ps_ret (pe_op op_gAdd (pe_op op_gMul pe_int (pv 0)) pe_int)))), ?rd⟩)
  case len => first | exact len_place_word h | (repeat (first | (obtain ⟨rfl, _⟩ := h; rfl; done) | obtain ⟨_, h⟩ := h))
  case rd =>
    rcases one_place_word h with ⟨n, rfl⟩ | ⟨v, rfl, o, h⟩
    · walk_at "w"
      rw [x_place_word] at h
      ((repeat' split) <;> (repeat' split at h) <;> first | exact h | (exfalso; omega))
    · walk_at "x"
      rw [odd_whole o]
      walk_at "x"
      exact h
theorem f_kind (T : Tx K mg) : Fn P w K mg base 2 "kind" ["word"] (sp_kind K) := by
  have c_is_whole := f_is_whole (P := P) (w := w) (base := base) T
  refine T.mkFn 3 21 (d := d_kind) (N := ["word"]) (k := 1) rfl rfl rfl rfl rfl sc_kind (fun _ _ _ _ _ _ us hl => match us, hl with | [_], _ => rfl) (fun vs H Q E h => ?len) (fun cdv A outer s H vs Q E hr h => ⟨_,
      (pss_cons (ps_if (pt_not (pt_val (pe_fn (takes_of rfl rfl rfl rfl) c_is_whole (hr.mono (by decide)) (by rfl) (pa_cons (pv 0) pa_nil)))) (pss_one (ps_raiseK (K := K) rfl rfl (takes_of rfl rfl rfl rfl) (T.says.fact 75 rfl) (T.glo 2) (by rfl))) pss_nil)
        (pss_cons (ps_if (pt_cmpR (op_eqK (K := K) rfl hr.units) (pv 0) (pe_num (T.num 54) (by rfl)) (nomark _)) (pss_one (ps_ret pe_str)) pss_nil)
        (pss_cons (ps_if (PW.pt (pw_and (pt_cmpR (op_eqK (K := K) rfl hr.units) (pe_op op_mod (pv 0) pe_int) pe_int (nomark _)) (pw_and1 (pt_cmpR op_le (pe_callB call_gAbs (by rfl) (T.free 65) (by decide +kernel) (pa_cons (pv 0) pa_nil)) (pe_op op_gMul pe_int (pe_num (T.num 52) (by rfl))) (nomark _))))) (pss_one (ps_ret pe_str)) pss_nil)
        (pss_cons (ps_if (PW.pt (pw_and (pt_cmpR (op_eqK (K := K) rfl hr.units) (pe_op op_mod (pv 0) pe_int) pe_int (nomark _)) (pw_and1 (pt_chain op_lt op_le pe_int (pv 0) (pe_op op_gAdd (pe_op op_gMul pe_int (pe_num (T.num 53) (by rfl))) pe_int))))) (pss_one (ps_ret pe_str)) pss_nil)
        (pss_one (ps_raiseK (K := K) rfl rfl (takes_of rfl rfl rfl rfl) (T.says.fact 75 rfl) (T.glo 2) (by rfl))))))), ?rd⟩)
  case len => first | exact len_kind h | (repeat (first | (obtain ⟨rfl, _⟩ := h; rfl; done) | obtain ⟨_, h⟩ := h))
  case rd =>
    rcases one_kind h with ⟨n, rfl⟩ | ⟨v, rfl, o, h⟩
    · walk_at "w"
      rw [x_kind, kind_if rfl rfl rfl] at h
      ((repeat' split) <;> (repeat' split at h) <;> first | exact h | (exfalso; omega))
    · walk_at "x"
      rw [odd_whole o]
      walk_at "x"
      exact h
local macro_rules | `(tactic| walk_at "w2") => `(tactic| try simp only [↓x_var0, ↓x_varS, ↓x_c, ↓x_op, ↓x_un, ↓x_cb, ↓x_nil, ↓x_cons, ↓x_test, ↓x_b, ↓x_ex, ↓x_and, ↓x_or, ↓x_not, ↓x_andV, ↓x_orV, ↓x_notV, ↓x_tif, ↓x_chain, ↓x_menu, ↓x_menuI, ↓x_lst, ↓x_tup, ↓x_dnew, ↓x_callW, ↓x_callN, ↓x_seq, ↓x_next, ↓x_ret, ↓x_retN, ↓x_drop, ↓x_ifS, ↓x_asg, ↓x_name, ↓x_raise, ↓x_fld, ↓x_setF, ↓x_meth, ↓x_make, ↓x_sub, ↓r_min, ↓r_max, ↓x_yes, ↓x_for, ↓x_lock, ↓x_keys, ↓x_cut, ↓x_lc, ↓x_rng1, ↓x_rng2, ↓x_lst1, ↓x_itup, ↓x_rng3, ↓x_three, ↓x_lstg, ↓x_tupg, ↓x_adrS, ↓x_one, ↓x_two, ↓x_adr, ↓x_sl, ↓x_np, ↓x_pt, ↓x_int, ↓x_bm, ↓x_bm0, ↓x_consg, ↓x_nilg, ↓x_dget2, ↓x_dget1, ↓x_dgetN, ↓x_dget, ↓x_din, ↓x_dni, ↓x_dput, ↓x_dpop2, ↓r_isB, ↓r_notB, ↓x_enum, ↓x_zip, ↓x_str, ↓x_strE, ↓r_inS, ↓r_ninS, wipe, List.map_cons, List.map_nil, ↓x_isT, ↓r_isiII, ↓r_isiBB, ↓r_isiIB, ↓r_isiSS, ↓r_neNS, ↓r_neSN, ↓r_neNN, ↓r_eqNS, ↓r_eqSN, ↓r_eqNN, ↓r_eqIS, ↓r_neIS, ↓r_neSI, ↓r_neBS, ↓r_eqBB, ↓r_neBB, ↓x_start, ↓x_K, ↓x_start0, ↓r_i0, ↓r_i, ↓r_u, ↓r_addI, ↓r_addS, ↓r_mulI, ↓r_mulS, ↓r_eqI, ↓r_neI, ↓r_eqS, ↓r_neS, ↓r_absI, ↓r_intI, ↓r_intB, List.length_cons, List.length_nil, List.replicate, List.set_cons_zero, List.set_cons_succ, decide_eq_true_eq, Bool.not_eq_true', decide_eq_false_iff_not, if_true, if_false, Bool.false_eq_true, Bool.true_eq_false, ite_true, ite_false, Bool.not_true, Bool.not_false, c_div, n_ten, c_pow, not_true_eq_false, not_false_eq_true, decide_true, decide_false, true_and, and_true, and_self, true_or, or_true, Int.reduceLT, Int.reduceLE, Int.reduceMul, Int.reduceAdd, Int.reduceSub, Int.reducePow, Int.reduceNeg, Int.reduceDiv, Int.reduceMod, Nat.reducePow, Int.reduceToNat, Int.reduceEq, Int.reduceNe, Nat.reduceLT, Nat.reduceLeDiff, Nat.reduceAdd, ↓x_whole, ↓x_kind])
theorem f_worth (T : Tx K mg) : Fn P w K mg base 3 "worth" ["word"] (sp_worth K) := by
  have c_kind := f_kind (P := P) (w := w) (base := base) T
  refine T.mkFn 4 22 (d := d_worth) (N := ["word"]) (k := 2) rfl rfl rfl rfl rfl sc_worth (fun _ _ _ _ _ _ us hl => match us, hl with | [_], _ => rfl) (fun vs H Q E h => ?len) (fun cdv A outer s H vs Q E hr h => ⟨_,
      (pss_cons (ps_if (pt_cmpR (op_eqK (K := K) rfl hr.units) (pe_fn (takes_of rfl rfl rfl rfl) c_kind (hr.mono (by decide)) (by rfl) (pa_cons (pv 0) pa_nil)) pe_str (nomark _)) (pss_one (ps_ret pe_non)) pss_nil)
        (pss_one (ps_ret (pe_op op_fdiv (pv 0) pe_int)))), ?rd⟩)
  case len => first | exact len_worth h | (repeat (first | (obtain ⟨rfl, _⟩ := h; rfl; done) | obtain ⟨_, h⟩ := h))
  case rd =>
    rcases one_worth h with ⟨n, rfl⟩ | ⟨v, rfl, o, h⟩
    · walk_at "w2"
      rw [x_worth] at h
      cases e : wordOf n with
      | none => rw [e] at h; exact h
      | some w =>
        rw [e] at h
        replace h : Q w.worth H := h
        walk_at "w2"
        rw [wordOf_div e] at h
        simp only [(kind_is w).1]
        split
        · rename_i c
          rw [if_pos c] at h
          exact h
        · rename_i c
          rw [if_neg c] at h
          exact h
    · walk_at "x"
      rw [odd_kind o]
      exact h
end
def Vw (ws : List Int) : Prop := ∀ w ∈ ws, (wordOf w).isSome = true
theorem Vw.get {ws : List Int} (h : Vw ws) {i : Nat} (hi : i < ws.length) : ∃ w, wordOf (ws.getD i 0) = some w := by
  have m := List.mem_of_getElem? (getD_at (d := 0) hi)
  exact Option.isSome_iff_exists.mp (h _ m)
theorem Vw.set {ws : List Int} (h : Vw ws) {i : Nat} {n : Int} (hn : (wordOf n).isSome = true) : Vw (ws.set i n) := fun w m => by
  rcases List.mem_or_eq_of_mem_set m with m | rfl
  · exact h w m
  · exact hn
theorem Vw.rep {n : Nat} : Vw (List.replicate n (-1)) := fun w m => by
  rw [(List.mem_replicate.mp m).2]
  rfl
theorem k_nn : (Wd.nothing.kind = ("number" : Str)) = False := eq_false (show ¬ ("nothing" : Str) = "number" by decide +kernel)
theorem k_pn {p : Int} : ((Wd.place p).kind = ("number" : Str)) = False := eq_false (show ¬ ("place" : Str) = "number" by decide +kernel)
theorem k_Nn {n : Int} : ((Wd.num n).kind = ("number" : Str)) = True := eq_true (show ("number" : Str) = "number" from rfl)
theorem k_np : (Wd.nothing.kind = ("place" : Str)) = False := eq_false (show ¬ ("nothing" : Str) = "place" by decide +kernel)
theorem k_Np {n : Int} : ((Wd.num n).kind = ("place" : Str)) = False := eq_false (show ¬ ("number" : Str) = "place" by decide +kernel)
theorem k_pp {p : Int} : ((Wd.place p).kind = ("place" : Str)) = True := eq_true (show ("place" : Str) = "place" from rfl)
theorem word_num {n : Int} (h : (n.natAbs : Int) ≤ 1000000000000) : wordOf (2 * n) = some (.num n) := by
  unfold wordOf
  rw [if_neg (by omega), if_pos (by omega)]
  congr 2
  omega
theorem word_place {n : Int} (h0 : 0 ≤ n) (h1 : n ≤ 9999) : wordOf (2 * n + 1) = some (.place n) := by
  unfold wordOf
  rw [if_neg (by omega), if_neg (by omega), if_pos (by omega)]
  congr 2
  omega
def wordV : V → Option Int
  | .int n => if (wordOf n).isSome then some n else none
  | _ => none
theorem wordV_int {n : Int} : wordV (.int n) = if (wordOf n).isSome then some n else none := rfl
theorem wordV_odd {H : Hp} {v : V} (h : Odd H v) : wordV v = none := by
  cases v with
  | int i => exact (odd_not h).elim
  | _ => rfl
theorem wordV_some {v : V} {n : Int} (h : wordV v = some n) : v = .int n ∧ ∃ w, wordOf n = some w := by
  cases v with
  | int j =>
    rw [wordV_int] at h
    split at h
    · rename_i c
      cases h
      exact ⟨rfl, Option.isSome_iff_exists.mp c⟩
    · cases h
  | _ => cases h
theorem wordV_none {n : Int} (h : wordV (.int n) = none) : wordOf n = none := by
  rw [wordV_int] at h
  split at h
  · cases h
  · rename_i c
    cases e : wordOf n with
    | none => rfl
    | some w => rw [e] at c; exact absurd rfl c
local macro_rules | `(tactic| walk_at "w2") => `(tactic| try simp only [↓x_var0, ↓x_varS, ↓x_c, ↓x_op, ↓x_un, ↓x_cb, ↓x_nil, ↓x_cons, ↓x_test, ↓x_b, ↓x_ex, ↓x_and, ↓x_or, ↓x_not, ↓x_andV, ↓x_orV, ↓x_notV, ↓x_tif, ↓x_chain, ↓x_menu, ↓x_menuI, ↓x_lst, ↓x_tup, ↓x_dnew, ↓x_callW, ↓x_callN, ↓x_seq, ↓x_next, ↓x_ret, ↓x_retN, ↓x_drop, ↓x_ifS, ↓x_asg, ↓x_name, ↓x_raise, ↓x_fld, ↓x_setF, ↓x_meth, ↓x_make, ↓x_sub, ↓r_min, ↓r_max, ↓x_yes, ↓x_for, ↓x_lock, ↓x_keys, ↓x_cut, ↓x_lc, ↓x_rng1, ↓x_rng2, ↓x_lst1, ↓x_itup, ↓x_rng3, ↓x_three, ↓x_lstg, ↓x_tupg, ↓x_adrS, ↓x_one, ↓x_two, ↓x_adr, ↓x_sl, ↓x_np, ↓x_pt, ↓x_int, ↓x_bm, ↓x_bm0, ↓x_consg, ↓x_nilg, ↓x_dget2, ↓x_dget1, ↓x_dgetN, ↓x_dget, ↓x_din, ↓x_dni, ↓x_dput, ↓x_dpop2, ↓r_isB, ↓r_notB, ↓x_enum, ↓x_zip, ↓x_str, ↓x_strE, ↓r_inS, ↓r_ninS, wipe, List.map_cons, List.map_nil, ↓x_isT, ↓r_isiII, ↓r_isiBB, ↓r_isiIB, ↓r_isiSS, ↓r_neNS, ↓r_neSN, ↓r_neNN, ↓r_eqNS, ↓r_eqSN, ↓r_eqNN, ↓r_eqIS, ↓r_neIS, ↓r_neSI, ↓r_neBS, ↓r_eqBB, ↓r_neBB, ↓x_start, ↓x_K, ↓x_start0, ↓r_i0, ↓r_i, ↓r_u, ↓r_addI, ↓r_addS, ↓r_mulI, ↓r_mulS, ↓r_eqI, ↓r_neI, ↓r_eqS, ↓r_neS, ↓r_absI, ↓r_intI, ↓r_intB, List.length_cons, List.length_nil, List.replicate, List.set_cons_zero, List.set_cons_succ, decide_eq_true_eq, Bool.not_eq_true', decide_eq_false_iff_not, if_true, if_false, Bool.false_eq_true, Bool.true_eq_false, ite_true, ite_false, Bool.not_true, Bool.not_false, c_div, n_ten, c_pow, not_true_eq_false, not_false_eq_true, decide_true, decide_false, true_and, and_true, and_self, true_or, or_true, Int.reduceLT, Int.reduceLE, Int.reduceMul, Int.reduceAdd, Int.reduceSub, Int.reducePow, Int.reduceNeg, Int.reduceDiv, Int.reduceMod, Nat.reducePow, Int.reduceToNat, Int.reduceEq, Int.reduceNe, Nat.reduceLT, Nat.reduceLeDiff, Nat.reduceAdd, ↓x_whole, ↓x_kind])

/-! ## the script's cells, lists that are read -/
def cell (ns : List Int) (j : Int) : Int := ns.getD j.toNat 0
theorem same_new {H : Hp} {p : Addr} {o : HO} (h : H p = none) : Same H (upd H p o) := fun b u e => by
  rw [upd_ne (ne_of_none e h)]
  exact e
theorem ite_and {P Q A B : Prop} [Decidable P] [Decidable Q] (h1 : P → Q → A) (h2 : ¬ (P ∧ Q) → B) : if P then (if Q then A else B) else B := by
  split
  · split
    · exact h1 ‹_› ‹_›
    · exact h2 fun z => absurd z.2 ‹_›
  · exact h2 fun z => absurd z.1 ‹_›
theorem ite_or {P Q A B : Prop} [Decidable P] [Decidable Q] (h1 : P ∨ Q → A) (h2 : ¬ P → ¬ Q → B) : if P then A else if Q then A else B := by
  split
  · exact h1 (.inl ‹_›)
  · split
    · exact h1 (.inr ‹_›)
    · exact h2 ‹_› ‹_›
/-- a new instance; its first deed -/
theorem same_mk {H : Hp} {x dx C : Addr} (nx : H x = none) (ndx : H dx = none) (ne : dx ≠ x) : Same H (upd (upd H dx (.own x)) x (.ins C dx [])) := (same_new ndx).trans (same_new (by rw [upd_ne ne.symm]; exact nx))
theorem same_init {H H' : Hp} {x dx C : Addr} (nx : H x = none) (ndx : H dx = none) (ne : dx ≠ x) (k : ∀ c o, c ≠ x → upd (upd H dx (.own x)) x (.ins C dx []) c = some o → H' c = some o) : Same H H' := fun c o e => k c o (ne_of_none e nx) (same_mk nx ndx ne c o e)
theorem cut_ints (ns : List Int) (lo hi : Option Int) : ∃ cs : List Int, cutV (ns.map V.int) lo hi = cs.map V.int := ⟨(ns.drop (HT.sIx ns.length 0 lo)).take (HT.sIx ns.length ns.length hi - HT.sIx ns.length 0 lo), by unfold cutV; rw [List.length_map, List.map_take, List.map_drop]⟩
def placeOf (n : Nat) : V → Option Nat
  | .int i => if 0 ≤ i ∧ i < n then some i.toNat else none
  | _ => none
theorem placeOf_int {n : Nat} {i : Int} : placeOf n (.int i) = if 0 ≤ i ∧ i < n then some i.toNat else none := rfl
theorem placeOf_odd {H : Hp} {n : Nat} {v : V} (h : Odd H v) : placeOf n v = none := by
  cases v with
  | int i => exact (odd_not h).elim
  | _ => rfl
theorem placeOf_some {n : Nat} {v : V} {i : Nat} (h : placeOf n v = some i) : v = .int (i : Int) ∧ i < n := by
  cases v with
  | int j =>
    rw [placeOf_int] at h
    split at h
    · rename_i c
      have e := Option.some.inj h
      exact ⟨by rw [← e]; congr 1; omega, by omega⟩
    · cases h
  | _ => cases h
def placeW : V → Option Int
  | .int n => if 0 ≤ n ∧ n ≤ 9999 then some n else none
  | _ => none
theorem placeW_int {n : Int} : placeW (.int n) = if 0 ≤ n ∧ n ≤ 9999 then some n else none := rfl
theorem placeW_odd {H : Hp} {v : V} (h : Odd H v) : placeW v = none := by
  cases v with
  | int i => exact (odd_not h).elim
  | _ => rfl
theorem placeW_some {v : V} {n : Int} (h : placeW v = some n) : v = .int n ∧ 0 ≤ n ∧ n ≤ 9999 := by
  cases v with
  | int j =>
    rw [placeW_int] at h
    split at h
    · rename_i c
      cases h
      exact ⟨rfl, c⟩
    · cases h
  | _ => cases h
theorem all_flat {ws : List Int} : (ws.map V.int).all flatV = true := by
  rw [List.all_map]
  exact List.all_eq_true.mpr fun _ _ => rfl
theorem in_ints {n : Int} {ws : List Int} : inV (.int n) (ws.map V.int) = decide (n ∈ ws) := by
  unfold inV
  rw [List.any_map]
  by_cases c : n ∈ ws
  · rw [decide_eq_true c]
    exact List.any_eq_true.mpr ⟨n, c, beq_self_eq_true n⟩
  · rw [decide_eq_false c]
    refine List.any_eq_false.mpr fun x hx e => c ?_
    have e2 : x = n := eq_of_beq e
    exact e2 ▸ hx
theorem none_of {H H' : Hp} {a : Addr} (s : Same H H') (h : H' a = none) : H a = none := by
  cases e : H a with
  | none => rfl
  | some o =>
    rw [s a o e] at h
    cases h
/-- a list that grows -/
theorem r_app {K : PySem.W.Frag} {H : Hp} {l : Addr} {xs : List V} {y : V} {Q : VK} (h : H l = some (.lst xs)) (hn : xs.length < sizeLine) (q : Q .non (upd H l (.lst (xs ++ [y])))) : tyV K "list" (.ref l) H ∧ rAppend (.ref l) [y] H Q := ⟨.inl ⟨rfl, _, .of h⟩, l, xs, y, rfl, rfl, h, hn, q⟩
theorem ty_lst {K : PySem.W.Frag} {H : Hp} {l : Addr} {xs : List V} (h : H l = some (.lst xs)) : tyV K "list" (.ref l) H := .inl ⟨rfl, _, .of h⟩
theorem same_tyOf {H H' : Hp} {v : V} {t : String} (s : Same H H') (h : tyOf v H = some t) : tyOf v H' = some t := by
  cases v with
  | ref a =>
    have h1 : tyO (H a) = some t := h
    cases e : H a with
    | none =>
      rw [e] at h1
      cases h1
    | some o =>
      rw [e] at h1
      show tyO (H' a) = some t
      rw [s a o e]
      exact h1
  | _ => exact h
theorem odd_same {H H' : Hp} {v : V} (s : Same H H') (h : Odd H v) : Odd H' v := h.elim fun t q => ⟨t, same_tyOf s q.1, q.2⟩
def Thing (H : Hp) (v : V) : Prop := (∃ n, v = .int n) ∨ Odd H v
theorem thing_same {H H' : Hp} {v : V} (s : Same H H') (h : Thing H v) : Thing H' v := h.imp id (odd_same s)
theorem thing_upd {H : Hp} {a : Addr} {o o' : HO} {v : V} (e : H a = some o) (q : tyO (some o) = tyO (some o')) (h : Thing H v) : Thing (upd H a o') v := h.imp id fun ⟨t, g, ne⟩ => ⟨t, by
  cases v with
  | ref b =>
    have h1 : tyO (H b) = some t := g
    show tyO (upd H a o' b) = some t
    by_cases c : b = a
    · subst c
      rw [upd_same, ← q, ← e]
      exact h1
    · rw [upd_ne c]
      exact h1
  | _ => exact g, ne⟩
theorem r_lenS {K : PySem.W.Frag} {H : Hp} {a : Addr} {xs : List V} {Q : VK} (h : SqL K H a xs) (q : Q (.int (xs.length : Int)) H) : L2.rLen K [.ref a] H Q := ⟨_, _, rfl, .inl ⟨_, h, rfl⟩, q⟩
theorem r_ixS {K : PySem.W.Frag} {H : Hp} {a : Addr} {xs : List V} {i : Int} {v : V} {Q : VK} (h : SqL K H a xs) (e : atI xs i = some v) (q : Q v H) : rIx K (.ref a) (.int i) H Q := .inl ⟨_, _, _, _, rfl, rfl, h, e, q⟩
theorem at_pos {α : Type} {xs : List α} {i : Int} {v : α} (h : 0 ≤ i) (e : xs[i.toNat]? = some v) : atI xs i = some v := by
  have hl := (List.getElem?_eq_some_iff.mp e).1
  unfold atI ixN
  rw [if_pos h, if_pos (by omega)]
  exact e
theorem menu_pick {xs : List V} {i : Int} {P : V → Prop} (Good : V → Prop) (h : ∃ v, atI xs i = some v ∧ Good v) (k : ∀ v, Good v → P v) : ∃ v, atI xs i = some v ∧ P v := h.elim fun v q => ⟨v, q.1, k v q.2⟩
theorem cut_int {ns : List Int} {lo hi : Option Int} {i : Nat} {x : V} (h : (cutV (ns.map V.int) lo hi)[i]? = some x) : ∃ c, x = .int c := by
  have m := List.mem_of_getElem? h
  unfold cutV at m
  have m2 := List.mem_of_mem_drop (List.mem_of_mem_take m)
  obtain ⟨c, -, e⟩ := List.mem_map.mp m2
  exact ⟨c, e.symm⟩
theorem sIx_pos {n d : Nat} {v : Int} (h : 0 ≤ v) : HT.sIx n d (some v) = min v.toNat n := by
  show (if v < 0 then (v + (n : Int)).toNat else min v.toNat n) = _
  rw [if_neg (by omega)]
theorem cut_len {xs : List V} {a b : Int} (h0 : 0 ≤ a) (h1 : a ≤ b) : (cutV xs (some a) (some b)).length ≤ (b - a).toNat := by
  unfold cutV
  rw [List.length_take, List.length_drop]
  rw [sIx_pos h0, sIx_pos (by omega)]
  omega
def sp_cell (K : PySem.W.Frag) : Sp := fun vs H Q _ => ∃ a j ns, vs = [.ref a, .int j] ∧ SqL K H a (ns.map V.int) ∧ 0 ≤ j ∧ Q (.int (cell ns j)) H
section
variable {P : Program} {w : World} {K : PySem.W.Frag} {mg : Str → Option Value} {base : Heap}
theorem f__law_cell_at (T : Tx K mg) : Fn P w K mg base 1 "_law_cell_at" ["_law_script", "_law_k"] (sp_cell K) := by
  refine T.mkFn 66 37 (d := d__law_cell_at) (N := ["_law_script", "_law_k"]) (k := 0) rfl rfl rfl rfl rfl sc__law_cell_at (fun _ _ _ _ _ _ us hl => match us, hl with | [_, _], _ => rfl) (fun vs H Q E h => ?len) (fun cdv A outer s H vs Q E hr h => ⟨_,
      (pss_cons (ps_if (pt_cmpR op_lt (pv 1) (pe_callB (call_lenK (K := K) rfl) (by rfl) (T.free 64) PySem.boot_len (pa_cons (pv 0) pa_nil)) (nomark _)) (pss_one (ps_ret (pe_ix (ix_seqK (K := K) rfl) (pv 0) (pv 1) (fun _ _ => rfl)))) pss_nil)
        (pss_one (ps_ret pe_int))), ?rd⟩)
  case len => obtain ⟨a, j, ns, rfl, _⟩ := h; rfl
  case rd =>
    obtain ⟨a, j, ns, rfl, hS, h0, q⟩ := h
    walk_at "x"
    refine r_lenS hS ?_
    walk_at "x"
    rw [List.length_map]
    unfold cell at q
    split
    · rename_i c
      have e : ns[j.toNat]? = some ns[j.toNat] := List.getElem?_eq_getElem (by omega)
      rw [List.getD_eq_getElem?_getD, e] at q
      exact r_ixS hS (at_pos h0 (by rw [List.getElem?_map, e]; rfl)) q
    · rw [List.getD_eq_getElem?_getD, List.getElem?_eq_none (by omega)] at q
      exact q
end



/-! ## memories -/
structure MemO (K : PySem.W.Frag) (H : Hp) (m dx l : Addr) (ws : List Int) : Prop where
  ob : H m = some (.ins (He.ga K "Memory") dx (F_Memory (.int ws.length) (.ref l)))
  ls : H l = some (.lst (ws.map V.int))
  sz : ws.length ≤ 4000
theorem MemO.ne {K H m dx l ws} (h : MemO K H m dx l ws) : l ≠ m := ne_of h.ls h.ob (by intro z; cases z)
theorem MemO.same {K H H' m dx l ws} (h : MemO K H m dx l ws) (s : Same H H') : MemO K H' m dx l ws := ⟨s _ _ h.ob, s _ _ h.ls, h.sz⟩
theorem MemO.put {K H m dx l ws} (h : MemO K H m dx l ws) (vs : List Int) (e : vs.length = ws.length) : MemO K (upd H l (.lst (vs.map V.int))) m dx l vs :=
  ⟨by rw [upd_ne h.ne.symm, e]; exact h.ob, upd_same, by rw [e]; exact h.sz⟩
def sizeV : V → Option Nat
  | .int n => if 1 ≤ n ∧ n ≤ 4000 then some n.toNat else none
  | _ => none
theorem sizeV_int {n : Int} : sizeV (.int n) = if 1 ≤ n ∧ n ≤ 4000 then some n.toNat else none := rfl
theorem sizeV_odd {H : Hp} {v : V} (h : Odd H v) : sizeV v = none := by
  cases v with
  | int i => exact (odd_not h).elim
  | _ => rfl
def sp_Memory_need (K : PySem.W.Frag) : Sp := fun vs H Q E => ∃ m dx l ws v, vs = [.ref m, v] ∧ MemO K H m dx l ws ∧ Thing H v ∧ match placeOf ws.length v with
  | some _ => Q .non H
  | none => E (Ex K "NoPlace") none H
def sp_Memory_read (K : PySem.W.Frag) : Sp := fun vs H Q E => ∃ m dx l ws v, vs = [.ref m, v] ∧ MemO K H m dx l ws ∧ Thing H v ∧ match placeOf ws.length v with
  | some i => Q (.int (ws.getD i 0)) H
  | none => E (Ex K "NoPlace") none H
def sp_Memory_write (K : PySem.W.Frag) : Sp := fun vs H Q E => ∃ m dx l ws v z, vs = [.ref m, v, z] ∧ MemO K H m dx l ws ∧ Thing H v ∧ Thing H z ∧ match placeOf ws.length v with
  | some i => (match wordV z with
    | some n => Q .non (upd H l (.lst ((ws.set i n).map V.int)))
    | none => E (Ex K "BadWord") none H)
  | none => E (Ex K "NoPlace") none H
def sp_Memory___init__ (K : PySem.W.Frag) : Sp := fun vs H Q E => ∃ m dx v, vs = [.ref m, v] ∧ H m = some (.ins (He.ga K "Memory") dx []) ∧ Thing H v ∧ match sizeV v with
  | some n => ∀ l H', H l = none → MemO K H' m dx l (List.replicate n (-1)) → (∀ b o, b ≠ m → H b = some o → H' b = some o) → Q .non H'
  | none => E (Ex K "BadCount") none H
section
variable {P : Program} {w : World} {K : PySem.W.Frag} {mg : Str → Option Value} {base : Heap}
theorem f_Memory_need (T : Tx K mg) : Mt P w K mg base 2 "Memory" "need" ["self", "at"] (sp_Memory_need K) := by
  have c_is_whole := f_is_whole (P := P) (w := w) (base := base) T
  refine T.mkMt 20 85 83 (d := d_Memory_need) (N := ["self", "at"]) (k := 1) rfl rfl rfl rfl rfl rfl sc_Memory_need (fun _ _ _ _ _ _ us hl => match us, hl with | [_, _], _ => rfl) (fun vs H Q E h => ?len) (fun cdv A outer s H vs Q E hr h => ⟨_,
      (pss_one (ps_if (PW.pt (pw_or (pt_not (pt_val (pe_fn (takes_of rfl rfl rfl rfl) c_is_whole (hr.mono (by decide)) (by rfl) (pa_cons (pv 1) pa_nil)))) (pw_or1 (pt_not (pt_chain op_le op_lt pe_int (pv 1) (pe_fldC (T.cls 83) (T.noat 90) (pv 0))))))) (pss_one (ps_raiseK (K := K) rfl rfl (takes_of rfl rfl rfl rfl) (T.says.fact 77 rfl) (T.glo 4) (by rfl))) pss_nil)), ?rd⟩)
  case len => obtain ⟨m, dx, l, ws, v, rfl, _⟩ := h; rfl
  case rd =>
    obtain ⟨m, dx, l, ws, v, rfl, M, th, h⟩ := h
    walk_at "w2"
    rcases th with ⟨n, rfl⟩ | o
    · walk_at "w2"
      rw [placeOf_int] at h
      split
      · refine ⟨_, fldIs M.ob, ?_⟩
        walk_at "w2"
        split
        · rw [if_neg (by omega)] at h
          exact h
        · rw [if_pos (by omega)] at h
          exact h
      · rw [if_neg (by omega)] at h
        exact h
    · rw [odd_whole o]
      rw [placeOf_odd o] at h
      walk_at "w2"
      exact h
theorem f_Memory_read (T : Tx K mg) : Mt P w K mg base 3 "Memory" "read" ["self", "at"] (sp_Memory_read K) := by
  have c_Memory_need := f_Memory_need (P := P) (w := w) (base := base) T
  refine T.mkMt 21 86 83 (d := d_Memory_read) (N := ["self", "at"]) (k := 2) rfl rfl rfl rfl rfl rfl sc_Memory_read (fun _ _ _ _ _ _ us hl => match us, hl with | [_, _], _ => rfl) (fun vs H Q E h => ?len) (fun cdv A outer s H vs Q E hr h => ⟨_,
      (pss_cons (ps_expr (pe_mt (K := K) rfl (takes_of rfl rfl rfl rfl) (pv 0) c_Memory_need (hr.mono (by decide)) (pa_cons (pv 1) pa_nil)))
        (pss_one (ps_ret (pe_ix (ix_seqK (K := K) rfl) (pe_fldC (T.cls 83) (T.noat 91) (pv 0)) (pv 1) (fun _ _ => rfl))))), ?rd⟩)
  case len => obtain ⟨m, dx, l, ws, v, rfl, _⟩ := h; rfl
  case rd =>
    obtain ⟨m, dx, l, ws, v, rfl, M, th, h⟩ := h
    walk_at "w2"
    refine ⟨recv M.ob, m, dx, l, ws, v, rfl, M, th, ?_⟩
    cases e : placeOf ws.length v with
    | none =>
      rw [e] at h
      exact h
    | some i =>
      rw [e] at h
      obtain ⟨rfl, hi⟩ := placeOf_some e
      refine ⟨_, fldIs M.ob, ?_⟩
      refine r_ixS (.of M.ls) (at_pos (by omega) (v := .int (ws.getD i 0)) ?_) h
      rw [List.getElem?_map, Int.toNat_natCast, List.getElem?_eq_getElem hi, List.getD_eq_getElem?_getD, List.getElem?_eq_getElem hi]
      rfl
theorem f_Memory_write (T : Tx K mg) : Mt P w K mg base 3 "Memory" "write" ["self", "at", "word"] (sp_Memory_write K) := by
  have c_Memory_need := f_Memory_need (P := P) (w := w) (base := base) T
  have c_kind := f_kind (P := P) (w := w) (base := base) T
  refine T.mkMt 22 87 83 (d := d_Memory_write) (N := ["self", "at", "word"]) (k := 2) rfl rfl rfl rfl rfl rfl sc_Memory_write (fun _ _ _ _ _ _ us hl => match us, hl with | [_, _, _], _ => rfl) (fun vs H Q E h => ?len) (fun cdv A outer s H vs Q E hr h => ⟨_,
      (pss_cons (ps_expr (pe_mt (K := K) rfl (takes_of rfl rfl rfl rfl) (pv 0) c_Memory_need (hr.mono (by decide)) (pa_cons (pv 1) pa_nil)))
        (pss_cons (ps_expr (pe_fn (takes_of rfl rfl rfl rfl) c_kind (hr.mono (by decide)) (by rfl) (pa_cons (pv 2) pa_nil)))
        (pss_one (ps_asg (pv 2) (pg_sub (pe_fldC (T.cls 83) (T.noat 91) (pv 0)) (pv 1) set_list))))), ?rd⟩)
  case len => obtain ⟨m, dx, l, ws, v, z, rfl, _⟩ := h; rfl
  case rd =>
    obtain ⟨m, dx, l, ws, v, z, rfl, M, th, tz, h⟩ := h
    walk_at "w2"
    refine ⟨recv M.ob, m, dx, l, ws, v, rfl, M, th, ?_⟩
    cases e : placeOf ws.length v with
    | none =>
      rw [e] at h
      exact h
    | some i =>
      rw [e] at h
      obtain ⟨rfl, hi⟩ := placeOf_some e
      walk_at "w2"
      rcases tz with ⟨n, rfl⟩ | o
      · rw [x_kind]
        cases ew : wordOf n with
        | none =>
          have e2 : wordV (.int n) = none := by rw [wordV_int, ew]; rfl
          rw [e2] at h
          exact h
        | some w =>
          have e2 : wordV (.int n) = some n := by rw [wordV_int, ew]; rfl
          rw [e2] at h
          refine ⟨_, fldIs M.ob, ?_⟩
          refine r_setL M.ls (by omega) (by rw [List.length_map]; omega) ?_
          rw [Int.toNat_natCast, ← List.map_set]
          exact h
      · rw [odd_kind o]
        rw [wordV_odd o] at h
        exact h
theorem f_Memory___init__ (T : Tx K mg) : Mi P w K mg base 2 "Memory" ["self", "size"] (sp_Memory___init__ K) := by
  have c_is_whole := f_is_whole (P := P) (w := w) (base := base) T
  refine T.mkMi 19 84 10 (d := d_Memory___init__) (N := ["self", "size", "at"]) (k := 1) rfl rfl rfl rfl rfl rfl sc_Memory___init__ (fun _ _ _ _ _ _ us hl => match us, hl with | [_, _], _ => rfl) (fun vs H Q E h => ?len) (fun cdv A outer s H vs Q E hr h => ⟨_,
      (pss_cons (ps_if (PW.pt (pw_or (pt_not (pt_val (pe_fn (takes_of rfl rfl rfl rfl) c_is_whole (hr.mono (by decide)) (by rfl) (pa_cons (pv 1) pa_nil)))) (pw_or1 (pt_not (pt_chain op_le op_le pe_int (pv 1) (pe_num (T.num 57) (by rfl))))))) (pss_one (ps_raiseK (K := K) rfl rfl (takes_of rfl rfl rfl rfl) (T.says.fact 76 rfl) (T.glo 3) (by rfl))) pss_nil)
        (pss_cons (ps_fldC (T.cls 83) (T.noat 90) (pv 0) (pv 1))
        (pss_one (ps_fldC (T.cls 83) (T.noat 91) (pv 0) (pe_lc (own := [("at", 2)]) (g := gName 2) rfl sc_Memory___init__.nd (pi_range1 rfl (T.free 66) (pa_cons (pv 1) pa_nil)) (blkOk_by (own := [("at", 2)]) (N := ["self", "size", "at"]) (sc := defScope s_Memory___init__) (by decide +kernel)) (fun _ _ _ _ _ => (pg_name (i := 2) sc_Memory___init__.nd rfl (Or.inl rfl))) (fun _ _ _ _ _ => pts_nil) (fun _ _ _ _ _ => (pe_num (T.num 54) (by rfl)))))))), ?rd⟩)
  case len => obtain ⟨m, dx, v, rfl, _⟩ := h; rfl
  case rd =>
    obtain ⟨m, dx, v, rfl, M, th, h⟩ := h
    walk_at "w2"
    rcases th with ⟨n, rfl⟩ | o
    · walk_at "w2"
      rw [sizeV_int] at h
      split
      · split
        · rw [if_neg (by omega)] at h
          exact h
        · rw [if_pos (by omega)] at h
          refine ⟨m, dx, _, rfl, M, by decide, ?_⟩
          rw [pi_Memory_size]
          walk_at "w2"
          refine ⟨by omega, by omega, fun D hD => lc_mapR (fun _ => .int (-1)) (fun _ => rfl) (by rw [sizeLine_eq]; omega) (fun i hi acc Q q => ?_) ?_⟩
          · walk_at "w2"
            exact q
          · have nD : m ≠ D := ne_of_none upd_same hD
            have hD0 : H D = none := by rw [upd_ne nD.symm] at hD; exact hD
            refine ⟨m, dx, _, rfl, by rw [upd_ne nD, upd_same], by show 1 < 1000; decide, ?_⟩
            rw [pi_Memory_words]
            have er : (List.range n.toNat).map (fun _ => V.int (-1)) = (List.replicate n.toNat (-1 : Int)).map V.int := by rw [List.map_replicate, List.map_const', List.length_range]
            rw [er]
            refine h D _ hD0 ⟨?_, ?_, by rw [List.length_replicate]; omega⟩ fun b o hb e => ?_
            · rw [upd_same, List.length_replicate, Int.toNat_of_nonneg (by omega)]
            · rw [upd_ne nD.symm, upd_same]
            · rw [upd_ne hb, upd_ne (ne_of_none e hD0), upd_ne hb]
              exact e
      · rw [if_neg (by omega)] at h
        exact h
    · rw [odd_whole o]
      rw [sizeV_odd o] at h
      walk_at "w2"
      exact h
end
def stretchOf (n : Nat) (k : Int) : V → Option Nat
  | .int i => if 0 ≤ i ∧ i + k ≤ n then some i.toNat else none
  | _ => none
theorem stretchOf_int {n : Nat} {k i : Int} : stretchOf n k (.int i) = if 0 ≤ i ∧ i + k ≤ n then some i.toNat else none := rfl
theorem stretchOf_odd {H : Hp} {n : Nat} {k : Int} {v : V} (h : Odd H v) : stretchOf n k v = none := by
  cases v with
  | int i => exact (odd_not h).elim
  | _ => rfl
theorem stretchOf_some {n : Nat} {k : Int} {v : V} {i : Nat} (h : stretchOf n k v = some i) : v = .int (i : Int) ∧ (i : Int) + k ≤ n := by
  cases v with
  | int j =>
    rw [stretchOf_int] at h
    split at h
    · rename_i c
      have e := Option.some.inj h
      exact ⟨by rw [← e]; congr 1; omega, by omega⟩
    · cases h
  | _ => cases h
inductive Cp where
  | count | place | ok (i j k : Nat)
def cpOf (n : Nat) (a b : V) : V → Cp
  | .int k => if 0 ≤ k then (match stretchOf n k a with
    | some i => (match stretchOf n k b with
      | some j => .ok i j k.toNat
      | none => .place)
    | none => .place) else .count
  | _ => .count
theorem cpOf_odd {H : Hp} {n : Nat} {a b v : V} (h : Odd H v) : cpOf n a b v = .count := by
  cases v with
  | int i => exact (odd_not h).elim
  | _ => rfl
theorem cpOf_int {n : Nat} {a b : V} {k : Int} : cpOf n a b (.int k) = if 0 ≤ k then (match stretchOf n k a with
    | some i => (match stretchOf n k b with
      | some j => .ok i j k.toNat
      | none => .place)
    | none => .place) else .count := rfl
/-- t words of ws from i on, laid from j on -/
def cpT (ws : List Int) (i j t : Nat) : List Int := (List.range t).foldl (fun a u => a.set (j + u) (ws.getD (i + u) 0)) ws
theorem cpT_zero {ws : List Int} {i j : Nat} : cpT ws i j 0 = ws := rfl
theorem cpT_succ {ws : List Int} {i j t : Nat} : cpT ws i j (t + 1) = (cpT ws i j t).set (j + t) (ws.getD (i + t) 0) := by
  unfold cpT
  rw [List.range_succ, List.foldl_append]
  rfl
theorem cpT_len {ws : List Int} {i j t : Nat} : (cpT ws i j t).length = ws.length := by
  induction t with
  | zero => rfl
  | succ t ih => rw [cpT_succ, List.length_set, ih]
theorem cut_get {ws : List Int} {i k t : Nat} (h : i + k ≤ ws.length) (ht : t < k) : (cutV (ws.map V.int) (some (i : Int)) (some ((i : Int) + (k : Int))))[t]? = some (.int (ws.getD (i + t) 0)) := by
  unfold cutV
  rw [sIx_pos (by omega), sIx_pos (by omega), List.getElem?_take, if_pos (by rw [List.length_map]; omega), List.getElem?_drop, List.getElem?_map, List.getD_eq_getElem?_getD]
  have e3 : min (i : Int).toNat (ws.map V.int).length + t = i + t := by rw [List.length_map]; omega
  rw [e3, List.getElem?_eq_getElem (by omega)]
  rfl
def sp_Memory_need_stretch (K : PySem.W.Frag) : Sp := fun vs H Q E => ∃ m dx l ws v k, vs = [.ref m, v, .int k] ∧ MemO K H m dx l ws ∧ Thing H v ∧ match stretchOf ws.length k v with
  | some _ => Q .non H
  | none => E (Ex K "NoPlace") none H
def sp_Memory_copy (K : PySem.W.Frag) : Sp := fun vs H Q E => ∃ m dx l ws v1 v2 z, vs = [.ref m, v1, v2, z] ∧ MemO K H m dx l ws ∧ Thing H v1 ∧ Thing H v2 ∧ Thing H z ∧ match cpOf ws.length v1 v2 z with
  | .count => E (Ex K "BadCount") none H
  | .place => E (Ex K "NoPlace") none H
  | .ok i j k => ∀ H', MemO K H' m dx l (cpT ws i j k) → (∀ b o, b ≠ l → H b = some o → H' b = some o) → (∀ v, Thing H v → Thing H' v) → Q .non H'
section
variable {P : Program} {w : World} {K : PySem.W.Frag} {mg : Str → Option Value} {base : Heap}
theorem f_Memory_need_stretch (T : Tx K mg) : Mt P w K mg base 2 "Memory" "need_stretch" ["self", "at", "many"] (sp_Memory_need_stretch K) := by
  have c_is_whole := f_is_whole (P := P) (w := w) (base := base) T
  refine T.mkMt 23 88 83 (d := d_Memory_need_stretch) (N := ["self", "at", "many"]) (k := 1) rfl rfl rfl rfl rfl rfl sc_Memory_need_stretch (fun _ _ _ _ _ _ us hl => match us, hl with | [_, _, _], _ => rfl) (fun vs H Q E h => ?len) (fun cdv A outer s H vs Q E hr h => ⟨_,
      (pss_one (ps_if (PW.pt (pw_or (pt_not (pt_val (pe_fn (takes_of rfl rfl rfl rfl) c_is_whole (hr.mono (by decide)) (by rfl) (pa_cons (pv 1) pa_nil)))) (pw_or (pt_cmpR op_lt (pv 1) pe_int (nomark _)) (pw_or1 (pt_cmpR op_gt (pe_op op_gAdd (pv 1) (pv 2)) (pe_fldC (T.cls 83) (T.noat 90) (pv 0)) (nomark _)))))) (pss_one (ps_raiseK (K := K) rfl rfl (takes_of rfl rfl rfl rfl) (T.says.fact 77 rfl) (T.glo 4) (by rfl))) pss_nil)), ?rd⟩)
  case len => obtain ⟨m, dx, l, ws, v, k, rfl, _⟩ := h; rfl
  case rd =>
    obtain ⟨m, dx, l, ws, v, k, rfl, M, th, h⟩ := h
    walk_at "w2"
    rcases th with ⟨n, rfl⟩ | o
    · walk_at "w2"
      rw [stretchOf_int] at h
      split
      · rw [if_neg (by omega)] at h
        exact h
      · refine ⟨_, fldIs M.ob, ?_⟩
        walk_at "w2"
        split
        · rw [if_neg (by omega)] at h
          exact h
        · rw [if_pos (by omega)] at h
          exact h
    · rw [odd_whole o]
      rw [stretchOf_odd o] at h
      walk_at "w2"
      exact h
theorem f_Memory_copy (T : Tx K mg) : Mt P w K mg base 3 "Memory" "copy" ["self", "start", "goal", "many"] (sp_Memory_copy K) := by
  have c_is_whole := f_is_whole (P := P) (w := w) (base := base) T
  have c_Memory_need_stretch := f_Memory_need_stretch (P := P) (w := w) (base := base) T
  refine T.mkMt 24 89 83 (d := d_Memory_copy) (N := ["self", "start", "goal", "many", "row", "turn"]) (k := 2) rfl rfl rfl rfl rfl rfl sc_Memory_copy (fun _ _ _ _ _ _ us hl => match us, hl with | [_, _, _, _], _ => rfl) (fun vs H Q E h => ?len) (fun cdv A outer s H vs Q E hr h => ⟨_,
      (pss_cons (ps_if (PW.pt (pw_or (pt_not (pt_val (pe_fn (takes_of rfl rfl rfl rfl) c_is_whole (hr.mono (by decide)) (by rfl) (pa_cons (pv 3) pa_nil)))) (pw_or1 (pt_cmpR op_lt (pv 3) pe_int (nomark _))))) (pss_one (ps_raiseK (K := K) rfl rfl (takes_of rfl rfl rfl rfl) (T.says.fact 76 rfl) (T.glo 3) (by rfl))) pss_nil)
        (pss_cons (ps_expr (pe_mt (K := K) rfl (takes_of rfl rfl rfl rfl) (pv 0) c_Memory_need_stretch (hr.mono (by decide)) (pa_cons (pv 1) (pa_cons (pv 3) pa_nil))))
        (pss_cons (ps_expr (pe_mt (K := K) rfl (takes_of rfl rfl rfl rfl) (pv 0) c_Memory_need_stretch (hr.mono (by decide)) (pa_cons (pv 2) (pa_cons (pv 3) pa_nil))))
        (pss_cons (ps_set (i := 4) sc_Memory_copy.nd rfl (Or.inl rfl) (pe_slice (sl_listK (K := K) rfl) (pe_fldC (T.cls 83) (T.noat 91) (pv 0)) (po_some (pv 1)) (po_some (pe_op op_gAdd (pv 1) (pv 3)))))
        (pss_one (ps_for (passes_of rfl) rfl (pi_range1 rfl (T.free 66) (pa_cons (pv 3) pa_nil)) (pg_name (i := 5) sc_Memory_copy.nd rfl (Or.inl rfl)) (pss_one (ps_asg (pe_ix (ix_seqK (K := K) rfl) (pv 4) (pv 5) (fun _ _ => rfl)) (pg_sub (pe_fldC (T.cls 83) (T.noat 91) (pv 0)) (pe_op op_gAdd (pv 2) (pv 5)) set_list))))))))), ?rd⟩)
  case len => obtain ⟨m, dx, l, ws, v1, v2, z, rfl, _⟩ := h; rfl
  case rd =>
    obtain ⟨m, dx, l, ws, v1, v2, z, rfl, M, t1, t2, tz, h⟩ := h
    walk_at "w2"
    rcases tz with ⟨k, rfl⟩ | o
    · walk_at "w2"
      rw [cpOf_int] at h
      split
      · rw [if_neg (by omega)] at h
        exact h
      · rw [if_pos (by omega)] at h
        refine ⟨recv M.ob, m, dx, l, ws, v1, k, rfl, M, t1, ?_⟩
        cases e1 : stretchOf ws.length k v1 with
        | none =>
          rw [e1] at h
          exact h
        | some i =>
          rw [e1] at h
          walk_at "w2"
          refine ⟨recv M.ob, m, dx, l, ws, v2, k, rfl, M, t2, ?_⟩
          cases e2 : stretchOf ws.length k v2 with
          | none =>
            rw [e2] at h
            exact h
          | some j =>
            rw [e2] at h
            obtain ⟨rfl, hi⟩ := stretchOf_some e1
            obtain ⟨rfl, hj⟩ := stretchOf_some e2
            walk_at "w2"
            obtain ⟨k, rfl⟩ := Int.eq_ofNat_of_zero_le (show 0 ≤ k by omega)
            have hz := M.sz
            have ki := cut_get (ws := ws) (i := i) (k := k) (by omega) (t := 0)
            rw [Int.toNat_natCast] at h
            refine ⟨_, fldIs M.ob, l, _, rfl, .of M.ls, fun p hp => ⟨by omega, by omega, ?_⟩⟩
            rw [Int.toNat_natCast]
            have s1 : Same H (upd H p (.lst (cutV (ws.map V.int) (some (i : Int)) (some ((i : Int) + (k : Int)))))) := same_new hp
            refine forW_range (fun t σ H' => ∃ o5, σ = [some (.ref m), some (.int i), some (.int j), some (.int k), some (.ref p), o5] ∧ MemO K H' m dx l (cpT ws i j t) ∧ H' p = some (.lst (cutV (ws.map V.int) (some (i : Int)) (some ((i : Int) + (k : Int))))) ∧
              (∀ b o, b ≠ l → H b = some o → H' b = some o) ∧ ∀ v, Thing H v → Thing H' v) ⟨_, rfl, M.same s1, upd_same, fun b o _ e => s1 b o e, fun v t => thing_same s1 t⟩ ?_ ?_
            · rintro t σ H' ht ⟨o5, rfl, M', hp', k1, k2⟩
              walk_at "w2"
              refine r_ixS (.of hp') (at_pos (by omega) (v := .int (ws.getD (i + t) 0)) ?_) ?_
              · have e0 : ((0 : Int) + (t : Int)).toNat = t := by omega
                rw [e0]
                exact cut_get (by omega) ht
              walk_at "w2"
              refine ⟨_, fldIs M'.ob, ?_⟩
              walk_at "w2"
              have pl : p ≠ l := fun e => by
                have z := M.ls
                rw [← e, hp] at z
                cases z
              refine r_setL M'.ls (by omega) (by rw [List.length_map, cpT_len]; omega) ?_
              have e1 : ((j : Int) + ((0 : Int) + (t : Int))).toNat = j + t := by omega
              rw [e1, ← List.map_set, ← cpT_succ]
              have M2 := M'.put (cpT ws i j (t + 1)) (by rw [cpT_len, cpT_len])
              exact ⟨_, rfl, M2, by rw [upd_ne pl]; exact hp', fun b o hb e => by rw [upd_ne hb]; exact k1 b o hb e, fun v tv => thing_upd M'.ls rfl (k2 v tv)⟩
            · rintro σ H' ⟨o5, rfl, M', hp', k1, k2⟩
              exact h H' M' k1 k2
    · rw [odd_whole o]
      rw [cpOf_odd o] at h
      walk_at "w2"
      exact h
end

local macro_rules | `(tactic| walk_at "w2") => `(tactic| try simp only [↓x_var0, ↓x_varS, ↓x_c, ↓x_op, ↓x_un, ↓x_cb, ↓x_nil, ↓x_cons, ↓x_test, ↓x_b, ↓x_ex, ↓x_and, ↓x_or, ↓x_not, ↓x_andV, ↓x_orV, ↓x_notV, ↓x_tif, ↓x_chain, ↓x_menu, ↓x_menuI, ↓x_lst, ↓x_tup, ↓x_dnew, ↓x_callW, ↓x_callN, ↓x_seq, ↓x_next, ↓x_ret, ↓x_retN, ↓x_drop, ↓x_ifS, ↓x_asg, ↓x_name, ↓x_raise, ↓x_fld, ↓x_setF, ↓x_meth, ↓x_make, ↓x_sub, ↓r_min, ↓r_max, ↓x_yes, ↓x_for, ↓x_lock, ↓x_keys, ↓x_cut, ↓x_lc, ↓x_rng1, ↓x_rng2, ↓x_lst1, ↓x_itup, ↓x_rng3, ↓x_three, ↓x_lstg, ↓x_tupg, ↓x_adrS, ↓x_one, ↓x_two, ↓x_adr, ↓x_sl, ↓x_np, ↓x_pt, ↓x_int, ↓x_bm, ↓x_bm0, ↓x_consg, ↓x_nilg, ↓x_dget2, ↓x_dget1, ↓x_dgetN, ↓x_dget, ↓x_din, ↓x_dni, ↓x_dput, ↓x_dpop2, ↓r_isB, ↓r_notB, ↓x_enum, ↓x_zip, ↓x_str, ↓x_strE, ↓r_inS, ↓r_ninS, wipe, List.map_cons, List.map_nil, ↓x_isT, ↓r_isiII, ↓r_isiBB, ↓r_isiIB, ↓r_isiSS, ↓r_neNS, ↓r_neSN, ↓r_neNN, ↓r_eqNS, ↓r_eqSN, ↓r_eqNN, ↓r_eqIS, ↓r_neIS, ↓r_neSI, ↓r_neBS, ↓r_eqBB, ↓r_neBB, ↓x_start, ↓x_K, ↓x_start0, ↓r_i0, ↓r_i, ↓r_u, ↓r_addI, ↓r_addS, ↓r_mulI, ↓r_mulS, ↓r_eqI, ↓r_neI, ↓r_eqS, ↓r_neS, ↓r_absI, ↓r_intI, ↓r_intB, List.length_cons, List.length_nil, List.replicate, List.set_cons_zero, List.set_cons_succ, decide_eq_true_eq, Bool.not_eq_true', decide_eq_false_iff_not, if_true, if_false, Bool.false_eq_true, Bool.true_eq_false, ite_true, ite_false, Bool.not_true, Bool.not_false, c_div, n_ten, c_pow, not_true_eq_false, not_false_eq_true, decide_true, decide_false, true_and, and_true, and_self, true_or, or_true, Int.reduceLT, Int.reduceLE, Int.reduceMul, Int.reduceAdd, Int.reduceSub, Int.reducePow, Int.reduceNeg, Int.reduceDiv, Int.reduceMod, Nat.reducePow, Int.reduceToNat, Int.reduceEq, Int.reduceNe, Nat.reduceLT, Nat.reduceLeDiff, Nat.reduceAdd, ↓x_whole, ↓x_kind])
/-! ## cells in a memory -/
/-- what head_of finds at a thing: no place, no cell, or the place and the head -/
inductive Hd where
  | noPlace | noCell | ok (i : Nat) (h : Nat)
def headAt (w : Int) : Option Nat := match wordOf w with
  | some (.num n) => if 0 ≤ n ∧ n ≤ 34 ∧ n % 4 ≤ 2 then some n.toNat else none
  | _ => none
def headW (ws : List Int) (v : V) : Hd := match placeOf ws.length v with
  | none => .noPlace
  | some i => match headAt (ws.getD i 0) with
    | none => .noCell
    | some h => .ok i h
theorem headAt_some {w : Int} {h : Nat} (e : headAt w = some h) : w = 2 * (h : Int) ∧ h ≤ 34 ∧ h % 4 ≤ 2 := by
  unfold headAt at e
  split at e
  · rename_i n en
    split at e
    · rename_i c
      have e := Option.some.inj e
      have hw : w = 2 * n := by
        unfold wordOf at en
        split at en
        · cases en
        · split at en
          · have := Wd.num.inj (Option.some.inj en)
            omega
          · split at en
            · cases en
            · cases en
      omega
    · cases e
  · cases e
theorem head_ok {ws : List Int} {v : V} {i h : Nat} (e : headW ws v = .ok i h) : v = .int (i : Int) ∧ i < ws.length ∧ headAt (ws.getD i 0) = some h := by
  unfold headW at e
  cases e1 : placeOf ws.length v with
  | none => rw [e1] at e; cases e
  | some j =>
    rw [e1] at e
    obtain ⟨a, b⟩ := placeOf_some e1
    have e : (match headAt (ws.getD j 0) with
      | none => Hd.noCell
      | some h => .ok j h) = .ok i h := e
    cases e2 : headAt (ws.getD j 0) with
    | none => rw [e2] at e; cases e
    | some h' =>
      rw [e2] at e
      cases e
      exact ⟨a, b, e2⟩
theorem ans_head' {ws : List Int} {i k : Nat} (hi : i < ws.length) (e : headAt (ws.getD i 0) = some k) : headW ws (.int (i : Int)) = .ok i k := by
  unfold headW
  rw [placeOf_int, if_pos ⟨by omega, by omega⟩, Int.toNat_natCast]
  dsimp only
  rw [e]
def slotsW : V → Option Nat
  | .int n => if 0 ≤ n ∧ n ≤ 8 then some n.toNat else none
  | _ => none
theorem slotsW_int {n : Int} : slotsW (.int n) = if 0 ≤ n ∧ n ≤ 8 then some n.toNat else none := rfl
theorem slotsW_odd {H : Hp} {v : V} (h : Odd H v) : slotsW v = none := by
  cases v with
  | int i => exact (odd_not h).elim
  | _ => rfl
theorem slotsW_some {v : V} {s : Nat} (h : slotsW v = some s) : v = .int (s : Int) ∧ s ≤ 8 := by
  cases v with
  | int j =>
    rw [slotsW_int] at h
    split at h
    · rename_i c
      have e := Option.some.inj h
      exact ⟨by rw [← e]; congr 1; omega, by omega⟩
    · cases h
  | _ => cases h
def ageW : V → Option Nat
  | .int n => if 0 ≤ n ∧ n ≤ 2 then some n.toNat else none
  | _ => none
theorem ageW_int {n : Int} : ageW (.int n) = if 0 ≤ n ∧ n ≤ 2 then some n.toNat else none := rfl
theorem ageW_odd {H : Hp} {v : V} (h : Odd H v) : ageW v = none := by
  cases v with
  | int i => exact (odd_not h).elim
  | _ => rfl
/-- t slots of a cell at i emptied -/
def layT (ws : List Int) (i s t : Nat) : List Int := (List.range t).foldl (fun a u => a.set (i + 1 + u) (-1)) (ws.set i (8 * (s : Int)))
theorem layT_succ {ws : List Int} {i s t : Nat} : layT ws i s (t + 1) = (layT ws i s t).set (i + 1 + t) (-1) := by
  unfold layT
  rw [List.range_succ, List.foldl_append]
  rfl
theorem layT_len {ws : List Int} {i s t : Nat} : (layT ws i s t).length = ws.length := by
  induction t with
  | zero => exact List.length_set ..
  | succ t ih => rw [layT_succ, List.length_set, ih]
theorem layT_vw {ws : List Int} (h : Vw ws) {i s t : Nat} (hs : s ≤ 8) : Vw (layT ws i s t) := by
  induction t with
  | zero =>
    have e : (8 * (s : Int)) = 2 * (4 * (s : Int)) := by omega
    exact h.set (by rw [e, word_num (by omega)]; rfl)
  | succ t ih =>
    rw [layT_succ]
    exact ih.set rfl
def Fit (ws : List Int) : Prop := ∀ i h : Nat, i < ws.length → headAt (ws.getD i 0) = some h → i + h / 4 < ws.length
theorem getD_set {ws : List Int} {i j : Nat} {n : Int} (hi : i < ws.length) : (ws.set i n).getD j 0 = if i = j then n else ws.getD j 0 := by
  rw [List.getD_eq_getElem?_getD, List.getElem?_set, List.getD_eq_getElem?_getD]
  split
  · rename_i e
    subst e
    first | rfl | (rw [if_pos hi]; rfl)
  · rfl
theorem Fit.set {ws : List Int} (f : Fit ws) {i : Nat} {n : Int} (hi : i < ws.length) (hn : ∀ h, headAt n = some h → i + h / 4 < ws.length) : Fit (ws.set i n) := fun j h hj e => by
  rw [List.length_set] at hj ⊢
  rw [getD_set hi] at e
  split at e
  · rename_i c
    subst c
    exact hn h e
  · exact f j h hj e
theorem head_none1 : headAt (-1) = none := rfl
theorem Fit.lay {ws : List Int} (f : Fit ws) {i s : Nat} (hi : i + s < ws.length) : ∀ t, t ≤ s → Fit (layT ws i s t)
  | 0, _ => f.set (by omega) fun h e => by
    have := (headAt_some e).1
    omega
  | t + 1, ht => by
    rw [layT_succ]
    have ll := layT_len (ws := ws) (i := i) (s := s) (t := t)
    refine (Fit.lay f hi t (by omega)).set (by omega) fun h e => ?_
    rw [head_none1] at e
    cases e
theorem Fit.rep {n : Nat} : Fit (List.replicate n (-1)) := fun i h hi e => by
  rw [List.length_replicate] at hi
  have : (List.replicate n (-1 : Int)).getD i 0 = -1 := by
    rw [List.getD_eq_getElem?_getD, List.getElem?_replicate, if_pos hi]
    rfl
  rw [this, head_none1] at e
  cases e
/-- the places in the slots of a cell at i -/
def kidsT (ws : List Int) (i t : Nat) : List Int := (List.range t).filterMap fun u => match wordOf (ws.getD (i + 1 + u) 0) with
  | some (.place p) => some p
  | _ => none
theorem kidsT_succ {ws : List Int} {i t : Nat} : kidsT ws i (t + 1) = kidsT ws i t ++ (match wordOf (ws.getD (i + 1 + t) 0) with
  | some (.place p) => [p]
  | _ => []) := by
  unfold kidsT
  rw [List.range_succ, List.filterMap_append]
  congr 1
  rw [List.filterMap_cons, List.filterMap_nil]
  cases e : wordOf (ws.getD (i + 1 + t) 0) with
  | none => rfl
  | some w => cases w <;> rfl
theorem kidsT_len {ws : List Int} {i t : Nat} : (kidsT ws i t).length ≤ t := by
  have := List.length_filterMap_le (fun u => match wordOf (ws.getD (i + 1 + u) 0) with
    | some (.place p) => some p
    | _ => none) (List.range t)
  rw [List.length_range] at this
  exact this
def sp_need_slots (K : PySem.W.Frag) : Sp := fun vs H Q E => ∃ v, vs = [v] ∧ Thing H v ∧ match slotsW v with
  | some _ => Q .non H
  | none => E (Ex K "BadCount") none H
def sp_head_of (K : PySem.W.Frag) : Sp := fun vs H Q E => ∃ m dx l ws v, vs = [.ref m, v] ∧ MemO K H m dx l ws ∧ Vw ws ∧ Thing H v ∧ match headW ws v with
  | .noPlace => E (Ex K "NoPlace") none H
  | .noCell => E (Ex K "NoCell") none H
  | .ok _ h => Q (.int h) H
def sp_slots_of (K : PySem.W.Frag) : Sp := fun vs H Q E => ∃ m dx l ws v, vs = [.ref m, v] ∧ MemO K H m dx l ws ∧ Vw ws ∧ Thing H v ∧ match headW ws v with
  | .noPlace => E (Ex K "NoPlace") none H
  | .noCell => E (Ex K "NoCell") none H
  | .ok _ h => Q (.int ((h / 4 : Nat) : Int)) H
def sp_age_of (K : PySem.W.Frag) : Sp := fun vs H Q E => ∃ m dx l ws v, vs = [.ref m, v] ∧ MemO K H m dx l ws ∧ Vw ws ∧ Thing H v ∧ match headW ws v with
  | .noPlace => E (Ex K "NoPlace") none H
  | .noCell => E (Ex K "NoCell") none H
  | .ok _ h => Q (.int ((h % 4 : Nat) : Int)) H
def sp_words_of (K : PySem.W.Frag) : Sp := fun vs H Q E => ∃ m dx l ws v, vs = [.ref m, v] ∧ MemO K H m dx l ws ∧ Vw ws ∧ Thing H v ∧ match headW ws v with
  | .noPlace => E (Ex K "NoPlace") none H
  | .noCell => E (Ex K "NoCell") none H
  | .ok _ h => Q (.int ((h / 4 + 1 : Nat) : Int)) H
def sp_aged (K : PySem.W.Frag) : Sp := fun vs H Q E => ∃ m dx l ws v z, vs = [.ref m, v, z] ∧ MemO K H m dx l ws ∧ Vw ws ∧ Thing H v ∧ Thing H z ∧ match headW ws v with
  | .noPlace => E (Ex K "NoPlace") none H
  | .noCell => E (Ex K "NoCell") none H
  | .ok i h => match ageW z with
    | none => E (Ex K "BadCount") none H
    | some a => Q .non (upd H l (.lst ((ws.set i (2 * ((4 * (h / 4) + a : Nat) : Int))).map V.int)))
def sp_slot_place (K : PySem.W.Frag) : Sp := fun vs H Q E => ∃ m dx l ws v z, vs = [.ref m, v, z] ∧ MemO K H m dx l ws ∧ Vw ws ∧ Thing H v ∧ Thing H z ∧ match headW ws v with
  | .noPlace => E (Ex K "NoPlace") none H
  | .noCell => E (Ex K "NoCell") none H
  | .ok i h => match placeOf (h / 4) z with
    | none => E (Ex K "NoSlot") none H
    | some s => Q (.int ((i + 1 + s : Nat) : Int)) H
def sp_children (K : PySem.W.Frag) : Sp := fun vs H Q E => ∃ m dx l ws v, vs = [.ref m, v] ∧ MemO K H m dx l ws ∧ Vw ws ∧ Thing H v ∧ match headW ws v with
  | .noPlace => ∀ H', Same H H' → E (Ex K "NoPlace") none H'
  | .noCell => ∀ H', Same H H' → E (Ex K "NoCell") none H'
  | .ok i h => i + h / 4 < ws.length ∧ ∀ p H', H p = none → Same H H' → H' p = some (.lst ((kidsT ws i (h / 4)).map V.int)) → Q (.ref p) H'
def sp_send (K : PySem.W.Frag) : Sp := fun vs H Q E => ∃ m dx l ws v z, vs = [.ref m, v, z] ∧ MemO K H m dx l ws ∧ Vw ws ∧ Thing H v ∧ Thing H z ∧ match headW ws v with
  | .noPlace => E (Ex K "NoPlace") none H
  | .noCell => E (Ex K "NoCell") none H
  | .ok i _ => match placeW z with
    | none => E (Ex K "NoPlace") none H
    | some g => Q .non (upd H l (.lst ((ws.set i (2 * g + 1)).map V.int)))
def sp_sent_to (K : PySem.W.Frag) : Sp := fun vs H Q E => ∃ m dx l ws v, vs = [.ref m, v] ∧ MemO K H m dx l ws ∧ Vw ws ∧ Thing H v ∧ match placeOf ws.length v with
  | none => E (Ex K "NoPlace") none H
  | some i => match wordOf (ws.getD i 0) with
    | some (.place p) => Q (.int p) H
    | _ => match headAt (ws.getD i 0) with
      | none => E (Ex K "NoCell") none H
      | some _ => Q .non H
def sp_lay (K : PySem.W.Frag) : Sp := fun vs H Q E => ∃ m dx l ws v z, vs = [.ref m, v, z] ∧ MemO K H m dx l ws ∧ Thing H v ∧ Thing H z ∧ match slotsW z with
  | none => E (Ex K "BadCount") none H
  | some s => match placeOf (ws.length - s) v with
    | none => E (Ex K "NoPlace") none H
    | some i => ∀ H', MemO K H' m dx l (layT ws i s s) → (∀ b o, b ≠ l → H b = some o → H' b = some o) → Q .non H'
section
variable {P : Program} {w : World} {K : PySem.W.Frag} {mg : Str → Option Value} {base : Heap}
theorem f_need_slots (T : Tx K mg) : Fn P w K mg base 2 "need_slots" ["slots"] (sp_need_slots K) := by
  have c_is_whole := f_is_whole (P := P) (w := w) (base := base) T
  refine T.mkFn 5 23 (d := d_need_slots) (N := ["slots"]) (k := 1) rfl rfl rfl rfl rfl sc_need_slots (fun _ _ _ _ _ _ us hl => match us, hl with | [_], _ => rfl) (fun vs H Q E h => ?len) (fun cdv A outer s H vs Q E hr h => ⟨_,
      (pss_one (ps_if (PW.pt (pw_or (pt_not (pt_val (pe_fn (takes_of rfl rfl rfl rfl) c_is_whole (hr.mono (by decide)) (by rfl) (pa_cons (pv 0) pa_nil)))) (pw_or1 (pt_not (pt_chain op_le op_le pe_int (pv 0) (pe_num (T.num 55) (by rfl))))))) (pss_one (ps_raiseK (K := K) rfl rfl (takes_of rfl rfl rfl rfl) (T.says.fact 76 rfl) (T.glo 3) (by rfl))) pss_nil)), ?rd⟩)
  case len => obtain ⟨v, rfl, _⟩ := h; rfl
  case rd =>
    obtain ⟨v, rfl, th, h⟩ := h
    walk_at "w2"
    rcases th with ⟨n, rfl⟩ | o
    · walk_at "w2"
      rw [slotsW_int] at h
      split
      · split
        · rw [if_neg (by omega)] at h
          exact h
        · rw [if_pos (by omega)] at h
          exact h
      · rw [if_neg (by omega)] at h
        exact h
    · rw [odd_whole o]
      rw [slotsW_odd o] at h
      walk_at "w2"
      exact h
theorem f_head_of (T : Tx K mg) : Fn P w K mg base 4 "head_of" ["memory", "at"] (sp_head_of K) := by
  have c_Memory_read := f_Memory_read (P := P) (w := w) (base := base) T
  have c_worth := f_worth (P := P) (w := w) (base := base) T
  have c_kind := f_kind (P := P) (w := w) (base := base) T
  refine T.mkFn 7 25 (d := d_head_of) (N := ["memory", "at", "word"]) (k := 3) rfl rfl rfl rfl rfl sc_head_of (fun _ _ _ _ _ _ us hl => match us, hl with | [_, _], _ => rfl) (fun vs H Q E h => ?len) (fun cdv A outer s H vs Q E hr h => ⟨_,
      (pss_cons (ps_set (i := 2) sc_head_of.nd rfl (Or.inl rfl) (pe_mt (K := K) rfl (takes_of rfl rfl rfl rfl) (pv 0) c_Memory_read (hr.mono (by decide)) (pa_cons (pv 1) pa_nil)))
        (pss_cons (ps_if (PW.pt (pw_or (pt_cmpR (op_neK (K := K) rfl hr.units) (pe_fn (takes_of rfl rfl rfl rfl) c_kind (hr.mono (by decide)) (by rfl) (pa_cons (pv 2) pa_nil)) pe_str (nomark _)) (pw_or (pt_not (pt_chain op_le op_le pe_int (pe_fn (takes_of rfl rfl rfl rfl) c_worth (hr.mono (by decide)) (by rfl) (pa_cons (pv 2) pa_nil)) (pe_op op_gAdd (pe_op op_gMul pe_int (pe_num (T.num 55) (by rfl))) (pe_num (T.num 56) (by rfl))))) (pw_or1 (pt_cmpR op_gt (pe_op op_mod (pe_fn (takes_of rfl rfl rfl rfl) c_worth (hr.mono (by decide)) (by rfl) (pa_cons (pv 2) pa_nil)) pe_int) (pe_num (T.num 56) (by rfl)) (nomark _)))))) (pss_one (ps_raiseK (K := K) rfl rfl (takes_of rfl rfl rfl rfl) (T.says.fact 80 rfl) (T.glo 7) (by rfl))) pss_nil)
        (pss_one (ps_ret (pe_fn (takes_of rfl rfl rfl rfl) c_worth (hr.mono (by decide)) (by rfl) (pa_cons (pv 2) pa_nil)))))), ?rd⟩)
  case len => obtain ⟨m, dx, l, ws, v, rfl, _⟩ := h; rfl
  case rd =>
    obtain ⟨m, dx, l, ws, v, rfl, M, vw, th, h⟩ := h
    walk_at "w2"
    refine ⟨recv M.ob, m, dx, l, ws, v, rfl, M, th, ?_⟩
    unfold headW at h
    cases e : placeOf ws.length v with
    | none =>
      rw [e] at h
      exact h
    | some i =>
      rw [e] at h
      obtain ⟨rfl, hi⟩ := placeOf_some e
      obtain ⟨w, ew⟩ := vw.get hi
      walk_at "w2"
      have h : (match headAt (ws.getD i 0) with
        | none => E (Ex K "NoCell") none H
        | some h => Q (.int (h : Int)) H) := by
        cases eh : headAt (ws.getD i 0) with
        | none =>
          have h : (match (match headAt (ws.getD i 0) with
            | none => Hd.noCell
            | some h => .ok i h) with
            | .noPlace => E (Ex K "NoPlace") none H
            | .noCell => E (Ex K "NoCell") none H
            | .ok _ h => Q (.int (h : Int)) H) := h
          rw [eh] at h
          exact h
        | some k =>
          have h : (match (match headAt (ws.getD i 0) with
            | none => Hd.noCell
            | some h => .ok i h) with
            | .noPlace => E (Ex K "NoPlace") none H
            | .noCell => E (Ex K "NoCell") none H
            | .ok _ h => Q (.int (h : Int)) H) := h
          rw [eh] at h
          exact h
      unfold headAt at h
      generalize ws.getD i 0 = z at ew h
      simp only [x_worth]
      rw [ew] at h ⊢
      dsimp only at h ⊢
      cases w with
      | nothing =>
        simp only [k_nn, k_pn, k_Nn, k_np, k_Np, k_pp, not_true_eq_false, not_false_eq_true, if_true, if_false, ite_true, ite_false, Wd.worth]
        exact h
      | place p =>
        simp only [k_nn, k_pn, k_Nn, k_np, k_Np, k_pp, not_true_eq_false, not_false_eq_true, if_true, if_false, ite_true, ite_false, Wd.worth]
        exact h
      | num n =>
        simp only [k_nn, k_pn, k_Nn, k_np, k_Np, k_pp, not_true_eq_false, not_false_eq_true, if_true, if_false, ite_true, ite_false, Wd.worth]
        have h : (match (if 0 ≤ n ∧ n ≤ 34 ∧ n % 4 ≤ 2 then some n.toNat else none) with
          | none => E (Ex K "NoCell") none H
          | some h => Q (.int (h : Int)) H) := h
        walk_at "w2"
        split
        · split
          · rw [if_neg (by omega)] at h
            exact h
          · split
            · rw [if_neg (by omega)] at h
              exact h
            · rw [if_pos (by omega)] at h
              have e : ((n.toNat : Nat) : Int) = n := Int.toNat_of_nonneg (by omega)
              have h : Q (.int ((n.toNat : Nat) : Int)) H := h
              rw [e] at h
              exact h
        · rw [if_neg (by omega)] at h
          exact h
theorem f_slots_of (T : Tx K mg) : Fn P w K mg base 5 "slots_of" ["memory", "at"] (sp_slots_of K) := by
  have c_head_of := f_head_of (P := P) (w := w) (base := base) T
  refine T.mkFn 8 26 (d := d_slots_of) (N := ["memory", "at"]) (k := 4) rfl rfl rfl rfl rfl sc_slots_of (fun _ _ _ _ _ _ us hl => match us, hl with | [_, _], _ => rfl) (fun vs H Q E h => ?len) (fun cdv A outer s H vs Q E hr h => ⟨_,
      (pss_one (ps_ret (pe_op op_fdiv (pe_fn (takes_of rfl rfl rfl rfl) c_head_of (hr.mono (by decide)) (by rfl) (pa_cons (pv 0) (pa_cons (pv 1) pa_nil))) pe_int))), ?rd⟩)
  case len => obtain ⟨m, dx, l, ws, v, rfl, _⟩ := h; rfl
  case rd =>
    obtain ⟨m, dx, l, ws, v, rfl, M, vw, th, h⟩ := h
    walk_at "w2"
    refine ⟨m, dx, l, ws, v, rfl, M, vw, th, ?_⟩
    cases e : headW ws v with
    | noPlace =>
      rw [e] at h
      exact h
    | noCell =>
      rw [e] at h
      exact h
    | ok i k =>
      rw [e] at h
      walk_at "w2"
      have e2 : (k : Int) / 4 = ((k / 4 : Nat) : Int) := by omega
      rw [e2]
      exact h
theorem f_words_of (T : Tx K mg) : Fn P w K mg base 6 "words_of" ["memory", "at"] (sp_words_of K) := by
  have c_slots_of := f_slots_of (P := P) (w := w) (base := base) T
  refine T.mkFn 9 27 (d := d_words_of) (N := ["memory", "at"]) (k := 5) rfl rfl rfl rfl rfl sc_words_of (fun _ _ _ _ _ _ us hl => match us, hl with | [_, _], _ => rfl) (fun vs H Q E h => ?len) (fun cdv A outer s H vs Q E hr h => ⟨_,
      (pss_one (ps_ret (pe_op op_gAdd (pe_fn (takes_of rfl rfl rfl rfl) c_slots_of (hr.mono (by decide)) (by rfl) (pa_cons (pv 0) (pa_cons (pv 1) pa_nil))) pe_int))), ?rd⟩)
  case len => obtain ⟨m, dx, l, ws, v, rfl, _⟩ := h; rfl
  case rd =>
    obtain ⟨m, dx, l, ws, v, rfl, M, vw, th, h⟩ := h
    walk_at "w2"
    refine ⟨m, dx, l, ws, v, rfl, M, vw, th, ?_⟩
    cases e : headW ws v with
    | noPlace =>
      rw [e] at h
      exact h
    | noCell =>
      rw [e] at h
      exact h
    | ok i k =>
      rw [e] at h
      walk_at "w2"
      have e2 : ((k / 4 : Nat) : Int) + 1 = ((k / 4 + 1 : Nat) : Int) := by omega
      rw [e2]
      exact h
theorem f_aged (T : Tx K mg) : Fn P w K mg base 6 "aged" ["memory", "at", "age"] (sp_aged K) := by
  have c_slots_of := f_slots_of (P := P) (w := w) (base := base) T
  have c_is_whole := f_is_whole (P := P) (w := w) (base := base) T
  have c_Memory_write := f_Memory_write (P := P) (w := w) (base := base) T
  have c_number_word := f_number_word (P := P) (w := w) (base := base) T
  refine T.mkFn 10 28 (d := d_aged) (N := ["memory", "at", "age", "slots"]) (k := 5) rfl rfl rfl rfl rfl sc_aged (fun _ _ _ _ _ _ us hl => match us, hl with | [_, _, _], _ => rfl) (fun vs H Q E h => ?len) (fun cdv A outer s H vs Q E hr h => ⟨_,
      (pss_cons (ps_set (i := 3) sc_aged.nd rfl (Or.inl rfl) (pe_fn (takes_of rfl rfl rfl rfl) c_slots_of (hr.mono (by decide)) (by rfl) (pa_cons (pv 0) (pa_cons (pv 1) pa_nil))))
        (pss_cons (ps_if (PW.pt (pw_or (pt_not (pt_val (pe_fn (takes_of rfl rfl rfl rfl) c_is_whole (hr.mono (by decide)) (by rfl) (pa_cons (pv 2) pa_nil)))) (pw_or1 (pt_not (pt_chain op_le op_le pe_int (pv 2) (pe_num (T.num 56) (by rfl))))))) (pss_one (ps_raiseK (K := K) rfl rfl (takes_of rfl rfl rfl rfl) (T.says.fact 76 rfl) (T.glo 3) (by rfl))) pss_nil)
        (pss_one (ps_expr (pe_mt (K := K) rfl (takes_of rfl rfl rfl rfl) (pv 0) c_Memory_write (hr.mono (by decide)) (pa_cons (pv 1) (pa_cons (pe_fn (takes_of rfl rfl rfl rfl) c_number_word (hr.mono (by decide)) (by rfl) (pa_cons (pe_op op_gAdd (pe_op op_gMul pe_int (pv 3)) (pv 2)) pa_nil)) pa_nil))))))), ?rd⟩)
  case len => obtain ⟨m, dx, l, ws, v, z, rfl, _⟩ := h; rfl
  case rd =>
    obtain ⟨m, dx, l, ws, v, z, rfl, M, vw, th, tz, h⟩ := h
    walk_at "w2"
    refine ⟨m, dx, l, ws, v, rfl, M, vw, th, ?_⟩
    cases e : headW ws v with
    | noPlace =>
      rw [e] at h
      exact h
    | noCell =>
      rw [e] at h
      exact h
    | ok i k =>
      rw [e] at h
      obtain ⟨rfl, hi, eh⟩ := head_ok e
      obtain ⟨-, h34, -⟩ := headAt_some eh
      walk_at "w2"
      rcases tz with ⟨n, rfl⟩ | o
      · walk_at "w2"
        rw [ageW_int] at h
        split
        · split
          · rw [if_neg (by omega)] at h
            exact h
          · rw [if_pos (by omega)] at h
            refine ⟨recv M.ob, ?_⟩
            rw [x_number_word, if_pos (by omega)]
            have e1 : (wordOf (2 * (4 * ((k / 4 : Nat) : Int) + n))).isSome = true := by rw [word_num (by omega)]; rfl
            refine ⟨m, dx, l, ws, _, _, rfl, M, .inl ⟨_, rfl⟩, .inl ⟨_, rfl⟩, ?_⟩
            rw [placeOf_int, if_pos ⟨by omega, by omega⟩, wordV_int, if_pos e1, Int.toNat_natCast]
            have e2 : 4 * ((k / 4 : Nat) : Int) + n = ((4 * (k / 4) + n.toNat : Nat) : Int) := by omega
            have e3 : 2 * (4 * ((k / 4 : Nat) : Int) + n) = 2 * ((4 * (k / 4) + n.toNat : Nat) : Int) := by omega
            show Q .non (upd H l (.lst ((ws.set i (2 * (4 * ((k / 4 : Nat) : Int) + n))).map V.int)))
            rw [e3]
            exact h
        · rw [if_neg (by omega)] at h
          exact h
      · rw [odd_whole o]
        rw [ageW_odd o] at h
        walk_at "w2"
        exact h
theorem f_slot_place (T : Tx K mg) : Fn P w K mg base 6 "slot_place" ["memory", "at", "slot"] (sp_slot_place K) := by
  have c_slots_of := f_slots_of (P := P) (w := w) (base := base) T
  have c_is_whole := f_is_whole (P := P) (w := w) (base := base) T
  refine T.mkFn 11 29 (d := d_slot_place) (N := ["memory", "at", "slot", "slots"]) (k := 5) rfl rfl rfl rfl rfl sc_slot_place (fun _ _ _ _ _ _ us hl => match us, hl with | [_, _, _], _ => rfl) (fun vs H Q E h => ?len) (fun cdv A outer s H vs Q E hr h => ⟨_,
      (pss_cons (ps_set (i := 3) sc_slot_place.nd rfl (Or.inl rfl) (pe_fn (takes_of rfl rfl rfl rfl) c_slots_of (hr.mono (by decide)) (by rfl) (pa_cons (pv 0) (pa_cons (pv 1) pa_nil))))
        (pss_cons (ps_if (PW.pt (pw_or (pt_not (pt_val (pe_fn (takes_of rfl rfl rfl rfl) c_is_whole (hr.mono (by decide)) (by rfl) (pa_cons (pv 2) pa_nil)))) (pw_or1 (pt_not (pt_chain op_le op_lt pe_int (pv 2) (pv 3)))))) (pss_one (ps_raiseK (K := K) rfl rfl (takes_of rfl rfl rfl rfl) (T.says.fact 79 rfl) (T.glo 6) (by rfl))) pss_nil)
        (pss_one (ps_ret (pe_op op_gAdd (pe_op op_gAdd (pv 1) pe_int) (pv 2)))))), ?rd⟩)
  case len => obtain ⟨m, dx, l, ws, v, z, rfl, _⟩ := h; rfl
  case rd =>
    obtain ⟨m, dx, l, ws, v, z, rfl, M, vw, th, tz, h⟩ := h
    walk_at "w2"
    refine ⟨m, dx, l, ws, v, rfl, M, vw, th, ?_⟩
    cases e : headW ws v with
    | noPlace =>
      rw [e] at h
      exact h
    | noCell =>
      rw [e] at h
      exact h
    | ok i k =>
      rw [e] at h
      obtain ⟨rfl, hi, eh⟩ := head_ok e
      walk_at "w2"
      have h : (match placeOf (k / 4) z with
        | none => E (Ex K "NoSlot") none H
        | some s => Q (.int ((i + 1 + s : Nat) : Int)) H) := h
      rcases tz with ⟨n, rfl⟩ | o
      · walk_at "w2"
        rw [placeOf_int] at h
        split
        · split
          · rw [if_neg (by omega)] at h
            exact h
          · rw [if_pos (by omega)] at h
            have e2 : (i : Int) + 1 + n = ((i + 1 + n.toNat : Nat) : Int) := by omega
            rw [e2]
            exact h
        · rw [if_neg (by omega)] at h
          exact h
      · rw [odd_whole o]
        rw [placeOf_odd o] at h
        walk_at "w2"
        exact h
theorem f_children (T : Tx K mg) : Fn P w K mg base 6 "children" ["memory", "at"] (sp_children K) := by
  have c_slots_of := f_slots_of (P := P) (w := w) (base := base) T
  have c_Memory_read := f_Memory_read (P := P) (w := w) (base := base) T
  have c_kind := f_kind (P := P) (w := w) (base := base) T
  have c_worth := f_worth (P := P) (w := w) (base := base) T
  refine T.mkFn 12 30 (d := d_children) (N := ["memory", "at", "found", "slot", "word"]) (k := 5) rfl rfl rfl rfl rfl sc_children (fun _ _ _ _ _ _ us hl => match us, hl with | [_, _], _ => rfl) (fun vs H Q E h => ?len) (fun cdv A outer s H vs Q E hr h => ⟨_,
      (pss_cons (ps_set (i := 2) sc_children.nd rfl (Or.inl rfl) (pe_lst pa_nil))
        (pss_cons (ps_for (passes_of rfl) rfl (pi_range1 rfl (T.free 66) (pa_cons (pe_fn (takes_of rfl rfl rfl rfl) c_slots_of (hr.mono (by decide)) (by rfl) (pa_cons (pv 0) (pa_cons (pv 1) pa_nil))) pa_nil)) (pg_name (i := 3) sc_children.nd rfl (Or.inl rfl)) (pss_cons (ps_set (i := 4) sc_children.nd rfl (Or.inl rfl) (pe_mt (K := K) rfl (takes_of rfl rfl rfl rfl) (pv 0) c_Memory_read (hr.mono (by decide)) (pa_cons (pe_op op_gAdd (pe_op op_gAdd (pv 1) pe_int) (pv 3)) pa_nil)))
        (pss_one (ps_if (pt_cmpR (op_eqK (K := K) rfl hr.units) (pe_fn (takes_of rfl rfl rfl rfl) c_kind (hr.mono (by decide)) (by rfl) (pa_cons (pv 4) pa_nil)) pe_str (nomark _)) (pss_one (ps_expr (pe_bm PySem.F.plainAttrs_list PySem.F.slot_list_append PySem.F.type_list_append mt_append (pv 2) (pa_cons (pe_fn (takes_of rfl rfl rfl rfl) c_worth (hr.mono (by decide)) (by rfl) (pa_cons (pv 4) pa_nil)) pa_nil)))) pss_nil))))
        (pss_one (ps_ret (pv 2))))), ?rd⟩)
  case len => obtain ⟨m, dx, l, ws, v, rfl, _⟩ := h; rfl
  case rd =>
    obtain ⟨m, dx, l, ws, v, rfl, M, vw, th, h⟩ := h
    walk_at "w2"
    refine ⟨by rw [sizeLine_eq]; omega, fun p hp => ?_⟩
    have sp := same_new (o := .lst []) hp
    have M1 := M.same sp
    refine ⟨m, dx, l, ws, v, rfl, M1, vw, thing_same sp th, ?_⟩
    cases e : headW ws v with
    | noPlace =>
      rw [e] at h
      exact h _ sp
    | noCell =>
      rw [e] at h
      exact h _ sp
    | ok i k =>
      rw [e] at h
      obtain ⟨rfl, hi, eh⟩ := head_ok e
      obtain ⟨-, h34, -⟩ := headAt_some eh
      obtain ⟨fit, h⟩ := h
      dsimp only
      walk_at "w2"
      have ek : ((k / 4 : Nat) : Int).toNat = k / 4 := Int.toNat_natCast _
      rw [ek]
      refine ⟨by omega, by omega, forW_range (fun t σ H' => ∃ o3 o4, σ = [some (.ref m), some (.int (i : Int)), some (.ref p), o3, o4] ∧ Same H H' ∧ H' p = some (.lst ((kidsT ws i t).map V.int))) ⟨_, _, rfl, sp, upd_same⟩ ?_ ?_⟩
      · rintro t σ H' ht ⟨o3, o4, rfl, s, hp'⟩
        have M2 := M.same s
        have hj : i + 1 + t < ws.length := by omega
        obtain ⟨w, ew⟩ := vw.get hj
        walk_at "w2"
        have ej : (i : Int) + 1 + ((0 : Int) + (t : Int)) = ((i + 1 + t : Nat) : Int) := by omega
        rw [ej]
        refine ⟨recv M2.ob, m, dx, l, ws, _, rfl, M2, .inl ⟨_, rfl⟩, ?_⟩
        rw [placeOf_int, if_pos ⟨by omega, by omega⟩, Int.toNat_natCast]
        dsimp only
        walk_at "w2"
        simp only [x_worth]
        have kl := kidsT_len (ws := ws) (i := i) (t := t)
        rw [kidsT_succ, ew]
        dsimp only
        cases w with
        | nothing =>
          simp only [k_nn, k_pn, k_Nn, k_np, k_Np, k_pp, not_true_eq_false, not_false_eq_true, if_true, if_false, ite_true, ite_false, Wd.worth]
          rw [List.append_nil]
          exact ⟨_, _, rfl, s, hp'⟩
        | num n =>
          simp only [k_nn, k_pn, k_Nn, k_np, k_Np, k_pp, not_true_eq_false, not_false_eq_true, if_true, if_false, ite_true, ite_false, Wd.worth]
          rw [List.append_nil]
          exact ⟨_, _, rfl, s, hp'⟩
        | place g =>
          simp only [k_nn, k_pn, k_Nn, k_np, k_Np, k_pp, not_true_eq_false, not_false_eq_true, if_true, if_false, ite_true, ite_false, Wd.worth]
          refine r_app hp' (by rw [List.length_map, sizeLine_eq]; omega) ⟨_, _, rfl, fun c o e => ?_, ?_⟩
          · rw [upd_ne (ne_of_none e hp)]
            exact s _ _ e
          · rw [upd_same, List.map_append]
            rfl
      · rintro σ H' ⟨o3, o4, rfl, s, hp'⟩
        walk_at "w2"
        exact h p H' hp s hp'
theorem f_lay (T : Tx K mg) : Fn P w K mg base 4 "lay" ["memory", "at", "slots"] (sp_lay K) := by
  have c_need_slots := f_need_slots (P := P) (w := w) (base := base) T
  have c_is_whole := f_is_whole (P := P) (w := w) (base := base) T
  have c_Memory_write := f_Memory_write (P := P) (w := w) (base := base) T
  have c_number_word := f_number_word (P := P) (w := w) (base := base) T
  refine T.mkFn 6 24 (d := d_lay) (N := ["memory", "at", "slots", "slot"]) (k := 3) rfl rfl rfl rfl rfl sc_lay (fun _ _ _ _ _ _ us hl => match us, hl with | [_, _, _], _ => rfl) (fun vs H Q E h => ?len) (fun cdv A outer s H vs Q E hr h => ⟨_,
      (pss_cons (ps_expr (pe_fn (takes_of rfl rfl rfl rfl) c_need_slots (hr.mono (by decide)) (by rfl) (pa_cons (pv 2) pa_nil)))
        (pss_cons (ps_if (PW.pt (pw_or (pt_not (pt_val (pe_fn (takes_of rfl rfl rfl rfl) c_is_whole (hr.mono (by decide)) (by rfl) (pa_cons (pv 1) pa_nil)))) (pw_or (pt_cmpR op_lt (pv 1) pe_int (nomark _)) (pw_or1 (pt_cmpR op_ge (pe_op op_gAdd (pv 1) (pv 2)) (pe_fldC (T.cls 83) (T.noat 90) (pv 0)) (nomark _)))))) (pss_one (ps_raiseK (K := K) rfl rfl (takes_of rfl rfl rfl rfl) (T.says.fact 77 rfl) (T.glo 4) (by rfl))) pss_nil)
        (pss_cons (ps_expr (pe_mt (K := K) rfl (takes_of rfl rfl rfl rfl) (pv 0) c_Memory_write (hr.mono (by decide)) (pa_cons (pv 1) (pa_cons (pe_fn (takes_of rfl rfl rfl rfl) c_number_word (hr.mono (by decide)) (by rfl) (pa_cons (pe_op op_gMul pe_int (pv 2)) pa_nil)) pa_nil))))
        (pss_one (ps_for (passes_of rfl) rfl (pi_range1 rfl (T.free 66) (pa_cons (pv 2) pa_nil)) (pg_name (i := 3) sc_lay.nd rfl (Or.inl rfl)) (pss_one (ps_expr (pe_mt (K := K) rfl (takes_of rfl rfl rfl rfl) (pv 0) c_Memory_write (hr.mono (by decide)) (pa_cons (pe_op op_gAdd (pe_op op_gAdd (pv 1) pe_int) (pv 3)) (pa_cons (pe_num (T.num 54) (by rfl)) pa_nil)))))))))), ?rd⟩)
  case len => obtain ⟨m, dx, l, ws, v, z, rfl, _⟩ := h; rfl
  case rd =>
    obtain ⟨m, dx, l, ws, v, z, rfl, M, th, tz, h⟩ := h
    walk_at "w2"
    refine ⟨z, rfl, tz, ?_⟩
    have hz := M.sz
    cases es : slotsW z with
    | none =>
      rw [es] at h
      exact h
    | some s =>
      rw [es] at h
      obtain ⟨rfl, s8⟩ := slotsW_some es
      have h : (match placeOf (ws.length - s) v with
        | none => E (Ex K "NoPlace") none H
        | some i => ∀ H', MemO K H' m dx l (layT ws i s s) → (∀ b o, b ≠ l → H b = some o → H' b = some o) → Q .non H') := h
      dsimp only
      walk_at "w2"
      rcases th with ⟨n, rfl⟩ | o
      · walk_at "w2"
        rw [placeOf_int] at h
        split
        · rw [if_neg (by omega)] at h
          exact h
        · refine ⟨_, fldIs M.ob, ?_⟩
          walk_at "w2"
          split
          · rw [if_neg (by omega)] at h
            exact h
          · rw [if_pos (by omega)] at h
            obtain ⟨i, rfl⟩ := Int.eq_ofNat_of_zero_le (show 0 ≤ n by omega)
            rw [Int.toNat_natCast] at h
            dsimp only at h
            refine ⟨recv M.ob, ?_⟩
            walk_at "w2"
            rw [x_number_word, if_pos (by omega)]
            have e2 : 2 * (4 * (s : Int)) = 8 * (s : Int) := by omega
            rw [e2]
            have e1 : (wordOf (8 * (s : Int))).isSome = true := by rw [← e2, word_num (by omega)]; rfl
            refine ⟨m, dx, l, ws, _, _, rfl, M, .inl ⟨_, rfl⟩, .inl ⟨_, rfl⟩, ?_⟩
            rw [placeOf_int, if_pos ⟨by omega, by omega⟩, wordV_int, if_pos e1, Int.toNat_natCast]
            dsimp only
            walk_at "w2"
            rw [Int.toNat_natCast]
            have M0 : MemO K (upd H l (.lst ((ws.set i (8 * (s : Int))).map V.int))) m dx l (layT ws i s 0) := M.put _ (List.length_set ..)
            refine ⟨by omega, by omega, forW_range (fun t σ H' => ∃ o3, σ = [some (.ref m), some (.int (i : Int)), some (.int (s : Int)), o3] ∧ MemO K H' m dx l (layT ws i s t) ∧ ∀ b o, b ≠ l → H b = some o → H' b = some o) ⟨_, rfl, M0, fun b o hb e => by rw [upd_ne hb]; exact e⟩ ?_ ?_⟩
            · rintro t σ H' ht ⟨o3, rfl, M2, k⟩
              walk_at "w2"
              have ej : (i : Int) + 1 + ((0 : Int) + (t : Int)) = ((i + 1 + t : Nat) : Int) := by omega
              rw [ej]
              have ll := layT_len (ws := ws) (i := i) (s := s) (t := t)
              refine ⟨recv M2.ob, m, dx, l, _, _, _, rfl, M2, .inl ⟨_, rfl⟩, .inl ⟨_, rfl⟩, ?_⟩
              rw [placeOf_int, if_pos ⟨by omega, by omega⟩, wordV_int, if_pos (show (wordOf (-1)).isSome = true from rfl), Int.toNat_natCast]
              dsimp only
              walk_at "w2"
              have M3 := M2.put ((layT ws i s t).set (i + 1 + t) (-1)) (List.length_set ..)
              refine ⟨_, rfl, ?_, fun b o hb e => by rw [upd_ne hb]; exact k b o hb e⟩
              rw [layT_succ]
              exact M3
            · rintro σ H' ⟨o3, rfl, M2, k⟩
              exact h H' M2 k
      · rw [odd_whole o]
        rw [placeOf_odd o] at h
        walk_at "w2"
        exact h
end

local macro_rules | `(tactic| walk_at "w2") => `(tactic| try simp only [↓x_var0, ↓x_varS, ↓x_c, ↓x_op, ↓x_un, ↓x_cb, ↓x_nil, ↓x_cons, ↓x_test, ↓x_b, ↓x_ex, ↓x_and, ↓x_or, ↓x_not, ↓x_andV, ↓x_orV, ↓x_notV, ↓x_tif, ↓x_chain, ↓x_menu, ↓x_menuI, ↓x_lst, ↓x_tup, ↓x_dnew, ↓x_callW, ↓x_callN, ↓x_seq, ↓x_next, ↓x_ret, ↓x_retN, ↓x_drop, ↓x_ifS, ↓x_asg, ↓x_name, ↓x_raise, ↓x_fld, ↓x_setF, ↓x_meth, ↓x_make, ↓x_sub, ↓r_min, ↓r_max, ↓x_yes, ↓x_for, ↓x_lock, ↓x_keys, ↓x_cut, ↓x_lc, ↓x_rng1, ↓x_rng2, ↓x_lst1, ↓x_itup, ↓x_rng3, ↓x_three, ↓x_lstg, ↓x_tupg, ↓x_adrS, ↓x_one, ↓x_two, ↓x_adr, ↓x_sl, ↓x_np, ↓x_pt, ↓x_int, ↓x_bm, ↓x_bm0, ↓x_consg, ↓x_nilg, ↓x_dget2, ↓x_dget1, ↓x_dgetN, ↓x_dget, ↓x_din, ↓x_dni, ↓x_dput, ↓x_dpop2, ↓r_isB, ↓r_notB, ↓x_enum, ↓x_zip, ↓x_str, ↓x_strE, ↓r_inS, ↓r_ninS, wipe, List.map_cons, List.map_nil, ↓x_isT, ↓r_isiII, ↓r_isiBB, ↓r_isiIB, ↓r_isiSS, ↓r_neNS, ↓r_neSN, ↓r_neNN, ↓r_eqNS, ↓r_eqSN, ↓r_eqNN, ↓r_eqIS, ↓r_neIS, ↓r_neSI, ↓r_neBS, ↓r_eqBB, ↓r_neBB, ↓x_start, ↓x_K, ↓x_start0, ↓r_i0, ↓r_i, ↓r_u, ↓r_addI, ↓r_addS, ↓r_mulI, ↓r_mulS, ↓r_eqI, ↓r_neI, ↓r_eqS, ↓r_neS, ↓r_absI, ↓r_intI, ↓r_intB, List.length_cons, List.length_nil, List.replicate, List.set_cons_zero, List.set_cons_succ, decide_eq_true_eq, Bool.not_eq_true', decide_eq_false_iff_not, if_true, if_false, Bool.false_eq_true, Bool.true_eq_false, ite_true, ite_false, Bool.not_true, Bool.not_false, c_div, n_ten, c_pow, not_true_eq_false, not_false_eq_true, decide_true, decide_false, true_and, and_true, and_self, true_or, or_true, Int.reduceLT, Int.reduceLE, Int.reduceMul, Int.reduceAdd, Int.reduceSub, Int.reducePow, Int.reduceNeg, Int.reduceDiv, Int.reduceMod, Nat.reducePow, Int.reduceToNat, Int.reduceEq, Int.reduceNe, Nat.reduceLT, Nat.reduceLeDiff, Nat.reduceAdd, ↓x_whole, ↓x_kind])
/-! ## spaces -/
def SpV (K : PySem.W.Frag) (dx : Addr) (b e t : Nat) : HO := .ins (He.ga K "Space") dx (F_Space (.int (b : Int)) (.int (e : Int)) (.int (t : Int)))
abbrev SpO (K : PySem.W.Frag) (H : Hp) (s dx : Addr) (b e t : Nat) : Prop := H s = some (SpV K dx b e t)
theorem spv_lst {K dx b e t xs} : SpV K dx b e t ≠ .lst xs := fun z => by cases z
theorem F_len_Space {v0 v1 v2 : V} : (F_Space v0 v1 v2).length = 3 := rfl
theorem F_len_Memory {v0 v1 : V} : (F_Memory v0 v1).length = 2 := rfl
theorem spv_fs {K dx b e t C d fs} (h : fs.length ≠ 3) : SpV K dx b e t ≠ .ins C d fs := fun z => by
  cases z
  exact h rfl
theorem layT_at {ws : List Int} {i s t : Nat} (hi : i < ws.length) : (layT ws i s t).getD i 0 = 8 * (s : Int) := by
  induction t with
  | zero =>
    show (ws.set i (8 * (s : Int))).getD i 0 = _
    rw [List.getD_eq_getElem?_getD, List.getElem?_set_self hi]
    rfl
  | succ t ih =>
    rw [layT_succ, List.getD_eq_getElem?_getD, List.getElem?_set_ne (by omega), ← List.getD_eq_getElem?_getD, ih]
theorem head_8 {s : Nat} (h : s ≤ 8) : headAt (8 * (s : Int)) = some (4 * s) := by
  have e : 8 * (s : Int) = 2 * (4 * (s : Int)) := by omega
  unfold headAt
  rw [e, word_num (by omega)]
  dsimp only
  rw [if_pos (by omega)]
  congr 1
inductive Tk where
  | count | room | ok (n : Nat)
def takeW (b e t : Nat) : V → Tk
  | .int n => if n < 1 then .count else if n > (e : Int) - t then .room else .ok n.toNat
  | _ => .count
theorem takeW_int {b e t : Nat} {n : Int} : takeW b e t (.int n) = if n < 1 then .count else if n > (e : Int) - t then .room else .ok n.toNat := rfl
theorem takeW_odd {H : Hp} {b e t : Nat} {v : V} (h : Odd H v) : takeW b e t v = .count := by
  cases v with
  | int i => exact (odd_not h).elim
  | _ => rfl
def cutW (b e : Nat) : V → Option Nat
  | .int n => if (b : Int) ≤ n ∧ n ≤ e then some n.toNat else none
  | _ => none
theorem cutW_int {b e : Nat} {n : Int} : cutW b e (.int n) = if (b : Int) ≤ n ∧ n ≤ e then some n.toNat else none := rfl
theorem cutW_odd {H : Hp} {b e : Nat} {v : V} (h : Odd H v) : cutW b e v = none := by
  cases v with
  | int i => exact (odd_not h).elim
  | _ => rfl
/-- cells one behind the other from i to the top -/
inductive Chain (ws : List Int) (t : Nat) : Nat → List Int → Prop where
  | nil {i : Nat} (h : t ≤ i) : Chain ws t i []
  | cons {i k : Nat} {ps : List Int} (h : i < t) (hi : i < ws.length) (e : headAt (ws.getD i 0) = some k) (c : Chain ws t (i + (k / 4 + 1)) ps) : Chain ws t i ((i : Int) :: ps)
theorem Chain.len {ws : List Int} {t i : Nat} {ps : List Int} (h : Chain ws t i ps) : ps.length ≤ ws.length - i := by
  induction h with
  | nil h => exact Nat.zero_le _
  | cons h hi e c ih =>
    rw [List.length_cons]
    omega
theorem same_mk2 {H : Hp} {x dx : Addr} {o1 o2 : HO} (nx : H x = none) (ndx : H dx = none) : Same H (upd (upd (upd H dx (.own x)) x o1) x o2) := fun b o e => by
  rw [upd_upd, upd_ne (ne_of_none e nx), upd_ne (ne_of_none e ndx)]
  exact e
def sp_Space___init__ (K : PySem.W.Frag) : Sp := fun vs H Q _ => ∃ s dx, ∃ b e : Nat, vs = [.ref s, .int b, .int e] ∧ H s = some (.ins (He.ga K "Space") dx []) ∧ Q .non (upd H s (SpV K dx b e b))
def sp_Space_room (K : PySem.W.Frag) : Sp := fun vs H Q _ => ∃ s dx b e t, vs = [.ref s] ∧ SpO K H s dx b e t ∧ Q (.int ((e : Int) - t)) H
def sp_Space_used (K : PySem.W.Frag) : Sp := fun vs H Q _ => ∃ s dx b e t, vs = [.ref s] ∧ SpO K H s dx b e t ∧ Q (.int ((t : Int) - b)) H
def sp_Space_has (K : PySem.W.Frag) : Sp := fun vs H Q _ => ∃ s dx b e t n, vs = [.ref s, .int n] ∧ SpO K H s dx b e t ∧ Q (.bl (decide ((b : Int) ≤ n ∧ n < t))) H
def sp_Space_take (K : PySem.W.Frag) : Sp := fun vs H Q E => ∃ s dx b e t v, vs = [.ref s, v] ∧ SpO K H s dx b e t ∧ Thing H v ∧ match takeW b e t v with
  | .count => E (Ex K "BadCount") none H
  | .room => E (Ex K "NoRoom") none H
  | .ok n => Q (.int t) (upd H s (SpV K dx b e (t + n)))
def sp_Space_empty (K : PySem.W.Frag) : Sp := fun vs H Q _ => ∃ s dx b e t, vs = [.ref s] ∧ SpO K H s dx b e t ∧ Q .non (upd H s (SpV K dx b e b))
def sp_Space_cut (K : PySem.W.Frag) : Sp := fun vs H Q E => ∃ s dx b e t v, vs = [.ref s, v] ∧ SpO K H s dx b e t ∧ Thing H v ∧ match cutW b e v with
  | none => E (Ex K "BadCount") none H
  | some n => Q .non (upd H s (SpV K dx b e n))
def sp_Space_cells (K : PySem.W.Frag) : Sp := fun vs H Q _ => ∃ s dx b e t m mx l ws ps, vs = [.ref s, .ref m] ∧ SpO K H s dx b e t ∧ MemO K H m mx l ws ∧ Vw ws ∧ Chain ws t b ps ∧
  ∀ p H', H p = none → Same H H' → H' p = some (.lst (ps.map V.int)) → Q (.ref p) H'
section
variable {P : Program} {w : World} {K : PySem.W.Frag} {mg : Str → Option Value} {base : Heap}
theorem f_Space___init__ (T : Tx K mg) : Mi P w K mg base 1 "Space" ["self", "begin", "end"] (sp_Space___init__ K) := by
  refine T.mkMi 25 93 11 (d := d_Space___init__) (N := ["self", "begin", "end"]) (k := 0) rfl rfl rfl rfl rfl rfl sc_Space___init__ (fun _ _ _ _ _ _ us hl => match us, hl with | [_, _, _], _ => rfl) (fun vs H Q E h => ?len) (fun cdv A outer s H vs Q E hr h => ⟨_,
      (pss_cons (ps_fldC (T.cls 92) (T.noat 101) (pv 0) (pv 1))
        (pss_cons (ps_fldC (T.cls 92) (T.noat 102) (pv 0) (pv 2))
        (pss_one (ps_fldC (T.cls 92) (T.noat 103) (pv 0) (pv 1))))), ?rd⟩)
  case len => obtain ⟨s, dx, b, e, rfl, _⟩ := h; rfl
  case rd =>
    obtain ⟨s, dx, b, e, rfl, S, q⟩ := h
    walk_at "w2"
    refine ⟨s, dx, _, rfl, S, by decide, ?_⟩
    rw [pi_Space_begin]
    refine ⟨s, dx, _, rfl, upd_same, by show 1 < 1000; decide, ?_⟩
    rw [pi_Space_end, upd_upd]
    refine ⟨s, dx, _, rfl, upd_same, by show 2 < 1000; decide, ?_⟩
    rw [pi_Space_top, upd_upd]
    exact q
theorem f_Space_room (T : Tx K mg) : Mt P w K mg base 1 "Space" "room" ["self"] (sp_Space_room K) := by
  refine T.mkMt 26 94 92 (d := d_Space_room) (N := ["self"]) (k := 0) rfl rfl rfl rfl rfl rfl sc_Space_room (fun _ _ _ _ _ _ us hl => match us, hl with | [_], _ => rfl) (fun vs H Q E h => ?len) (fun cdv A outer s H vs Q E hr h => ⟨_,
      (pss_one (ps_ret (pe_op op_sub (pe_fldC (T.cls 92) (T.noat 102) (pv 0)) (pe_fldC (T.cls 92) (T.noat 103) (pv 0))))), ?rd⟩)
  case len => obtain ⟨s, dx, b, e, t, rfl, _⟩ := h; rfl
  case rd =>
    obtain ⟨s, dx, b, e, t, rfl, S, q⟩ := h
    walk_at "w2"
    refine ⟨_, fldIs S, _, fldIs S, ?_⟩
    walk_at "w2"
    exact q
theorem f_Space_used (T : Tx K mg) : Mt P w K mg base 1 "Space" "used" ["self"] (sp_Space_used K) := by
  refine T.mkMt 27 95 92 (d := d_Space_used) (N := ["self"]) (k := 0) rfl rfl rfl rfl rfl rfl sc_Space_used (fun _ _ _ _ _ _ us hl => match us, hl with | [_], _ => rfl) (fun vs H Q E h => ?len) (fun cdv A outer s H vs Q E hr h => ⟨_,
      (pss_one (ps_ret (pe_op op_sub (pe_fldC (T.cls 92) (T.noat 103) (pv 0)) (pe_fldC (T.cls 92) (T.noat 101) (pv 0))))), ?rd⟩)
  case len => obtain ⟨s, dx, b, e, t, rfl, _⟩ := h; rfl
  case rd =>
    obtain ⟨s, dx, b, e, t, rfl, S, q⟩ := h
    walk_at "w2"
    refine ⟨_, fldIs S, _, fldIs S, ?_⟩
    walk_at "w2"
    exact q
theorem f_Space_has (T : Tx K mg) : Mt P w K mg base 1 "Space" "has" ["self", "at"] (sp_Space_has K) := by
  refine T.mkMt 28 96 92 (d := d_Space_has) (N := ["self", "at"]) (k := 0) rfl rfl rfl rfl rfl rfl sc_Space_has (fun _ _ _ _ _ _ us hl => match us, hl with | [_, _], _ => rfl) (fun vs H Q E h => ?len) (fun cdv A outer s H vs Q E hr h => ⟨_,
      (pss_one (ps_ret (pe_chain op_le op_lt (pe_fldC (T.cls 92) (T.noat 101) (pv 0)) (pv 1) (pe_fldC (T.cls 92) (T.noat 103) (pv 0))))), ?rd⟩)
  case len => obtain ⟨s, dx, b, e, t, n, rfl, _⟩ := h; rfl
  case rd =>
    obtain ⟨s, dx, b, e, t, n, rfl, S, q⟩ := h
    walk_at "w2"
    refine ⟨_, fldIs S, ?_⟩
    walk_at "w2"
    split
    · refine ⟨_, fldIs S, ?_⟩
      walk_at "w2"
      have c : ((b : Int) ≤ n ∧ n < t) = (n < t) := propext ⟨fun z => z.2, fun z => ⟨‹_›, z⟩⟩
      simp only [c] at q
      exact q
    · rw [decide_eq_false (fun z => absurd z.1 ‹_›)] at q
      exact q
theorem f_Space_take (T : Tx K mg) : Mt P w K mg base 2 "Space" "take" ["self", "many"] (sp_Space_take K) := by
  have c_is_whole := f_is_whole (P := P) (w := w) (base := base) T
  have c_Space_room := f_Space_room (P := P) (w := w) (base := base) T
  refine T.mkMt 29 97 92 (d := d_Space_take) (N := ["self", "many", "at"]) (k := 1) rfl rfl rfl rfl rfl rfl sc_Space_take (fun _ _ _ _ _ _ us hl => match us, hl with | [_, _], _ => rfl) (fun vs H Q E h => ?len) (fun cdv A outer s H vs Q E hr h => ⟨_,
      (pss_cons (ps_if (PW.pt (pw_or (pt_not (pt_val (pe_fn (takes_of rfl rfl rfl rfl) c_is_whole (hr.mono (by decide)) (by rfl) (pa_cons (pv 1) pa_nil)))) (pw_or1 (pt_cmpR op_lt (pv 1) pe_int (nomark _))))) (pss_one (ps_raiseK (K := K) rfl rfl (takes_of rfl rfl rfl rfl) (T.says.fact 76 rfl) (T.glo 3) (by rfl))) pss_nil)
        (pss_cons (ps_if (pt_cmpR op_gt (pv 1) (pe_mt0 (K := K) rfl (takes_of rfl rfl rfl rfl) (pv 0) c_Space_room (hr.mono (by decide))) (nomark _)) (pss_one (ps_raiseK (K := K) rfl rfl (takes_of rfl rfl rfl rfl) (T.says.fact 78 rfl) (T.glo 5) (by rfl))) pss_nil)
        (pss_cons (ps_set (i := 2) sc_Space_take.nd rfl (Or.inl rfl) (pe_fldC (T.cls 92) (T.noat 103) (pv 0)))
        (pss_cons (ps_fldC (T.cls 92) (T.noat 103) (pv 0) (pe_op op_gAdd (pv 2) (pv 1)))
        (pss_one (ps_ret (pv 2))))))), ?rd⟩)
  case len => obtain ⟨s, dx, b, e, t, v, rfl, _⟩ := h; rfl
  case rd =>
    obtain ⟨s, dx, b, e, t, v, rfl, S, th, h⟩ := h
    walk_at "w2"
    rcases th with ⟨n, rfl⟩ | o
    · walk_at "w2"
      rw [takeW_int] at h
      split
      · rw [if_pos ‹_›] at h
        exact h
      · rw [if_neg ‹_›] at h
        refine ⟨recv S, s, dx, b, e, t, rfl, S, ?_⟩
        walk_at "w2"
        split
        · rw [if_pos ‹_›] at h
          exact h
        · rw [if_neg ‹_›] at h
          obtain ⟨j, rfl⟩ := Int.eq_ofNat_of_zero_le (show 0 ≤ n by omega)
          rw [Int.toNat_natCast] at h
          refine ⟨_, fldIs S, ?_⟩
          walk_at "w2"
          refine ⟨s, dx, _, rfl, S, by show 3 < 1000; decide, ?_⟩
          rw [pf_Space_top]
          exact h
    · rw [odd_whole o]
      rw [takeW_odd o] at h
      walk_at "w2"
      exact h
theorem f_Space_empty (T : Tx K mg) : Mt P w K mg base 1 "Space" "empty" ["self"] (sp_Space_empty K) := by
  refine T.mkMt 30 98 92 (d := d_Space_empty) (N := ["self"]) (k := 0) rfl rfl rfl rfl rfl rfl sc_Space_empty (fun _ _ _ _ _ _ us hl => match us, hl with | [_], _ => rfl) (fun vs H Q E h => ?len) (fun cdv A outer s H vs Q E hr h => ⟨_,
      (pss_one (ps_fldC (T.cls 92) (T.noat 103) (pv 0) (pe_fldC (T.cls 92) (T.noat 101) (pv 0)))), ?rd⟩)
  case len => obtain ⟨s, dx, b, e, t, rfl, _⟩ := h; rfl
  case rd =>
    obtain ⟨s, dx, b, e, t, rfl, S, q⟩ := h
    walk_at "w2"
    refine ⟨_, fldIs S, s, dx, _, rfl, S, by show 3 < 1000; decide, ?_⟩
    rw [pf_Space_top]
    exact q
theorem f_Space_cut (T : Tx K mg) : Mt P w K mg base 2 "Space" "cut" ["self", "top"] (sp_Space_cut K) := by
  have c_is_whole := f_is_whole (P := P) (w := w) (base := base) T
  refine T.mkMt 31 99 92 (d := d_Space_cut) (N := ["self", "top"]) (k := 1) rfl rfl rfl rfl rfl rfl sc_Space_cut (fun _ _ _ _ _ _ us hl => match us, hl with | [_, _], _ => rfl) (fun vs H Q E h => ?len) (fun cdv A outer s H vs Q E hr h => ⟨_,
      (pss_cons (ps_if (PW.pt (pw_or (pt_not (pt_val (pe_fn (takes_of rfl rfl rfl rfl) c_is_whole (hr.mono (by decide)) (by rfl) (pa_cons (pv 1) pa_nil)))) (pw_or1 (pt_not (pt_chain op_le op_le (pe_fldC (T.cls 92) (T.noat 101) (pv 0)) (pv 1) (pe_fldC (T.cls 92) (T.noat 102) (pv 0))))))) (pss_one (ps_raiseK (K := K) rfl rfl (takes_of rfl rfl rfl rfl) (T.says.fact 76 rfl) (T.glo 3) (by rfl))) pss_nil)
        (pss_one (ps_fldC (T.cls 92) (T.noat 103) (pv 0) (pv 1)))), ?rd⟩)
  case len => obtain ⟨s, dx, b, e, t, v, rfl, _⟩ := h; rfl
  case rd =>
    obtain ⟨s, dx, b, e, t, v, rfl, S, th, h⟩ := h
    walk_at "w2"
    rcases th with ⟨n, rfl⟩ | o
    · walk_at "w2"
      rw [cutW_int] at h
      refine ⟨_, fldIs S, ?_⟩
      walk_at "w2"
      split
      · refine ⟨_, fldIs S, ?_⟩
        walk_at "w2"
        split
        · rw [if_neg (by omega)] at h
          exact h
        · rw [if_pos (by omega)] at h
          obtain ⟨j, rfl⟩ := Int.eq_ofNat_of_zero_le (show 0 ≤ n by omega)
          rw [Int.toNat_natCast] at h
          refine ⟨s, dx, _, rfl, S, by show 3 < 1000; decide, ?_⟩
          rw [pf_Space_top]
          exact h
      · rw [if_neg (by omega)] at h
        exact h
    · rw [odd_whole o]
      rw [cutW_odd o] at h
      walk_at "w2"
      exact h
theorem f_Space_cells (T : Tx K mg) : Mt P w K mg base 7 "Space" "cells" ["self", "memory"] (sp_Space_cells K) := by
  have c_words_of := f_words_of (P := P) (w := w) (base := base) T
  refine T.mkMt 32 100 92 (d := d_Space_cells) (N := ["self", "memory", "found", "at"]) (k := 6) rfl rfl rfl rfl rfl rfl sc_Space_cells (fun _ _ _ _ _ _ us hl => match us, hl with | [_, _], _ => rfl) (fun vs H Q E h => ?len) (fun cdv A outer s H vs Q E hr h => ⟨_,
      (pss_cons (ps_set (i := 2) sc_Space_cells.nd rfl (Or.inl rfl) (pe_lst pa_nil))
        (pss_cons (ps_set (i := 3) sc_Space_cells.nd rfl (Or.inl rfl) (pe_fldC (T.cls 92) (T.noat 101) (pv 0)))
        (pss_cons (ps_while (passes_of rfl) (pt_cmpR op_lt (pv 3) (pe_fldC (T.cls 92) (T.noat 103) (pv 0)) (nomark _)) (pss_cons (ps_expr (pe_bm PySem.F.plainAttrs_list PySem.F.slot_list_append PySem.F.type_list_append mt_append (pv 2) (pa_cons (pv 3) pa_nil)))
        (pss_one (ps_set (i := 3) sc_Space_cells.nd rfl (Or.inl rfl) (pe_op op_gAdd (pv 3) (pe_fn (takes_of rfl rfl rfl rfl) c_words_of (hr.mono (by decide)) (by rfl) (pa_cons (pv 1) (pa_cons (pv 3) pa_nil))))))))
        (pss_one (ps_ret (pv 2)))))), ?rd⟩)
  case len => obtain ⟨s, dx, b, e, t, m, mx, l, ws, ps, rfl, _⟩ := h; rfl
  case rd =>
    obtain ⟨s, dx, b, e, t, m, mx, l, ws, ps, rfl, S, M, vw, ch, q⟩ := h
    have cl := ch.len
    have hz := M.sz
    walk_at "w2"
    refine ⟨by rw [sizeLine_eq]; omega, fun p hp => ?_⟩
    have sp := same_new (o := .lst []) hp
    refine ⟨_, fldIs (sp _ _ S), ?_⟩
    walk_at "w2"
    refine whW (fun k σ H' => ∃ (i : Nat) (dn rest : List Int), σ = [some (.ref s), some (.ref m), some (.ref p), some (.int (i : Int))] ∧ k = rest.length ∧ Chain ws t i rest ∧ dn ++ rest = ps ∧ Same H H' ∧ H' p = some (.lst (dn.map V.int))) ⟨_, b, [], ps, rfl, rfl, ch, rfl, sp, upd_same⟩ ?_
    rintro k σ H' ⟨i, dn, rest, rfl, rfl, ch, e1, s1, hp'⟩
    have el : dn.length + rest.length = ps.length := by rw [← e1, List.length_append]
    walk_at "w2"
    refine ⟨_, fldIs (s1 _ _ S), ?_⟩
    walk_at "w2"
    cases ch with
    | nil h =>
      rw [if_neg (by omega)]
      rw [List.append_nil] at e1
      subst e1
      exact q p H' hp s1 hp'
    | cons h hi eh ch =>
      rename_i kk rest
      rw [if_pos (by omega)]
      refine whB ?_
      walk_at "w2"
      rw [List.length_cons] at el
      refine r_app hp' (by rw [List.length_map, sizeLine_eq]; omega) ?_
      walk_at "w2"
      have s2 : Same H (upd H' p (.lst (dn.map V.int ++ [.int (i : Int)]))) := fun c o g => by
        rw [upd_ne (ne_of_none g hp)]
        exact s1 _ _ g
      refine ⟨m, mx, l, ws, _, rfl, M.same s2, vw, .inl ⟨_, rfl⟩, ?_⟩
      have eH : headW ws (.int (i : Int)) = .ok i kk := by
        unfold headW
        rw [placeOf_int, if_pos ⟨by omega, by omega⟩, Int.toNat_natCast]
        dsimp only
        rw [eh]
      rw [eH]
      walk_at "w2"
      have ei : (i : Int) + ((kk / 4 + 1 : Nat) : Int) = ((i + (kk / 4 + 1) : Nat) : Int) := by omega
      rw [ei]
      exact ⟨rest.length, Nat.lt_succ_self _, _, dn ++ [(i : Int)], rest, rfl, rfl, ch, by rw [List.append_assoc]; exact e1, s2, by rw [upd_same, List.map_append]; rfl⟩
end

local macro_rules | `(tactic| walk_at "w2") => `(tactic| try simp only [↓x_var0, ↓x_varS, ↓x_c, ↓x_op, ↓x_un, ↓x_cb, ↓x_nil, ↓x_cons, ↓x_test, ↓x_b, ↓x_ex, ↓x_and, ↓x_or, ↓x_not, ↓x_andV, ↓x_orV, ↓x_notV, ↓x_tif, ↓x_chain, ↓x_menu, ↓x_menuI, ↓x_lst, ↓x_tup, ↓x_dnew, ↓x_callW, ↓x_callN, ↓x_seq, ↓x_next, ↓x_ret, ↓x_retN, ↓x_drop, ↓x_ifS, ↓x_asg, ↓x_name, ↓x_raise, ↓x_fld, ↓x_setF, ↓x_meth, ↓x_make, ↓x_sub, ↓r_min, ↓r_max, ↓x_yes, ↓x_for, ↓x_lock, ↓x_keys, ↓x_cut, ↓x_lc, ↓x_rng1, ↓x_rng2, ↓x_lst1, ↓x_itup, ↓x_rng3, ↓x_three, ↓x_lstg, ↓x_tupg, ↓x_adrS, ↓x_one, ↓x_two, ↓x_adr, ↓x_sl, ↓x_np, ↓x_pt, ↓x_int, ↓x_bm, ↓x_bm0, ↓x_consg, ↓x_nilg, ↓x_dget2, ↓x_dget1, ↓x_dgetN, ↓x_dget, ↓x_din, ↓x_dni, ↓x_dput, ↓x_dpop2, ↓r_isB, ↓r_notB, ↓x_enum, ↓x_zip, ↓x_str, ↓x_strE, ↓r_inS, ↓r_ninS, wipe, List.map_cons, List.map_nil, ↓x_isT, ↓r_isiII, ↓r_isiBB, ↓r_isiIB, ↓r_isiSS, ↓r_neNS, ↓r_neSN, ↓r_neNN, ↓r_eqNS, ↓r_eqSN, ↓r_eqNN, ↓r_eqIS, ↓r_neIS, ↓r_neSI, ↓r_neBS, ↓r_eqBB, ↓r_neBB, ↓x_start, ↓x_K, ↓x_start0, ↓r_i0, ↓r_i, ↓r_u, ↓r_addI, ↓r_addS, ↓r_mulI, ↓r_mulS, ↓r_eqI, ↓r_neI, ↓r_eqS, ↓r_neS, ↓r_absI, ↓r_intI, ↓r_intB, List.length_cons, List.length_nil, List.replicate, List.set_cons_zero, List.set_cons_succ, decide_eq_true_eq, Bool.not_eq_true', decide_eq_false_iff_not, if_true, if_false, Bool.false_eq_true, Bool.true_eq_false, ite_true, ite_false, Bool.not_true, Bool.not_false, c_div, n_ten, c_pow, not_true_eq_false, not_false_eq_true, decide_true, decide_false, true_and, and_true, and_self, true_or, or_true, Int.reduceLT, Int.reduceLE, Int.reduceMul, Int.reduceAdd, Int.reduceSub, Int.reducePow, Int.reduceNeg, Int.reduceDiv, Int.reduceMod, Nat.reducePow, Int.reduceToNat, Int.reduceEq, Int.reduceNe, Nat.reduceLT, Nat.reduceLeDiff, Nat.reduceAdd, ↓x_whole, ↓x_kind])
/-! ## areas -/
/-- where the parts stand; what they hold: fl: the second half is young -/
structure ArA where
  (a dx m mx l o ox p px q qx : Addr)
structure ArS where
  (ws : List Int) (n k ot t1 t2 : Nat) (fl : Bool)
def ArA.y (A : ArA) (f : Bool) : Addr := if f then A.q else A.p
structure ArO (K : PySem.W.Frag) (H : Hp) (A : ArA) (S : ArS) : Prop where
  ob : H A.a = some (.ins (He.ga K "Areas") A.dx (F_Areas (.ref A.m) (.ref A.o) (.ref (A.y S.fl)) (.ref (A.y !S.fl))))
  me : MemO K H A.m A.mx A.l S.ws
  vw : Vw S.ws
  ln : S.ws.length = S.n + 2 * S.k
  so : SpO K H A.o A.ox 0 S.n S.ot
  sp : SpO K H A.p A.px S.n (S.n + S.k) S.t1
  sq : SpO K H A.q A.qx (S.n + S.k) (S.n + 2 * S.k) S.t2
  nop : A.o ≠ A.p
  noq : A.o ≠ A.q
  npq : A.p ≠ A.q
  lo : S.ot ≤ S.n
  l1 : S.n ≤ S.t1 ∧ S.t1 ≤ S.n + S.k
  l2 : S.n + S.k ≤ S.t2 ∧ S.t2 ≤ S.n + 2 * S.k
  gn : 4 ≤ S.n ∧ S.n ≤ 2000
  gk : 2 ≤ S.k ∧ S.k ≤ 500
theorem ArO.off {K H A S} (h : ArO K H A S) {c : Addr} {o : HO} (n : A.l ≠ c) (nc : ∀ C d fs, H c ≠ some (.ins C d fs)) : ArO K (upd H c o) A S := by
  have f : ∀ {b C d fs}, H b = some (.ins C d fs) → upd H c o b = some (.ins C d fs) := fun {b C d fs} g => (upd_ne (fun e => nc C d fs (by rw [← e]; exact g))).trans g
  exact { h with ob := f h.ob, me := ⟨f h.me.ob, (upd_ne n).trans h.me.ls, h.me.sz⟩, so := f h.so, sp := f h.sp, sq := f h.sq }
def ArA.mem (A : ArA) (c : Addr) : Prop := c = A.a ∨ c = A.l ∨ c = A.o ∨ c = A.p ∨ c = A.q
theorem ArO.same {K H H' A S} (h : ArO K H A S) (s : Same H H') : ArO K H' A S := { h with ob := s _ _ h.ob, me := h.me.same s, so := s _ _ h.so, sp := s _ _ h.sp, sq := s _ _ h.sq }
/-- begin, end, top of a half -/
def ArS.b (S : ArS) (f : Bool) : Nat := if f then S.n + S.k else S.n
def ArS.t (S : ArS) (f : Bool) : Nat := if f then S.t2 else S.t1
def ArS.put (S : ArS) (f : Bool) (t : Nat) : ArS := if f then { S with t2 := t } else { S with t1 := t }
def ArA.yx (A : ArA) (f : Bool) : Addr := if f then A.qx else A.px
theorem ArO.half {K H A S} (h : ArO K H A S) (f : Bool) : SpO K H (A.y f) (A.yx f) (S.b f) (S.b f + S.k) (S.t f) := by
  cases f
  · exact h.sp
  · have e : S.n + 2 * S.k = S.n + S.k + S.k := by omega
    have := h.sq
    rw [e] at this
    exact this
theorem ArO.lt {K H A S} (h : ArO K H A S) (f : Bool) : S.b f ≤ S.t f ∧ S.t f ≤ S.b f + S.k := by
  have := h.l1
  have := h.l2
  cases f
  · exact h.l1
  · show S.n + S.k ≤ S.t2 ∧ S.t2 ≤ S.n + S.k + S.k
    omega
theorem spv_ne {K dx b e t C d fs} (hc : C ≠ He.ga K "Space") : SpV K dx b e t ≠ .ins C d fs := fun z => by
  cases z
  exact hc rfl
theorem F_len_Areas {v0 v1 v2 v3 : V} : (F_Areas v0 v1 v2 v3).length = 4 := rfl
theorem ArO.na {K H A S} (h : ArO K H A S) {c cx : Addr} {b e t : Nat} (s : SpO K H c cx b e t) : A.a ≠ c ∧ A.m ≠ c ∧ A.l ≠ c :=
  ⟨ne_of h.ob s fun z => spv_fs (by rw [F_len_Areas]; decide) z.symm, ne_of h.me.ob s fun z => spv_fs (by rw [F_len_Memory]; decide) z.symm, ne_of h.me.ls s fun z => spv_lst z.symm⟩
theorem ArO.mput {K H A S} (h : ArO K H A S) {c cx : Addr} {b e t : Nat} {o : HO} (s : SpO K H c cx b e t) : MemO K (upd H c o) A.m A.mx A.l S.ws := by
  obtain ⟨-, n2, n3⟩ := h.na s
  exact ⟨by rw [upd_ne n2]; exact h.me.ob, by rw [upd_ne n3]; exact h.me.ls, h.me.sz⟩
theorem ArO.topOld {K H A S} (h : ArO K H A S) {t : Nat} (ht : t ≤ S.n) : ArO K (upd H A.o (SpV K A.ox 0 S.n t)) A { S with ot := t } :=
  { h with ob := by rw [upd_ne (h.na h.so).1]; exact h.ob, me := h.mput h.so, so := upd_same, sp := (upd_ne h.nop.symm).trans h.sp, sq := (upd_ne h.noq.symm).trans h.sq, lo := ht }
theorem ArO.topHalf {K H A S} (h : ArO K H A S) {f : Bool} {t : Nat} (h0 : S.b f ≤ t) (h1 : t ≤ S.b f + S.k) : ArO K (upd H (A.y f) (SpV K (A.yx f) (S.b f) (S.b f + S.k) t)) A (S.put f t) := by
  cases f
  · exact { h with ob := by rw [show A.y false = A.p from rfl, upd_ne (h.na h.sp).1]; exact h.ob, me := h.mput h.sp, so := (upd_ne h.nop).trans h.so, sp := upd_same, sq := (upd_ne h.npq.symm).trans h.sq, l1 := ⟨h0, h1⟩ }
  · have e : S.n + S.k + S.k = S.n + 2 * S.k := by omega
    have h0 : S.n + S.k ≤ t := h0
    have h1 : t ≤ S.n + S.k + S.k := h1
    exact { h with ob := by rw [show A.y true = A.q from rfl, upd_ne (h.na h.sq).1]; exact h.ob, me := h.mput h.sq, so := (upd_ne h.noq).trans h.so, sp := (upd_ne h.npq).trans h.sp, sq := by show SpO K _ A.q A.qx (S.n + S.k) (S.n + 2 * S.k) t; rw [← e]; exact upd_same, l2 := ⟨h0, by show t ≤ S.n + 2 * S.k; omega⟩ }
/-- the memory's words change -/
theorem ArO.words {K H H' A S} (h : ArO K H A S) {ws : List Int} (M : MemO K H' A.m A.mx A.l ws) (k : ∀ b o, b ≠ A.l → H b = some o → H' b = some o) (vw : Vw ws) (e : ws.length = S.ws.length) : ArO K H' A { S with ws := ws } :=
  { h with ob := k _ _ (ne_of h.ob h.me.ls (by intro z; cases z)) h.ob, me := M, vw := vw, ln := e.trans h.ln, so := k _ _ (h.na h.so).2.2.symm h.so, sp := k _ _ (h.na h.sp).2.2.symm h.sp, sq := k _ _ (h.na h.sq).2.2.symm h.sq }
theorem ArO.flip {K H A S} (h : ArO K H A S) : ArO K (upd H A.a (.ins (He.ga K "Areas") A.dx (F_Areas (.ref A.m) (.ref A.o) (.ref (A.y !S.fl)) (.ref (A.y S.fl))))) A { S with fl := !S.fl } := by
  have n : ∀ {c cx b e t}, SpO K H c cx b e t → c ≠ A.a := fun s => (h.na s).1.symm
  have nm : A.m ≠ A.a := ne_of h.me.ob h.ob fun z => by
    have e := congrArg List.length (HO.ins.inj z).2.2
    rw [F_len_Areas, F_len_Memory] at e
    cases e
  have nl : A.l ≠ A.a := ne_of h.me.ls h.ob (by intro z; cases z)
  exact { h with ob := by rw [upd_same]; simp, me := ⟨(upd_ne nm).trans h.me.ob, (upd_ne nl).trans h.me.ls, h.me.sz⟩, so := (upd_ne (n h.so)).trans h.so, sp := (upd_ne (n h.sp)).trans h.sp, sq := (upd_ne (n h.sq)).trans h.sq }
theorem ArO.put {K H A S} (h : ArO K H A S) {c : Addr} {xs : List V} {o : HO} (e : H c = some (.lst xs)) (n : A.l ≠ c) : ArO K (upd H c o) A S := by
  have f : ∀ {b o' C d fs}, H b = some o' → o' = .ins C d fs → upd H c o b = some o' := fun g g2 => (upd_ne (ne_of g e (by rw [g2]; intro z; cases z))).trans g
  exact { h with ob := f h.ob rfl, me := ⟨f h.me.ob rfl, (upd_ne n).trans h.me.ls, h.me.sz⟩, so := f h.so rfl, sp := f h.sp rfl, sq := f h.sq rfl }
/-- words of a cell that was laid -/
theorem layT_slot {ws : List Int} {i s t u : Nat} (hu : u < t) (hi : i + t < ws.length) : (layT ws i s t).getD (i + 1 + u) 0 = -1 := by
  induction t with
  | zero => omega
  | succ t ih =>
    rw [layT_succ, List.getD_eq_getElem?_getD]
    by_cases c : u = t
    · subst c
      rw [List.getElem?_set_self (by rw [layT_len]; omega)]
      rfl
    · rw [List.getElem?_set_ne (by omega), ← List.getD_eq_getElem?_getD, ih (by omega) (by omega)]
theorem kids_none {ws : List Int} {i : Nat} : ∀ {t : Nat}, (∀ u, u < t → ws.getD (i + 1 + u) 0 = -1) → kidsT ws i t = []
  | 0, _ => rfl
  | t + 1, h => by
    rw [kidsT_succ, kids_none (t := t) fun u hu => h u (by omega), h t (by omega)]
    rfl
def oldV : V → Option Nat
  | .int n => if 4 ≤ n ∧ n ≤ 2000 then some n.toNat else none
  | _ => none
def youngV : V → Option Nat
  | .int n => if 2 ≤ n ∧ n ≤ 500 then some n.toNat else none
  | _ => none
theorem oldV_int {n : Int} : oldV (.int n) = if 4 ≤ n ∧ n ≤ 2000 then some n.toNat else none := rfl
theorem youngV_int {n : Int} : youngV (.int n) = if 2 ≤ n ∧ n ≤ 500 then some n.toNat else none := rfl
theorem oldV_odd {H : Hp} {v : V} (h : Odd H v) : oldV v = none := by
  cases v with
  | int i => exact (odd_not h).elim
  | _ => rfl
theorem youngV_odd {H : Hp} {v : V} (h : Odd H v) : youngV v = none := by
  cases v with
  | int i => exact (odd_not h).elim
  | _ => rfl
/-- areas as they are made -/
def arS (n k : Nat) : ArS := ⟨List.replicate (n + 2 * k) (-1), n, k, 0, n, n + k, false⟩
def areaW (S : ArS) (n : Int) : V := if 0 ≤ n ∧ n < S.ot then .str "old" else if (S.b S.fl : Int) ≤ n ∧ n < S.t S.fl then .str "young" else .non
theorem areaW_is {S : ArS} {n : Int} : areaW S n = .str "old" ∨ areaW S n = .str "young" ∨ areaW S n = .non := by
  unfold areaW
  split
  · exact .inl rfl
  · split
    · exact .inr (.inl rfl)
    · exact .inr (.inr rfl)
def sp_Areas___init__ (K : PySem.W.Frag) : Sp := fun vs H Q E => ∃ a dx v z, vs = [.ref a, v, z] ∧ H a = some (.ins (He.ga K "Areas") dx []) ∧ Thing H v ∧ Thing H z ∧ match oldV v with
  | none => E (Ex K "BadCount") none H
  | some n => match youngV z with
    | none => E (Ex K "BadCount") none H
    | some k => ∀ A H', A.a = a → ArO K H' A (arS n k) → H A.l = none → H A.o = none → H A.p = none → H A.q = none → H A.m = none → (∀ b o, b ≠ a → H b = some o → H' b = some o) → Q .non H'
def sp_Areas_flip (K : PySem.W.Frag) : Sp := fun vs H Q _ => ∃ A S, vs = [.ref A.a] ∧ ArO K H A S ∧ ∀ H', ArO K H' A { S with fl := !S.fl } → (∀ b o, b ≠ A.a → H b = some o → H' b = some o) → Q .non H'
def sp_Areas_area_of (K : PySem.W.Frag) : Sp := fun vs H Q _ => ∃ A S n, vs = [.ref A.a, .int n] ∧ ArO K H A S ∧ Q (areaW S n) H
def endA (S : ArS) (old : Bool) : Nat := if old then S.n else S.b S.fl + S.k
def topA (S : ArS) (old : Bool) : Nat := if old then S.ot else S.t S.fl
def laidW (S : ArS) (old : Bool) (v : V) : Tk := match slotsW v with
  | none => .count
  | some s => if s + 1 ≤ endA S old - topA S old then .ok s else .room
/-- behind a cell that was laid -/
def laidY (S : ArS) (s : Nat) : ArS := { S.put S.fl (S.t S.fl + (s + 1)) with ws := layT S.ws (S.t S.fl) s s }
def laidS (S : ArS) (old : Bool) (s : Nat) : ArS := if old then { S with ot := S.ot + (s + 1), ws := (layT S.ws S.ot s s).set S.ot (2 * ((4 * s + 2 : Nat) : Int)) } else { S.put S.fl (S.t S.fl + (s + 1)) with ws := layT S.ws (S.t S.fl) s s }
def laidO (S : ArS) (s : Nat) : ArS := { S with ot := S.ot + (s + 1), ws := (layT S.ws S.ot s s).set S.ot (2 * ((4 * s + 2 : Nat) : Int)) }
def sp_Areas_lay_young (K : PySem.W.Frag) : Sp := fun vs H Q E => ∃ A S v, vs = [.ref A.a, v] ∧ ArO K H A S ∧ Thing H v ∧ match laidW S false v with
  | .count => E (Ex K "BadCount") none H
  | .room => E (Ex K "NoRoom") none H
  | .ok s => ∀ H', ArO K H' A (laidY S s) → (∀ b o, b ≠ A.l → b ≠ A.y S.fl → H b = some o → H' b = some o) → Q (.int (S.t S.fl)) H'
def sp_Areas_lay_old (K : PySem.W.Frag) : Sp := fun vs H Q E => ∃ A S v, vs = [.ref A.a, v] ∧ ArO K H A S ∧ Thing H v ∧ match laidW S true v with
  | .count => E (Ex K "BadCount") none H
  | .room => E (Ex K "NoRoom") none H
  | .ok s => ∀ H', ArO K H' A (laidO S s) → (∀ b o, b ≠ A.l → b ≠ A.o → H b = some o → H' b = some o) → Q (.int S.ot) H'
theorem laidS_head {S : ArS} {old : Bool} {s : Nat} (h : s ≤ 8) (hl : topA S old + s < S.ws.length) : headAt ((laidS S old s).ws.getD (topA S old) 0) = some (4 * s + if old then 2 else 0) := by
  cases old
  · show headAt ((layT S.ws (S.t S.fl) s s).getD (S.t S.fl) 0) = _
    have hl : S.t S.fl + s < S.ws.length := hl
    rw [layT_at (by omega), head_8 h]
    rfl
  · show headAt (((layT S.ws S.ot s s).set S.ot _).getD S.ot 0) = _
    have hl : S.ot + s < S.ws.length := hl
    rw [List.getD_eq_getElem?_getD, List.getElem?_set_self (by rw [layT_len]; omega)]
    show headAt (2 * ((4 * s + 2 : Nat) : Int)) = some (4 * s + 2)
    unfold headAt
    rw [word_num (by omega)]
    dsimp only
    rw [if_pos (by omega), Int.toNat_natCast]
theorem laidS_slot {S : ArS} {old : Bool} {s u : Nat} (hu : u < s) (hl : topA S old + s < S.ws.length) : (laidS S old s).ws.getD (topA S old + 1 + u) 0 = -1 := by
  cases old
  · exact layT_slot hu hl
  · show ((layT S.ws S.ot s s).set S.ot _).getD (S.ot + 1 + u) 0 = _
    rw [List.getD_eq_getElem?_getD, List.getElem?_set_ne (by omega), ← List.getD_eq_getElem?_getD]
    exact layT_slot hu hl
theorem laidS_len {S : ArS} {old : Bool} {s : Nat} : (laidS S old s).ws.length = S.ws.length := by
  cases old
  · exact layT_len
  · show ((layT S.ws S.ot s s).set S.ot _).length = _
    rw [List.length_set, layT_len]
section
variable {P : Program} {w : World} {K : PySem.W.Frag} {mg : Str → Option Value} {base : Heap}
theorem f_Areas___init__ (T : Tx K mg) : Mi P w K mg base 4 "Areas" ["self", "old_words", "young_words"] (sp_Areas___init__ K) := by
  have c_is_whole := f_is_whole (P := P) (w := w) (base := base) T
  have c_Memory___init__ := f_Memory___init__ (P := P) (w := w) (base := base) T
  have c_Space___init__ := f_Space___init__ (P := P) (w := w) (base := base) T
  refine T.mkMi 33 105 12 (d := d_Areas___init__) (N := ["self", "old_words", "young_words"]) (k := 3) rfl rfl rfl rfl rfl rfl sc_Areas___init__ (fun _ _ _ _ _ _ us hl => match us, hl with | [_, _, _], _ => rfl) (fun vs H Q E h => ?len) (fun cdv A outer s H vs Q E hr h => ⟨_,
      (pss_cons (ps_if (PW.pt (pw_or (pt_not (pt_val (pe_fn (takes_of rfl rfl rfl rfl) c_is_whole (hr.mono (by decide)) (by rfl) (pa_cons (pv 1) pa_nil)))) (pw_or1 (pt_not (pt_chain op_le op_le (pe_num (T.num 58) (by rfl)) (pv 1) (pe_num (T.num 59) (by rfl))))))) (pss_one (ps_raiseK (K := K) rfl rfl (takes_of rfl rfl rfl rfl) (T.says.fact 76 rfl) (T.glo 3) (by rfl))) pss_nil)
        (pss_cons (ps_if (PW.pt (pw_or (pt_not (pt_val (pe_fn (takes_of rfl rfl rfl rfl) c_is_whole (hr.mono (by decide)) (by rfl) (pa_cons (pv 2) pa_nil)))) (pw_or1 (pt_not (pt_chain op_le op_le (pe_num (T.num 60) (by rfl)) (pv 2) (pe_num (T.num 61) (by rfl))))))) (pss_one (ps_raiseK (K := K) rfl rfl (takes_of rfl rfl rfl rfl) (T.says.fact 76 rfl) (T.glo 3) (by rfl))) pss_nil)
        (pss_cons (ps_fldC (T.cls 104) (T.noat 110) (pv 0) (pe_mk (K := K) rfl (takes_of rfl rfl rfl rfl) c_Memory___init__ (hr.mono (by decide)) (by rfl) (pa_cons (pe_op op_gAdd (pv 1) (pe_op op_gMul pe_int (pv 2))) pa_nil)))
        (pss_cons (ps_fldC (T.cls 104) (T.noat 111) (pv 0) (pe_mk (K := K) rfl (takes_of rfl rfl rfl rfl) c_Space___init__ (hr.mono (by decide)) (by rfl) (pa_cons pe_int (pa_cons (pv 1) pa_nil))))
        (pss_cons (ps_fldC (T.cls 104) (T.noat 112) (pv 0) (pe_mk (K := K) rfl (takes_of rfl rfl rfl rfl) c_Space___init__ (hr.mono (by decide)) (by rfl) (pa_cons (pv 1) (pa_cons (pe_op op_gAdd (pv 1) (pv 2)) pa_nil))))
        (pss_one (ps_fldC (T.cls 104) (T.noat 113) (pv 0) (pe_mk (K := K) rfl (takes_of rfl rfl rfl rfl) c_Space___init__ (hr.mono (by decide)) (by rfl) (pa_cons (pe_op op_gAdd (pv 1) (pv 2)) (pa_cons (pe_op op_gAdd (pv 1) (pe_op op_gMul pe_int (pv 2))) pa_nil)))))))))), ?rd⟩)
  case len => first | exact len_Areas___init__ h | (repeat (first | (obtain ⟨rfl, _⟩ := h; rfl; done) | obtain ⟨_, h⟩ := h))
  case rd =>
    obtain ⟨a, dx, v, z, rfl, HA, tv, tz, h⟩ := h
    walk_at "w2"
    rcases tv with ⟨n, rfl⟩ | o
    · walk_at "w2"
      rw [oldV_int] at h
      split
      · split
        · rw [if_neg (by omega)] at h
          exact h
        · rw [if_pos (by omega)] at h
          dsimp only at h
          rcases tz with ⟨k, rfl⟩ | o
          · walk_at "w2"
            rw [youngV_int] at h
            split
            · split
              · rw [if_neg (by omega)] at h
                exact h
              · rw [if_pos (by omega)] at h
                obtain ⟨n, rfl⟩ := Int.eq_ofNat_of_zero_le (show 0 ≤ n by omega)
                obtain ⟨k, rfl⟩ := Int.eq_ofNat_of_zero_le (show 0 ≤ k by omega)
                rw [Int.toNat_natCast, Int.toNat_natCast] at h
                simp only [show (n : Int) + 2 * (k : Int) = ((n + 2 * k : Nat) : Int) from by omega, show (n : Int) + (k : Int) = ((n + k : Nat) : Int) from by omega]
                intro m mx nm nmx nem
                refine ⟨m, mx, _, rfl, upd_same, .inl ⟨_, rfl⟩, ?_⟩
                rw [sizeV_int, if_pos ⟨by omega, by omega⟩, Int.toNat_natCast]
                intro l H2 nl M1 k1
                have s1 := same_init nm nmx nem k1
                have ma : m ≠ a := (ne_of_none HA nm).symm
                have la : l ≠ a := ne_of M1.ls (s1 _ _ HA) (by intro z; cases z)
                refine ⟨rfl, a, dx, _, rfl, s1 _ _ HA, by decide, ?_⟩
                rw [pi_Areas_memory]
                have k3 : ∀ {o : HO} {c x}, c ≠ a → H2 c = some x → upd H2 a o c = some x := fun h g => by rw [upd_ne h]; exact g
                have a3 : upd H2 a (.ins (He.ga K "Areas") dx [(("memory" : Str), V.ref m)]) a = some (.ins (He.ga K "Areas") dx [(("memory" : Str), V.ref m)]) := upd_same
                have k3 := @k3 (.ins (He.ga K "Areas") dx [(("memory" : Str), V.ref m)])
                generalize upd H2 a (.ins (He.ga K "Areas") dx [(("memory" : Str), V.ref m)]) = H3 at a3 k3 ⊢
                intro o ox no nox noe
                have s4 := same_mk2 (o1 := .ins (He.ga K "Space") ox []) (o2 := SpV K ox 0 n 0) no nox
                have so : upd (upd (upd H3 ox (.own o)) o (.ins (He.ga K "Space") ox [])) o (SpV K ox 0 n 0) o = some (SpV K ox 0 n 0) := upd_same
                have oa : o ≠ a := (ne_of_none a3 no).symm
                refine ⟨o, ox, 0, n, rfl, upd_same, rfl, a, dx, _, rfl, s4 _ _ a3, by show 1 < 1000; decide, ?_⟩
                generalize upd (upd (upd H3 ox (.own o)) o (.ins (He.ga K "Space") ox [])) o (SpV K ox 0 n 0) = H4 at s4 so ⊢
                rw [pi_Areas_old]
                have k5 : ∀ {c x}, c ≠ a → H4 c = some x → upd H4 a (.ins (He.ga K "Areas") dx [(("memory" : Str), V.ref m), ("old", V.ref o)]) c = some x := fun h g => by rw [upd_ne h]; exact g
                have a5 : upd H4 a (.ins (He.ga K "Areas") dx [(("memory" : Str), V.ref m), ("old", V.ref o)]) a = some (.ins (He.ga K "Areas") dx [(("memory" : Str), V.ref m), ("old", V.ref o)]) := upd_same
                generalize upd H4 a (.ins (He.ga K "Areas") dx [(("memory" : Str), V.ref m), ("old", V.ref o)]) = H5 at k5 a5 ⊢
                intro p px np npx npe
                have s6 := same_mk2 (o1 := .ins (He.ga K "Space") px []) (o2 := SpV K px n (n + k) n) np npx
                have sp : upd (upd (upd H5 px (.own p)) p (.ins (He.ga K "Space") px [])) p (SpV K px n (n + k) n) p = some (SpV K px n (n + k) n) := upd_same
                have pa : p ≠ a := (ne_of_none a5 np).symm
                refine ⟨p, px, n, n + k, rfl, upd_same, rfl, ?_⟩
                first | refine ⟨.inl ⟨by decide, by decide⟩, ?_⟩ | skip
                refine ⟨a, dx, _, rfl, s6 _ _ a5, by show 2 < 1000; decide, ?_⟩
                generalize upd (upd (upd H5 px (.own p)) p (.ins (He.ga K "Space") px [])) p (SpV K px n (n + k) n) = H6 at s6 sp ⊢
                rw [pi_Areas_young]
                have k7 : ∀ {c x}, c ≠ a → H6 c = some x → upd H6 a (.ins (He.ga K "Areas") dx [(("memory" : Str), V.ref m), ("old", V.ref o), ("young", V.ref p)]) c = some x := fun h g => by rw [upd_ne h]; exact g
                have a7 : upd H6 a (.ins (He.ga K "Areas") dx [(("memory" : Str), V.ref m), ("old", V.ref o), ("young", V.ref p)]) a = some (.ins (He.ga K "Areas") dx [(("memory" : Str), V.ref m), ("old", V.ref o), ("young", V.ref p)]) := upd_same
                generalize upd H6 a (.ins (He.ga K "Areas") dx [(("memory" : Str), V.ref m), ("old", V.ref o), ("young", V.ref p)]) = H7 at k7 a7 ⊢
                walk_at "w2"
                first | refine ⟨.inl ⟨by decide, by decide⟩, ?_⟩ | skip
                intro q qx nq nqx nqe
                have s8 := same_mk2 (o1 := .ins (He.ga K "Space") qx []) (o2 := SpV K qx (n + k) (n + 2 * k) (n + k)) nq nqx
                have sq : upd (upd (upd H7 qx (.own q)) q (.ins (He.ga K "Space") qx [])) q (SpV K qx (n + k) (n + 2 * k) (n + k)) q = some (SpV K qx (n + k) (n + 2 * k) (n + k)) := upd_same
                have qa : q ≠ a := (ne_of_none a7 nq).symm
                refine ⟨q, qx, n + k, n + 2 * k, rfl, upd_same, rfl, a, dx, _, rfl, s8 _ _ a7, by show 3 < 1000; decide, ?_⟩
                generalize upd (upd (upd H7 qx (.own q)) q (.ins (He.ga K "Space") qx [])) q (SpV K qx (n + k) (n + 2 * k) (n + k)) = H8 at s8 sq ⊢
                rw [pi_Areas_spare]
                have k9 : ∀ {c x}, c ≠ a → H8 c = some x → upd H8 a (.ins (He.ga K "Areas") dx (F_Areas (.ref m) (.ref o) (.ref p) (.ref q))) c = some x := fun h g => by rw [upd_ne h]; exact g
                have k69 : ∀ {c x}, c ≠ a → H6 c = some x → upd H8 a (.ins (He.ga K "Areas") dx (F_Areas (.ref m) (.ref o) (.ref p) (.ref q))) c = some x := fun h g => k9 h (s8 _ _ (k7 h g))
                have k49 : ∀ {c x}, c ≠ a → H4 c = some x → upd H8 a (.ins (He.ga K "Areas") dx (F_Areas (.ref m) (.ref o) (.ref p) (.ref q))) c = some x := fun h g => k69 h (s6 _ _ (k5 h g))
                have k29 : ∀ {c x}, c ≠ a → H2 c = some x → upd H8 a (.ins (He.ga K "Areas") dx (F_Areas (.ref m) (.ref o) (.ref p) (.ref q))) c = some x := fun h g => k49 h (s4 _ _ (k3 h g))
                have nn : ∀ {Hi : Hp} {c : Addr}, (∀ {c x}, c ≠ a → H c = some x → Hi c = some x) → c ≠ a → Hi c = none → H c = none := fun {Hi c} k h g => by
                  cases e : H c with
                  | none => rfl
                  | some x =>
                    rw [k h e] at g
                    cases g
                refine h ⟨a, dx, m, mx, l, o, ox, p, px, q, qx⟩ _ rfl { ob := upd_same, me := ⟨k29 ma M1.ob, k29 la M1.ls, M1.sz⟩, vw := Vw.rep, ln := List.length_replicate, so := k49 oa so, sp := k69 pa sp, sq := k9 qa sq, nop := ?_, noq := ?_, npq := ?_, lo := Nat.zero_le _, l1 := ⟨Nat.le_refl _, Nat.le_add_right _ _⟩, l2 := ⟨Nat.le_refl _, by show n + k ≤ n + 2 * k; omega⟩, gn := ⟨by show 4 ≤ n; omega, by show n ≤ 2000; omega⟩, gk := ⟨by show 2 ≤ k; omega, by show k ≤ 500; omega⟩ } (none_of (same_mk nm nmx nem) nl) (nn (fun h g => k3 h (s1 _ _ g)) oa no) (nn (fun h g => k5 h (s4 _ _ (k3 h (s1 _ _ g)))) pa np) (nn (fun h g => k7 h (s6 _ _ (k5 h (s4 _ _ (k3 h (s1 _ _ g)))))) qa nq) nm fun c x h g => k29 h (s1 _ _ g)
                · exact ne_of_none (k5 oa so) np
                · exact ne_of_none (k7 oa (s6 _ _ (k5 oa so))) nq
                · exact ne_of_none (k7 pa sp) nq
            · rw [if_neg (by omega)] at h
              exact h
          · rw [odd_whole o]
            rw [youngV_odd o] at h
            walk_at "w2"
            exact h
      · rw [if_neg (by omega)] at h
        exact h
    · rw [odd_whole o]
      rw [oldV_odd o] at h
      walk_at "w2"
      exact h
theorem f_Areas_flip (T : Tx K mg) : Mt P w K mg base 1 "Areas" "flip" ["self"] (sp_Areas_flip K) := by
  refine T.mkMt 34 106 104 (d := d_Areas_flip) (N := ["self", "kept"]) (k := 0) rfl rfl rfl rfl rfl rfl sc_Areas_flip (fun _ _ _ _ _ _ us hl => match us, hl with | [_], _ => rfl) (fun vs H Q E h => ?len) (fun cdv A outer s H vs Q E hr h => ⟨_,
      (pss_cons (ps_set (i := 1) sc_Areas_flip.nd rfl (Or.inl rfl) (pe_fldC (T.cls 104) (T.noat 112) (pv 0)))
        (pss_cons (ps_fldC (T.cls 104) (T.noat 112) (pv 0) (pe_fldC (T.cls 104) (T.noat 113) (pv 0)))
        (pss_one (ps_fldC (T.cls 104) (T.noat 113) (pv 0) (pv 1))))), ?rd⟩)
  case len => first | exact len_Areas_flip h | (repeat (first | (obtain ⟨rfl, _⟩ := h; rfl; done) | obtain ⟨_, h⟩ := h))
  case rd =>
    obtain ⟨A, S, rfl, I, q⟩ := h
    walk_at "w2"
    refine ⟨_, fldIs I.ob, _, fldIs I.ob, A.a, A.dx, _, rfl, I.ob, by show 4 < 1000; decide, ?_⟩
    rw [pf_Areas_young]
    refine ⟨A.a, A.dx, _, rfl, upd_same, by show 4 < 1000; decide, ?_⟩
    rw [pf_Areas_spare, upd_upd]
    exact q _ I.flip fun b o h g => by rw [upd_ne h]; exact g
theorem f_Areas_area_of (T : Tx K mg) : Mt P w K mg base 2 "Areas" "area_of" ["self", "at"] (sp_Areas_area_of K) := by
  have c_Space_has := f_Space_has (P := P) (w := w) (base := base) T
  refine T.mkMt 35 107 104 (d := d_Areas_area_of) (N := ["self", "at"]) (k := 1) rfl rfl rfl rfl rfl rfl sc_Areas_area_of (fun _ _ _ _ _ _ us hl => match us, hl with | [_, _], _ => rfl) (fun vs H Q E h => ?len) (fun cdv A outer s H vs Q E hr h => ⟨_,
      (pss_cons (ps_if (pt_val (pe_mt (K := K) rfl (takes_of rfl rfl rfl rfl) (pe_fldC (T.cls 104) (T.noat 111) (pv 0)) c_Space_has (hr.mono (by decide)) (pa_cons (pv 1) pa_nil))) (pss_one (ps_ret pe_str)) pss_nil)
        (pss_cons (ps_if (pt_val (pe_mt (K := K) rfl (takes_of rfl rfl rfl rfl) (pe_fldC (T.cls 104) (T.noat 112) (pv 0)) c_Space_has (hr.mono (by decide)) (pa_cons (pv 1) pa_nil))) (pss_one (ps_ret pe_str)) pss_nil)
        (pss_one (ps_ret pe_non)))), ?rd⟩)
  case len => first | exact len_Areas_area_of h | (repeat (first | (obtain ⟨rfl, _⟩ := h; rfl; done) | obtain ⟨_, h⟩ := h))
  case rd =>
    obtain ⟨A, S, n, rfl, I, h⟩ := h
    unfold areaW at h
    walk_at "w2"
    refine ⟨_, fldIs I.ob, recv I.so, A.o, A.ox, _, _, _, n, rfl, I.so, ?_⟩
    walk_at "w2"
    split
    · rw [if_pos (by assumption)] at h
      exact h
    · rw [if_neg (by assumption)] at h
      have hf := I.half S.fl
      refine ⟨_, fldIs I.ob, recv hf, _, _, _, _, _, n, rfl, hf, ?_⟩
      walk_at "w2"
      ((repeat' split) <;> (repeat' split at h) <;> first | exact h | (exfalso; omega))
theorem f_Areas_lay_young (T : Tx K mg) : Mt P w K mg base 5 "Areas" "lay_young" ["self", "slots"] (sp_Areas_lay_young K) := by
  have c_need_slots := f_need_slots (P := P) (w := w) (base := base) T
  have c_Space_take := f_Space_take (P := P) (w := w) (base := base) T
  have c_lay := f_lay (P := P) (w := w) (base := base) T
  refine T.mkMt 36 108 104 (d := d_Areas_lay_young) (N := ["self", "slots", "at"]) (k := 4) rfl rfl rfl rfl rfl rfl sc_Areas_lay_young (fun _ _ _ _ _ _ us hl => match us, hl with | [_, _], _ => rfl) (fun vs H Q E h => ?len) (fun cdv A outer s H vs Q E hr h => ⟨_,
      (pss_cons (ps_expr (pe_fn (takes_of rfl rfl rfl rfl) c_need_slots (hr.mono (by decide)) (by rfl) (pa_cons (pv 1) pa_nil)))
        (pss_cons (ps_set (i := 2) sc_Areas_lay_young.nd rfl (Or.inl rfl) (pe_mt (K := K) rfl (takes_of rfl rfl rfl rfl) (pe_fldC (T.cls 104) (T.noat 112) (pv 0)) c_Space_take (hr.mono (by decide)) (pa_cons (pe_op op_gAdd (pv 1) pe_int) pa_nil)))
        (pss_cons (ps_expr (pe_fn (takes_of rfl rfl rfl rfl) c_lay (hr.mono (by decide)) (by rfl) (pa_cons (pe_fldC (T.cls 104) (T.noat 110) (pv 0)) (pa_cons (pv 2) (pa_cons (pv 1) pa_nil)))))
        (pss_one (ps_ret (pv 2)))))), ?rd⟩)
  case len => first | exact len_Areas_lay_young h | (repeat (first | (obtain ⟨rfl, _⟩ := h; rfl; done) | obtain ⟨_, h⟩ := h))
  case rd =>
    obtain ⟨A, S, v, rfl, I, th, h⟩ := h
    have hf := I.half S.fl
    have hl := I.lt S.fl
    walk_at "w2"
    refine ⟨v, rfl, th, ?_⟩
    unfold laidW at h
    cases es : slotsW v with
    | none =>
      rw [es] at h
      exact h
    | some s =>
      rw [es] at h
      obtain ⟨rfl, s8⟩ := slotsW_some es
      dsimp only at h ⊢
      refine ⟨_, fldIs I.ob, recv hf, _, _, _, _, _, _, rfl, hf, .inl ⟨_, rfl⟩, ?_⟩
      rw [takeW_int, if_neg (by omega)]
      by_cases c' : s + 1 ≤ endA S false - topA S false
      · have c : s + 1 ≤ S.b S.fl + S.k - S.t S.fl := c'
        rw [if_pos c'] at h
        have et : ((s : Int) + 1).toNat = s + 1 := by omega
        rw [if_neg (by omega), et]
        have I2 := I.topHalf (f := S.fl) (t := S.t S.fl + (s + 1)) (by omega) (by omega)
        dsimp only
        refine ⟨_, fldIs I2.ob, A.m, A.mx, A.l, _, _, _, rfl, I2.me, .inl ⟨_, rfl⟩, .inl ⟨_, rfl⟩, ?_⟩
        have ew : (S.put S.fl (S.t S.fl + (s + 1))).ws = S.ws := by unfold ArS.put; split <;> rfl
        have hlen := I.ln
        have hb : S.b S.fl + S.k ≤ S.n + 2 * S.k := by unfold ArS.b; split <;> omega
        rw [slotsW_int, if_pos ⟨by omega, by omega⟩, Int.toNat_natCast]
        dsimp only
        rw [ew, placeOf_int, if_pos ⟨by omega, by omega⟩, Int.toNat_natCast]
        dsimp only
        intro H' M k
        refine h H' (I2.words M k (layT_vw I.vw s8) (by rw [layT_len, ew])) fun b o h1 h2 g => k b o h1 (by rw [upd_ne h2]; exact g)
      · have c : ¬ s + 1 ≤ S.b S.fl + S.k - S.t S.fl := c'
        rw [if_neg c'] at h
        rw [if_pos (by omega)]
        exact h
theorem f_Areas_lay_old (T : Tx K mg) : Mt P w K mg base 7 "Areas" "lay_old" ["self", "slots"] (sp_Areas_lay_old K) := by
  have c_need_slots := f_need_slots (P := P) (w := w) (base := base) T
  have c_Space_take := f_Space_take (P := P) (w := w) (base := base) T
  have c_lay := f_lay (P := P) (w := w) (base := base) T
  have c_aged := f_aged (P := P) (w := w) (base := base) T
  refine T.mkMt 37 109 104 (d := d_Areas_lay_old) (N := ["self", "slots", "at"]) (k := 6) rfl rfl rfl rfl rfl rfl sc_Areas_lay_old (fun _ _ _ _ _ _ us hl => match us, hl with | [_, _], _ => rfl) (fun vs H Q E h => ?len) (fun cdv A outer s H vs Q E hr h => ⟨_,
      (pss_cons (ps_expr (pe_fn (takes_of rfl rfl rfl rfl) c_need_slots (hr.mono (by decide)) (by rfl) (pa_cons (pv 1) pa_nil)))
        (pss_cons (ps_set (i := 2) sc_Areas_lay_old.nd rfl (Or.inl rfl) (pe_mt (K := K) rfl (takes_of rfl rfl rfl rfl) (pe_fldC (T.cls 104) (T.noat 111) (pv 0)) c_Space_take (hr.mono (by decide)) (pa_cons (pe_op op_gAdd (pv 1) pe_int) pa_nil)))
        (pss_cons (ps_expr (pe_fn (takes_of rfl rfl rfl rfl) c_lay (hr.mono (by decide)) (by rfl) (pa_cons (pe_fldC (T.cls 104) (T.noat 110) (pv 0)) (pa_cons (pv 2) (pa_cons (pv 1) pa_nil)))))
        (pss_cons (ps_expr (pe_fn (takes_of rfl rfl rfl rfl) c_aged (hr.mono (by decide)) (by rfl) (pa_cons (pe_fldC (T.cls 104) (T.noat 110) (pv 0)) (pa_cons (pv 2) (pa_cons (pe_num (T.num 56) (by rfl)) pa_nil)))))
        (pss_one (ps_ret (pv 2))))))), ?rd⟩)
  case len => first | exact len_Areas_lay_old h | (repeat (first | (obtain ⟨rfl, _⟩ := h; rfl; done) | obtain ⟨_, h⟩ := h))
  case rd =>
    obtain ⟨A, S, v, rfl, I, th, h⟩ := h
    have hl := I.lo
    walk_at "w2"
    refine ⟨v, rfl, th, ?_⟩
    unfold laidW at h
    cases es : slotsW v with
    | none =>
      rw [es] at h
      exact h
    | some s =>
      rw [es] at h
      obtain ⟨rfl, s8⟩ := slotsW_some es
      dsimp only at h ⊢
      refine ⟨_, fldIs I.ob, recv I.so, _, _, _, _, _, _, rfl, I.so, .inl ⟨_, rfl⟩, ?_⟩
      rw [takeW_int, if_neg (by omega)]
      by_cases c' : s + 1 ≤ endA S true - topA S true
      · have c : s + 1 ≤ S.n - S.ot := c'
        rw [if_pos c'] at h
        have et : ((s : Int) + 1).toNat = s + 1 := by omega
        rw [if_neg (by omega), et]
        have I2 := I.topOld (t := S.ot + (s + 1)) (by omega)
        have hlen := I.ln
        have hz := I.me.sz
        dsimp only
        refine ⟨_, fldIs I2.ob, A.m, A.mx, A.l, _, _, _, rfl, I2.me, .inl ⟨_, rfl⟩, .inl ⟨_, rfl⟩, ?_⟩
        rw [slotsW_int, if_pos ⟨by omega, by omega⟩, Int.toNat_natCast]
        dsimp only
        rw [placeOf_int, if_pos ⟨by omega, by omega⟩, Int.toNat_natCast]
        dsimp only
        intro H' M k
        have I3 := I2.words M k (layT_vw I.vw s8) layT_len
        walk_at "w2"
        refine ⟨_, fldIs I3.ob, A.m, A.mx, A.l, _, _, _, rfl, I3.me, I3.vw, .inl ⟨_, rfl⟩, .inl ⟨_, rfl⟩, ?_⟩
        have eH : headW (layT S.ws S.ot s s) (.int (S.ot : Int)) = .ok S.ot (4 * s) := by
          unfold headW
          rw [layT_len, placeOf_int, if_pos ⟨by omega, by omega⟩, Int.toNat_natCast]
          dsimp only
          rw [layT_at (by omega), head_8 s8]
        rw [eH, ageW_int, if_pos (by decide)]
        dsimp only
        have e4 : 4 * (4 * s / 4) + (2 : Int).toNat = 4 * s + 2 := by
          show 4 * (4 * s / 4) + 2 = 4 * s + 2
          omega
        rw [e4]
        have M3 := I3.me.put ((layT S.ws S.ot s s).set S.ot (2 * ((4 * s + 2 : Nat) : Int))) (List.length_set ..)
        walk_at "w2"
        refine h _ (I3.words M3 (fun b o h g => by rw [upd_ne h]; exact g) (I3.vw.set (by rw [word_num (by omega)]; rfl)) (List.length_set ..)) fun b o h1 h2 g => by rw [upd_ne h1]; exact k b o h1 (by rw [upd_ne h2]; exact g)
      · have c : ¬ s + 1 ≤ S.n - S.ot := c'
        rw [if_neg c'] at h
        rw [if_pos (by omega)]
        exact h
end

/-! ## books -/
def bk (ps : List Int) : List (Key × V) := ps.map fun i => (.inl i, .bl true)
def addP (ps : List Int) (i : Int) : List Int := if i ∈ ps then ps else ps ++ [i]
def delP (ps : List Int) (i : Int) : List Int := ps.filter fun j => decide (j ≠ i)
theorem val_bk {ps : List Int} {i : Int} : valV (bk ps) (.inl i : Key) = if i ∈ ps then some (.bl true) else none := by
  induction ps with
  | nil => rfl
  | cons j r ih =>
    by_cases e : j = i
    · subst e
      rw [if_pos (List.mem_cons_self)]
      exact valV_pos rfl
    · have e2 : ¬ ((.inl j : Key) = .inl i) := fun z => e (Sum.inl.inj z)
      refine (valV_neg (p := ((.inl j : Key), V.bl true)) (r := bk r) e2).trans (ih.trans ?_)
      by_cases c : i ∈ r
      · rw [if_pos c, if_pos (List.mem_cons_of_mem _ c)]
      · rw [if_neg c, if_neg fun z => (List.mem_cons.mp z).elim (fun q => e q.symm) c]
theorem put_bk {ps : List Int} {i : Int} : putK (bk ps) (.inl i : Key) (.bl true) = bk (addP ps i) := by
  unfold putK addP
  rw [valV_any, val_bk]
  by_cases c : i ∈ ps
  · rw [if_pos c, if_pos c, if_pos (show (some (V.bl true)).isSome = true from rfl)]
    unfold bk
    rw [List.map_map]
    refine List.map_congr_left fun j _ => ?_
    show (if (.inl j : Key) = .inl i then ((.inl j : Key), V.bl true) else ((.inl j : Key), V.bl true)) = _
    rw [ite_self]
  · rw [if_neg c, if_neg c, if_neg (by decide)]
    unfold bk
    rw [List.map_append]
    rfl
theorem drop_bk {ps : List Int} {i : Int} : dropK (bk ps) (.inl i : Key) = bk (delP ps i) := by
  unfold dropK delP bk
  rw [List.filter_map]
  congr 1
  refine List.filter_congr fun j _ => ?_
  show decide ((.inl j : Key) ≠ .inl i) = decide (j ≠ i)
  by_cases e : j = i
  · subst e
    rw [decide_eq_false (by simp), decide_eq_false (by simp)]
  · have e2 : (.inl j : Key) ≠ .inl i := fun z => e (Sum.inl.inj z)
    rw [decide_eq_true e2, decide_eq_true e]
theorem key_bk {ps : List Int} : (bk ps).map (fun kv => kV kv.1) = ps.map V.int := by
  unfold bk
  rw [List.map_map]
  rfl
theorem mem_addP {ps : List Int} {i j : Int} : j ∈ addP ps i ↔ j ∈ ps ∨ j = i := by
  unfold addP
  split
  · rename_i c
    exact ⟨.inl, fun h => h.elim id fun e => e ▸ c⟩
  · rw [List.mem_append, List.mem_singleton]
theorem nd_addP {ps : List Int} {i : Int} (h : ps.Nodup) : (addP ps i).Nodup := by
  unfold addP
  split
  · exact h
  · rename_i c
    refine List.nodup_append.mpr ⟨h, by simp, fun a ha b hb => ?_⟩
    rw [List.mem_singleton] at hb
    subst hb
    exact fun e => c (e ▸ ha)
theorem len_addP {ps : List Int} {i : Int} : (addP ps i).length ≤ ps.length + 1 := by
  unfold addP
  split
  · omega
  · rw [List.length_append]
    show ps.length + 1 ≤ ps.length + 1
    omega
theorem mem_delP {ps : List Int} {i j : Int} : j ∈ delP ps i ↔ j ∈ ps ∧ j ≠ i := by
  unfold delP
  rw [List.mem_filter, decide_eq_true_eq]
theorem nd_delP {ps : List Int} {i : Int} (h : ps.Nodup) : (delP ps i).Nodup := List.Pairwise.filter _ h
theorem len_delP {ps : List Int} {i : Int} : (delP ps i).length ≤ ps.length := List.length_filter_le ..
theorem sort_one {a b c d : List Int} (na : a.Nodup) (nb : b.Nodup) (m : ∀ i, i ∈ a ↔ i ∈ b) (ca : c.Perm a) (db : d.Perm b) (pc : c.Pairwise (· ≤ ·)) (pd : d.Pairwise (· ≤ ·)) : c = d :=
  List.Perm.eq_of_pairwise (fun _ _ _ _ h1 h2 => Int.le_antisymm h1 h2) pc pd (ca.trans (((List.perm_ext_iff_of_nodup na nb).mpr m).trans db.symm))
structure BookO (K : PySem.W.Frag) (H : Hp) (b dx d : Addr) (ps : List Int) : Prop where
  ob : H b = some (.ins (He.ga K "Book") dx (F_Book (.ref d)))
  ds : H d = some (.dK (bk ps))
  nd : ps.Nodup
theorem BookO.same {K H H' b dx d ps} (h : BookO K H b dx d ps) (s : Same H H') : BookO K H' b dx d ps := ⟨s _ _ h.ob, s _ _ h.ds, h.nd⟩
theorem BookO.ne {K H b dx d ps} (h : BookO K H b dx d ps) : b ≠ d := ne_of h.ob h.ds (by intro z; cases z)
theorem BookO.put {K H b dx d ps} (h : BookO K H b dx d ps) {qs : List Int} (n : qs.Nodup) : BookO K (upd H d (.dK (bk qs))) b dx d qs := ⟨by rw [upd_ne h.ne]; exact h.ob, upd_same, n⟩
def sp_Book___init__ (K : PySem.W.Frag) : Sp := fun vs H Q _ => ∃ b dx, vs = [.ref b] ∧ H b = some (.ins (He.ga K "Book") dx []) ∧ ∀ d H', H d = none → BookO K H' b dx d [] → (∀ c o, c ≠ b → H c = some o → H' c = some o) → Q .non H'
def sp_Book_write (K : PySem.W.Frag) : Sp := fun vs H Q E => ∃ b dx d ps v, vs = [.ref b, v] ∧ BookO K H b dx d ps ∧ ps.length < 1000000 ∧ Thing H v ∧ match placeW v with
  | some n => Q .non (upd H d (.dK (bk (addP ps n))))
  | none => E (Ex K "NoPlace") none H
def sp_Book_rub (K : PySem.W.Frag) : Sp := fun vs H Q E => ∃ b dx d ps v, vs = [.ref b, v] ∧ BookO K H b dx d ps ∧ Thing H v ∧ match placeW v with
  | some n => Q .non (upd H d (.dK (bk (delP ps n)))) ∧ (delP ps n = ps → Q .non H)
  | none => E (Ex K "NoPlace") none H
def sp_Book_has (K : PySem.W.Frag) : Sp := fun vs H Q E => ∃ b dx d ps v, vs = [.ref b, v] ∧ BookO K H b dx d ps ∧ Thing H v ∧ match placeW v with
  | some n => Q (.bl (decide (n ∈ ps))) H
  | none => E (Ex K "NoPlace") none H
def sp_Book_places (K : PySem.W.Frag) : Sp := fun vs H Q _ => ∃ b dx d ps, vs = [.ref b] ∧ BookO K H b dx d ps ∧ ps.length < 1000000 ∧ ∀ (ns : List Int) p H', ns.Perm ps → ns.Pairwise (· ≤ ·) → H p = none → Same H H' → H' p = some (.lst (ns.map V.int)) → Q (.ref p) H'
def sp_Book_clear (K : PySem.W.Frag) : Sp := fun vs H Q _ => ∃ b dx d ps, vs = [.ref b] ∧ BookO K H b dx d ps ∧ ∀ d' H', H d' = none → BookO K H' b dx d' [] → (∀ c o, c ≠ b → H c = some o → H' c = some o) → Q .non H'
section
variable {P : Program} {w : World} {K : PySem.W.Frag} {mg : Str → Option Value} {base : Heap}
theorem f_Book___init__ (T : Tx K mg) : Mi P w K mg base 1 "Book" ["self"] (sp_Book___init__ K) := by
  refine T.mkMi 38 115 13 (d := d_Book___init__) (N := ["self"]) (k := 0) rfl rfl rfl rfl rfl rfl sc_Book___init__ (fun _ _ _ _ _ _ us hl => match us, hl with | [_], _ => rfl) (fun vs H Q E h => ?len) (fun cdv A outer s H vs Q E hr h => ⟨_,
      (pss_one (ps_fldC (T.cls 114) (T.noat 121) (pv 0) pe_dnewK)), ?rd⟩)
  case len => obtain ⟨b, dx, rfl, _⟩ := h; rfl
  case rd =>
    obtain ⟨b, dx, rfl, M, q⟩ := h
    walk_at "w2"
    intro d hd
    have nb : b ≠ d := ne_of_none M hd
    refine ⟨b, dx, _, rfl, by rw [upd_ne nb]; exact M, by decide, ?_⟩
    rw [pi_Book_marks]
    exact q d _ hd ⟨upd_same, by rw [upd_ne nb.symm]; exact upd_same, List.nodup_nil⟩ fun c o hc e => by rw [upd_ne hc, upd_ne (ne_of_none e hd)]; exact e
theorem f_Book_write (T : Tx K mg) : Mt P w K mg base 3 "Book" "write" ["self", "place"] (sp_Book_write K) := by
  have c_place_word := f_place_word (P := P) (w := w) (base := base) T
  refine T.mkMt 39 116 114 (d := d_Book_write) (N := ["self", "place"]) (k := 2) rfl rfl rfl rfl rfl rfl sc_Book_write (fun _ _ _ _ _ _ us hl => match us, hl with | [_, _], _ => rfl) (fun vs H Q E h => ?len) (fun cdv A outer s H vs Q E hr h => ⟨_,
      (pss_cons (ps_expr (pe_fn (takes_of rfl rfl rfl rfl) c_place_word (hr.mono (by decide)) (by rfl) (pa_cons (pv 1) pa_nil)))
        (pss_one (ps_dput (hu_of hr) (pe_fldC (T.cls 114) (T.noat 121) (pv 0)) (pv 1) pe_bl rfl))), ?rd⟩)
  case len => obtain ⟨b, dx, d, ps, v, rfl, _⟩ := h; rfl
  case rd =>
    obtain ⟨b, dx, d, ps, v, rfl, B, hl, th, h⟩ := h
    walk_at "w2"
    rcases th with ⟨n, rfl⟩ | o
    · rw [x_place_word]
      rw [placeW_int] at h
      split
      · rename_i c
        rw [if_pos c] at h
        walk_at "w2"
        refine ⟨_, fldIs B.ob, ?_⟩
        walk_at "w2"
        refine ⟨_, dput_i B.ds (by unfold bk; rw [List.length_map, sizeLine_eq]; omega), ?_⟩
        rw [put_bk]
        exact h
      · rename_i c
        rw [if_neg c] at h
        exact h
    · rw [odd_place_word o]
      rw [placeW_odd o] at h
      exact h
theorem f_Book_rub (T : Tx K mg) : Mt P w K mg base 3 "Book" "rub" ["self", "place"] (sp_Book_rub K) := by
  have c_place_word := f_place_word (P := P) (w := w) (base := base) T
  refine T.mkMt 40 117 114 (d := d_Book_rub) (N := ["self", "place"]) (k := 2) rfl rfl rfl rfl rfl rfl sc_Book_rub (fun _ _ _ _ _ _ us hl => match us, hl with | [_, _], _ => rfl) (fun vs H Q E h => ?len) (fun cdv A outer s H vs Q E hr h => ⟨_,
      (pss_cons (ps_expr (pe_fn (takes_of rfl rfl rfl rfl) c_place_word (hr.mono (by decide)) (by rfl) (pa_cons (pv 1) pa_nil)))
        (pss_one (ps_expr (pe_dpop2 (pe_fldC (T.cls 114) (T.noat 121) (pv 0)) (pv 1) pe_non ⟨rfl, rfl, rfl, rfl⟩)))), ?rd⟩)
  case len => obtain ⟨b, dx, d, ps, v, rfl, _⟩ := h; rfl
  case rd =>
    obtain ⟨b, dx, d, ps, v, rfl, B, th, h⟩ := h
    walk_at "w2"
    rcases th with ⟨n, rfl⟩ | o
    · rw [x_place_word]
      rw [placeW_int] at h
      split
      · rename_i c
        rw [if_pos c] at h
        walk_at "w2"
        refine ⟨_, fldIs B.ob, ?_⟩
        walk_at "w2"
        refine ⟨isD_k B.ds, _, .inl n, B.ds, rfl, fun v e => ?_, fun e => ?_⟩
        · rw [drop_bk]
          exact h.1
        · refine h.2 ?_
          rw [val_bk] at e
          have ni : n ∉ ps := fun z => by rw [if_pos z] at e; cases e
          unfold delP
          rw [List.filter_eq_self]
          exact fun a ha => decide_eq_true fun z => ni (z ▸ ha)
      · rename_i c
        rw [if_neg c] at h
        exact h
    · rw [odd_place_word o]
      rw [placeW_odd o] at h
      exact h
theorem f_Book_has (T : Tx K mg) : Mt P w K mg base 3 "Book" "has" ["self", "place"] (sp_Book_has K) := by
  have c_place_word := f_place_word (P := P) (w := w) (base := base) T
  refine T.mkMt 41 118 114 (d := d_Book_has) (N := ["self", "place"]) (k := 2) rfl rfl rfl rfl rfl rfl sc_Book_has (fun _ _ _ _ _ _ us hl => match us, hl with | [_, _], _ => rfl) (fun vs H Q E h => ?len) (fun cdv A outer s H vs Q E hr h => ⟨_,
      (pss_cons (ps_expr (pe_fn (takes_of rfl rfl rfl rfl) c_place_word (hr.mono (by decide)) (by rfl) (pa_cons (pv 1) pa_nil)))
        (pss_one (ps_ret (pe_cmp (pc_din (hu_of hr) (pv 1) (pe_fldC (T.cls 114) (T.noat 121) (pv 0))))))), ?rd⟩)
  case len => obtain ⟨b, dx, d, ps, v, rfl, _⟩ := h; rfl
  case rd =>
    obtain ⟨b, dx, d, ps, v, rfl, B, th, h⟩ := h
    walk_at "w2"
    rcases th with ⟨n, rfl⟩ | o
    · rw [x_place_word]
      rw [placeW_int] at h
      split
      · rename_i c
        rw [if_pos c] at h
        walk_at "w2"
        refine ⟨_, fldIs B.ob, ?_⟩
        walk_at "w2"
        refine ⟨_, dget_i B.ds, ?_⟩
        rw [val_bk]
        have h : Q (V.bl (decide (n ∈ ps))) H := h
        by_cases m : n ∈ ps
        · rw [decide_eq_true m] at h
          rw [if_pos m]
          exact h
        · rw [decide_eq_false m] at h
          rw [if_neg m]
          exact h
      · rename_i c
        rw [if_neg c] at h
        exact h
    · rw [odd_place_word o]
      rw [placeW_odd o] at h
      exact h
theorem f_Book_places (T : Tx K mg) : Mt P w K mg base 1 "Book" "places" ["self"] (sp_Book_places K) := by
  refine T.mkMt 42 119 114 (d := d_Book_places) (N := ["self"]) (k := 0) rfl rfl rfl rfl rfl rfl sc_Book_places (fun _ _ _ _ _ _ us hl => match us, hl with | [_], _ => rfl) (fun vs H Q E h => ?len) (fun cdv A outer s H vs Q E hr h => ⟨_,
      (pss_one (ps_ret (pe_callB (call_sortedK (K := K) rfl) (by rfl) (T.free 67) (by decide +kernel) (pa_cons (pe_callTy (call_listD rfl) (by rfl) (T.free 71) (by decide +kernel) (pa_cons (pe_fldC (T.cls 114) (T.noat 121) (pv 0)) pa_nil)) pa_nil)))), ?rd⟩)
  case len => obtain ⟨b, dx, d, ps, rfl, _⟩ := h; rfl
  case rd =>
    obtain ⟨b, dx, d, ps, rfl, B, hl, q⟩ := h
    walk_at "w2"
    refine ⟨_, fldIs B.ob, d, _, rfl, .inl B.ds, fun p hp => ?_⟩
    rw [key_bk]
    have s1 := same_new (o := .lst (ps.map V.int)) hp
    refine ⟨p, ps, rfl, .of upd_same, fun ns r hp' hs hr => ?_⟩
    have s2 := same_new (o := .lst (ns.map V.int)) hr
    exact q ns r _ hp' hs (none_of s1 hr) (s1.trans s2) upd_same
theorem f_Book_clear (T : Tx K mg) : Mt P w K mg base 1 "Book" "clear" ["self"] (sp_Book_clear K) := by
  refine T.mkMt 43 120 114 (d := d_Book_clear) (N := ["self"]) (k := 0) rfl rfl rfl rfl rfl rfl sc_Book_clear (fun _ _ _ _ _ _ us hl => match us, hl with | [_], _ => rfl) (fun vs H Q E h => ?len) (fun cdv A outer s H vs Q E hr h => ⟨_,
      (pss_one (ps_fldC (T.cls 114) (T.noat 121) (pv 0) pe_dnewK)), ?rd⟩)
  case len => obtain ⟨b, dx, d, ps, rfl, _⟩ := h; rfl
  case rd =>
    obtain ⟨b, dx, d, ps, rfl, B, q⟩ := h
    walk_at "w2"
    intro d' hd
    have nb : b ≠ d' := ne_of_none B.ob hd
    refine ⟨b, dx, _, rfl, by rw [upd_ne nb]; exact B.ob, by show 1 < 1000; decide, ?_⟩
    rw [pf_Book_marks]
    exact q d' _ hd ⟨upd_same, by rw [upd_ne nb.symm]; exact upd_same, List.nodup_nil⟩ fun c o hc e => by rw [upd_ne hc, upd_ne (ne_of_none e hd)]; exact e
end

local macro_rules | `(tactic| walk_at "w2") => `(tactic| try simp only [↓x_var0, ↓x_varS, ↓x_c, ↓x_op, ↓x_un, ↓x_cb, ↓x_nil, ↓x_cons, ↓x_test, ↓x_b, ↓x_ex, ↓x_and, ↓x_or, ↓x_not, ↓x_andV, ↓x_orV, ↓x_notV, ↓x_tif, ↓x_chain, ↓x_menu, ↓x_menuI, ↓x_lst, ↓x_tup, ↓x_dnew, ↓x_callW, ↓x_callN, ↓x_seq, ↓x_next, ↓x_ret, ↓x_retN, ↓x_drop, ↓x_ifS, ↓x_asg, ↓x_name, ↓x_raise, ↓x_fld, ↓x_setF, ↓x_meth, ↓x_make, ↓x_sub, ↓r_min, ↓r_max, ↓x_yes, ↓x_for, ↓x_lock, ↓x_keys, ↓x_cut, ↓x_lc, ↓x_rng1, ↓x_rng2, ↓x_lst1, ↓x_itup, ↓x_rng3, ↓x_three, ↓x_lstg, ↓x_tupg, ↓x_adrS, ↓x_one, ↓x_two, ↓x_adr, ↓x_sl, ↓x_np, ↓x_pt, ↓x_int, ↓x_bm, ↓x_bm0, ↓x_consg, ↓x_nilg, ↓x_dget2, ↓x_dget1, ↓x_dgetN, ↓x_dget, ↓x_din, ↓x_dni, ↓x_dput, ↓x_dpop2, ↓r_isB, ↓r_notB, ↓x_enum, ↓x_zip, ↓x_str, ↓x_strE, ↓r_inS, ↓r_ninS, wipe, List.map_cons, List.map_nil, ↓x_isT, ↓r_isiII, ↓r_isiBB, ↓r_isiIB, ↓r_isiSS, ↓r_neNS, ↓r_neSN, ↓r_neNN, ↓r_eqNS, ↓r_eqSN, ↓r_eqNN, ↓r_eqIS, ↓r_neIS, ↓r_neSI, ↓r_neBS, ↓r_eqBB, ↓r_neBB, ↓x_start, ↓x_K, ↓x_start0, ↓r_i0, ↓r_i, ↓r_u, ↓r_addI, ↓r_addS, ↓r_mulI, ↓r_mulS, ↓r_eqI, ↓r_neI, ↓r_eqS, ↓r_neS, ↓r_absI, ↓r_intI, ↓r_intB, List.length_cons, List.length_nil, List.replicate, List.set_cons_zero, List.set_cons_succ, decide_eq_true_eq, Bool.not_eq_true', decide_eq_false_iff_not, if_true, if_false, Bool.false_eq_true, Bool.true_eq_false, ite_true, ite_false, Bool.not_true, Bool.not_false, c_div, n_ten, c_pow, not_true_eq_false, not_false_eq_true, decide_true, decide_false, true_and, and_true, and_self, true_or, or_true, Int.reduceLT, Int.reduceLE, Int.reduceMul, Int.reduceAdd, Int.reduceSub, Int.reducePow, Int.reduceNeg, Int.reduceDiv, Int.reduceMod, Nat.reducePow, Int.reduceToNat, Int.reduceEq, Int.reduceNe, Nat.reduceLT, Nat.reduceLeDiff, Nat.reduceAdd, ↓x_whole, ↓x_kind])
/-! ## weak names -/
def flatN : V → Bool
  | .non => true
  | .int _ => true
  | _ => false
theorem flatN_I {v : V} (h : flatN v = true) : flatI v = true := by cases v <;> first | rfl | cases h
structure WeakO (K : PySem.W.Frag) (H : Hp) (w dx l : Addr) (ts : List V) : Prop where
  ob : H w = some (.ins (He.ga K "Weak") dx (F_Weak (.ref l)))
  ls : H l = some (.lst ts)
theorem WeakO.same {K H H' w dx l ts} (h : WeakO K H w dx l ts) (s : Same H H') : WeakO K H' w dx l ts := ⟨s _ _ h.ob, s _ _ h.ls⟩
theorem WeakO.ne {K H w dx l ts} (h : WeakO K H w dx l ts) : w ≠ l := ne_of h.ob h.ls (by intro z; cases z)
theorem WeakO.put {K H w dx l ts} (h : WeakO K H w dx l ts) {us : List V} : WeakO K (upd H l (.lst us)) w dx l us := ⟨by rw [upd_ne h.ne]; exact h.ob, upd_same⟩
/-- the names that are there, with their places -/
def pairsOf : Nat → List V → List (List V)
  | _, [] => []
  | k, v :: r => if v = .non then pairsOf (k + 1) r else [.int (k : Int), v] :: pairsOf (k + 1) r
theorem pairsOf_snoc {ts : List V} {v : V} : ∀ k, pairsOf k (ts ++ [v]) = pairsOf k ts ++ (if v = .non then [] else [[.int ((k + ts.length : Nat) : Int), v]]) := by
  induction ts with
  | nil =>
    intro k
    show (if v = .non then pairsOf (k + 1) [] else [.int (k : Int), v] :: pairsOf (k + 1) []) = _
    split <;> rfl
  | cons t r ih =>
    intro k
    show (if t = .non then pairsOf (k + 1) (r ++ [v]) else [.int (k : Int), t] :: pairsOf (k + 1) (r ++ [v])) = (if t = .non then pairsOf (k + 1) r else [.int (k : Int), t] :: pairsOf (k + 1) r) ++ _
    rw [ih (k + 1)]
    have e : k + 1 + r.length = k + (t :: r).length := by rw [List.length_cons]; omega
    rw [e]
    split <;> rfl
theorem pairsOf_len {ts : List V} : ∀ k, (pairsOf k ts).length ≤ ts.length := by
  induction ts with
  | nil => exact fun _ => Nat.le_refl _
  | cons t r ih =>
    intro k
    show (if t = .non then pairsOf (k + 1) r else [.int (k : Int), t] :: pairsOf (k + 1) r).length ≤ r.length + 1
    have := ih (k + 1)
    split
    · omega
    · show (pairsOf (k + 1) r).length + 1 ≤ r.length + 1
      omega
theorem pairsOf_mem {ts : List V} (fl : ∀ t ∈ ts, flatN t = true) : ∀ k, ∀ xs ∈ pairsOf k ts, ∃ i n : Int, xs = [.int i, .int n] := by
  induction ts with
  | nil => exact fun k xs h => (List.not_mem_nil h).elim
  | cons t r ih =>
    intro k xs h
    have h : xs ∈ (if t = .non then pairsOf (k + 1) r else [.int (k : Int), t] :: pairsOf (k + 1) r) := h
    have ih := ih (fun t h => fl t (List.mem_cons_of_mem _ h)) (k + 1) xs
    split at h
    · exact ih h
    · rename_i c
      rcases List.mem_cons.mp h with rfl | h
      · have f := fl t (List.mem_cons_self)
        cases t with
        | int n => exact ⟨_, _, rfl⟩
        | non => exact absurd rfl c
        | _ => cases f
      · exact ih h
def sp_Weak___init__ (K : PySem.W.Frag) : Sp := fun vs H Q _ => ∃ w dx, vs = [.ref w] ∧ H w = some (.ins (He.ga K "Weak") dx []) ∧ ∀ l H', H l = none → WeakO K H' w dx l [] → (∀ c o, c ≠ w → H c = some o → H' c = some o) → Q .non H'
def sp_Weak_name (K : PySem.W.Frag) : Sp := fun vs H Q E => ∃ w dx l ts v, vs = [.ref w, v] ∧ WeakO K H w dx l ts ∧ ts.length < 1000000 ∧ Thing H v ∧ match placeW v with
  | some n => Q (.int ts.length) (upd H l (.lst (ts ++ [.int n])))
  | none => E (Ex K "NoPlace") none H
def sp_Weak_need (K : PySem.W.Frag) : Sp := fun vs H Q E => ∃ w dx l ts v, vs = [.ref w, v] ∧ WeakO K H w dx l ts ∧ Thing H v ∧ match placeOf ts.length v with
  | some _ => Q .non H
  | none => E (Ex K "NoName") none H
def sp_Weak_at (K : PySem.W.Frag) : Sp := fun vs H Q E => ∃ w dx l ts v, vs = [.ref w, v] ∧ WeakO K H w dx l ts ∧ Thing H v ∧ match placeOf ts.length v with
  | some i => Q (ts.getD i .non) H
  | none => E (Ex K "NoName") none H
def sp_Weak_need_there (K : PySem.W.Frag) : Sp := fun vs H Q E => ∃ w dx l ts v, vs = [.ref w, v] ∧ WeakO K H w dx l ts ∧ Thing H v ∧ match placeOf ts.length v with
  | some i => if ts.getD i .non = .non then E (Ex K "NoName") none H else Q .non H
  | none => E (Ex K "NoName") none H
def sp_Weak_move (K : PySem.W.Frag) : Sp := fun vs H Q E => ∃ w dx l ts v z, vs = [.ref w, v, z] ∧ WeakO K H w dx l ts ∧ Thing H v ∧ Thing H z ∧ match placeOf ts.length v with
  | some i => if ts.getD i .non = .non then E (Ex K "NoName") none H else match placeW z with
    | some n => Q .non (upd H l (.lst (ts.set i (.int n))))
    | none => E (Ex K "NoPlace") none H
  | none => E (Ex K "NoName") none H
def sp_Weak_gone (K : PySem.W.Frag) : Sp := fun vs H Q E => ∃ w dx l ts v, vs = [.ref w, v] ∧ WeakO K H w dx l ts ∧ Thing H v ∧ match placeOf ts.length v with
  | some i => if ts.getD i .non = .non then E (Ex K "NoName") none H else Q .non (upd H l (.lst (ts.set i .non)))
  | none => E (Ex K "NoName") none H
def sp_Weak_names (K : PySem.W.Frag) : Sp := fun vs H Q _ => ∃ w dx l ts, vs = [.ref w] ∧ WeakO K H w dx l ts ∧ ts.length < 1000000 ∧ (∀ t ∈ ts, flatN t = true) ∧ ∀ p rs H', H p = none → Same H H' → H' p = some (.lst rs) → TupAll H' rs (pairsOf 0 ts) → Q (.ref p) H'
section
variable {P : Program} {w : World} {K : PySem.W.Frag} {mg : Str → Option Value} {base : Heap}
theorem f_Weak___init__ (T : Tx K mg) : Mi P w K mg base 1 "Weak" ["self"] (sp_Weak___init__ K) := by
  refine T.mkMi 56 140 16 (d := d_Weak___init__) (N := ["self"]) (k := 0) rfl rfl rfl rfl rfl rfl sc_Weak___init__ (fun _ _ _ _ _ _ us hl => match us, hl with | [_], _ => rfl) (fun vs H Q E h => ?len) (fun cdv A outer s H vs Q E hr h => ⟨_,
      (pss_one (ps_fldC (T.cls 139) (T.noat 148) (pv 0) (pe_lst pa_nil))), ?rd⟩)
  case len => obtain ⟨w', dx, rfl, _⟩ := h; rfl
  case rd =>
    obtain ⟨b, dx, rfl, M, q⟩ := h
    walk_at "w2"
    refine ⟨by omega, fun d hd => ?_⟩
    have nb : b ≠ d := ne_of_none M hd
    refine ⟨b, dx, _, rfl, by rw [upd_ne nb]; exact M, by decide, ?_⟩
    rw [pi_Weak_told]
    exact q d _ hd ⟨upd_same, by rw [upd_ne nb.symm]; exact upd_same⟩ fun c o hc e => by rw [upd_ne hc, upd_ne (ne_of_none e hd)]; exact e
theorem f_Weak_name (T : Tx K mg) : Mt P w K mg base 3 "Weak" "name" ["self", "at"] (sp_Weak_name K) := by
  have c_place_word := f_place_word (P := P) (w := w) (base := base) T
  refine T.mkMt 57 141 139 (d := d_Weak_name) (N := ["self", "at"]) (k := 2) rfl rfl rfl rfl rfl rfl sc_Weak_name (fun _ _ _ _ _ _ us hl => match us, hl with | [_, _], _ => rfl) (fun vs H Q E h => ?len) (fun cdv A outer s H vs Q E hr h => ⟨_,
      (pss_cons (ps_expr (pe_fn (takes_of rfl rfl rfl rfl) c_place_word (hr.mono (by decide)) (by rfl) (pa_cons (pv 1) pa_nil)))
        (pss_cons (ps_expr (pe_bm PySem.F.plainAttrs_list PySem.F.slot_list_append PySem.F.type_list_append mt_append (pe_fldC (T.cls 139) (T.noat 148) (pv 0)) (pa_cons (pv 1) pa_nil)))
        (pss_one (ps_ret (pe_op op_sub (pe_callB (call_lenK (K := K) rfl) (by rfl) (T.free 64) PySem.boot_len (pa_cons (pe_fldC (T.cls 139) (T.noat 148) (pv 0)) pa_nil)) pe_int))))), ?rd⟩)
  case len => obtain ⟨w', dx, l, ts, v, rfl, _⟩ := h; rfl
  case rd =>
    obtain ⟨b, dx, l, ts, v, rfl, B, hl, th, h⟩ := h
    walk_at "w2"
    rcases th with ⟨n, rfl⟩ | o
    · rw [x_place_word]
      rw [placeW_int] at h
      split
      · rename_i c
        rw [if_pos c] at h
        walk_at "w2"
        refine ⟨_, fldIs B.ob, r_app B.ls (by rw [sizeLine_eq]; omega) ?_⟩
        walk_at "w2"
        have B2 := B.put (us := ts ++ [.int n])
        refine ⟨_, fldIs B2.ob, r_lenL B2.ls ?_⟩
        walk_at "w2"
        have e : (((ts ++ [V.int n]).length : Nat) : Int) - 1 = (ts.length : Int) := by rw [List.length_append]; show ((ts.length + 1 : Nat) : Int) - 1 = _; omega
        rw [e]
        exact h
      · rename_i c
        rw [if_neg c] at h
        exact h
    · rw [odd_place_word o]
      rw [placeW_odd o] at h
      exact h
theorem f_Weak_need (T : Tx K mg) : Mt P w K mg base 2 "Weak" "need" ["self", "name"] (sp_Weak_need K) := by
  have c_is_whole := f_is_whole (P := P) (w := w) (base := base) T
  refine T.mkMt 58 142 139 (d := d_Weak_need) (N := ["self", "name"]) (k := 1) rfl rfl rfl rfl rfl rfl sc_Weak_need (fun _ _ _ _ _ _ us hl => match us, hl with | [_, _], _ => rfl) (fun vs H Q E h => ?len) (fun cdv A outer s H vs Q E hr h => ⟨_,
      (pss_one (ps_if (PW.pt (pw_or (pt_not (pt_val (pe_fn (takes_of rfl rfl rfl rfl) c_is_whole (hr.mono (by decide)) (by rfl) (pa_cons (pv 1) pa_nil)))) (pw_or1 (pt_not (pt_chain op_le op_lt pe_int (pv 1) (pe_callB (call_lenK (K := K) rfl) (by rfl) (T.free 64) PySem.boot_len (pa_cons (pe_fldC (T.cls 139) (T.noat 148) (pv 0)) pa_nil))))))) (pss_one (ps_raiseK (K := K) rfl rfl (takes_of rfl rfl rfl rfl) (T.says.fact 82 rfl) (T.glo 9) (by rfl))) pss_nil)), ?rd⟩)
  case len => obtain ⟨w', dx, l, ts, v, rfl, _⟩ := h; rfl
  case rd =>
    obtain ⟨b, dx, l, ts, v, rfl, B, th, h⟩ := h
    walk_at "w2"
    rcases th with ⟨n, rfl⟩ | o
    · walk_at "w2"
      rw [placeOf_int] at h
      split
      · refine ⟨_, fldIs B.ob, r_lenL B.ls ?_⟩
        walk_at "w2"
        split
        · rw [if_neg (by omega)] at h
          exact h
        · rw [if_pos (by omega)] at h
          exact h
      · rw [if_neg (by omega)] at h
        exact h
    · rw [odd_whole o]
      rw [placeOf_odd o] at h
      walk_at "w2"
      exact h
theorem f_Weak_at (T : Tx K mg) : Mt P w K mg base 3 "Weak" "at" ["self", "name"] (sp_Weak_at K) := by
  have c_Weak_need := f_Weak_need (P := P) (w := w) (base := base) T
  refine T.mkMt 59 143 139 (d := d_Weak_at) (N := ["self", "name"]) (k := 2) rfl rfl rfl rfl rfl rfl sc_Weak_at (fun _ _ _ _ _ _ us hl => match us, hl with | [_, _], _ => rfl) (fun vs H Q E h => ?len) (fun cdv A outer s H vs Q E hr h => ⟨_,
      (pss_cons (ps_expr (pe_mt (K := K) rfl (takes_of rfl rfl rfl rfl) (pv 0) c_Weak_need (hr.mono (by decide)) (pa_cons (pv 1) pa_nil)))
        (pss_one (ps_ret (pe_ix (ix_seqK (K := K) rfl) (pe_fldC (T.cls 139) (T.noat 148) (pv 0)) (pv 1) (fun _ _ => rfl))))), ?rd⟩)
  case len => obtain ⟨w', dx, l, ts, v, rfl, _⟩ := h; rfl
  case rd =>
    obtain ⟨b, dx, l, ts, v, rfl, B, th, h⟩ := h
    walk_at "w2"
    refine ⟨recv B.ob, b, dx, l, ts, v, rfl, B, th, ?_⟩
    cases e : placeOf ts.length v with
    | none =>
      rw [e] at h
      exact h
    | some i =>
      rw [e] at h
      obtain ⟨rfl, hi⟩ := placeOf_some e
      refine ⟨_, fldIs B.ob, ?_⟩
      exact r_ixL B.ls (by rw [List.getElem?_eq_getElem hi, List.getD_eq_getElem?_getD, List.getElem?_eq_getElem hi]; rfl) h
theorem f_Weak_need_there (T : Tx K mg) : Mt P w K mg base 3 "Weak" "need_there" ["self", "name"] (sp_Weak_need_there K) := by
  have c_Weak_need := f_Weak_need (P := P) (w := w) (base := base) T
  refine T.mkMt 60 144 139 (d := d_Weak_need_there) (N := ["self", "name"]) (k := 2) rfl rfl rfl rfl rfl rfl sc_Weak_need_there (fun _ _ _ _ _ _ us hl => match us, hl with | [_, _], _ => rfl) (fun vs H Q E h => ?len) (fun cdv A outer s H vs Q E hr h => ⟨_,
      (pss_cons (ps_expr (pe_mt (K := K) rfl (takes_of rfl rfl rfl rfl) (pv 0) c_Weak_need (hr.mono (by decide)) (pa_cons (pv 1) pa_nil)))
        (pss_one (ps_if (pt_cmpR op_isN (pe_ix (ix_seqK (K := K) rfl) (pe_fldC (T.cls 139) (T.noat 148) (pv 0)) (pv 1) (fun _ _ => rfl)) pe_non (nomark _)) (pss_one (ps_raiseK (K := K) rfl rfl (takes_of rfl rfl rfl rfl) (T.says.fact 82 rfl) (T.glo 9) (by rfl))) pss_nil))), ?rd⟩)
  case len => obtain ⟨w', dx, l, ts, v, rfl, _⟩ := h; rfl
  case rd =>
    obtain ⟨b, dx, l, ts, v, rfl, B, th, h⟩ := h
    walk_at "w2"
    refine ⟨recv B.ob, b, dx, l, ts, v, rfl, B, th, ?_⟩
    cases e : placeOf ts.length v with
    | none =>
      rw [e] at h
      exact h
    | some i =>
      rw [e] at h
      obtain ⟨rfl, hi⟩ := placeOf_some e
      have h : if ts.getD i .non = .non then E (Ex K "NoName") none H else Q .non H := h
      walk_at "w2"
      refine ⟨_, fldIs B.ob, ?_⟩
      refine r_ixL B.ls (v := ts.getD i .non) (by rw [List.getElem?_eq_getElem hi, List.getD_eq_getElem?_getD, List.getElem?_eq_getElem hi]; rfl) ?_
      walk_at "w2"
      exact h
theorem f_Weak_move (T : Tx K mg) : Mt P w K mg base 4 "Weak" "move" ["self", "name", "at"] (sp_Weak_move K) := by
  have c_Weak_need_there := f_Weak_need_there (P := P) (w := w) (base := base) T
  have c_place_word := f_place_word (P := P) (w := w) (base := base) T
  refine T.mkMt 61 145 139 (d := d_Weak_move) (N := ["self", "name", "at"]) (k := 3) rfl rfl rfl rfl rfl rfl sc_Weak_move (fun _ _ _ _ _ _ us hl => match us, hl with | [_, _, _], _ => rfl) (fun vs H Q E h => ?len) (fun cdv A outer s H vs Q E hr h => ⟨_,
      (pss_cons (ps_expr (pe_mt (K := K) rfl (takes_of rfl rfl rfl rfl) (pv 0) c_Weak_need_there (hr.mono (by decide)) (pa_cons (pv 1) pa_nil)))
        (pss_cons (ps_expr (pe_fn (takes_of rfl rfl rfl rfl) c_place_word (hr.mono (by decide)) (by rfl) (pa_cons (pv 2) pa_nil)))
        (pss_one (ps_asg (pv 2) (pg_sub (pe_fldC (T.cls 139) (T.noat 148) (pv 0)) (pv 1) set_list))))), ?rd⟩)
  case len => obtain ⟨w', dx, l, ts, v, z, rfl, _⟩ := h; rfl
  case rd =>
    obtain ⟨b, dx, l, ts, v, z, rfl, B, th, tz, h⟩ := h
    walk_at "w2"
    refine ⟨recv B.ob, b, dx, l, ts, v, rfl, B, th, ?_⟩
    cases e : placeOf ts.length v with
    | none =>
      rw [e] at h
      exact h
    | some i =>
      rw [e] at h
      obtain ⟨rfl, hi⟩ := placeOf_some e
      have h : if ts.getD i .non = .non then E (Ex K "NoName") none H else match placeW z with
        | some n => Q .non (upd H l (.lst (ts.set i (.int n))))
        | none => E (Ex K "NoPlace") none H := h
      show if ts.getD i .non = .non then _ else _
      split
      · rename_i c
        rw [if_pos c] at h
        exact h
      · rename_i c
        rw [if_neg c] at h
        walk_at "w2"
        rcases tz with ⟨n, rfl⟩ | o
        · rw [x_place_word]
          rw [placeW_int] at h
          split
          · rename_i c
            rw [if_pos c] at h
            walk_at "w2"
            refine ⟨_, fldIs B.ob, r_setL B.ls (by omega) (by omega) ?_⟩
            rw [Int.toNat_natCast]
            exact h
          · rename_i c
            rw [if_neg c] at h
            exact h
        · rw [odd_place_word o]
          rw [placeW_odd o] at h
          exact h
theorem f_Weak_gone (T : Tx K mg) : Mt P w K mg base 4 "Weak" "gone" ["self", "name"] (sp_Weak_gone K) := by
  have c_Weak_need_there := f_Weak_need_there (P := P) (w := w) (base := base) T
  refine T.mkMt 62 146 139 (d := d_Weak_gone) (N := ["self", "name"]) (k := 3) rfl rfl rfl rfl rfl rfl sc_Weak_gone (fun _ _ _ _ _ _ us hl => match us, hl with | [_, _], _ => rfl) (fun vs H Q E h => ?len) (fun cdv A outer s H vs Q E hr h => ⟨_,
      (pss_cons (ps_expr (pe_mt (K := K) rfl (takes_of rfl rfl rfl rfl) (pv 0) c_Weak_need_there (hr.mono (by decide)) (pa_cons (pv 1) pa_nil)))
        (pss_one (ps_asg pe_non (pg_sub (pe_fldC (T.cls 139) (T.noat 148) (pv 0)) (pv 1) set_list)))), ?rd⟩)
  case len => obtain ⟨w', dx, l, ts, v, rfl, _⟩ := h; rfl
  case rd =>
    obtain ⟨b, dx, l, ts, v, rfl, B, th, h⟩ := h
    walk_at "w2"
    refine ⟨recv B.ob, b, dx, l, ts, v, rfl, B, th, ?_⟩
    cases e : placeOf ts.length v with
    | none =>
      rw [e] at h
      exact h
    | some i =>
      rw [e] at h
      obtain ⟨rfl, hi⟩ := placeOf_some e
      have h : if ts.getD i .non = .non then E (Ex K "NoName") none H else Q .non (upd H l (.lst (ts.set i .non))) := h
      show if ts.getD i .non = .non then _ else _
      split
      · rename_i c
        rw [if_pos c] at h
        exact h
      · rename_i c
        rw [if_neg c] at h
        walk_at "w2"
        refine ⟨_, fldIs B.ob, r_setL B.ls (by omega) (by omega) ?_⟩
        rw [Int.toNat_natCast]
        exact h
theorem f_Weak_names (T : Tx K mg) : Mt P w K mg base 1 "Weak" "names" ["self"] (sp_Weak_names K) := by
  refine T.mkMt 63 147 139 (d := d_Weak_names) (N := ["self", "name", "at"]) (k := 0) rfl rfl rfl rfl rfl rfl sc_Weak_names (fun _ _ _ _ _ _ us hl => match us, hl with | [_], _ => rfl) (fun vs H Q E h => ?len) (fun cdv A outer s H vs Q E hr h => ⟨_,
      (pss_one (ps_ret (pe_lc (own := [("name", 1), ("at", 2)]) (g := gTup K 2 (gCons (gName 1) (gCons (gName 2) gNil))) rfl sc_Weak_names.nd (pi_enum (by rfl) (T.free 68) (pa_cons (pe_fldC (T.cls 139) (T.noat 148) (pv 0)) pa_nil)) (blkOk_by (own := [("name", 1), ("at", 2)]) (N := ["self", "name", "at"]) (sc := defScope s_Weak_names) (by decide +kernel)) (fun _ _ _ _ _ => (pg_tup (n := 2) rfl (pgs_cons (pg_name (i := 1) sc_Weak_names.nd rfl (Or.inl rfl)) (pgs_cons (pg_name (i := 2) sc_Weak_names.nd rfl (Or.inl rfl)) pgs_nil)))) (fun _ _ _ _ _ => pts_one (pt_cmpR op_notN (pv 2) pe_non (nomark _))) (fun _ _ _ _ _ => (pe_tup (pa_cons (pv 1) (pa_cons (pv 2) pa_nil))))))), ?rd⟩)
  case len => obtain ⟨w', dx, l, ts, rfl, _⟩ := h; rfl
  case rd =>
    obtain ⟨b, dx, l, ts, rfl, B, hl, fl, q⟩ := h
    walk_at "w2"
    refine ⟨_, fldIs B.ob, l, ts, rfl, .of B.ls, fun D hD => lc_it (walk_enum (xs := ts)) (Qd := fun H' => Q (.ref D) H') (fun i H' => ∃ rs, Same H H' ∧ H' D = some (.lst rs) ∧ TupAll H' rs (pairsOf 0 (ts.take i))) ⟨[], same_new hD, upd_same, .nil⟩ (fun i H' _ ⟨rs, s, _⟩ => .of (s _ _ B.ls)) ?_ ?_⟩
    · rintro i x H1 H' hi ⟨rs, s, hd, t⟩ ⟨T, y, z, rfl, hT, rfl, e1, e2⟩
      cases Option.some.inj e1
      have e2 : ts[i]? = some z := e2
      have sT := same_new (o := .tup [.int (i : Nat), z]) hT
      walk_at "w2"
      refine ⟨_, .inl (.inl upd_same), rfl, ?_⟩
      walk_at "w2"
      have ez : ts.take (i + 1) = ts.take i ++ [z] := by rw [List.take_add_one, e2]; rfl
      have el : (ts.take i).length = i := by rw [List.length_take]; omega
      have zm : z ∈ ts := List.mem_of_getElem? e2
      rw [ez, pairsOf_snoc, Nat.zero_add, el]
      by_cases c : z = .non
      · subst c
        rw [if_neg (fun z => z rfl), if_pos rfl, List.append_nil]
        exact ⟨rs, s.trans sT, sT _ _ hd, t.same sT⟩
      · rw [if_pos c, if_neg c]
        refine ⟨by rw [sizeLine_eq]; omega, fun p hp => ?_⟩
        have sp := same_new (o := .tup [.int (i : Nat), z]) hp
        have tl := t.len
        have pl := pairsOf_len (ts := ts.take i) 0
        have hd2 := (sT.trans sp) _ _ hd
        have nD : p ≠ D := (ne_of_none (sT _ _ hd) hp).symm
        refine ⟨rs, hd2, by rw [sizeLine_eq]; omega, _, ?_, upd_same, ?_⟩
        · exact fun c o e => by rw [upd_ne (ne_of_none e hD)]; exact (s.trans (sT.trans sp)) _ _ e
        · refine ((t.same (sT.trans sp)).put hd2 (by intro xs z; cases z)).snoc (by rw [upd_ne nD]; exact upd_same) fun x hx => ?_
          rcases List.mem_cons.mp hx with rfl | hx
          · rfl
          · rw [List.mem_singleton] at hx
            subst hx
            exact flatN_I (fl _ zm)
    · rintro H' ⟨rs, s, hd, t⟩
      rw [List.take_length] at t
      exact q D rs H' hD s hd t
end

local macro_rules | `(tactic| walk_at "w2") => `(tactic| try simp only [↓x_var0, ↓x_varS, ↓x_c, ↓x_op, ↓x_un, ↓x_cb, ↓x_nil, ↓x_cons, ↓x_test, ↓x_b, ↓x_ex, ↓x_and, ↓x_or, ↓x_not, ↓x_andV, ↓x_orV, ↓x_notV, ↓x_tif, ↓x_chain, ↓x_menu, ↓x_menuI, ↓x_lst, ↓x_tup, ↓x_dnew, ↓x_callW, ↓x_callN, ↓x_seq, ↓x_next, ↓x_ret, ↓x_retN, ↓x_drop, ↓x_ifS, ↓x_asg, ↓x_name, ↓x_raise, ↓x_fld, ↓x_setF, ↓x_meth, ↓x_make, ↓x_sub, ↓r_min, ↓r_max, ↓x_yes, ↓x_for, ↓x_lock, ↓x_keys, ↓x_cut, ↓x_lc, ↓x_rng1, ↓x_rng2, ↓x_lst1, ↓x_itup, ↓x_rng3, ↓x_three, ↓x_lstg, ↓x_tupg, ↓x_adrS, ↓x_one, ↓x_two, ↓x_adr, ↓x_sl, ↓x_np, ↓x_pt, ↓x_int, ↓x_bm, ↓x_bm0, ↓x_consg, ↓x_nilg, ↓x_dget2, ↓x_dget1, ↓x_dgetN, ↓x_dget, ↓x_din, ↓x_dni, ↓x_dput, ↓x_dpop2, ↓r_isB, ↓r_notB, ↓x_enum, ↓x_zip, ↓x_str, ↓x_strE, ↓r_inS, ↓r_ninS, wipe, List.map_cons, List.map_nil, ↓x_isT, ↓r_isiII, ↓r_isiBB, ↓r_isiIB, ↓r_isiSS, ↓r_neNS, ↓r_neSN, ↓r_neNN, ↓r_eqNS, ↓r_eqSN, ↓r_eqNN, ↓r_eqIS, ↓r_neIS, ↓r_neSI, ↓r_neBS, ↓r_eqBB, ↓r_neBB, ↓x_start, ↓x_K, ↓x_start0, ↓r_i0, ↓r_i, ↓r_u, ↓r_addI, ↓r_addS, ↓r_mulI, ↓r_mulS, ↓r_eqI, ↓r_neI, ↓r_eqS, ↓r_neS, ↓r_absI, ↓r_intI, ↓r_intB, List.length_cons, List.length_nil, List.replicate, List.set_cons_zero, List.set_cons_succ, decide_eq_true_eq, Bool.not_eq_true', decide_eq_false_iff_not, if_true, if_false, Bool.false_eq_true, Bool.true_eq_false, ite_true, ite_false, Bool.not_true, Bool.not_false, c_div, n_ten, c_pow, not_true_eq_false, not_false_eq_true, decide_true, decide_false, true_and, and_true, and_self, true_or, or_true, Int.reduceLT, Int.reduceLE, Int.reduceMul, Int.reduceAdd, Int.reduceSub, Int.reducePow, Int.reduceNeg, Int.reduceDiv, Int.reduceMod, Nat.reducePow, Int.reduceToNat, Int.reduceEq, Int.reduceNe, Nat.reduceLT, Nat.reduceLeDiff, Nat.reduceAdd, ↓x_whole, ↓x_kind])
/-! ## last words -/
/-- what waits: nothing, or a place and a number -/
structure WtAll (H : Hp) (rs : List V) (ws : List (Option (Int × Int))) : Prop where
  len : rs.length = ws.length
  non : ∀ i : Nat, ws[i]? = some none → rs[i]? = some V.non
  pair : ∀ (i : Nat) a n, ws[i]? = some (some (a, n)) → ∃ tp, rs[i]? = some (V.ref tp) ∧ H tp = some (.tup [.int a, .int n])
theorem WtAll.nil {H : Hp} : WtAll H [] [] := ⟨rfl, fun i e => (by cases e), fun i a n e => by cases e⟩
theorem WtAll.fr {H H' : Hp} {rs ws} (h : WtAll H rs ws) (s : ∀ c xs, H c = some (.tup xs) → H' c = some (.tup xs)) : WtAll H' rs ws := ⟨h.len, h.non, fun i a n e => let ⟨tp, e1, e2⟩ := h.pair i a n e; ⟨tp, e1, s _ _ e2⟩⟩
theorem WtAll.same {H H' : Hp} {rs ws} (h : WtAll H rs ws) (s : Same H H') : WtAll H' rs ws := h.fr fun c xs e => s _ _ e
theorem WtAll.put {H : Hp} {rs ws} {D : Addr} {o o' : HO} (h : WtAll H rs ws) (e : H D = some o) (n : ∀ xs, o ≠ .tup xs) : WtAll (upd H D o') rs ws := h.fr fun c xs e' => by rw [upd_ne (ne_of e' e fun z => n _ z.symm)]; exact e'
theorem WtAll.snoc {H : Hp} {rs ws} {tp : Addr} {a n : Int} (h : WtAll H rs ws) (e : H tp = some (.tup [.int a, .int n])) : WtAll H (rs ++ [.ref tp]) (ws ++ [some (a, n)]) := by
  have l := h.len
  refine ⟨by rw [List.length_append, List.length_append, l]; rfl, fun i q => ?_, fun i b m q => ?_⟩
  · rw [List.getElem?_append] at q ⊢
    rw [l]
    split at q
    · rw [if_pos ‹_›]
      exact h.non i q
    · cases h2 : i - ws.length with
      | zero => rw [h2] at q; cases q
      | succ k => rw [h2] at q; cases q
  · rw [List.getElem?_append] at q ⊢
    rw [l]
    split at q
    · rw [if_pos ‹_›]
      exact h.pair i b m q
    · rw [if_neg ‹_›]
      cases h2 : i - ws.length with
      | zero =>
        rw [h2] at q
        cases q
        exact ⟨tp, rfl, e⟩
      | succ k => rw [h2] at q; cases q
theorem WtAll.set {H : Hp} {rs ws} {j : Nat} {tp : Addr} {a n : Int} (h : WtAll H rs ws) (e : H tp = some (.tup [.int a, .int n])) : WtAll H (rs.set j (.ref tp)) (ws.set j (some (a, n))) := by
  have l := h.len
  refine ⟨by rw [List.length_set, List.length_set, l], fun i q => ?_, fun i b m q => ?_⟩
  · rw [List.getElem?_set] at q ⊢
    rw [l]
    split at q
    · split at q
      · cases q
      · cases q
    · rw [if_neg ‹_›]
      exact h.non i q
  · rw [List.getElem?_set] at q ⊢
    rw [l]
    split at q
    · rename_i c
      rw [if_pos c]
      split at q
      · cases q
        rw [if_pos ‹_›]
        exact ⟨tp, rfl, e⟩
      · cases q
    · rw [if_neg ‹_›]
      exact h.pair i b m q
theorem WtAll.rub {H : Hp} {rs ws} {j : Nat} (h : WtAll H rs ws) : WtAll H (rs.set j .non) (ws.set j none) := by
  have l := h.len
  refine ⟨by rw [List.length_set, List.length_set, l], fun i q => ?_, fun i b m q => ?_⟩
  · rw [List.getElem?_set] at q ⊢
    rw [l]
    split at q
    · rename_i c
      rw [if_pos c]
      split at q
      · rw [if_pos ‹_›]
      · cases q
    · rw [if_neg ‹_›]
      exact h.non i q
  · rw [List.getElem?_set] at q ⊢
    rw [l]
    split at q
    · split at q
      · cases q
      · cases q
    · rw [if_neg ‹_›]
      exact h.pair i b m q
def pendOf : Nat → List (Option (Int × Int)) → List (List V)
  | _, [] => []
  | k, none :: r => pendOf (k + 1) r
  | k, some (a, n) :: r => [.int (k : Int), .int a, .int n] :: pendOf (k + 1) r
def pendAt (k : Nat) : Option (Int × Int) → List (List V)
  | none => []
  | some (a, n) => [[.int (k : Int), .int a, .int n]]
theorem pendOf_snoc {ws : List (Option (Int × Int))} {w : Option (Int × Int)} : ∀ k, pendOf k (ws ++ [w]) = pendOf k ws ++ pendAt (k + ws.length) w := by
  induction ws with
  | nil =>
    intro k
    cases w <;> rfl
  | cons t r ih =>
    intro k
    have e : k + (t :: r).length = k + 1 + r.length := by rw [List.length_cons]; omega
    rw [e]
    cases t with
    | none => exact ih (k + 1)
    | some p => exact congrArg (_ :: ·) (ih (k + 1))
theorem pendOf_len {ws : List (Option (Int × Int))} : ∀ k, (pendOf k ws).length ≤ ws.length := by
  induction ws with
  | nil => exact fun _ => Nat.le_refl _
  | cons t r ih =>
    intro k
    have := ih (k + 1)
    cases t with
    | none =>
      show (pendOf (k + 1) r).length ≤ r.length + 1
      omega
    | some p =>
      show (pendOf (k + 1) r).length + 1 ≤ r.length + 1
      omega
theorem pendOf_mem {ws : List (Option (Int × Int))} : ∀ k, ∀ xs ∈ pendOf k ws, ∃ i a n : Int, xs = [.int i, .int a, .int n] := by
  induction ws with
  | nil => exact fun k xs h => (List.not_mem_nil h).elim
  | cons t r ih =>
    intro k xs h
    cases t with
    | none => exact ih (k + 1) xs h
    | some p =>
      rcases List.mem_cons.mp h with rfl | h
      · exact ⟨_, _, _, rfl⟩
      · exact ih (k + 1) xs h
def numW : V → Option Int
  | .int n => if (n.natAbs : Int) ≤ 1000000000000 then some n else none
  | _ => none
theorem numW_int {n : Int} : numW (.int n) = if (n.natAbs : Int) ≤ 1000000000000 then some n else none := rfl
theorem numW_odd {H : Hp} {v : V} (h : Odd H v) : numW v = none := by
  cases v with
  | int i => exact (odd_not h).elim
  | _ => rfl
theorem numW_some {v : V} {n : Int} (h : numW v = some n) : v = .int n ∧ (n.natAbs : Int) ≤ 1000000000000 := by
  cases v with
  | int j =>
    rw [numW_int] at h
    split at h
    · cases h
      exact ⟨rfl, ‹_›⟩
    · cases h
  | _ => cases h
structure LastO (K : PySem.W.Frag) (H : Hp) (b dx d e : Addr) (rs : List V) (ws : List (Option (Int × Int))) (ss : List Int) : Prop where
  ob : H b = some (.ins (He.ga K "Lasts") dx (F_Lasts (.ref d) (.ref e)))
  wa : H d = some (.lst rs)
  wt : WtAll H rs ws
  sk : H e = some (.lst (ss.map V.int))
  de : d ≠ e
theorem LastO.same {K H H' b dx d e rs ws ss} (h : LastO K H b dx d e rs ws ss) (s : Same H H') : LastO K H' b dx d e rs ws ss := ⟨s _ _ h.ob, s _ _ h.wa, h.wt.same s, s _ _ h.sk, h.de⟩
theorem LastO.putD {K H b dx d e rs ws ss rs' ws'} (h : LastO K H b dx d e rs ws ss) (t : WtAll H rs' ws') : LastO K (upd H d (.lst rs')) b dx d e rs' ws' ss :=
  ⟨by rw [upd_ne (ne_of h.ob h.wa (by intro z; cases z))]; exact h.ob, upd_same, t.put h.wa (by intro xs z; cases z), by rw [upd_ne h.de.symm]; exact h.sk, h.de⟩
theorem LastO.putE {K H b dx d e rs ws ss ss'} (h : LastO K H b dx d e rs ws ss) : LastO K (upd H e (.lst (ss'.map V.int))) b dx d e rs ws ss' :=
  ⟨by rw [upd_ne (ne_of h.ob h.sk (by intro z; cases z))]; exact h.ob, by rw [upd_ne h.de]; exact h.wa, h.wt.put h.sk (by intro xs z; cases z), upd_same, h.de⟩
/-- the pair that waits at a ticket -/
def tickOf (ws : List (Option (Int × Int))) (v : V) : Option (Nat × Int × Int) := match placeOf ws.length v with
  | none => none
  | some i => match ws.getD i none with
    | none => none
    | some (a, n) => some (i, a, n)
theorem tick_some {ws v i a n} (h : tickOf ws v = some (i, a, n)) : v = .int (i : Int) ∧ i < ws.length ∧ ws[i]? = some (some (a, n)) := by
  unfold tickOf at h
  cases e : placeOf ws.length v with
  | none => rw [e] at h; cases h
  | some j =>
    rw [e] at h
    obtain ⟨e1, e2⟩ := placeOf_some e
    have ej := getD_at (d := none) e2
    have h : (match ws.getD j none with
      | none => none
      | some (a, n) => some (j, a, n)) = some (i, a, n) := h
    cases e3 : ws.getD j none with
    | none => rw [e3] at h; cases h
    | some p =>
      rw [e3] at h ej
      cases h
      exact ⟨e1, e2, ej⟩
def sp_Lasts___init__ (K : PySem.W.Frag) : Sp := fun vs H Q _ => ∃ b dx, vs = [.ref b] ∧ H b = some (.ins (He.ga K "Lasts") dx []) ∧ ∀ d e H', H d = none → H e = none → LastO K H' b dx d e [] [] [] → (∀ c o, c ≠ b → H c = some o → H' c = some o) → Q .non H'
def sp_Lasts_give (K : PySem.W.Frag) : Sp := fun vs H Q E => ∃ b dx d e rs ws ss v z, vs = [.ref b, v, z] ∧ LastO K H b dx d e rs ws ss ∧ ws.length < 1000000 ∧ Thing H v ∧ Thing H z ∧ match placeW v with
  | some a => (match numW z with
    | some n => ∀ H' rs', LastO K H' b dx d e rs' (ws ++ [some (a, n)]) ss → (∀ c o, c ≠ d → H c = some o → H' c = some o) → Q (.int ws.length) H'
    | none => E (Ex K "BadNumber") none H)
  | none => E (Ex K "NoPlace") none H
def sp_Lasts_need (K : PySem.W.Frag) : Sp := fun vs H Q E => ∃ b dx d e rs ws ss v, vs = [.ref b, v] ∧ LastO K H b dx d e rs ws ss ∧ Thing H v ∧ match tickOf ws v with
  | some _ => Q .non H
  | none => E (Ex K "NoName") none H
def sp_Lasts_move (K : PySem.W.Frag) : Sp := fun vs H Q E => ∃ b dx d e rs ws ss v z, vs = [.ref b, v, z] ∧ LastO K H b dx d e rs ws ss ∧ Thing H v ∧ Thing H z ∧ match tickOf ws v with
  | some (i, a, n) => (match placeW z with
    | some a' => ∀ H' rs', LastO K H' b dx d e rs' (ws.set i (some (a', n))) ss → (∀ c o, c ≠ d → H c = some o → H' c = some o) → Q .non H'
    | none => E (Ex K "NoPlace") none H)
  | none => E (Ex K "NoName") none H
def sp_Lasts_say (K : PySem.W.Frag) : Sp := fun vs H Q E => ∃ b dx d e rs ws ss v, vs = [.ref b, v] ∧ LastO K H b dx d e rs ws ss ∧ ss.length < 1000000 ∧ Thing H v ∧ match tickOf ws v with
  | some (i, a, n) => ∀ H' rs', LastO K H' b dx d e rs' (ws.set i none) (ss ++ [n]) → (∀ c o, c ≠ d → c ≠ e → H c = some o → H' c = some o) → Q .non H'
  | none => E (Ex K "NoName") none H
def sp_Lasts_pending (K : PySem.W.Frag) : Sp := fun vs H Q _ => ∃ b dx d e rs ws ss, vs = [.ref b] ∧ LastO K H b dx d e rs ws ss ∧ ws.length < 1000000 ∧ ∀ p ps H', H p = none → Same H H' → H' p = some (.lst ps) → TupAll H' ps (pendOf 0 ws) → Q (.ref p) H'
def sp_Lasts_said (K : PySem.W.Frag) : Sp := fun vs H Q _ => ∃ b dx d e rs ws ss, vs = [.ref b] ∧ LastO K H b dx d e rs ws ss ∧ ∀ p, H p = none → Q (.ref p) (upd H p (.lst (ss.map V.int)))
section
variable {P : Program} {w : World} {K : PySem.W.Frag} {mg : Str → Option Value} {base : Heap}
theorem f_Lasts___init__ (T : Tx K mg) : Mi P w K mg base 1 "Lasts" ["self"] (sp_Lasts___init__ K) := by
  refine T.mkMi 49 130 15 (d := d_Lasts___init__) (N := ["self"]) (k := 0) rfl rfl rfl rfl rfl rfl sc_Lasts___init__ (fun _ _ _ _ _ _ us hl => match us, hl with | [_], _ => rfl) (fun vs H Q E h => ?len) (fun cdv A outer s H vs Q E hr h => ⟨_,
      (pss_cons (ps_fldC (T.cls 129) (T.noat 137) (pv 0) (pe_lst pa_nil))
        (pss_one (ps_fldC (T.cls 129) (T.noat 138) (pv 0) (pe_lst pa_nil)))), ?rd⟩)
  case len => obtain ⟨b, dx, rfl, _⟩ := h; rfl
  case rd =>
    obtain ⟨b, dx, rfl, M, q⟩ := h
    walk_at "w2"
    refine ⟨by omega, fun d hd => ?_⟩
    have nb : b ≠ d := ne_of_none M hd
    refine ⟨b, dx, _, rfl, by rw [upd_ne nb]; exact M, by decide, by omega, fun e he => ?_⟩
    rw [pi_Lasts_waiting] at he ⊢
    have ed : e ≠ d := by
      intro z
      rw [z, upd_ne nb.symm, upd_same] at he
      cases he
    have eb : b ≠ e := by
      intro z
      rw [← z, upd_same] at he
      cases he
    have he0 : H e = none := by
      rw [upd_ne eb.symm, upd_ne ed] at he
      exact he
    refine ⟨b, dx, _, rfl, by rw [upd_ne eb, upd_same], by show 1 < 1000; decide, ?_⟩
    rw [pi_Lasts_spoken]
    refine q d e _ hd he0 ⟨upd_same, ?_, .nil, ?_, ed.symm⟩ fun c o hc g => ?_
    · rw [upd_ne nb.symm, upd_ne ed.symm, upd_ne nb.symm, upd_same]
    · rw [upd_ne eb.symm, upd_same]
      rfl
    · rw [upd_ne hc, upd_ne (ne_of_none g he0), upd_ne hc, upd_ne (ne_of_none g hd)]
      exact g
theorem f_Lasts_need (T : Tx K mg) : Mt P w K mg base 2 "Lasts" "need" ["self", "ticket"] (sp_Lasts_need K) := by
  have c_is_whole := f_is_whole (P := P) (w := w) (base := base) T
  refine T.mkMt 51 132 129 (d := d_Lasts_need) (N := ["self", "ticket"]) (k := 1) rfl rfl rfl rfl rfl rfl sc_Lasts_need (fun _ _ _ _ _ _ us hl => match us, hl with | [_, _], _ => rfl) (fun vs H Q E h => ?len) (fun cdv A outer s H vs Q E hr h => ⟨_,
      (pss_one (ps_if (PW.pt (pw_or (pt_not (pt_val (pe_fn (takes_of rfl rfl rfl rfl) c_is_whole (hr.mono (by decide)) (by rfl) (pa_cons (pv 1) pa_nil)))) (pw_or (pt_not (pt_chain op_le op_lt pe_int (pv 1) (pe_callB (call_lenK (K := K) rfl) (by rfl) (T.free 64) PySem.boot_len (pa_cons (pe_fldC (T.cls 129) (T.noat 137) (pv 0)) pa_nil)))) (pw_or1 (pt_cmpR op_isN (pe_ix (ix_seqK (K := K) rfl) (pe_fldC (T.cls 129) (T.noat 137) (pv 0)) (pv 1) (fun _ _ => rfl)) pe_non (nomark _)))))) (pss_one (ps_raiseK (K := K) rfl rfl (takes_of rfl rfl rfl rfl) (T.says.fact 82 rfl) (T.glo 9) (by rfl))) pss_nil)), ?rd⟩)
  case len => obtain ⟨b, dx, d, e, rs, ws, ss, v, rfl, _⟩ := h; rfl
  case rd =>
    obtain ⟨b, dx, d, e, rs, ws, ss, v, rfl, B, th, h⟩ := h
    walk_at "w2"
    have ll := B.wt.len
    rcases th with ⟨n, rfl⟩ | o
    · walk_at "w2"
      unfold tickOf at h
      rw [placeOf_int] at h
      split
      · refine ⟨_, fldIs B.ob, r_lenL B.wa ?_⟩
        walk_at "w2"
        split
        · rw [if_neg (by omega)] at h
          exact h
        · rename_i c0 c1
          rw [if_pos (by omega)] at h
          obtain ⟨i, rfl⟩ := Int.eq_ofNat_of_zero_le c0
          rw [Int.toNat_natCast] at h
          have hi : i < ws.length := by omega
          have ei := getD_at (d := none) hi
          refine ⟨_, fldIs B.ob, ?_⟩
          cases ew : ws.getD i none with
          | none =>
            rw [ew] at ei
            refine r_ixL B.wa (B.wt.non i ei) ?_
            walk_at "w2"
            have h : (match (match ws.getD i none with
              | none => none
              | some (a, n) => some (i, a, n)) with
              | some _ => Q .non H
              | none => E (Ex K "NoName") none H) := h
            rw [ew] at h
            exact h
          | some p =>
            rw [ew] at ei
            obtain ⟨tp, e1, e2⟩ := B.wt.pair i p.1 p.2 ei
            refine r_ixL B.wa e1 ?_
            walk_at "w2"
            have h : (match (match ws.getD i none with
              | none => none
              | some (a, n) => some (i, a, n)) with
              | some _ => Q .non H
              | none => E (Ex K "NoName") none H) := h
            rw [ew] at h
            first | exact h | (rw [if_neg (by intro z; cases z)]; exact h)
      · rw [if_neg (by omega)] at h
        exact h
    · rw [odd_whole o]
      unfold tickOf at h
      rw [placeOf_odd o] at h
      walk_at "w2"
      exact h
theorem f_Lasts_give (T : Tx K mg) : Mt P w K mg base 3 "Lasts" "give" ["self", "at", "number"] (sp_Lasts_give K) := by
  have c_place_word := f_place_word (P := P) (w := w) (base := base) T
  have c_number_word := f_number_word (P := P) (w := w) (base := base) T
  refine T.mkMt 50 131 129 (d := d_Lasts_give) (N := ["self", "at", "number"]) (k := 2) rfl rfl rfl rfl rfl rfl sc_Lasts_give (fun _ _ _ _ _ _ us hl => match us, hl with | [_, _, _], _ => rfl) (fun vs H Q E h => ?len) (fun cdv A outer s H vs Q E hr h => ⟨_,
      (pss_cons (ps_expr (pe_fn (takes_of rfl rfl rfl rfl) c_place_word (hr.mono (by decide)) (by rfl) (pa_cons (pv 1) pa_nil)))
        (pss_cons (ps_expr (pe_fn (takes_of rfl rfl rfl rfl) c_number_word (hr.mono (by decide)) (by rfl) (pa_cons (pv 2) pa_nil)))
        (pss_cons (ps_expr (pe_bm PySem.F.plainAttrs_list PySem.F.slot_list_append PySem.F.type_list_append mt_append (pe_fldC (T.cls 129) (T.noat 137) (pv 0)) (pa_cons (pe_tup (pa_cons (pv 1) (pa_cons (pv 2) pa_nil))) pa_nil)))
        (pss_one (ps_ret (pe_op op_sub (pe_callB (call_lenK (K := K) rfl) (by rfl) (T.free 64) PySem.boot_len (pa_cons (pe_fldC (T.cls 129) (T.noat 137) (pv 0)) pa_nil)) pe_int)))))), ?rd⟩)
  case len => obtain ⟨b, dx, d, e, rs, ws, ss, v, z, rfl, _⟩ := h; rfl
  case rd =>
    obtain ⟨b, dx, d, e, rs, ws, ss, v, z, rfl, B, hl, th, tz, h⟩ := h
    walk_at "w2"
    have ll := B.wt.len
    rcases th with ⟨a, rfl⟩ | o
    · rw [x_place_word]
      rw [placeW_int] at h
      split
      · rename_i c
        rw [if_pos c] at h
        walk_at "w2"
        rcases tz with ⟨n, rfl⟩ | o
        · rw [x_number_word]
          rw [numW_int] at h
          split
          · rename_i c2
            rw [if_pos c2] at h
            walk_at "w2"
            refine ⟨_, fldIs B.ob, ty_lst B.wa, by rw [sizeLine_eq]; omega, fun p hp => ?_⟩
            have sp := same_new (o := .tup [.int a, .int n]) hp
            have B1 := B.same sp
            refine ⟨d, _, _, rfl, rfl, B1.wa, by rw [sizeLine_eq]; omega, ?_⟩
            have B2 := B1.putD (B1.wt.snoc (tp := p) upd_same)
            refine ⟨_, fldIs B2.ob, r_lenL B2.wa ?_⟩
            walk_at "w2"
            have e : (((rs ++ [V.ref p]).length : Nat) : Int) - 1 = (ws.length : Int) := by rw [List.length_append]; show ((rs.length + 1 : Nat) : Int) - 1 = _; omega
            rw [e]
            exact h _ _ B2 fun c o hc g => by rw [upd_ne hc]; exact sp _ _ g
          · rename_i c2
            rw [if_neg c2] at h
            exact h
        · rw [odd_number_word o]
          rw [numW_odd o] at h
          exact h
      · rename_i c
        rw [if_neg c] at h
        exact h
    · rw [odd_place_word o]
      rw [placeW_odd o] at h
      exact h
theorem f_Lasts_move (T : Tx K mg) : Mt P w K mg base 3 "Lasts" "move" ["self", "ticket", "at"] (sp_Lasts_move K) := by
  have c_Lasts_need := f_Lasts_need (P := P) (w := w) (base := base) T
  have c_place_word := f_place_word (P := P) (w := w) (base := base) T
  refine T.mkMt 52 133 129 (d := d_Lasts_move) (N := ["self", "ticket", "at"]) (k := 2) rfl rfl rfl rfl rfl rfl sc_Lasts_move (fun _ _ _ _ _ _ us hl => match us, hl with | [_, _, _], _ => rfl) (fun vs H Q E h => ?len) (fun cdv A outer s H vs Q E hr h => ⟨_,
      (pss_cons (ps_expr (pe_mt (K := K) rfl (takes_of rfl rfl rfl rfl) (pv 0) c_Lasts_need (hr.mono (by decide)) (pa_cons (pv 1) pa_nil)))
        (pss_cons (ps_expr (pe_fn (takes_of rfl rfl rfl rfl) c_place_word (hr.mono (by decide)) (by rfl) (pa_cons (pv 2) pa_nil)))
        (pss_one (ps_asg (pe_tup (pa_cons (pv 2) (pa_cons (pe_ix (ix_seqK (K := K) rfl) (pe_ix (ix_seqK (K := K) rfl) (pe_fldC (T.cls 129) (T.noat 137) (pv 0)) (pv 1) (fun _ _ => rfl)) pe_int (fun _ _ => rfl)) pa_nil))) (pg_sub (pe_fldC (T.cls 129) (T.noat 137) (pv 0)) (pv 1) set_list))))), ?rd⟩)
  case len => obtain ⟨b, dx, d, e, rs, ws, ss, v, z, rfl, _⟩ := h; rfl
  case rd =>
    obtain ⟨b, dx, d, e, rs, ws, ss, v, z, rfl, B, th, tz, h⟩ := h
    walk_at "w2"
    refine ⟨recv B.ob, _, _, _, _, _, _, _, _, rfl, B, th, ?_⟩
    cases et : tickOf ws v with
    | none =>
      rw [et] at h
      exact h
    | some t =>
      obtain ⟨i, a, n⟩ := t
      rw [et] at h
      obtain ⟨rfl, hi, ew⟩ := tick_some et
      obtain ⟨tp, e1, e2⟩ := B.wt.pair i a n ew
      have ll := B.wt.len
      walk_at "w2"
      rcases tz with ⟨a', rfl⟩ | o
      · rw [x_place_word]
        rw [placeW_int] at h
        split
        · rename_i c
          rw [if_pos c] at h
          walk_at "w2"
          refine ⟨_, fldIs B.ob, r_ixL B.wa e1 (r_ixT (i := 1) e2 rfl ⟨by rw [sizeLine_eq]; omega, fun p hp => ?_⟩)⟩
          have sp := same_new (o := .tup [.int a', .int n]) hp
          have B1 := B.same sp
          refine ⟨_, fldIs B1.ob, r_setL B1.wa (by omega) (by omega) ?_⟩
          rw [Int.toNat_natCast]
          exact h _ _ (B1.putD (B1.wt.set (tp := p) upd_same)) fun c o hc g => by rw [upd_ne hc]; exact sp _ _ g
        · rename_i c
          rw [if_neg c] at h
          exact h
      · rw [odd_place_word o]
        rw [placeW_odd o] at h
        exact h
theorem f_Lasts_say (T : Tx K mg) : Mt P w K mg base 3 "Lasts" "say" ["self", "ticket"] (sp_Lasts_say K) := by
  have c_Lasts_need := f_Lasts_need (P := P) (w := w) (base := base) T
  refine T.mkMt 53 134 129 (d := d_Lasts_say) (N := ["self", "ticket"]) (k := 2) rfl rfl rfl rfl rfl rfl sc_Lasts_say (fun _ _ _ _ _ _ us hl => match us, hl with | [_, _], _ => rfl) (fun vs H Q E h => ?len) (fun cdv A outer s H vs Q E hr h => ⟨_,
      (pss_cons (ps_expr (pe_mt (K := K) rfl (takes_of rfl rfl rfl rfl) (pv 0) c_Lasts_need (hr.mono (by decide)) (pa_cons (pv 1) pa_nil)))
        (pss_cons (ps_expr (pe_bm PySem.F.plainAttrs_list PySem.F.slot_list_append PySem.F.type_list_append mt_append (pe_fldC (T.cls 129) (T.noat 138) (pv 0)) (pa_cons (pe_ix (ix_seqK (K := K) rfl) (pe_ix (ix_seqK (K := K) rfl) (pe_fldC (T.cls 129) (T.noat 137) (pv 0)) (pv 1) (fun _ _ => rfl)) pe_int (fun _ _ => rfl)) pa_nil)))
        (pss_one (ps_asg pe_non (pg_sub (pe_fldC (T.cls 129) (T.noat 137) (pv 0)) (pv 1) set_list))))), ?rd⟩)
  case len => obtain ⟨b, dx, d, e, rs, ws, ss, v, rfl, _⟩ := h; rfl
  case rd =>
    obtain ⟨b, dx, d, e, rs, ws, ss, v, rfl, B, hl, th, h⟩ := h
    walk_at "w2"
    refine ⟨recv B.ob, _, _, _, _, _, _, _, _, rfl, B, th, ?_⟩
    cases et : tickOf ws v with
    | none =>
      rw [et] at h
      exact h
    | some t =>
      obtain ⟨i, a, n⟩ := t
      rw [et] at h
      obtain ⟨rfl, hi, ew⟩ := tick_some et
      obtain ⟨tp, e1, e2⟩ := B.wt.pair i a n ew
      have ll := B.wt.len
      walk_at "w2"
      refine ⟨_, fldIs B.ob, ty_lst B.sk, _, fldIs B.ob, r_ixL B.wa e1 (r_ixT (i := 1) e2 rfl ⟨e, _, _, rfl, rfl, B.sk, by rw [List.length_map, sizeLine_eq]; omega, ?_⟩)⟩
      have es : ss.map V.int ++ [V.int n] = (ss ++ [n]).map V.int := by rw [List.map_append]; rfl
      rw [es]
      have B1 := B.putE (ss' := ss ++ [n])
      refine ⟨_, fldIs B1.ob, r_setL B1.wa (by omega) (by omega) ?_⟩
      rw [Int.toNat_natCast]
      exact h _ _ (B1.putD B1.wt.rub) fun c o hc hc' g => by rw [upd_ne hc, upd_ne hc']; exact g
theorem f_Lasts_pending (T : Tx K mg) : Mt P w K mg base 1 "Lasts" "pending" ["self"] (sp_Lasts_pending K) := by
  refine T.mkMt 54 135 129 (d := d_Lasts_pending) (N := ["self", "found", "ticket", "pair"]) (k := 0) rfl rfl rfl rfl rfl rfl sc_Lasts_pending (fun _ _ _ _ _ _ us hl => match us, hl with | [_], _ => rfl) (fun vs H Q E h => ?len) (fun cdv A outer s H vs Q E hr h => ⟨_,
      (pss_cons (ps_set (i := 1) sc_Lasts_pending.nd rfl (Or.inl rfl) (pe_lst pa_nil))
        (pss_cons (ps_for (passes_of rfl) rfl (pi_enum (by rfl) (T.free 68) (pa_cons (pe_fldC (T.cls 129) (T.noat 137) (pv 0)) pa_nil)) (pg_tup (n := 2) rfl (pgs_cons (pg_name (i := 2) sc_Lasts_pending.nd rfl (Or.inl rfl)) (pgs_cons (pg_name (i := 3) sc_Lasts_pending.nd rfl (Or.inl rfl)) pgs_nil))) (pss_one (ps_if (pt_cmpR op_notN (pv 3) pe_non (nomark _)) (pss_one (ps_expr (pe_bm PySem.F.plainAttrs_list PySem.F.slot_list_append PySem.F.type_list_append mt_append (pv 1) (pa_cons (pe_tup (pa_cons (pv 2) (pa_cons (pe_ix (ix_seqK (K := K) rfl) (pv 3) pe_int (fun _ _ => rfl)) (pa_cons (pe_ix (ix_seqK (K := K) rfl) (pv 3) pe_int (fun _ _ => rfl)) pa_nil)))) pa_nil)))) pss_nil)))
        (pss_one (ps_ret (pv 1))))), ?rd⟩)
  case len => obtain ⟨b, dx, d, e, rs, ws, ss, rfl, _⟩ := h; rfl
  case rd =>
    obtain ⟨b, dx, d, e, rs, ws, ss, rfl, B, hl, q⟩ := h
    walk_at "w2"
    have ll := B.wt.len
    refine ⟨by omega, fun D hD => ?_⟩
    have sD := same_new (o := .lst []) hD
    have B1 := B.same sD
    refine ⟨_, fldIs B1.ob, d, rs, rfl, .of B1.wa, for_it (walk_enum (xs := rs)) (fun i σ H' => ∃ o2 o3 ps, σ = [some (.ref b), some (.ref D), o2, o3] ∧ Same H H' ∧ H' D = some (.lst ps) ∧ TupAll H' ps (pendOf 0 (ws.take i))) ⟨_, _, [], rfl, sD, upd_same, .nil⟩ ?_ ?_ ?_⟩
    · rintro i σ H' _ ⟨o2, o3, ps, rfl, s, _⟩
      exact .of (s _ _ B.wa)
    · rintro i x σ H1 H' hi ⟨o2, o3, ps, rfl, s, hd, t⟩ ⟨T, y, z, rfl, hT, rfl, e1, e2⟩
      cases Option.some.inj e1
      have e2 : rs[i]? = some z := e2
      have sT := same_new (o := .tup [.int (i : Nat), z]) hT
      have hi' : i < ws.length := by omega
      have ei := getD_at (d := none) hi'
      have ez : ws.take (i + 1) = ws.take i ++ [ws.getD i none] := by rw [List.take_add_one, ei]; rfl
      have el : (ws.take i).length = i := by rw [List.length_take]; omega
      have pl := pendOf_len (ws := ws.take i) 0
      walk_at "w2"
      refine ⟨_, .inl (.inl upd_same), rfl, ?_⟩
      walk_at "w2"
      cases ew : ws.getD i none with
      | none =>
        rw [ew] at ei ez
        have ezn : z = .non := Option.some.inj (e2.symm.trans (B.wt.non i ei))
        subst ezn
        rw [if_neg (fun z => z rfl)]
        refine ⟨_, _, ps, rfl, s.trans sT, sT _ _ hd, ?_⟩
        rw [ez, pendOf_snoc]
        show TupAll _ ps (pendOf 0 (ws.take i) ++ [])
        rw [List.append_nil]
        exact t.same sT
      | some p =>
        obtain ⟨a, n⟩ := p
        rw [ew] at ei ez
        obtain ⟨tp, e3, e4⟩ := B.wt.pair i a n ei
        cases Option.some.inj (e2.symm.trans e3)
        rw [if_pos (by intro z; cases z)]
        have e5 := (s.trans sT) _ _ e4
        have hdT := sT _ _ hd
        refine ⟨ty_lst hdT, r_ixT (i := 0) e5 rfl (r_ixT (i := 1) e5 rfl ⟨by rw [sizeLine_eq]; omega, fun p hp => ?_⟩)⟩
        have sp := same_new (o := .tup [.int (i : Nat), .int a, .int n]) hp
        have tl := t.len
        have hd2 := sp _ _ hdT
        have nD : p ≠ D := (ne_of_none hdT hp).symm
        refine ⟨D, ps, _, rfl, rfl, hd2, by rw [sizeLine_eq]; omega, _, _, _, rfl, ?_, upd_same, ?_⟩
        · exact fun c o g => by rw [upd_ne (ne_of_none g hD)]; exact (s.trans (sT.trans sp)) _ _ g
        · rw [ez, pendOf_snoc, Nat.zero_add, el]
          refine ((t.same (sT.trans sp)).put hd2 (by intro xs z; cases z)).snoc (by rw [upd_ne nD]; exact upd_same) fun x hx => ?_
          rcases List.mem_cons.mp hx with rfl | hx
          · rfl
          rcases List.mem_cons.mp hx with rfl | hx
          · rfl
          · rw [List.mem_singleton] at hx
            subst hx
            rfl
    · rintro σ H' ⟨o2, o3, ps, rfl, s, hd, t⟩
      rw [ll, List.take_length] at t
      walk_at "w2"
      exact q D ps H' hD s hd t
theorem f_Lasts_said (T : Tx K mg) : Mt P w K mg base 1 "Lasts" "said" ["self"] (sp_Lasts_said K) := by
  refine T.mkMt 55 136 129 (d := d_Lasts_said) (N := ["self"]) (k := 0) rfl rfl rfl rfl rfl rfl sc_Lasts_said (fun _ _ _ _ _ _ us hl => match us, hl with | [_], _ => rfl) (fun vs H Q E h => ?len) (fun cdv A outer s H vs Q E hr h => ⟨_,
      (pss_one (ps_ret (pe_callTy (call_listK (K := K) rfl) (by rfl) (T.free 71) (by decide +kernel) (pa_cons (pe_fldC (T.cls 129) (T.noat 138) (pv 0)) pa_nil)))), ?rd⟩)
  case len => obtain ⟨b, dx, d, e, rs, ws, ss, rfl, _⟩ := h; rfl
  case rd =>
    obtain ⟨b, dx, d, e, rs, ws, ss, rfl, B, q⟩ := h
    walk_at "w2"
    refine ⟨_, fldIs B.ob, e, _, rfl, .inl (.of B.sk), fun p hp => q p hp⟩
end

local macro_rules | `(tactic| walk_at "w2") => `(tactic| try simp only [↓x_var0, ↓x_varS, ↓x_c, ↓x_op, ↓x_un, ↓x_cb, ↓x_nil, ↓x_cons, ↓x_test, ↓x_b, ↓x_ex, ↓x_and, ↓x_or, ↓x_not, ↓x_andV, ↓x_orV, ↓x_notV, ↓x_tif, ↓x_chain, ↓x_menu, ↓x_menuI, ↓x_lst, ↓x_tup, ↓x_dnew, ↓x_callW, ↓x_callN, ↓x_seq, ↓x_next, ↓x_ret, ↓x_retN, ↓x_drop, ↓x_ifS, ↓x_asg, ↓x_name, ↓x_raise, ↓x_fld, ↓x_setF, ↓x_meth, ↓x_make, ↓x_sub, ↓r_min, ↓r_max, ↓x_yes, ↓x_for, ↓x_lock, ↓x_keys, ↓x_cut, ↓x_lc, ↓x_rng1, ↓x_rng2, ↓x_lst1, ↓x_itup, ↓x_rng3, ↓x_three, ↓x_lstg, ↓x_tupg, ↓x_adrS, ↓x_one, ↓x_two, ↓x_adr, ↓x_sl, ↓x_np, ↓x_pt, ↓x_int, ↓x_bm, ↓x_bm0, ↓x_consg, ↓x_nilg, ↓x_dget2, ↓x_dget1, ↓x_dgetN, ↓x_dget, ↓x_din, ↓x_dni, ↓x_dput, ↓x_dpop2, ↓r_isB, ↓r_notB, ↓x_enum, ↓x_zip, ↓x_str, ↓x_strE, ↓r_inS, ↓r_ninS, wipe, List.map_cons, List.map_nil, ↓x_isT, ↓r_isiII, ↓r_isiBB, ↓r_isiIB, ↓r_isiSS, ↓r_neNS, ↓r_neSN, ↓r_neNN, ↓r_eqNS, ↓r_eqSN, ↓r_eqNN, ↓r_eqIS, ↓r_neIS, ↓r_neSI, ↓r_neBS, ↓r_eqBB, ↓r_neBB, ↓x_start, ↓x_K, ↓x_start0, ↓r_i0, ↓r_i, ↓r_u, ↓r_addI, ↓r_addS, ↓r_mulI, ↓r_mulS, ↓r_eqI, ↓r_neI, ↓r_eqS, ↓r_neS, ↓r_absI, ↓r_intI, ↓r_intB, List.length_cons, List.length_nil, List.replicate, List.set_cons_zero, List.set_cons_succ, decide_eq_true_eq, Bool.not_eq_true', decide_eq_false_iff_not, if_true, if_false, Bool.false_eq_true, Bool.true_eq_false, ite_true, ite_false, Bool.not_true, Bool.not_false, c_div, n_ten, c_pow, not_true_eq_false, not_false_eq_true, decide_true, decide_false, true_and, and_true, and_self, true_or, or_true, Int.reduceLT, Int.reduceLE, Int.reduceMul, Int.reduceAdd, Int.reduceSub, Int.reducePow, Int.reduceNeg, Int.reduceDiv, Int.reduceMod, Nat.reducePow, Int.reduceToNat, Int.reduceEq, Int.reduceNe, Nat.reduceLT, Nat.reduceLeDiff, Nat.reduceAdd, ↓x_whole, ↓x_kind])
/-! ## hands -/
structure HandO (K : PySem.W.Frag) (H : Hp) (h hx l : Addr) (ws : List Int) : Prop where
  ob : H h = some (.ins (He.ga K "Hands") hx (F_Hands (.ref l)))
  ls : H l = some (.lst (ws.map V.int))
  vw : Vw ws
  sz : ws.length ≤ 6
theorem HandO.same {K H H' h hx l ws} (o : HandO K H h hx l ws) (s : Same H H') : HandO K H' h hx l ws := ⟨s _ _ o.ob, s _ _ o.ls, o.vw, o.sz⟩
theorem HandO.ne {K H h hx l ws} (o : HandO K H h hx l ws) : h ≠ l := ne_of o.ob o.ls (by intro z; cases z)
theorem HandO.put {K H h hx l ws} (o : HandO K H h hx l ws) {i : Nat} {n : Int} (hn : (wordOf n).isSome = true) : HandO K (upd H l (.lst ((ws.set i n).map V.int))) h hx l (ws.set i n) :=
  ⟨by rw [upd_ne o.ne]; exact o.ob, upd_same, o.vw.set hn, by rw [List.length_set]; exact o.sz⟩
def handsV : V → Option Nat
  | .int n => if 1 ≤ n ∧ n ≤ 6 then some n.toNat else none
  | _ => none
theorem handsV_int {n : Int} : handsV (.int n) = if 1 ≤ n ∧ n ≤ 6 then some n.toNat else none := rfl
theorem handsV_odd {H : Hp} {v : V} (h : Odd H v) : handsV v = none := by
  cases v with
  | int i => exact (odd_not h).elim
  | _ => rfl
theorem handsV_some {v : V} {n : Nat} (h : handsV v = some n) : v = .int (n : Int) ∧ 1 ≤ n ∧ n ≤ 6 := by
  cases v with
  | int j =>
    rw [handsV_int] at h
    split at h
    · have e := Option.some.inj h
      exact ⟨by rw [← e]; congr 1; omega, by omega⟩
    · cases h
  | _ => cases h
def placesW (ws : List Int) : List Int := ws.filterMap fun w => match wordOf w with
  | some (.place p) => some p
  | _ => none
def sp_Hands___init__ (K : PySem.W.Frag) : Sp := fun vs H Q E => ∃ h dx v, vs = [.ref h, v] ∧ H h = some (.ins (He.ga K "Hands") dx []) ∧ Thing H v ∧ match handsV v with
  | some n => ∀ l H', H l = none → HandO K H' h dx l (List.replicate n (-1)) → (∀ b o, b ≠ h → H b = some o → H' b = some o) → Q .non H'
  | none => E (Ex K "BadCount") none H
def sp_Hands_need (K : PySem.W.Frag) : Sp := fun vs H Q E => ∃ h dx l ws v, vs = [.ref h, v] ∧ HandO K H h dx l ws ∧ Thing H v ∧ match placeOf ws.length v with
  | some _ => Q .non H
  | none => E (Ex K "NoHand") none H
def sp_Hands_get (K : PySem.W.Frag) : Sp := fun vs H Q E => ∃ h dx l ws v, vs = [.ref h, v] ∧ HandO K H h dx l ws ∧ Thing H v ∧ match placeOf ws.length v with
  | some i => Q (.int (ws.getD i 0)) H
  | none => E (Ex K "NoHand") none H
def sp_Hands_put (K : PySem.W.Frag) : Sp := fun vs H Q E => ∃ h dx l ws v z, vs = [.ref h, v, z] ∧ HandO K H h dx l ws ∧ Thing H v ∧ Thing H z ∧ match placeOf ws.length v with
  | some i => (match wordV z with
    | some n => Q .non (upd H l (.lst ((ws.set i n).map V.int)))
    | none => E (Ex K "BadWord") none H)
  | none => E (Ex K "NoHand") none H
def sp_Hands_row (K : PySem.W.Frag) : Sp := fun vs H Q _ => ∃ h dx l ws, vs = [.ref h] ∧ HandO K H h dx l ws ∧ ∀ p, H p = none → Q (.ref p) (upd H p (.lst (ws.map V.int)))
section
variable {P : Program} {w : World} {K : PySem.W.Frag} {mg : Str → Option Value} {base : Heap}
theorem f_Hands___init__ (T : Tx K mg) : Mi P w K mg base 2 "Hands" ["self", "many"] (sp_Hands___init__ K) := by
  have c_is_whole := f_is_whole (P := P) (w := w) (base := base) T
  refine T.mkMi 44 123 14 (d := d_Hands___init__) (N := ["self", "many", "hand"]) (k := 1) rfl rfl rfl rfl rfl rfl sc_Hands___init__ (fun _ _ _ _ _ _ us hl => match us, hl with | [_, _], _ => rfl) (fun vs H Q E h => ?len) (fun cdv A outer s H vs Q E hr h => ⟨_,
      (pss_cons (ps_if (PW.pt (pw_or (pt_not (pt_val (pe_fn (takes_of rfl rfl rfl rfl) c_is_whole (hr.mono (by decide)) (by rfl) (pa_cons (pv 1) pa_nil)))) (pw_or1 (pt_not (pt_chain op_le op_le pe_int (pv 1) (pe_num (T.num 62) (by rfl))))))) (pss_one (ps_raiseK (K := K) rfl rfl (takes_of rfl rfl rfl rfl) (T.says.fact 76 rfl) (T.glo 3) (by rfl))) pss_nil)
        (pss_one (ps_fldC (T.cls 122) (T.noat 128) (pv 0) (pe_lc (own := [("hand", 2)]) (g := gName 2) rfl sc_Hands___init__.nd (pi_range1 rfl (T.free 66) (pa_cons (pv 1) pa_nil)) (blkOk_by (own := [("hand", 2)]) (N := ["self", "many", "hand"]) (sc := defScope s_Hands___init__) (by decide +kernel)) (fun _ _ _ _ _ => (pg_name (i := 2) sc_Hands___init__.nd rfl (Or.inl rfl))) (fun _ _ _ _ _ => pts_nil) (fun _ _ _ _ _ => (pe_num (T.num 54) (by rfl))))))), ?rd⟩)
  case len => first | exact len_Hands___init__ h | (repeat (first | (obtain ⟨rfl, _⟩ := h; rfl; done) | obtain ⟨_, h⟩ := h))
  case rd =>
    obtain ⟨m, dx, v, rfl, M, th, h⟩ := h
    walk_at "w2"
    rcases th with ⟨n, rfl⟩ | o
    · walk_at "w2"
      rw [handsV_int] at h
      split
      · split
        · rw [if_neg (by omega)] at h
          exact h
        · rw [if_pos (by omega)] at h
          refine ⟨by omega, by omega, fun D hD => lc_mapR (fun _ => .int (-1)) (fun _ => rfl) (by rw [sizeLine_eq]; omega) (fun i hi acc Q q => ?_) ?_⟩
          · walk_at "w2"
            exact q
          · have nD : m ≠ D := ne_of_none M hD
            refine ⟨m, dx, _, rfl, by rw [upd_ne nD]; exact M, by show 0 < 1000; decide, ?_⟩
            rw [pi_Hands_kept]
            have er : (List.range n.toNat).map (fun _ => V.int (-1)) = (List.replicate n.toNat (-1 : Int)).map V.int := by rw [List.map_replicate, List.map_const', List.length_range]
            rw [er]
            refine h D _ hD ⟨upd_same, ?_, Vw.rep, by rw [List.length_replicate]; omega⟩ fun b o hb e => ?_
            · rw [upd_ne nD.symm, upd_same]
            · rw [upd_ne hb, upd_ne (ne_of_none e hD)]
              exact e
      · rw [if_neg (by omega)] at h
        exact h
    · rw [odd_whole o]
      rw [handsV_odd o] at h
      walk_at "w2"
      exact h
theorem f_Hands_need (T : Tx K mg) : Mt P w K mg base 2 "Hands" "need" ["self", "hand"] (sp_Hands_need K) := by
  have c_is_whole := f_is_whole (P := P) (w := w) (base := base) T
  refine T.mkMt 45 124 122 (d := d_Hands_need) (N := ["self", "hand"]) (k := 1) rfl rfl rfl rfl rfl rfl sc_Hands_need (fun _ _ _ _ _ _ us hl => match us, hl with | [_, _], _ => rfl) (fun vs H Q E h => ?len) (fun cdv A outer s H vs Q E hr h => ⟨_,
      (pss_one (ps_if (PW.pt (pw_or (pt_not (pt_val (pe_fn (takes_of rfl rfl rfl rfl) c_is_whole (hr.mono (by decide)) (by rfl) (pa_cons (pv 1) pa_nil)))) (pw_or1 (pt_not (pt_chain op_le op_lt pe_int (pv 1) (pe_callB (call_lenK (K := K) rfl) (by rfl) (T.free 64) PySem.boot_len (pa_cons (pe_fldC (T.cls 122) (T.noat 128) (pv 0)) pa_nil))))))) (pss_one (ps_raiseK (K := K) rfl rfl (takes_of rfl rfl rfl rfl) (T.says.fact 81 rfl) (T.glo 8) (by rfl))) pss_nil)), ?rd⟩)
  case len => first | exact len_Hands_need h | (repeat (first | (obtain ⟨rfl, _⟩ := h; rfl; done) | obtain ⟨_, h⟩ := h))
  case rd =>
    obtain ⟨m, dx, l, ws, v, rfl, M, th, h⟩ := h
    walk_at "w2"
    rcases th with ⟨n, rfl⟩ | o
    · walk_at "w2"
      rw [placeOf_int] at h
      split
      · refine ⟨_, fldIs M.ob, r_lenL M.ls ?_⟩
        walk_at "w2"
        rw [List.length_map]
        split
        · rw [if_neg (by omega)] at h
          exact h
        · rw [if_pos (by omega)] at h
          exact h
      · rw [if_neg (by omega)] at h
        exact h
    · rw [odd_whole o]
      rw [placeOf_odd o] at h
      walk_at "w2"
      exact h
theorem f_Hands_get (T : Tx K mg) : Mt P w K mg base 3 "Hands" "get" ["self", "hand"] (sp_Hands_get K) := by
  have c_Hands_need := f_Hands_need (P := P) (w := w) (base := base) T
  refine T.mkMt 46 125 122 (d := d_Hands_get) (N := ["self", "hand"]) (k := 2) rfl rfl rfl rfl rfl rfl sc_Hands_get (fun _ _ _ _ _ _ us hl => match us, hl with | [_, _], _ => rfl) (fun vs H Q E h => ?len) (fun cdv A outer s H vs Q E hr h => ⟨_,
      (pss_cons (ps_expr (pe_mt (K := K) rfl (takes_of rfl rfl rfl rfl) (pv 0) c_Hands_need (hr.mono (by decide)) (pa_cons (pv 1) pa_nil)))
        (pss_one (ps_ret (pe_ix (ix_seqK (K := K) rfl) (pe_fldC (T.cls 122) (T.noat 128) (pv 0)) (pv 1) (fun _ _ => rfl))))), ?rd⟩)
  case len => first | exact len_Hands_get h | (repeat (first | (obtain ⟨rfl, _⟩ := h; rfl; done) | obtain ⟨_, h⟩ := h))
  case rd =>
    obtain ⟨m, dx, l, ws, v, rfl, M, th, h⟩ := h
    walk_at "w2"
    refine ⟨recv M.ob, m, dx, l, ws, v, rfl, M, th, ?_⟩
    cases e : placeOf ws.length v with
    | none =>
      rw [e] at h
      exact h
    | some i =>
      rw [e] at h
      obtain ⟨rfl, hi⟩ := placeOf_some e
      refine ⟨_, fldIs M.ob, ?_⟩
      refine r_ixL M.ls ?_ h
      rw [List.getElem?_map, getD_at (d := 0) hi]
      rfl
theorem f_Hands_put (T : Tx K mg) : Mt P w K mg base 3 "Hands" "put" ["self", "hand", "word"] (sp_Hands_put K) := by
  have c_Hands_need := f_Hands_need (P := P) (w := w) (base := base) T
  have c_kind := f_kind (P := P) (w := w) (base := base) T
  refine T.mkMt 47 126 122 (d := d_Hands_put) (N := ["self", "hand", "word"]) (k := 2) rfl rfl rfl rfl rfl rfl sc_Hands_put (fun _ _ _ _ _ _ us hl => match us, hl with | [_, _, _], _ => rfl) (fun vs H Q E h => ?len) (fun cdv A outer s H vs Q E hr h => ⟨_,
      (pss_cons (ps_expr (pe_mt (K := K) rfl (takes_of rfl rfl rfl rfl) (pv 0) c_Hands_need (hr.mono (by decide)) (pa_cons (pv 1) pa_nil)))
        (pss_cons (ps_expr (pe_fn (takes_of rfl rfl rfl rfl) c_kind (hr.mono (by decide)) (by rfl) (pa_cons (pv 2) pa_nil)))
        (pss_one (ps_asg (pv 2) (pg_sub (pe_fldC (T.cls 122) (T.noat 128) (pv 0)) (pv 1) set_list))))), ?rd⟩)
  case len => first | exact len_Hands_put h | (repeat (first | (obtain ⟨rfl, _⟩ := h; rfl; done) | obtain ⟨_, h⟩ := h))
  case rd =>
    obtain ⟨m, dx, l, ws, v, z, rfl, M, th, tz, h⟩ := h
    walk_at "w2"
    refine ⟨recv M.ob, m, dx, l, ws, v, rfl, M, th, ?_⟩
    cases e : placeOf ws.length v with
    | none =>
      rw [e] at h
      exact h
    | some i =>
      rw [e] at h
      obtain ⟨rfl, hi⟩ := placeOf_some e
      walk_at "w2"
      rcases tz with ⟨n, rfl⟩ | o
      · rw [x_kind]
        rw [wordV_int] at h
        cases ew : wordOf n with
        | none =>
          rw [ew] at h
          exact h
        | some w =>
          rw [ew] at h
          refine ⟨_, fldIs M.ob, ?_⟩
          refine r_setL M.ls (by omega) (by rw [List.length_map]; omega) ?_
          rw [Int.toNat_natCast, ← List.map_set]
          exact h
      · rw [odd_kind o]
        rw [wordV_odd o] at h
        exact h
theorem f_Hands_row (T : Tx K mg) : Mt P w K mg base 1 "Hands" "row" ["self"] (sp_Hands_row K) := by
  refine T.mkMt 48 127 122 (d := d_Hands_row) (N := ["self"]) (k := 0) rfl rfl rfl rfl rfl rfl sc_Hands_row (fun _ _ _ _ _ _ us hl => match us, hl with | [_], _ => rfl) (fun vs H Q E h => ?len) (fun cdv A outer s H vs Q E hr h => ⟨_,
      (pss_one (ps_ret (pe_callTy (call_listK (K := K) rfl) (by rfl) (T.free 71) (by decide +kernel) (pa_cons (pe_fldC (T.cls 122) (T.noat 128) (pv 0)) pa_nil)))), ?rd⟩)
  case len => first | exact len_Hands_row h | (repeat (first | (obtain ⟨rfl, _⟩ := h; rfl; done) | obtain ⟨_, h⟩ := h))
  case rd =>
    obtain ⟨m, dx, l, ws, rfl, M, q⟩ := h
    walk_at "w2"
    exact ⟨_, fldIs M.ob, l, _, rfl, .inl (.of M.ls), q⟩
end
structure RoA where
  (r rx h hx hl b bx w wx wl la lax d e : Addr)
structure RoS where
  (hs : List Int) (bd : Addr) (bs : List Int) (ts : List V) (rs : List V) (ws : List (Option (Int × Int))) (ss : List Int)
/-- roots: where the parts stand, what they hold -/
structure RootO (K : PySem.W.Frag) (H : Hp) (A : RoA) (S : RoS) : Prop where
  ob : H A.r = some (.ins (He.ga K "Roots") A.rx (F_Roots (.ref A.h) (.ref A.b) (.ref A.w) (.ref A.la)))
  ho : HandO K H A.h A.hx A.hl S.hs
  bo : BookO K H A.b A.bx S.bd S.bs
  wo : WeakO K H A.w A.wx A.wl S.ts
  lo : LastO K H A.la A.lax A.d A.e S.rs S.ws S.ss
  n1 : A.hl ≠ A.wl
  n2 : A.hl ≠ A.d
  n3 : A.hl ≠ A.e
  n4 : A.wl ≠ A.d
  n5 : A.wl ≠ A.e
theorem RootO.same {K H H' A S} (h : RootO K H A S) (s : Same H H') : RootO K H' A S := { h with ob := s _ _ h.ob, ho := h.ho.same s, bo := h.bo.same s, wo := h.wo.same s, lo := h.lo.same s }
def sp_Roots_starts (K : PySem.W.Frag) : Sp := fun vs H Q _ => ∃ r rx h hx l ws, ∃ f2 f3 f4 : V, vs = [.ref r] ∧ H r = some (.ins (He.ga K "Roots") rx (F_Roots (.ref h) f2 f3 f4)) ∧ HandO K H h hx l ws ∧
  ∀ p H', H p = none → Same H H' → H' p = some (.lst ((placesW ws).map V.int)) → Q (.ref p) H'
def sp_Roots___init__ (K : PySem.W.Frag) : Sp := fun vs H Q E => ∃ r dx v, vs = [.ref r, v] ∧ H r = some (.ins (He.ga K "Roots") dx []) ∧ Thing H v ∧ match handsV v with
  | some n => ∀ A S H', A.r = r → S = ⟨List.replicate n (-1), S.bd, [], [], [], [], []⟩ → RootO K H' A S → (∀ c, c = A.h ∨ c = A.hl ∨ c = A.b ∨ c = S.bd ∨ c = A.w ∨ c = A.wl ∨ c = A.la ∨ c = A.d ∨ c = A.e → H c = none) → (∀ b o, b ≠ r → H b = some o → H' b = some o) → Q .non H'
  | none => ∀ H', (∀ b o, b ≠ r → H b = some o → H' b = some o) → E (Ex K "BadCount") none H'
def gPlace : V → Option V
  | .int x => match wordOf x with
    | some (.place p) => some (.int p)
    | _ => none
  | _ => none
def kidV : Wd → Option V
  | .place p => some (.int p)
  | _ => none
theorem gPlace_word {x : Int} {w : Wd} (e : wordOf x = some w) : gPlace (.int x) = kidV w := by
  unfold gPlace
  dsimp only
  rw [e]
  cases w <;> rfl
theorem places_map {ws : List Int} : (ws.map V.int).filterMap gPlace = (placesW ws).map V.int := by
  unfold placesW
  rw [List.filterMap_map, List.map_filterMap]
  congr 1
  funext x
  show gPlace (.int x) = _
  unfold gPlace
  dsimp only
  cases wordOf x with
  | none => rfl
  | some w => cases w <;> rfl
section
variable {P : Program} {w : World} {K : PySem.W.Frag} {mg : Str → Option Value} {base : Heap}
theorem f_Roots_starts (T : Tx K mg) : Mt P w K mg base 4 "Roots" "starts" ["self"] (sp_Roots_starts K) := by
  have c_Hands_row := f_Hands_row (P := P) (w := w) (base := base) T
  have c_kind := f_kind (P := P) (w := w) (base := base) T
  have c_worth := f_worth (P := P) (w := w) (base := base) T
  refine T.mkMt 65 151 149 (d := d_Roots_starts) (N := ["self", "word"]) (k := 3) rfl rfl rfl rfl rfl rfl sc_Roots_starts (fun _ _ _ _ _ _ us hl => match us, hl with | [_], _ => rfl) (fun vs H Q E h => ?len) (fun cdv A outer s H vs Q E hr h => ⟨_,
      (pss_one (ps_ret (pe_lc (own := [("word", 1)]) (g := gName 1) rfl sc_Roots_starts.nd (pi_listK (K := K) rfl (pe_mt0 (K := K) rfl (takes_of rfl rfl rfl rfl) (pe_fldC (T.cls 149) (T.noat 152) (pv 0)) c_Hands_row (hr.mono (by decide)))) (blkOk_by (own := [("word", 1)]) (N := ["self", "word"]) (sc := defScope s_Roots_starts) (by decide +kernel)) (fun _ _ _ _ _ => (pg_name (i := 1) sc_Roots_starts.nd rfl (Or.inl rfl))) (fun _ _ _ _ _ => pts_one (pt_cmpR (op_eqK (K := K) rfl hr.units) (pe_fn takes0 c_kind (hr.mono (by decide)) (by rfl) (pa_cons (pv 1) pa_nil)) pe_str (nomark _))) (fun _ _ _ _ _ => (pe_fn takes0 c_worth (hr.mono (by decide)) (by rfl) (pa_cons (pv 1) pa_nil)))))), ?rd⟩)
  case len => first | exact len_Roots_starts h | (repeat (first | (obtain ⟨rfl, _⟩ := h; rfl; done) | obtain ⟨_, h⟩ := h))
  case rd =>
    obtain ⟨r, rx, hh, hx, l, ws, f2, f3, f4, rfl, R, M, q⟩ := h
    walk_at "w2"
    refine ⟨_, fldIs R, recv M.ob, hh, hx, l, ws, rfl, M, fun p1 np1 => ?_⟩
    walk_at "w2"
    have s1 := same_new (o := .lst (ws.map V.int)) np1
    refine ⟨⟨_, .of upd_same⟩, fun D hD => lc_iffL (xs := ws.map V.int) (g := gPlace) (fun _ => rfl) (fun acc => .of ((same_new hD) _ _ upd_same)) (by have := M.sz; rw [List.length_map, sizeLine_eq]; omega) (fun i x hx acc N n1 n2 => ?_) (fun i x y hx hy acc Q2 q2 => ?_) ?_⟩
    · obtain ⟨n, rfl, hn⟩ := ints_mem hx
      obtain ⟨w, ew⟩ := Option.isSome_iff_exists.mp (M.vw n hn)
      rw [gPlace_word ew] at n1 n2
      walk_at "w2"
      rw [ew]
      dsimp only
      cases w with
      | nothing => simp only [k_nn, k_pn, k_Nn, k_np, k_Np, k_pp, not_true_eq_false, not_false_eq_true, if_true, if_false, ite_true, ite_false, Wd.worth]; first | exact n2 rfl | (rw [decide_eq_false (fun z => z)]; exact n2 rfl)
      | num n => simp only [k_nn, k_pn, k_Nn, k_np, k_Np, k_pp, not_true_eq_false, not_false_eq_true, if_true, if_false, ite_true, ite_false, Wd.worth]; first | exact n2 rfl | (rw [decide_eq_false (fun z => z)]; exact n2 rfl)
      | place p => simp only [k_nn, k_pn, k_Nn, k_np, k_Np, k_pp, not_true_eq_false, not_false_eq_true, if_true, if_false, ite_true, ite_false, Wd.worth]; first | exact n1 rfl | (rw [decide_eq_true trivial]; exact n1 rfl)
    · obtain ⟨n, rfl, hn⟩ := ints_mem hx
      obtain ⟨w, ew⟩ := Option.isSome_iff_exists.mp (M.vw n hn)
      rw [gPlace_word ew] at hy
      walk_at "w2"
      rw [x_worth, ew]
      cases w with
      | place p =>
        cases hy
        exact q2
      | _ => cases hy
    · rw [places_map]
      exact q D _ (none_of s1 hD) (s1.trans (same_new hD)) upd_same
theorem f_Roots___init__ (T : Tx K mg) : Mi P w K mg base 4 "Roots" ["self", "many"] (sp_Roots___init__ K) := by
  have c_Hands___init__ := f_Hands___init__ (P := P) (w := w) (base := base) T
  have c_Book___init__ := f_Book___init__ (P := P) (w := w) (base := base) T
  have c_Weak___init__ := f_Weak___init__ (P := P) (w := w) (base := base) T
  have c_Lasts___init__ := f_Lasts___init__ (P := P) (w := w) (base := base) T
  refine T.mkMi 64 150 17 (d := d_Roots___init__) (N := ["self", "many"]) (k := 3) rfl rfl rfl rfl rfl rfl sc_Roots___init__ (fun _ _ _ _ _ _ us hl => match us, hl with | [_, _], _ => rfl) (fun vs H Q E h => ?len) (fun cdv A outer s H vs Q E hr h => ⟨_,
      (pss_cons (ps_fldC (T.cls 149) (T.noat 152) (pv 0) (pe_mk (K := K) rfl (takes_of rfl rfl rfl rfl) c_Hands___init__ (hr.mono (by decide)) (by rfl) (pa_cons (pv 1) pa_nil)))
        (pss_cons (ps_fldC (T.cls 149) (T.noat 153) (pv 0) (pe_mk0 (K := K) rfl (takes_of rfl rfl rfl rfl) c_Book___init__ (hr.mono (by decide)) (by rfl)))
        (pss_cons (ps_fldC (T.cls 149) (T.noat 154) (pv 0) (pe_mk0 (K := K) rfl (takes_of rfl rfl rfl rfl) c_Weak___init__ (hr.mono (by decide)) (by rfl)))
        (pss_one (ps_fldC (T.cls 149) (T.noat 155) (pv 0) (pe_mk0 (K := K) rfl (takes_of rfl rfl rfl rfl) c_Lasts___init__ (hr.mono (by decide)) (by rfl))))))), ?rd⟩)
  case len => first | exact len_Roots___init__ h | (repeat (first | (obtain ⟨rfl, _⟩ := h; rfl; done) | obtain ⟨_, h⟩ := h))
  case rd =>
    obtain ⟨r, dx, v, rfl, HR, th, h⟩ := h
    walk_at "w2"
    intro hh hx nh nhx nhe
    have sm := same_mk (C := He.ga K "Hands") nh nhx nhe
    refine ⟨hh, hx, v, rfl, upd_same, thing_same sm th, ?_⟩
    cases ev : handsV v with
    | none =>
      rw [ev] at h
      exact h _ fun b o _ g => sm _ _ g
    | some n =>
      rw [ev] at h
      dsimp only
      intro l H2 nl M1 k1
      have s1 := same_init nh nhx nhe k1
      have ra : hh ≠ r := (ne_of_none HR nh).symm
      walk_at "w2"
      refine ⟨r, dx, _, rfl, s1 _ _ HR, by decide, ?_⟩
      rw [pi_Roots_hands]
      have k3 : ∀ {c x}, c ≠ r → H2 c = some x → upd H2 r (.ins (He.ga K "Roots") dx [(("hands" : Str), V.ref hh)]) c = some x := fun h g => by rw [upd_ne h]; exact g
      have a3 : upd H2 r (.ins (He.ga K "Roots") dx [(("hands" : Str), V.ref hh)]) r = some (.ins (He.ga K "Roots") dx [(("hands" : Str), V.ref hh)]) := upd_same
      generalize upd H2 r (.ins (He.ga K "Roots") dx [(("hands" : Str), V.ref hh)]) = H3 at k3 a3 ⊢
      intro b bx nb nbx nbe
      refine ⟨b, bx, rfl, upd_same, fun bd H4 nbd B4 k4 => ?_⟩
      have s4 := same_init nb nbx nbe k4
      have ba : b ≠ r := (ne_of_none a3 nb).symm
      walk_at "w2"
      refine ⟨r, dx, _, rfl, s4 _ _ a3, by show 1 < 1000; decide, ?_⟩
      rw [pi_Roots_book]
      have k5 : ∀ {c x}, c ≠ r → H4 c = some x → upd H4 r (.ins (He.ga K "Roots") dx [(("hands" : Str), V.ref hh), ("book", V.ref b)]) c = some x := fun h g => by rw [upd_ne h]; exact g
      have a5 : upd H4 r (.ins (He.ga K "Roots") dx [(("hands" : Str), V.ref hh), ("book", V.ref b)]) r = some (.ins (He.ga K "Roots") dx [(("hands" : Str), V.ref hh), ("book", V.ref b)]) := upd_same
      generalize upd H4 r (.ins (He.ga K "Roots") dx [(("hands" : Str), V.ref hh), ("book", V.ref b)]) = H5 at k5 a5 ⊢
      intro w wx nw nwx nwe
      refine ⟨w, wx, rfl, upd_same, fun wl H6 nwl W6 k6 => ?_⟩
      have s6 := same_init nw nwx nwe k6
      have wa : w ≠ r := (ne_of_none a5 nw).symm
      walk_at "w2"
      refine ⟨r, dx, _, rfl, s6 _ _ a5, by show 2 < 1000; decide, ?_⟩
      rw [pi_Roots_weaks]
      have k7 : ∀ {c x}, c ≠ r → H6 c = some x → upd H6 r (.ins (He.ga K "Roots") dx [(("hands" : Str), V.ref hh), ("book", V.ref b), ("weaks", V.ref w)]) c = some x := fun h g => by rw [upd_ne h]; exact g
      have a7 : upd H6 r (.ins (He.ga K "Roots") dx [(("hands" : Str), V.ref hh), ("book", V.ref b), ("weaks", V.ref w)]) r = some (.ins (He.ga K "Roots") dx [(("hands" : Str), V.ref hh), ("book", V.ref b), ("weaks", V.ref w)]) := upd_same
      generalize upd H6 r (.ins (He.ga K "Roots") dx [(("hands" : Str), V.ref hh), ("book", V.ref b), ("weaks", V.ref w)]) = H7 at k7 a7 ⊢
      intro la lx nla nlx nle
      refine ⟨la, lx, rfl, upd_same, fun d e H8 nd ne L8 k8 => ?_⟩
      have s8 := same_init nla nlx nle k8
      have laa : la ≠ r := (ne_of_none a7 nla).symm
      walk_at "w2"
      refine ⟨r, dx, _, rfl, s8 _ _ a7, by show 3 < 1000; decide, ?_⟩
      rw [pi_Roots_lasts]
      have k9 : ∀ {c x}, c ≠ r → H8 c = some x → upd H8 r (.ins (He.ga K "Roots") dx (F_Roots (.ref hh) (.ref b) (.ref w) (.ref la))) c = some x := fun h g => by rw [upd_ne h]; exact g
      have k69 : ∀ {c x}, c ≠ r → H6 c = some x → upd H8 r (.ins (He.ga K "Roots") dx (F_Roots (.ref hh) (.ref b) (.ref w) (.ref la))) c = some x := fun h g => k9 h (s8 _ _ (k7 h g))
      have k49 : ∀ {c x}, c ≠ r → H4 c = some x → upd H8 r (.ins (He.ga K "Roots") dx (F_Roots (.ref hh) (.ref b) (.ref w) (.ref la))) c = some x := fun h g => k69 h (s6 _ _ (k5 h g))
      have k29 : ∀ {c x}, c ≠ r → H2 c = some x → upd H8 r (.ins (He.ga K "Roots") dx (F_Roots (.ref hh) (.ref b) (.ref w) (.ref la))) c = some x := fun h g => k49 h (s4 _ _ (k3 h g))
      have nn : ∀ {Hi : Hp} {c : Addr}, (∀ {c x}, c ≠ r → H c = some x → Hi c = some x) → c ≠ r → Hi c = none → H c = none := fun {Hi c} k h g => by
        cases e : H c with
        | none => rfl
        | some x =>
          rw [k h e] at g
          cases g
      have lr : ∀ {Hi : Hp} {c : Addr} {o : HO} {xs : List V}, Hi r = some o → (∃ C d fs, o = .ins C d fs) → Hi c = some (.lst xs) → c ≠ r := fun g ⟨C, d, fs, e⟩ g2 => ne_of g2 g (by rw [e]; intro z; cases z)
      have l2 := lr (s1 _ _ HR) ⟨_, _, _, rfl⟩ M1.ls
      have l6 := lr (s6 _ _ a5) ⟨_, _, _, rfl⟩ W6.ls
      have l8 := lr (s8 _ _ a7) ⟨_, _, _, rfl⟩ L8.wa
      have l8' := lr (s8 _ _ a7) ⟨_, _, _, rfl⟩ L8.sk
      have l4 : bd ≠ r := ne_of B4.ds (s4 _ _ a3) (by intro z; cases z)
      have g1 : ∀ {c x}, c ≠ r → H c = some x → H3 c = some x := fun h g => k3 h (s1 _ _ g)
      have g3 : ∀ {c x}, c ≠ r → H c = some x → H5 c = some x := fun h g => k5 h (s4 _ _ (g1 h g))
      have g5 : ∀ {c x}, c ≠ r → H c = some x → H7 c = some x := fun h g => k7 h (s6 _ _ (g3 h g))
      refine h ⟨r, dx, hh, hx, l, b, bx, w, wx, wl, la, lx, d, e⟩ ⟨List.replicate n (-1), bd, [], [], [], [], []⟩ _ rfl rfl ⟨upd_same, ⟨k29 ra M1.ob, k29 l2 M1.ls, M1.vw, M1.sz⟩, ⟨k49 ba B4.ob, k49 l4 B4.ds, B4.nd⟩, ⟨k69 wa W6.ob, k69 l6 W6.ls⟩, ⟨k9 laa L8.ob, k9 l8 L8.wa, WtAll.nil, k9 l8' L8.sk, L8.de⟩, ?_, ?_, ?_, ?_, ?_⟩ ?_ fun b o h g => k9 h (s8 _ _ (g5 h g))
      · exact ne_of_none ((same_mk nw nwx nwe) _ _ (k5 l2 (s4 _ _ (k3 l2 M1.ls)))) nwl
      · exact ne_of_none ((same_mk nla nlx nle) _ _ (k7 l2 (s6 _ _ (k5 l2 (s4 _ _ (k3 l2 M1.ls)))))) nd
      · exact ne_of_none ((same_mk nla nlx nle) _ _ (k7 l2 (s6 _ _ (k5 l2 (s4 _ _ (k3 l2 M1.ls)))))) ne
      · exact ne_of_none ((same_mk nla nlx nle) _ _ (k7 l6 W6.ls)) nd
      · exact ne_of_none ((same_mk nla nlx nle) _ _ (k7 l6 W6.ls)) ne
      · rintro c (rfl | rfl | rfl | rfl | rfl | rfl | rfl | rfl | rfl)
        · exact nh
        · exact none_of sm nl
        · exact nn g1 ba nb
        · exact nn g1 l4 (none_of (same_mk nb nbx nbe) nbd)
        · exact nn g3 wa nw
        · exact nn g3 l6 (none_of (same_mk nw nwx nwe) nwl)
        · exact nn g5 laa nla
        · exact nn g5 l8 (none_of (same_mk nla nlx nle) nd)
        · exact nn g5 l8' (none_of (same_mk nla nlx nle) ne)
end

/-! ## cells of a law's own: by places, rows of words -/
structure CeL where
  (p : Nat) (r : Addr) (ws : List Int)
def kvsOf (f : Nat → Int) (C : List CeL) : List (Key × V) := C.map fun c => (.inl (f c.p), .ref c.r)
theorem kvs_none {f : Nat → Int} {C : List CeL} {n : Int} (h : ∀ c ∈ C, f c.p ≠ n) : valV (kvsOf f C) (.inl n : Key) = none := by
  induction C with
  | nil => rfl
  | cons c r ih =>
    have e2 : ¬ ((.inl (f c.p) : Key) = .inl n) := fun z => h c (List.mem_cons_self) (Sum.inl.inj z)
    exact (valV_neg (p := ((.inl (f c.p) : Key), V.ref c.r)) (r := kvsOf f r) e2).trans (ih fun c m => h c (List.mem_cons_of_mem _ m))
theorem kvs_some {f : Nat → Int} {C : List CeL} {c : CeL} (nd : C.Pairwise fun a b => f a.p ≠ f b.p) (h : c ∈ C) : valV (kvsOf f C) (.inl (f c.p) : Key) = some (.ref c.r) := by
  induction C with
  | nil => exact (List.not_mem_nil h).elim
  | cons a r ih =>
    obtain ⟨n1, n2⟩ := List.pairwise_cons.mp nd
    rcases List.mem_cons.mp h with rfl | h
    · exact valV_pos rfl
    · have e2 : ¬ ((.inl (f a.p) : Key) = .inl (f c.p)) := fun z => n1 c h (Sum.inl.inj z)
      exact (valV_neg (p := ((.inl (f a.p) : Key), V.ref a.r)) (r := kvsOf f r) e2).trans (ih n2 h)
theorem kvs_put {f : Nat → Int} {C : List CeL} {c : CeL} (h : ∀ a ∈ C, f a.p ≠ f c.p) : putK (kvsOf f C) (.inl (f c.p) : Key) (.ref c.r) = kvsOf f (C ++ [c]) := by
  unfold putK
  rw [valV_any, kvs_none h]
  show kvsOf f C ++ [(.inl (f c.p), .ref c.r)] = _
  unfold kvsOf
  rw [List.map_append]
  rfl
/-- which cells are laid, where their rows are, what they hold -/
structure CellsO (f : Nat → Int) (H : Hp) (S : ArS) (d : Addr) (C : List CeL) : Prop where
  dd : H d = some (.dK (kvsOf f C))
  rw_ : ∀ c ∈ C, H c.r = some (.lst (c.ws.map V.int))
  hd : ∀ c ∈ C, ∃ a, a ≤ 2 ∧ headAt (S.ws.getD c.p 0) = some (4 * c.ws.length + a)
  sl : ∀ c ∈ C, ∀ j, j < c.ws.length → S.ws.getD (c.p + 1 + j) 0 = c.ws.getD j 0
  ar : ∀ c ∈ C, c.p + c.ws.length < S.ot ∨ (S.b S.fl ≤ c.p ∧ c.p + c.ws.length < S.t S.fl)
  dj : C.Pairwise fun a b => a.p + a.ws.length < b.p ∨ b.p + b.ws.length < a.p
  rd : C.Pairwise fun a b => a.r ≠ b.r
theorem CellsO.same {f H H' S d C} (h : CellsO f H S d C) (s : Same H H') : CellsO f H' S d C := { h with dd := s _ _ h.dd, rw_ := fun c m => s _ _ (h.rw_ c m) }
theorem CellsO.keys {f H S d C} (h : CellsO f H S d C) (inj : ∀ a b, f a = f b → a = b) : C.Pairwise fun a b => f a.p ≠ f b.p := h.dj.imp fun {a b} q e => by
  have := inj _ _ e
  omega
/-- another heap, in which dict and rows are as they were -/
theorem CellsO.keep {f H H' S d C} (h : CellsO f H S d C) (k : ∀ b o, (b = d ∨ ∃ c ∈ C, b = c.r) → H b = some o → H' b = some o) : CellsO f H' S d C := { h with dd := k _ _ (.inl rfl) h.dd, rw_ := fun c m => k _ _ (.inr ⟨c, m, rfl⟩) (h.rw_ c m) }
theorem CellsO.lt {f H S d C} (h : CellsO f H S d C) (e : S.ws.length = S.n + 2 * S.k) (lo : S.ot ≤ S.n) (l1 : S.t S.fl ≤ S.b S.fl + S.k) : ∀ c ∈ C, c.p + c.ws.length < S.ws.length := fun c m => by
  have hb : S.b S.fl + S.k ≤ S.n + 2 * S.k := by unfold ArS.b; split <;> omega
  rcases h.ar c m with q | q <;> omega
theorem layT_high {ws : List Int} {i s t j : Nat} (h : i + t < j) : (layT ws i s t).getD j 0 = ws.getD j 0 := by
  induction t with
  | zero =>
    show (ws.set i (8 * (s : Int))).getD j 0 = _
    rw [List.getD_eq_getElem?_getD, List.getElem?_set_ne (by omega), ← List.getD_eq_getElem?_getD]
  | succ t ih =>
    rw [layT_succ, List.getD_eq_getElem?_getD, List.getElem?_set_ne (by omega), ← List.getD_eq_getElem?_getD, ih (by omega)]
theorem layT_low' {ws : List Int} {i s t j : Nat} (h : j < i) : (layT ws i s t).getD j 0 = ws.getD j 0 := by
  induction t with
  | zero =>
    show (ws.set i (8 * (s : Int))).getD j 0 = _
    rw [List.getD_eq_getElem?_getD, List.getElem?_set_ne (by omega), ← List.getD_eq_getElem?_getD]
  | succ t ih =>
    rw [layT_succ, List.getD_eq_getElem?_getD, List.getElem?_set_ne (by omega), ← List.getD_eq_getElem?_getD, ih]
theorem laidS_off {S : ArS} {old : Bool} {s j : Nat} (h : j < topA S old ∨ topA S old + s < j) : (laidS S old s).ws.getD j 0 = S.ws.getD j 0 := by
  cases old
  · show (layT S.ws (S.t S.fl) s s).getD j 0 = _
    have h : j < S.t S.fl ∨ S.t S.fl + s < j := h
    rcases h with h | h
    · exact layT_low' h
    · exact layT_high h
  · show ((layT S.ws S.ot s s).set S.ot _).getD j 0 = _
    have h : j < S.ot ∨ S.ot + s < j := h
    rw [List.getD_eq_getElem?_getD, List.getElem?_set_ne (by omega), ← List.getD_eq_getElem?_getD]
    rcases h with h | h
    · exact layT_low' h
    · exact layT_high h
theorem laidS_ot {S : ArS} {old : Bool} {s : Nat} : (laidS S old s).ot = if old then S.ot + (s + 1) else S.ot := by
  cases old
  · show (S.put S.fl _).ot = _
    unfold ArS.put
    cases S.fl <;> rfl
  · rfl
theorem laidS_same {S : ArS} {old : Bool} {s : Nat} : (laidS S old s).fl = S.fl ∧ (laidS S old s).n = S.n ∧ (laidS S old s).k = S.k ∧ ∀ f, (laidS S old s).b f = S.b f := by
  cases old
  · show (S.put S.fl _).fl = _ ∧ (S.put S.fl _).n = _ ∧ (S.put S.fl _).k = _ ∧ ∀ f, (S.put S.fl _).b f = S.b f
    unfold ArS.put ArS.b
    cases S.fl <;> exact ⟨rfl, rfl, rfl, fun f => rfl⟩
  · exact ⟨rfl, rfl, rfl, fun f => rfl⟩
theorem laidS_t {S : ArS} {old : Bool} {s : Nat} : (laidS S old s).t S.fl = if old then S.t S.fl else S.t S.fl + (s + 1) := by
  cases old
  · show (S.put S.fl _).t S.fl = _
    unfold ArS.put ArS.t
    cases S.fl <;> rfl
  · rfl
theorem laidS_t' {S : ArS} {old : Bool} {s : Nat} : (laidS S old s).t (!S.fl) = S.t (!S.fl) := by
  cases old
  · show (S.put S.fl _).t (!S.fl) = _
    unfold ArS.put ArS.t
    cases S.fl <;> rfl
  · rfl
theorem CellsO.fresh {f H S d C s old} (h : CellsO f H S d C) (lo : S.ot ≤ S.n) (lbt : S.b S.fl ≤ S.t S.fl) (fit : topA S old + (s + 1) ≤ endA S old) : ∀ c ∈ C, c.p + c.ws.length < topA S old ∨ topA S old + s < c.p := fun c m => by
  have nb : S.n ≤ S.b S.fl := by unfold ArS.b; split <;> omega
  have lb : S.n ≤ S.b S.fl := nb
  cases old
  · show c.p + c.ws.length < S.t S.fl ∨ _
    have fit : S.t S.fl + (s + 1) ≤ S.b S.fl + S.k := fit
    rcases h.ar c m with q | q <;> omega
  · have : S.ot + (s + 1) ≤ S.n := fit
    show c.p + c.ws.length < S.ot ∨ S.ot + s < c.p
    rcases h.ar c m with q | q <;> omega
/-- a cell more -/
theorem CellsO.lay {f H H' S d C s old r} (h : CellsO f H S d C) (s8 : s ≤ 8) (ln : S.ws.length = S.n + 2 * S.k) (lo : S.ot ≤ S.n) (lb : S.b S.fl ≤ S.t S.fl) (fit : topA S old + (s + 1) ≤ endA S old)
    (hd : H' d = some (.dK (kvsOf f (C ++ [⟨topA S old, r, List.replicate s (-1)⟩])))) (hr : H' r = some (.lst ((List.replicate s (-1 : Int)).map V.int))) (k : ∀ c ∈ C, H' c.r = H c.r) (nr : ∀ c ∈ C, c.r ≠ r) :
    CellsO f H' (laidS S old s) d (C ++ [⟨topA S old, r, List.replicate s (-1)⟩]) := by
  have nb : S.n ≤ S.b S.fl := by unfold ArS.b; split <;> omega
  have hbk : S.b S.fl + S.k ≤ S.n + 2 * S.k := by unfold ArS.b; split <;> omega
  have hl : topA S old + s < S.ws.length := by
    cases old
    · have : S.t S.fl + (s + 1) ≤ S.b S.fl + S.k := fit
      show S.t S.fl + s < _
      omega
    · have : S.ot + (s + 1) ≤ S.n := fit
      show S.ot + s < _
      omega
  have off : ∀ c ∈ C, c.p + c.ws.length < topA S old ∨ topA S old + s < c.p := fun c m => by
    cases old
    · show c.p + c.ws.length < S.t S.fl ∨ _
      rcases h.ar c m with q | q <;> omega
    · have : S.ot + (s + 1) ≤ S.n := fit
      show c.p + c.ws.length < S.ot ∨ S.ot + s < c.p
      rcases h.ar c m with q | q <;> omega
  obtain ⟨e1, e2, e3, e4⟩ := laidS_same (S := S) (old := old) (s := s)
  have rl : (List.replicate s (-1 : Int)).length = s := List.length_replicate
  refine ⟨hd, fun c m => ?_, fun c m => ?_, fun c m j hj => ?_, fun c m => ?_, ?_, ?_⟩
  · rcases List.mem_append.mp m with m | m
    · rw [k c m]
      exact h.rw_ c m
    · rw [List.mem_singleton.mp m]
      exact hr
  · rcases List.mem_append.mp m with m | m
    · rw [laidS_off (by rcases off c m with q | q <;> omega)]
      exact h.hd c m
    · rw [List.mem_singleton.mp m]
      refine ⟨if old then 2 else 0, by split <;> omega, ?_⟩
      rw [laidS_head s8 hl]
      show _ = some (4 * (List.replicate s (-1 : Int)).length + _)
      rw [rl]
  · rcases List.mem_append.mp m with m | m
    · rw [laidS_off (by rcases off c m with q | q <;> omega)]
      exact h.sl c m j hj
    · rw [List.mem_singleton.mp m] at hj ⊢
      have hj : j < s := by rw [← rl]; exact hj
      rw [laidS_slot hj hl]
      show _ = (List.replicate s (-1 : Int)).getD j 0
      rw [List.getD_eq_getElem?_getD, List.getElem?_replicate, if_pos hj]
      rfl
  · rw [e1, e4, laidS_ot, laidS_t]
    rcases List.mem_append.mp m with m | m
    · rcases h.ar c m with q | q
      · refine .inl ?_
        split <;> omega
      · refine .inr ⟨q.1, ?_⟩
        split <;> omega
    · rw [List.mem_singleton.mp m]
      show topA S old + (List.replicate s (-1 : Int)).length < _ ∨ S.b S.fl ≤ topA S old ∧ topA S old + (List.replicate s (-1 : Int)).length < _
      rw [rl]
      cases old
      · refine .inr ⟨lb, ?_⟩
        show S.t S.fl + s < S.t S.fl + (s + 1)
        omega
      · refine .inl ?_
        show S.ot + s < S.ot + (s + 1)
        omega
  · refine List.pairwise_append.mpr ⟨h.dj, List.pairwise_singleton _ _, fun a ha b hb => ?_⟩
    rw [List.mem_singleton.mp hb]
    show _ ∨ topA S old + (List.replicate s (-1 : Int)).length < _
    rw [rl]
    exact off a ha
  · refine List.pairwise_append.mpr ⟨h.rd, List.pairwise_singleton _ _, fun a ha b hb => ?_⟩
    rw [List.mem_singleton.mp hb]
    exact nr a ha
theorem pair_mem {α : Type} {R : α → α → Prop} (sy : ∀ a b, R a b → R b a) : ∀ {C : List α}, C.Pairwise R → ∀ {a b : α}, a ∈ C → b ∈ C → a ≠ b → R a b
  | [], _, _, _, h, _, _ => (List.not_mem_nil h).elim
  | x :: r, p, a, b, ha, hb, ne => by
    obtain ⟨p1, p2⟩ := List.pairwise_cons.mp p
    rcases List.mem_cons.mp ha with ea | ha'
    · rcases List.mem_cons.mp hb with eb | hb'
      · exact absurd (ea.trans eb.symm) ne
      · rw [ea]
        exact p1 b hb'
    · rcases List.mem_cons.mp hb with eb | hb'
      · rw [eb]
        exact sy _ _ (p1 a ha')
      · exact pair_mem sy p2 ha' hb' ne
theorem CellsO.apart {f H S d C} (h : CellsO f H S d C) {a b : CeL} (ha : a ∈ C) (hb : b ∈ C) (ne : a ≠ b) : (a.p + a.ws.length < b.p ∨ b.p + b.ws.length < a.p) ∧ a.r ≠ b.r :=
  ⟨pair_mem (fun _ _ q => q.symm) h.dj ha hb ne, pair_mem (fun _ _ q => q.symm) h.rd ha hb ne⟩
theorem CellsO.same_p {f H S d C} (h : CellsO f H S d C) {a b : CeL} (ha : a ∈ C) (hb : b ∈ C) (e : a.p = b.p) : a = b := by
  by_cases e2 : a = b
  · exact e2
  · have := (h.apart ha hb e2).1
    omega
/-- one slot of a cell is written -/
def setC (C : List CeL) (p j : Nat) (n : Int) : List CeL := C.map fun c => if c.p = p then { c with ws := c.ws.set j n } else c
theorem setC_kvs {f : Nat → Int} {C : List CeL} {p j : Nat} {n : Int} : kvsOf f (setC C p j n) = kvsOf f C := by
  unfold kvsOf setC
  rw [List.map_map]
  congr 1
  funext c
  show ((.inl (f (if c.p = p then _ else c).p), .ref (if c.p = p then _ else c).r) : Key × V) = _
  split <;> rfl
theorem CellsO.put {f H H' S d C} {c : CeL} {j : Nat} {n : Int} (h : CellsO f H S d C) (m : c ∈ C) (hj : j < c.ws.length) (hl : c.p + c.ws.length < S.ws.length) (hd : H' d = H d) (hr : H' c.r = some (.lst ((c.ws.set j n).map V.int))) (k : ∀ a ∈ C, a.r ≠ c.r → H' a.r = H a.r) :
    CellsO f H' { S with ws := S.ws.set (c.p + 1 + j) n } d (setC C c.p j n) := by
  have el : ∀ b ∈ setC C c.p j n, ∃ a ∈ C, b.p = a.p ∧ b.r = a.r ∧ b.ws.length = a.ws.length ∧ ((a = c ∧ b.ws = c.ws.set j n) ∨ (a ≠ c ∧ b = a)) := fun b mb => by
    obtain ⟨a, ma, rfl⟩ := List.mem_map.mp mb
    by_cases e : a.p = c.p
    · have ea := h.same_p ma m e
      subst ea
      rw [if_pos rfl]
      exact ⟨a, ma, rfl, rfl, List.length_set .., .inl ⟨rfl, rfl⟩⟩
    · rw [if_neg e]
      exact ⟨a, ma, rfl, rfl, rfl, .inr ⟨fun z => e (by rw [z]), rfl⟩⟩
  have pw : ∀ {R : CeL → CeL → Prop}, (∀ a b a' b' : CeL, a'.p = a.p → a'.r = a.r → a'.ws.length = a.ws.length → b'.p = b.p → b'.r = b.r → b'.ws.length = b.ws.length → R a b → R a' b') → C.Pairwise R → (setC C c.p j n).Pairwise R := fun {R} tr q => by
    refine List.pairwise_map.mpr (q.imp fun {a b} r => tr _ _ _ _ ?_ ?_ ?_ ?_ ?_ ?_ r) <;> split <;> first | rfl | exact List.length_set ..
  refine ⟨by rw [hd, setC_kvs]; exact h.dd, fun b mb => ?_, fun b mb => ?_, fun b mb i hi => ?_, fun b mb => ?_, pw (fun a b a' b' e1 e2 e3 e4 e5 e6 q => by rw [e1, e3, e4, e6]; exact q) h.dj, pw (fun a b a' b' e1 e2 e3 e4 e5 e6 q => by rw [e2, e5]; exact q) h.rd⟩
  · obtain ⟨a, ma, e1, e2, e3, ⟨rfl, e4⟩ | ⟨ne, rfl⟩⟩ := el b mb
    · rw [e2, e4]
      exact hr
    · rw [k b ma (h.apart ma m ne).2]
      exact h.rw_ b ma
  · obtain ⟨a, ma, e1, e2, e3, e4⟩ := el b mb
    obtain ⟨ag, h1, h2⟩ := h.hd a ma
    refine ⟨ag, h1, ?_⟩
    rw [e1, e3, getD_set (by omega), if_neg ?_]
    · exact h2
    · rcases e4 with ⟨rfl, -⟩ | ⟨ne, -⟩
      · omega
      · have := (h.apart ma m ne).1
        omega
  · obtain ⟨a, ma, e1, e2, e3, ⟨rfl, e4⟩ | ⟨ne, rfl⟩⟩ := el b mb
    · rw [e3] at hi
      rw [e1, e4, getD_set (by omega), getD_set hj]
      by_cases e : j = i
      · subst e
        rw [if_pos rfl, if_pos rfl]
      · rw [if_neg (by omega), if_neg e]
        exact h.sl a ma i hi
    · have := (h.apart ma m ne).1
      rw [getD_set (by omega), if_neg (by omega)]
      exact h.sl b ma i hi
  · obtain ⟨a, ma, e1, e2, e3, -⟩ := el b mb
    show b.p + b.ws.length < S.ot ∨ S.b S.fl ≤ b.p ∧ b.p + b.ws.length < S.t S.fl
    rw [e1, e3]
    exact h.ar a ma
/-- the head that a cell has -/
theorem CellsO.head {f H S d C} (h : CellsO f H S d C) {c : CeL} (m : c ∈ C) (hl : c.p + c.ws.length < S.ws.length) : ∃ k, headW S.ws (.int (c.p : Int)) = .ok c.p k ∧ k / 4 = c.ws.length ∧ k ≤ 34 := by
  obtain ⟨a, h1, h2⟩ := h.hd c m
  obtain ⟨-, h3, -⟩ := headAt_some h2
  exact ⟨_, ans_head' (by omega) h2, by omega, h3⟩
theorem getD_rangeI {ts : List Int} : (List.range ts.length).map (fun i => ts.getD i 0) = ts := by
  refine List.ext_getElem (by rw [List.length_map, List.length_range]) fun i h1 h2 => ?_
  rw [List.getElem_map, List.getElem_range, List.getD_eq_getElem?_getD, List.getElem?_eq_getElem h2]
  rfl
theorem PlAll_ints {ns : List Int} : PlAll (ns.map V.int) (ns.map PyData.int) := by
  induction ns with
  | nil => exact .nil
  | cons n r ih => exact .cons (.int n) ih
theorem eqv_nil {ns : List Int} : PyData.eqv (.list (ns.map PyData.int)) (.list []) = decide (ns = []) := by
  cases ns with
  | nil => rfl
  | cons n r => rfl
theorem r_neNil {K : PySem.W.Frag} {H : Hp} {Q : VK} {a b : Addr} {ns : List Int} (h1 : H a = some (.lst (ns.map V.int))) (h2 : H b = some (.lst [])) (q : Q (.bl (!decide (ns = []))) H) : gNe K (.ref a) (.ref b) H Q :=
  r_nePl h1 h2 PlAll_ints .nil (by rw [eqv_nil]; exact q)
theorem r_eqNil {K : PySem.W.Frag} {H : Hp} {Q : VK} {a b : Addr} {ns : List Int} (h1 : H a = some (.lst (ns.map V.int))) (h2 : H b = some (.lst [])) (q : Q (.bl (decide (ns = []))) H) : gEq K (.ref a) (.ref b) H Q :=
  r_eqPl h1 h2 PlAll_ints .nil (by rw [eqv_nil]; exact q)
/-- a word tells a number, nothing, or one of these cells -/
def ClW (C : List CeL) (w : Int) : Prop := (wordOf w).isSome = true ∧ ∀ p, wordOf w = some (.place p) → ∃ c ∈ C, p = (c.p : Int)
theorem ClW.mono {C D : List CeL} {w : Int} (h : ClW C w) (s : ∀ c ∈ C, ∃ d ∈ D, d.p = c.p) : ClW D w := ⟨h.1, fun p e => let ⟨c, m, q⟩ := h.2 p e; let ⟨d, m2, q2⟩ := s c m; ⟨d, m2, by rw [q2]; exact q⟩⟩
theorem ClW.num {C : List CeL} {n : Int} (h : (n.natAbs : Int) ≤ 1000000000000) : ClW C (2 * n) := ⟨by rw [word_num h]; rfl, fun p e => by rw [word_num h] at e; cases e⟩
theorem ClW.non {C : List CeL} : ClW C (-1) := ⟨rfl, fun p e => by cases e⟩
theorem ClW.cell {C : List CeL} {c : CeL} (m : c ∈ C) (h : c.p ≤ 9999) : ClW C (2 * (c.p : Int) + 1) := ⟨by rw [word_place (by omega) (by omega)]; rfl, fun p e => by rw [word_place (by omega) (by omega)] at e; cases e; exact ⟨c, m, rfl⟩⟩
theorem cl_word {w p : Int} (h : wordOf w = some (.place p)) : w = 2 * p + 1 := by
  unfold wordOf at h
  repeat' split at h
  all_goals first
    | (cases h; done)
    | (cases h; omega)
/-- how a row is looked up by a word -/
theorem row_of {C : List CeL} (nd : C.Pairwise fun a b => 2 * (a.p : Int) + 1 ≠ 2 * (b.p : Int) + 1) {w : Int} (h : ClW C w) : (∃ c ∈ C, w = 2 * (c.p : Int) + 1 ∧ wordOf w = some (.place c.p) ∧ valV (kvsOf (fun p => 2 * (p : Int) + 1) C) (.inl w : Key) = some (.ref c.r)) ∨ ((∀ p, wordOf w ≠ some (.place p)) ∧ valV (kvsOf (fun p => 2 * (p : Int) + 1) C) (.inl w : Key) = none) := by
  cases e : wordOf w with
  | none =>
    have h1 := h.1
    rw [e] at h1
    cases h1
  | some x =>
    have other : (∀ p, x ≠ .place p) → valV (kvsOf (fun p => 2 * (p : Int) + 1) C) (.inl w : Key) = none := fun ne => kvs_none fun c m z => by
      have : wordOf w = some (.place c.p) ∨ ∃ y, wordOf w = some y := .inr ⟨x, e⟩
      unfold wordOf at e
      repeat' split at e
      all_goals first
        | (cases e; done)
        | (cases e; omega)
        | (cases e; exact ne _ rfl)
    cases x with
    | place p =>
      obtain ⟨c, m, rfl⟩ := h.2 p e
      have := cl_word e
      exact .inl ⟨c, m, this, rfl, by rw [this]; exact kvs_some (f := fun p => 2 * (p : Int) + 1) nd m⟩
    | nothing => exact .inr ⟨(fun p z => by cases z), other (fun p z => by cases z)⟩
    | num n => exact .inr ⟨(fun p z => by cases z), other (fun p z => by cases z)⟩

/-! ## cells without a heap -/
structure CelP (S : ArS) (C : List CeL) : Prop where
  hd : ∀ c ∈ C, ∃ a, a ≤ 2 ∧ headAt (S.ws.getD c.p 0) = some (4 * c.ws.length + a)
  sl : ∀ c ∈ C, ∀ j, j < c.ws.length → S.ws.getD (c.p + 1 + j) 0 = c.ws.getD j 0
  ar : ∀ c ∈ C, c.p + c.ws.length < S.ot ∨ (S.b S.fl ≤ c.p ∧ c.p + c.ws.length < S.t S.fl)
  dj : C.Pairwise fun a b => a.p + a.ws.length < b.p ∨ b.p + b.ws.length < a.p
theorem CellsO.cp {f H S d C} (h : CellsO f H S d C) : CelP S C := ⟨h.hd, h.sl, h.ar, h.dj⟩
theorem CelP.nil {S : ArS} : CelP S [] := ⟨(fun c m => (List.not_mem_nil m).elim), (fun c m => (List.not_mem_nil m).elim), (fun c m => (List.not_mem_nil m).elim), .nil⟩
theorem CelP.lt {S C} (h : CelP S C) (e : S.ws.length = S.n + 2 * S.k) (lo : S.ot ≤ S.n) (l1 : S.t S.fl ≤ S.b S.fl + S.k) : ∀ c ∈ C, c.p + c.ws.length < S.ws.length := fun c m => by
  have hb : S.b S.fl + S.k ≤ S.n + 2 * S.k := by unfold ArS.b; split <;> omega
  rcases h.ar c m with q | q <;> omega
theorem CelP.apart {S C} (h : CelP S C) {a b : CeL} (ha : a ∈ C) (hb : b ∈ C) (ne : a ≠ b) : a.p + a.ws.length < b.p ∨ b.p + b.ws.length < a.p := pair_mem (fun _ _ q => q.symm) h.dj ha hb ne
theorem CelP.same_p {S C} (h : CelP S C) {a b : CeL} (ha : a ∈ C) (hb : b ∈ C) (e : a.p = b.p) : a = b := by
  by_cases e2 : a = b
  · exact e2
  · have := h.apart ha hb e2
    omega
theorem CelP.head {S C} (h : CelP S C) {c : CeL} (m : c ∈ C) (hl : c.p + c.ws.length < S.ws.length) : ∃ k, headW S.ws (.int (c.p : Int)) = .ok c.p k ∧ k / 4 = c.ws.length ∧ k ≤ 34 := by
  obtain ⟨a, h1, h2⟩ := h.hd c m
  obtain ⟨-, h3, -⟩ := headAt_some h2
  exact ⟨_, ans_head' (by omega) h2, by omega, h3⟩
theorem CelP.fresh {S C s old} (h : CelP S C) (lo : S.ot ≤ S.n) (lbt : S.b S.fl ≤ S.t S.fl) (fit : topA S old + (s + 1) ≤ endA S old) : ∀ c ∈ C, c.p + c.ws.length < topA S old ∨ topA S old + s < c.p := fun c m => by
  have nb : S.n ≤ S.b S.fl := by unfold ArS.b; split <;> omega
  cases old
  · show c.p + c.ws.length < S.t S.fl ∨ _
    have fit : S.t S.fl + (s + 1) ≤ S.b S.fl + S.k := fit
    rcases h.ar c m with q | q <;> omega
  · have : S.ot + (s + 1) ≤ S.n := fit
    show c.p + c.ws.length < S.ot ∨ S.ot + s < c.p
    rcases h.ar c m with q | q <;> omega
/-- a cell more -/
theorem CelP.lay {S C s old} {r : Addr} (h : CelP S C) (s8 : s ≤ 8) (ln : S.ws.length = S.n + 2 * S.k) (lo : S.ot ≤ S.n) (lb : S.b S.fl ≤ S.t S.fl) (fit : topA S old + (s + 1) ≤ endA S old) :
    CelP (laidS S old s) (C ++ [⟨topA S old, r, List.replicate s (-1)⟩]) := by
  have nb : S.n ≤ S.b S.fl := by unfold ArS.b; split <;> omega
  have hbk : S.b S.fl + S.k ≤ S.n + 2 * S.k := by unfold ArS.b; split <;> omega
  have hl : topA S old + s < S.ws.length := by
    cases old
    · have : S.t S.fl + (s + 1) ≤ S.b S.fl + S.k := fit
      show S.t S.fl + s < _
      omega
    · have : S.ot + (s + 1) ≤ S.n := fit
      show S.ot + s < _
      omega
  have off := h.fresh lo lb fit
  obtain ⟨e1, e2, e3, e4⟩ := laidS_same (S := S) (old := old) (s := s)
  have rl : (List.replicate s (-1 : Int)).length = s := List.length_replicate
  refine ⟨fun c m => ?_, fun c m j hj => ?_, fun c m => ?_, ?_⟩
  · rcases List.mem_append.mp m with m | m
    · rw [laidS_off (by rcases off c m with q | q <;> omega)]
      exact h.hd c m
    · rw [List.mem_singleton.mp m]
      refine ⟨if old then 2 else 0, by split <;> omega, ?_⟩
      rw [laidS_head s8 hl]
      show _ = some (4 * (List.replicate s (-1 : Int)).length + _)
      rw [rl]
  · rcases List.mem_append.mp m with m | m
    · rw [laidS_off (by rcases off c m with q | q <;> omega)]
      exact h.sl c m j hj
    · rw [List.mem_singleton.mp m] at hj ⊢
      have hj : j < s := by rw [← rl]; exact hj
      rw [laidS_slot hj hl]
      show _ = (List.replicate s (-1 : Int)).getD j 0
      rw [List.getD_eq_getElem?_getD, List.getElem?_replicate, if_pos hj]
      rfl
  · rw [e1, e4, laidS_ot, laidS_t]
    rcases List.mem_append.mp m with m | m
    · rcases h.ar c m with q | q
      · refine .inl ?_
        split <;> omega
      · refine .inr ⟨q.1, ?_⟩
        split <;> omega
    · rw [List.mem_singleton.mp m]
      show topA S old + (List.replicate s (-1 : Int)).length < _ ∨ S.b S.fl ≤ topA S old ∧ topA S old + (List.replicate s (-1 : Int)).length < _
      rw [rl]
      cases old
      · refine .inr ⟨lb, ?_⟩
        show S.t S.fl + s < S.t S.fl + (s + 1)
        omega
      · refine .inl ?_
        show S.ot + s < S.ot + (s + 1)
        omega
  · refine List.pairwise_append.mpr ⟨h.dj, List.pairwise_singleton _ _, fun a ha b hb => ?_⟩
    rw [List.mem_singleton.mp hb]
    show _ ∨ topA S old + (List.replicate s (-1 : Int)).length < _
    rw [rl]
    exact off a ha
/-- the words that cells take -/
def sumW (C : List CeL) : Nat := (C.map fun c => c.ws.length + 1).sum
theorem sumW_app {C : List CeL} {c : CeL} : sumW (C ++ [c]) = sumW C + (c.ws.length + 1) := by
  unfold sumW
  rw [List.map_append, List.sum_append]
  rfl
/-- the words of the cell at a place -/
def wC (C : List CeL) (x : Int) : Int := match C.find? fun c => decide ((c.p : Int) = x) with
  | some c => (c.ws.length : Int) + 1
  | none => 0
theorem wC_mem {S C} (h : CelP S C) {c : CeL} (m : c ∈ C) : wC C c.p = (c.ws.length : Int) + 1 := by
  unfold wC
  cases e : C.find? fun a => decide ((a.p : Int) = c.p) with
  | none =>
    have := List.find?_eq_none.mp e c m
    exact absurd (decide_eq_true rfl) this
  | some a =>
    have h1 := List.find?_some e
    have h2 := List.mem_of_find?_eq_some e
    rw [decide_eq_true_eq] at h1
    rw [h.same_p h2 m (by omega)]
theorem wC_ge {C : List CeL} {x : Int} : 0 ≤ wC C x := by
  unfold wC
  split <;> omega
theorem wC_sum {S C} (h : CelP S C) : (((C.map fun c => (c.p : Int))).map (wC C)).sum = (sumW C : Int) := by
  have : ∀ D : List CeL, (∀ c ∈ D, c ∈ C) → ((D.map fun c => (c.p : Int)).map (wC C)).sum = (sumW D : Int) := by
    intro D
    induction D with
    | nil => intro _; rfl
    | cons c r ih =>
      intro hm
      have e : sumW (c :: r) = (c.ws.length + 1) + sumW r := rfl
      rw [List.map_cons, List.map_cons, List.sum_cons, ih (fun c m => hm c (List.mem_cons_of_mem _ m)), wC_mem h (hm c List.mem_cons_self), e]
      omega
  exact this C fun c m => m
theorem sum_ge {w : Int → Int} (h : ∀ x, 0 ≤ w x) : ∀ xs : List Int, 0 ≤ (xs.map w).sum
  | [] => Int.le_refl _
  | x :: r => by
    rw [List.map_cons, List.sum_cons]
    have := sum_ge h r
    have := h x
    omega
theorem sum_perm {xs ys : List Int} (h : xs.Perm ys) : xs.sum = ys.sum := by
  induction h with
  | nil => rfl
  | cons x _ ih => rw [List.sum_cons, List.sum_cons, ih]
  | swap x y l => rw [List.sum_cons, List.sum_cons, List.sum_cons, List.sum_cons]; omega
  | trans _ _ h1 h2 => exact h1.trans h2
/-! ## dicts of numbers -/
def kvI (ps : List (Int × Int)) : List (Key × V) := ps.map fun p => (.inl p.1, .int p.2)
theorem kvI_none {ps : List (Int × Int)} {n : Int} (h : ∀ p ∈ ps, p.1 ≠ n) : valV (kvI ps) (.inl n : Key) = none := by
  induction ps with
  | nil => rfl
  | cons p r ih =>
    have e2 : ¬ ((.inl p.1 : Key) = .inl n) := fun z => h p (List.mem_cons_self) (Sum.inl.inj z)
    exact (valV_neg (p := ((.inl p.1 : Key), V.int p.2)) (r := kvI r) e2).trans (ih fun c m => h c (List.mem_cons_of_mem _ m))
theorem kvI_some {ps : List (Int × Int)} {p : Int × Int} (nd : ps.Pairwise fun a b => a.1 ≠ b.1) (h : p ∈ ps) : valV (kvI ps) (.inl p.1 : Key) = some (.int p.2) := by
  induction ps with
  | nil => exact (List.not_mem_nil h).elim
  | cons a r ih =>
    obtain ⟨n1, n2⟩ := List.pairwise_cons.mp nd
    rcases List.mem_cons.mp h with rfl | h
    · exact valV_pos rfl
    · have e2 : ¬ ((.inl a.1 : Key) = .inl p.1) := fun z => n1 p h (Sum.inl.inj z)
      exact (valV_neg (p := ((.inl a.1 : Key), V.int a.2)) (r := kvI r) e2).trans (ih n2 h)
theorem kvI_put {ps : List (Int × Int)} {p : Int × Int} (h : ∀ a ∈ ps, a.1 ≠ p.1) : putK (kvI ps) (.inl p.1 : Key) (.int p.2) = kvI (ps ++ [p]) := by
  unfold putK
  rw [valV_any, kvI_none h]
  show kvI ps ++ [(.inl p.1, .int p.2)] = _
  unfold kvI
  rw [List.map_append]
  rfl
theorem kvI_len {ps : List (Int × Int)} : (kvI ps).length = ps.length := List.length_map ..
theorem kvI_flat {ps : List (Int × Int)} : ∀ p ∈ kvI ps, flatB p.2 = true := fun p m => by
  obtain ⟨q, -, rfl⟩ := List.mem_map.mp m
  rfl
theorem kvI_nd {ps : List (Int × Int)} (nd : (ps.map (·.1)).Nodup) : ((kvI ps).map (·.1)).Nodup := by
  have e : (kvI ps).map (·.1) = (ps.map (·.1)).map (fun n => (.inl n : Key)) := by
    unfold kvI
    rw [List.map_map, List.map_map]
    rfl
  rw [e]
  exact List.Pairwise.map _ (fun a b h z => h (Sum.inl.inj z)) nd
theorem kvI_pw {ps : List (Int × Int)} (nd : (ps.map (·.1)).Nodup) : ps.Pairwise fun a b => a.1 ≠ b.1 := List.pairwise_map.mp nd
/-! ## where cells go -/
def goL (w : Int → Int) : Int → List Int → List (Int × Int)
  | _, [] => []
  | t, a :: r => (a, t) :: goL w (t + w a) r
theorem goL_fst {w : Int → Int} : ∀ {xs : List Int} {t : Int}, (goL w t xs).map (·.1) = xs
  | [], _ => rfl
  | a :: r, t => by
    show a :: (goL w (t + w a) r).map (·.1) = _
    rw [goL_fst]
theorem goL_app {w : Int → Int} {a : Int} : ∀ {xs : List Int} {t : Int}, goL w t (xs ++ [a]) = goL w t xs ++ [(a, t + (xs.map w).sum)]
  | [], t => by
    show [(a, t)] = [(a, t + 0)]
    rw [Int.add_zero]
  | b :: r, t => by
    show (b, t) :: goL w (t + w b) (r ++ [a]) = (b, t) :: (goL w (t + w b) r ++ [_])
    rw [goL_app, List.map_cons, List.sum_cons, Int.add_assoc]
theorem goL_len {w : Int → Int} {xs : List Int} {t : Int} : (goL w t xs).length = xs.length := by
  have := congrArg List.length (goL_fst (w := w) (xs := xs) (t := t))
  rwa [List.length_map] at this
theorem goL_at {w : Int → Int} : ∀ {xs : List Int} {t : Int} {i : Nat} {a : Int}, xs[i]? = some a → (a, t + ((xs.take i).map w).sum) ∈ goL w t xs
  | [], _, _, _, e => by cases e
  | b :: r, t, 0, a, e => by
    cases e
    rw [List.take_zero]
    show (b, t + 0) ∈ (b, t) :: _
    rw [Int.add_zero]
    exact List.mem_cons_self
  | b :: r, t, i + 1, a, e => by
    have e : r[i]? = some a := e
    have := goL_at (w := w) (t := t + w b) e
    rw [List.take_succ_cons, List.map_cons, List.sum_cons, ← Int.add_assoc]
    exact List.mem_cons_of_mem _ this
theorem go_le {w : Int → Int} : ∀ {xs : List Int} {t : Int} {i : Nat} {a : Int}, (xs.Pairwise fun a b => a + w a ≤ b) → (∀ x ∈ xs, t ≤ x) → xs[i]? = some a → t + ((xs.take i).map w).sum ≤ a
  | [], _, _, _, _, _, e => by cases e
  | b :: r, t, 0, a, _, h, e => by
    cases e
    rw [List.take_zero]
    show t + 0 ≤ b
    have := h b List.mem_cons_self
    omega
  | b :: r, t, i + 1, a, pw, h, e => by
    have e : r[i]? = some a := e
    obtain ⟨p1, p2⟩ := List.pairwise_cons.mp pw
    rw [List.take_succ_cons, List.map_cons, List.sum_cons, ← Int.add_assoc]
    refine go_le p2 (fun x m => ?_) e
    have := p1 x m
    have := h b List.mem_cons_self
    omega
/-- places of cells, rising -/
theorem CelP.rise {S C} (h : CelP S C) {xs : List Int} (so : xs.Pairwise (· ≤ ·)) (nd : xs.Nodup) (hm : ∀ x ∈ xs, ∃ c ∈ C, x = (c.p : Int)) : xs.Pairwise fun a b => a + wC C a ≤ b := by
  have pq : xs.Pairwise fun a b => a ≤ b ∧ a ≠ b := List.pairwise_and_iff.mpr ⟨so, nd⟩
  refine List.Pairwise.imp_of_mem (fun {a b} ma mb q => ?_) pq
  obtain ⟨c, mc, rfl⟩ := hm a ma
  obtain ⟨d, md, rfl⟩ := hm b mb
  rw [wC_mem h mc]
  have ne : c ≠ d := fun z => q.2 (by rw [z])
  have := h.apart mc md ne
  omega

local macro_rules | `(tactic| walk_at "w3") => `(tactic| try simp only [↓x_var0, ↓x_varS, ↓x_c, ↓x_op, ↓x_un, ↓x_cb, ↓x_nil, ↓x_cons, ↓x_test, ↓x_b, ↓x_ex, ↓x_and, ↓x_or, ↓x_not, ↓x_andV, ↓x_orV, ↓x_notV, ↓x_tif, ↓x_chain, ↓x_menu, ↓x_menuI, ↓x_lst, ↓x_tup, ↓x_dnew, ↓x_callW, ↓x_callN, ↓x_seq, ↓x_next, ↓x_ret, ↓x_retN, ↓x_drop, ↓x_ifS, ↓x_asg, ↓x_name, ↓x_raise, ↓x_fld, ↓x_setF, ↓x_meth, ↓x_make, ↓x_sub, ↓r_min, ↓r_max, ↓x_yes, ↓x_for, ↓x_lock, ↓x_keys, ↓x_cut, ↓x_lc, ↓x_rng1, ↓x_rng2, ↓x_lst1, ↓x_itup, ↓x_rng3, ↓x_three, ↓x_lstg, ↓x_tupg, ↓x_adrS, ↓x_one, ↓x_two, ↓x_adr, ↓x_sl, ↓x_np, ↓x_pt, ↓x_int, ↓x_bm, ↓x_bm0, ↓x_consg, ↓x_nilg, ↓x_dget2, ↓x_dget1, ↓x_dgetN, ↓x_dget, ↓x_din, ↓x_dni, ↓x_dput, ↓x_dpop2, ↓r_isB, ↓r_notB, ↓x_enum, ↓x_zip, ↓x_str, ↓x_strE, ↓r_inS, ↓r_ninS, wipe, List.map_cons, List.map_nil, ↓x_isT, ↓r_isiII, ↓r_isiBB, ↓r_isiIB, ↓r_isiSS, ↓r_neNS, ↓r_neSN, ↓r_neNN, ↓r_eqNS, ↓r_eqSN, ↓r_eqNN, ↓r_eqIS, ↓r_neIS, ↓r_neSI, ↓r_neBS, ↓r_eqBB, ↓r_neBB, ↓x_start, ↓x_K, ↓x_start0, ↓r_i0, ↓r_i, ↓r_u, ↓r_addI, ↓r_addS, ↓r_mulI, ↓r_mulS, ↓r_eqI, ↓r_neI, ↓r_eqS, ↓r_neS, ↓r_absI, ↓r_intI, ↓r_intB, List.length_cons, List.length_nil, List.replicate, List.set_cons_zero, List.set_cons_succ, decide_eq_true_eq, Bool.not_eq_true', decide_eq_false_iff_not, if_true, if_false, Bool.false_eq_true, Bool.true_eq_false, ite_true, ite_false, Bool.not_true, Bool.not_false, c_div, n_ten, c_pow, not_true_eq_false, not_false_eq_true, decide_true, decide_false, true_and, and_true, and_self, true_or, or_true, Int.reduceLT, Int.reduceLE, Int.reduceMul, Int.reduceAdd, Int.reduceSub, Int.reducePow, Int.reduceNeg, Int.reduceDiv, Int.reduceMod, Nat.reducePow, Int.reduceToNat, Int.reduceEq, Int.reduceNe, Nat.reduceLT, Nat.reduceLeDiff, Nat.reduceAdd, ↓x_whole, ↓x_kind, Int.natCast_one])
theorem CelP.age {S C} (h : CelP S C) {c : CeL} {a : Nat} (m : c ∈ C) (hl : c.p < S.ws.length) (ha : a ≤ 2) (h8 : c.ws.length ≤ 8) : CelP { S with ws := S.ws.set c.p (2 * ((4 * c.ws.length + a : Nat) : Int)) } C := by
  refine ⟨fun d md => ?_, fun d md j hj => ?_, h.ar, h.dj⟩
  · show ∃ a', a' ≤ 2 ∧ headAt ((S.ws.set c.p _).getD d.p 0) = _
    rw [getD_set hl]
    by_cases e : c.p = d.p
    · have := h.same_p m md e
      subst this
      rw [if_pos rfl]
      refine ⟨a, ha, ?_⟩
      unfold headAt
      rw [word_num (by omega)]
      dsimp only
      rw [if_pos (by omega), Int.toNat_natCast]
    · rw [if_neg e]
      exact h.hd d md
  · show (S.ws.set c.p _).getD (d.p + 1 + j) 0 = _
    rw [getD_set hl, if_neg ?_]
    · exact h.sl d md j hj
    · intro e
      by_cases e2 : c = d
      · subst e2
        omega
      · have := h.apart m md e2
        omega
theorem setC_mem {C : List CeL} {p j : Nat} {n : Int} {b : CeL} (m : b ∈ setC C p j n) : ∃ a ∈ C, b.p = a.p ∧ b.r = a.r ∧ b.ws.length = a.ws.length ∧ ((a.p = p ∧ b.ws = a.ws.set j n) ∨ (a.p ≠ p ∧ b = a)) := by
  obtain ⟨a, ma, rfl⟩ := List.mem_map.mp m
  by_cases e : a.p = p
  · rw [if_pos e]
    exact ⟨a, ma, rfl, rfl, List.length_set .., .inl ⟨e, rfl⟩⟩
  · rw [if_neg e]
    exact ⟨a, ma, rfl, rfl, rfl, .inr ⟨e, rfl⟩⟩
theorem setC_p {C : List CeL} {p j : Nat} {n : Int} : (setC C p j n).map (fun c => (c.p : Int)) = C.map fun c => (c.p : Int) := by
  unfold setC
  rw [List.map_map]
  congr 1
  funext c
  show ((if c.p = p then { c with ws := c.ws.set j n } else c).p : Int) = c.p
  split <;> rfl
theorem setC_len {C : List CeL} {p j : Nat} {n : Int} : (setC C p j n).length = C.length := List.length_map ..
theorem setC_at {C : List CeL} {p j i : Nat} {n : Int} {c : CeL} (h : C[i]? = some c) : ∃ d, (setC C p j n)[i]? = some d ∧ d.p = c.p ∧ d.ws.length = c.ws.length := by
  unfold setC
  rw [List.getElem?_map, h]
  refine ⟨_, rfl, ?_, ?_⟩
  · show (if c.p = p then { c with ws := c.ws.set j n } else c).p = c.p
    split <;> rfl
  · show (if c.p = p then { c with ws := c.ws.set j n } else c).ws.length = c.ws.length
    split
    · exact List.length_set ..
    · rfl
theorem CelP.put {S C} {c : CeL} {j : Nat} {n : Int} (h : CelP S C) (m : c ∈ C) (hj : j < c.ws.length) (hl : c.p + c.ws.length < S.ws.length) : CelP { S with ws := S.ws.set (c.p + 1 + j) n } (setC C c.p j n) := by
  have ap : ∀ a ∈ C, a.p ≠ c.p → a.p + a.ws.length < c.p ∨ c.p + c.ws.length < a.p := fun a ma ne => h.apart ma m fun z => ne (by rw [z])
  refine ⟨fun b mb => ?_, fun b mb i hi => ?_, fun b mb => ?_, ?_⟩
  · obtain ⟨a, ma, e1, e2, e3, e4⟩ := setC_mem mb
    show ∃ a', a' ≤ 2 ∧ headAt ((S.ws.set _ n).getD b.p 0) = _
    rw [e1, e3, getD_set (by omega), if_neg ?_]
    · exact h.hd a ma
    · rcases e4 with ⟨e4, -⟩ | ⟨ne, -⟩
      · omega
      · have := ap a ma ne
        omega
  · obtain ⟨a, ma, e1, e2, e3, e4⟩ := setC_mem mb
    show (S.ws.set _ n).getD (b.p + 1 + i) 0 = _
    rcases e4 with ⟨e4, e5⟩ | ⟨ne, rfl⟩
    · have := h.same_p ma m e4
      subst this
      rw [e3] at hi
      rw [e1, e5, getD_set (by omega), getD_set hj]
      by_cases e : j = i
      · subst e
        rw [if_pos rfl, if_pos rfl]
      · rw [if_neg (by omega), if_neg e]
        exact h.sl a ma i hi
    · have := ap b ma ne
      rw [getD_set (by omega), if_neg (by omega)]
      exact h.sl b ma i hi
  · obtain ⟨a, ma, e1, e2, e3, e4⟩ := setC_mem mb
    show b.p + b.ws.length < S.ot ∨ S.b S.fl ≤ b.p ∧ b.p + b.ws.length < S.t S.fl
    rw [e1, e3]
    exact h.ar a ma
  · unfold setC
    refine List.pairwise_map.mpr (h.dj.imp fun {a b} q => ?_)
    have f : ∀ x : CeL, (if x.p = c.p then { x with ws := x.ws.set j n } else x).p = x.p ∧ (if x.p = c.p then { x with ws := x.ws.set j n } else x).ws.length = x.ws.length := fun x => by
      split
      · exact ⟨rfl, List.length_set ..⟩
      · exact ⟨rfl, rfl⟩
    rw [(f a).1, (f a).2, (f b).1, (f b).2]
    exact q
/-- slots of a cell, the first t of them, that are due in the book -/
def dueC (n : Nat) (c : CeL) (t : Nat) : List Int := (List.range t).filterMap fun s => if 2 * (c.p : Int) + 1 < 2 * (n : Int) ∧ c.ws.getD s 0 % 2 = 1 ∧ 2 * (n : Int) < c.ws.getD s 0 then some ((c.p + 1 + s : Nat) : Int) else none
theorem dueC_succ {n : Nat} {c : CeL} {t : Nat} : dueC n c (t + 1) = dueC n c t ++ (if 2 * (c.p : Int) + 1 < 2 * (n : Int) ∧ c.ws.getD t 0 % 2 = 1 ∧ 2 * (n : Int) < c.ws.getD t 0 then [((c.p + 1 + t : Nat) : Int)] else []) := by
  unfold dueC
  rw [List.range_succ, List.filterMap_append]
  congr 1
  rw [List.filterMap_cons, List.filterMap_nil]
  by_cases h : 2 * (c.p : Int) + 1 < 2 * (n : Int) ∧ c.ws.getD t 0 % 2 = 1 ∧ 2 * (n : Int) < c.ws.getD t 0
  · rw [if_pos h, if_pos h]
  · rw [if_neg h, if_neg h]
def dueL (n : Nat) (C : List CeL) : List Int := C.flatMap fun c => dueC n c c.ws.length
theorem mem_dueC {n : Nat} {c : CeL} {t : Nat} {x : Int} : x ∈ dueC n c t ↔ ∃ s, s < t ∧ x = ((c.p + 1 + s : Nat) : Int) ∧ 2 * (c.p : Int) + 1 < 2 * (n : Int) ∧ c.ws.getD s 0 % 2 = 1 ∧ 2 * (n : Int) < c.ws.getD s 0 := by
  unfold dueC
  rw [List.mem_filterMap]
  constructor
  · rintro ⟨s, hs, e⟩
    split at e
    · cases e
      exact ⟨s, List.mem_range.mp hs, rfl, by assumption⟩
    · cases e
  · rintro ⟨s, hs, rfl, h⟩
    exact ⟨s, List.mem_range.mpr hs, by rw [if_pos h]⟩
theorem dueC_nd {n : Nat} {c : CeL} : ∀ {t : Nat}, (dueC n c t).Nodup
  | 0 => List.nodup_nil
  | t + 1 => by
    rw [dueC_succ]
    refine List.nodup_append.mpr ⟨dueC_nd, by split <;> simp, fun a ha b hb e => ?_⟩
    obtain ⟨s, hs, rfl, -⟩ := mem_dueC.mp ha
    split at hb
    · rw [List.mem_singleton.mp hb] at e
      omega
    · exact (List.not_mem_nil hb).elim
theorem dueC_len {n : Nat} {c : CeL} {t : Nat} : (dueC n c t).length ≤ t := by
  have := List.length_filterMap_le (fun s => if 2 * (c.p : Int) + 1 < 2 * (n : Int) ∧ c.ws.getD s 0 % 2 = 1 ∧ 2 * (n : Int) < c.ws.getD s 0 then some ((c.p + 1 + s : Nat) : Int) else none) (List.range t)
  rw [List.length_range] at this
  exact this
theorem mem_dueL {n : Nat} {C : List CeL} {x : Int} : x ∈ dueL n C ↔ ∃ c ∈ C, ∃ s, s < c.ws.length ∧ x = ((c.p + 1 + s : Nat) : Int) ∧ 2 * (c.p : Int) + 1 < 2 * (n : Int) ∧ c.ws.getD s 0 % 2 = 1 ∧ 2 * (n : Int) < c.ws.getD s 0 := by
  unfold dueL
  rw [List.mem_flatMap]
  exact ⟨fun ⟨c, m, h⟩ => ⟨c, m, mem_dueC.mp h⟩, fun ⟨c, m, h⟩ => ⟨c, m, mem_dueC.mpr h⟩⟩
theorem dueL_nd {n : Nat} {C : List CeL} (h : C.Pairwise fun a b => a.p + a.ws.length < b.p ∨ b.p + b.ws.length < a.p) : (dueL n C).Nodup := by
  induction C with
  | nil => exact List.nodup_nil
  | cons c r ih =>
    obtain ⟨h1, h2⟩ := List.pairwise_cons.mp h
    show (dueC n c c.ws.length ++ dueL n r).Nodup
    refine List.nodup_append.mpr ⟨dueC_nd, ih h2, fun a ha b hb e => ?_⟩
    obtain ⟨s, hs, rfl, -⟩ := mem_dueC.mp ha
    obtain ⟨d, md, s', hs', rfl, -⟩ := mem_dueL.mp hb
    have := h1 d md
    omega
theorem dueL_take {n : Nat} {C : List CeL} {i : Nat} {c : CeL} (h : C[i]? = some c) : dueL n (C.take (i + 1)) = dueL n (C.take i) ++ dueC n c c.ws.length := by
  have hi := (List.getElem?_eq_some_iff.mp h)
  obtain ⟨hl, he⟩ := hi
  rw [List.take_succ_eq_append_getElem hl]
  unfold dueL
  rw [List.flatMap_append, he]
  simp
theorem dueL_len {n : Nat} {C : List CeL} (h : ∀ c ∈ C, c.ws.length ≤ 8) : (dueL n C).length ≤ 8 * C.length := by
  induction C with
  | nil => exact Nat.le_refl _
  | cons c r ih =>
    show (dueC n c c.ws.length ++ dueL n r).length ≤ _
    rw [List.length_append, List.length_cons]
    have := dueC_len (n := n) (c := c) (t := c.ws.length)
    have := h c (List.mem_cons_self)
    have := ih fun c m => h c (List.mem_cons_of_mem _ m)
    omega
theorem rep_flat {n : Nat} : (List.replicate n [V.int (-1)]).flatten = (List.replicate n (-1 : Int)).map V.int := by
  induction n with
  | zero => rfl
  | succ n ih => rw [List.replicate_succ, List.flatten_cons, ih, List.replicate_succ]; rfl
theorem due_set {S C} (h : CelP S C) {c : CeL} {s : Nat} {w : Int} {n : Nat} (m : c ∈ C) (hs : s < c.ws.length) {x : Int} : x ∈ dueL n (setC C c.p s w) ↔ (x ∈ dueL n C ∧ x ≠ ((c.p + 1 + s : Nat) : Int)) ∨ (x = ((c.p + 1 + s : Nat) : Int) ∧ 2 * (c.p : Int) + 1 < 2 * (n : Int) ∧ w % 2 = 1 ∧ 2 * (n : Int) < w) := by
  constructor
  · intro hx
    obtain ⟨b, mb, s', hs', rfl, h1, h2, h3⟩ := mem_dueL.mp hx
    obtain ⟨a, ma, rfl⟩ := List.mem_map.mp mb
    by_cases e : a.p = c.p
    · have ea := h.same_p ma m e
      subst ea
      rw [if_pos rfl] at hs' h1 h2 h3 ⊢
      dsimp only at hs' h1 h2 h3 ⊢
      rw [List.length_set] at hs'
      rw [getD_set hs] at h2 h3
      by_cases e2 : s = s'
      · subst e2
        rw [if_pos rfl] at h2 h3
        exact .inr ⟨rfl, h1, h2, h3⟩
      · rw [if_neg e2] at h2 h3
        exact .inl ⟨mem_dueL.mpr ⟨a, ma, s', hs', rfl, h1, h2, h3⟩, by omega⟩
    · rw [if_neg e] at hs' h1 h2 h3 ⊢
      have := h.apart ma m (fun z => e (by rw [z]))
      exact .inl ⟨mem_dueL.mpr ⟨a, ma, s', hs', rfl, h1, h2, h3⟩, by omega⟩
  · rintro (⟨hx, ne⟩ | ⟨rfl, h1, h2, h3⟩)
    · obtain ⟨a, ma, s', hs', rfl, h1, h2, h3⟩ := mem_dueL.mp hx
      refine mem_dueL.mpr ⟨_, List.mem_map.mpr ⟨a, ma, rfl⟩, s', ?_⟩
      by_cases e : a.p = c.p
      · have ea := h.same_p ma m e
        subst ea
        rw [if_pos rfl]
        dsimp only
        rw [List.length_set, getD_set hs, if_neg (by omega)]
        exact ⟨hs', rfl, h1, h2, h3⟩
      · rw [if_neg e]
        exact ⟨hs', rfl, h1, h2, h3⟩
    · refine mem_dueL.mpr ⟨_, List.mem_map.mpr ⟨c, m, rfl⟩, s, ?_⟩
      rw [if_pos rfl]
      dsimp only
      rw [List.length_set, getD_set hs, if_pos rfl]
      exact ⟨hs, rfl, h1, h2, h3⟩
theorem due_lay {n : Nat} {C : List CeL} {p s : Nat} {r : Addr} {x : Int} : x ∈ dueL n (C ++ [⟨p, r, List.replicate s (-1)⟩]) ↔ x ∈ dueL n C := by
  constructor
  · intro hx
    obtain ⟨c, m, s', hs', rfl, h1, h2, h3⟩ := mem_dueL.mp hx
    rcases List.mem_append.mp m with m | m
    · exact mem_dueL.mpr ⟨c, m, s', hs', rfl, h1, h2, h3⟩
    · rw [List.mem_singleton.mp m] at hs' h3
      dsimp only at hs' h3
      rw [List.length_replicate] at hs'
      rw [List.getD_eq_getElem?_getD, List.getElem?_replicate, if_pos hs'] at h3
      have h3 : 2 * (n : Int) < -1 := h3
      omega
  · intro hx
    obtain ⟨c, m, h⟩ := mem_dueL.mp hx
    exact mem_dueL.mpr ⟨c, List.mem_append_left _ m, h⟩
theorem wd_odd {w : Int} {x : Wd} (h : wordOf w = some x) (n : ∀ p, x ≠ .place p) : ¬ (w % 2 = 1 ∧ 0 < w) := by
  unfold wordOf at h
  repeat' split at h
  all_goals first
    | (cases h; done)
    | (cases h; omega)
    | (cases h; exact absurd rfl (n _))
theorem old_is {S : ArS} {C : List CeL} (h : CelP S C) (fl : S.fl = false) (lo : S.ot ≤ S.n) {c : CeL} (m : c ∈ C) : areaW S c.p = .str "old" ↔ c.p < S.n := by
  have a := h.ar c m
  have eb : S.b S.fl = S.n := by unfold ArS.b; rw [fl]; rfl
  unfold areaW
  constructor
  · intro e
    split at e
    · omega
    · split at e <;> cases e
  · intro l
    rw [if_pos (by omega)]

/-! ## going over places -/
def addN (acc xs : List Int) : List Int := xs.foldl (fun a x => if x ∈ a then a else a ++ [x]) acc
theorem addN_nil {a : List Int} : addN a [] = a := rfl
theorem addN_cons {a xs : List Int} {x : Int} : addN a (x :: xs) = addN (if x ∈ a then a else a ++ [x]) xs := rfl
theorem addN_app {a xs ys : List Int} : addN a (xs ++ ys) = addN (addN a xs) ys := List.foldl_append ..
theorem addN_snoc {a xs : List Int} {x : Int} : addN a (xs ++ [x]) = if x ∈ addN a xs then addN a xs else addN a xs ++ [x] := by
  rw [addN_app]
  rfl
theorem addN_pre : ∀ {xs a : List Int}, ∃ t, addN a xs = a ++ t
  | [], a => ⟨[], (List.append_nil a).symm⟩
  | x :: r, a => by
    rw [addN_cons]
    split
    · exact addN_pre
    · obtain ⟨t, e⟩ := addN_pre (xs := r) (a := a ++ [x])
      exact ⟨x :: t, by rw [e, List.append_assoc]; rfl⟩
theorem addN_nd : ∀ {xs a : List Int}, a.Nodup → (addN a xs).Nodup
  | [], _, h => h
  | x :: r, a, h => by
    rw [addN_cons]
    split
    · exact addN_nd h
    · rename_i n
      refine addN_nd (List.nodup_append.mpr ⟨h, List.nodup_cons.mpr ⟨List.not_mem_nil, List.nodup_nil⟩, fun u hu v hv e => ?_⟩)
      rw [List.mem_singleton.mp hv] at e
      exact n (e ▸ hu)
theorem addN_mem : ∀ {xs a : List Int} {y : Int}, y ∈ addN a xs → y ∈ a ∨ y ∈ xs
  | [], _, _, h => .inl h
  | x :: r, a, y, h => by
    rw [addN_cons] at h
    split at h
    · rcases addN_mem h with h | h
      · exact .inl h
      · exact .inr (List.mem_cons_of_mem _ h)
    · rcases addN_mem h with h | h
      · rcases List.mem_append.mp h with h | h
        · exact .inl h
        · exact .inr (by rw [List.mem_singleton.mp h]; exact List.mem_cons_self)
      · exact .inr (List.mem_cons_of_mem _ h)
def reachR (kids : Int → List Int) : Nat → List Int → Nat → List Int
  | 0, f, _ => f
  | k + 1, f, t => if t < f.length then reachR kids k (addN f (kids (f.getD t 0))) (t + 1) else f
theorem reachR_end {kids : Int → List Int} {k : Nat} {f : List Int} {t : Nat} (h : f.length ≤ t) : reachR kids k f t = f := by
  cases k with
  | zero => rfl
  | succ k => exact if_neg (by omega)
theorem reachR_step {kids : Int → List Int} {k : Nat} {f : List Int} {t : Nat} (h : t < f.length) : reachR kids (k + 1) f t = reachR kids k (addN f (kids (f.getD t 0))) (t + 1) := if_pos h
/-- how many places can be come to -/
theorem nd_len {f U : List Int} (nd : f.Nodup) (h : ∀ x ∈ f, x ∈ U) : f.length ≤ U.length := by
  induction f generalizing U with
  | nil => exact Nat.zero_le _
  | cons x r ih =>
    obtain ⟨n1, n2⟩ := List.nodup_cons.mp nd
    have hx := h x List.mem_cons_self
    have := ih (U := U.erase x) n2 fun y m => (List.mem_erase_of_ne (fun (z : y = x) => n1 (by rw [← z]; exact m))).mpr (h y (List.mem_cons_of_mem _ m))
    rw [List.length_erase_of_mem hx] at this
    have := List.length_pos_of_mem hx
    rw [List.length_cons]
    omega
theorem reach_in {kids : Int → List Int} {U : List Int} (hk : ∀ x ∈ U, ∀ y ∈ kids x, y ∈ U) : ∀ {k : Nat} {f : List Int} {t : Nat}, (∀ x ∈ f, x ∈ U) → ∀ x ∈ reachR kids k f t, x ∈ U
  | 0, _, _, h => h
  | k + 1, f, t, h => by
    unfold reachR
    split
    · rename_i ht
      refine reach_in hk fun x m => ?_
      rcases addN_mem m with m | m
      · exact h x m
      · refine hk _ (h _ (List.mem_of_getElem? (i := t) ?_)) x m
        rw [List.getD_eq_getElem?_getD, List.getElem?_eq_getElem ht]
        rfl
    · exact h
theorem reach_nd {kids : Int → List Int} : ∀ {k : Nat} {f : List Int} {t : Nat}, f.Nodup → (reachR kids k f t).Nodup
  | 0, _, _, h => h
  | k + 1, f, t, h => by
    unfold reachR
    split
    · exact reach_nd (addN_nd h)
    · exact h
/-- the places in a row of words -/
def placeIn (w : Int) : Option Int := if 0 < w ∧ w % 2 = 1 then some (w / 2) else none
def kidsL (ws : List Int) : List Int := ws.filterMap placeIn
theorem wd_place {w : Int} {x : Wd} (h : wordOf w = some x) : placeIn w = match x with | .place p => some p | _ => none := by
  unfold wordOf at h
  unfold placeIn
  repeat' split at h
  all_goals first
    | (cases h; done)
    | (cases h; rw [if_neg (by omega)]; done)
    | (cases h; rw [if_pos (by omega)]; done)
theorem kidsT_row {ws row : List Int} {i : Nat} (hv : ∀ w ∈ row, (wordOf w).isSome = true) (h : ∀ j, j < row.length → ws.getD (i + 1 + j) 0 = row.getD j 0) : ∀ {t : Nat}, t ≤ row.length → kidsT ws i t = kidsL (row.take t)
  | 0, _ => by rw [List.take_zero]; rfl
  | t + 1, ht => by
    have ht' : t < row.length := ht
    have eg : row.getD t 0 = row[t] := by rw [List.getD_eq_getElem?_getD, List.getElem?_eq_getElem ht']; rfl
    rw [kidsT_succ, kidsT_row hv h (Nat.le_of_lt ht'), h t ht', List.take_succ_eq_append_getElem ht', eg]
    unfold kidsL
    rw [List.filterMap_append]
    congr 1
    have := hv row[t] (List.getElem_mem ht')
    cases e : wordOf row[t] with
    | none => rw [e] at this; cases this
    | some x =>
      rw [List.filterMap_cons, List.filterMap_nil, wd_place e]
      cases x <;> rfl
/-- the places in the cell at a place -/
def kC (C : List CeL) (x : Int) : List Int := match C.find? fun c => decide ((c.p : Int) = x) with
  | some c => kidsL c.ws
  | none => []
theorem kC_mem {S C} (h : CelP S C) {c : CeL} (m : c ∈ C) : kC C c.p = kidsL c.ws := by
  unfold kC
  cases e : C.find? fun a => decide ((a.p : Int) = c.p) with
  | none =>
    have := List.find?_eq_none.mp e c m
    exact absurd (decide_eq_true rfl) this
  | some a =>
    have h1 := List.find?_some e
    have h2 := List.mem_of_find?_eq_some e
    rw [decide_eq_true_eq] at h1
    rw [h.same_p h2 m (by omega)]
def plcC (C : List CeL) : List Int := C.map fun c => (c.p : Int)
theorem kC_in {S C} (h : CelP S C) (hw : ∀ c ∈ C, ∀ w ∈ c.ws, ClW C w) : ∀ x ∈ plcC C, ∀ y ∈ kC C x, y ∈ plcC C := by
  intro x hx y hy
  obtain ⟨c, m, rfl⟩ := List.mem_map.mp hx
  rw [kC_mem h m] at hy
  obtain ⟨w, mw, e⟩ := List.mem_filterMap.mp hy
  obtain ⟨h1, h2⟩ := hw c m w mw
  cases e2 : wordOf w with
  | none => rw [e2] at h1; cases h1
  | some x =>
    rw [wd_place e2] at e
    cases x with
    | place p =>
      obtain ⟨d, md, ed⟩ := h2 p e2
      cases e
      exact List.mem_map.mpr ⟨d, md, ed.symm⟩
    | _ => cases e
def reachC (C : List CeL) (ks : List Int) : List Int := reachR (kC C) C.length (addN [] ks) 0
/-- a dict of places met -/
def kvT (ps : List Int) : List (Key × V) := ps.map fun i => (.inl i, .bl true)
theorem kvT_val {ps : List Int} {i : Int} : valV (kvT ps) (.inl i : Key) = if i ∈ ps then some (.bl true) else none := by
  induction ps with
  | nil => rfl
  | cons j r ih =>
    by_cases e : j = i
    · subst e
      rw [if_pos List.mem_cons_self]
      exact valV_pos rfl
    · have e2 : ¬ ((.inl j : Key) = .inl i) := fun z => e (Sum.inl.inj z)
      refine (valV_neg (p := ((.inl j : Key), V.bl true)) (r := kvT r) e2).trans (ih.trans ?_)
      simp only [List.mem_cons, show ¬ i = j from fun z => e z.symm, false_or]
theorem kvT_put {ps : List Int} {i : Int} (h : ¬ i ∈ ps) : putK (kvT ps) (.inl i : Key) (.bl true) = kvT (ps ++ [i]) := by
  unfold putK
  rw [valV_any, kvT_val, if_neg h]
  show kvT ps ++ [(.inl i, .bl true)] = _
  unfold kvT
  rw [List.map_append]
  rfl

local macro_rules | `(tactic| walk_at "w3") => `(tactic| try simp only [↓x_var0, ↓x_varS, ↓x_c, ↓x_op, ↓x_un, ↓x_cb, ↓x_nil, ↓x_cons, ↓x_test, ↓x_b, ↓x_ex, ↓x_and, ↓x_or, ↓x_not, ↓x_andV, ↓x_orV, ↓x_notV, ↓x_tif, ↓x_chain, ↓x_menu, ↓x_menuI, ↓x_lst, ↓x_tup, ↓x_dnew, ↓x_callW, ↓x_callN, ↓x_seq, ↓x_next, ↓x_ret, ↓x_retN, ↓x_drop, ↓x_ifS, ↓x_asg, ↓x_name, ↓x_raise, ↓x_fld, ↓x_setF, ↓x_meth, ↓x_make, ↓x_sub, ↓r_min, ↓r_max, ↓x_yes, ↓x_for, ↓x_lock, ↓x_keys, ↓x_cut, ↓x_lc, ↓x_rng1, ↓x_rng2, ↓x_lst1, ↓x_itup, ↓x_rng3, ↓x_three, ↓x_lstg, ↓x_tupg, ↓x_adrS, ↓x_one, ↓x_two, ↓x_adr, ↓x_sl, ↓x_np, ↓x_pt, ↓x_int, ↓x_bm, ↓x_bm0, ↓x_consg, ↓x_nilg, ↓x_dget2, ↓x_dget1, ↓x_dgetN, ↓x_dget, ↓x_din, ↓x_dni, ↓x_dput, ↓x_dpop2, ↓r_isB, ↓r_notB, ↓x_enum, ↓x_zip, ↓x_str, ↓x_strE, ↓r_inS, ↓r_ninS, wipe, List.map_cons, List.map_nil, ↓x_isT, ↓r_isiII, ↓r_isiBB, ↓r_isiIB, ↓r_isiSS, ↓r_neNS, ↓r_neSN, ↓r_neNN, ↓r_eqNS, ↓r_eqSN, ↓r_eqNN, ↓r_eqIS, ↓r_neIS, ↓r_neSI, ↓r_neBS, ↓r_eqBB, ↓r_neBB, ↓x_start, ↓x_K, ↓x_start0, ↓r_i0, ↓r_i, ↓r_u, ↓r_addI, ↓r_addS, ↓r_mulI, ↓r_mulS, ↓r_eqI, ↓r_neI, ↓r_eqS, ↓r_neS, ↓r_absI, ↓r_intI, ↓r_intB, List.length_cons, List.length_nil, List.replicate, List.set_cons_zero, List.set_cons_succ, decide_eq_true_eq, Bool.not_eq_true', decide_eq_false_iff_not, if_true, if_false, Bool.false_eq_true, Bool.true_eq_false, ite_true, ite_false, Bool.not_true, Bool.not_false, c_div, n_ten, c_pow, not_true_eq_false, not_false_eq_true, decide_true, decide_false, true_and, and_true, and_self, true_or, or_true, Int.reduceLT, Int.reduceLE, Int.reduceMul, Int.reduceAdd, Int.reduceSub, Int.reducePow, Int.reduceNeg, Int.reduceDiv, Int.reduceMod, Nat.reducePow, Int.reduceToNat, Int.reduceEq, Int.reduceNe, Nat.reduceLT, Nat.reduceLeDiff, Nat.reduceAdd, ↓x_whole, ↓x_kind, Int.natCast_one])
/-! ## what a copy does -/
theorem cpT_at {ws : List Int} {i j : Nat} : ∀ {t u : Nat}, j + t ≤ ws.length → (cpT ws i j t).getD u 0 = if j ≤ u ∧ u < j + t then ws.getD (i + (u - j)) 0 else ws.getD u 0
  | 0, u, _ => by rw [if_neg (by omega)]; rfl
  | t + 1, u, h => by
    rw [cpT_succ, getD_set (by rw [cpT_len]; omega), cpT_at (t := t) (by omega)]
    by_cases e : j + t = u
    · rw [if_pos e, if_pos (by omega)]
      congr 1
      omega
    · rw [if_neg e]
      by_cases e2 : j ≤ u ∧ u < j + t
      · rw [if_pos e2, if_pos (by omega)]
      · rw [if_neg e2, if_neg (by omega)]
theorem cpT_vw {ws : List Int} (h : Vw ws) {i j : Nat} : ∀ {t : Nat}, i + t ≤ ws.length → Vw (cpT ws i j t)
  | 0, _ => h
  | t + 1, ht => by
    rw [cpT_succ]
    obtain ⟨w, e⟩ := h.get (show i + t < ws.length by omega)
    exact (cpT_vw h (by omega)).set (by rw [e]; rfl)

local macro_rules | `(tactic| walk_at "w3") => `(tactic| try simp only [↓x_var0, ↓x_varS, ↓x_c, ↓x_op, ↓x_un, ↓x_cb, ↓x_nil, ↓x_cons, ↓x_test, ↓x_b, ↓x_ex, ↓x_and, ↓x_or, ↓x_not, ↓x_andV, ↓x_orV, ↓x_notV, ↓x_tif, ↓x_chain, ↓x_menu, ↓x_menuI, ↓x_lst, ↓x_tup, ↓x_dnew, ↓x_callW, ↓x_callN, ↓x_seq, ↓x_next, ↓x_ret, ↓x_retN, ↓x_drop, ↓x_ifS, ↓x_asg, ↓x_name, ↓x_raise, ↓x_fld, ↓x_setF, ↓x_meth, ↓x_make, ↓x_sub, ↓r_min, ↓r_max, ↓x_yes, ↓x_for, ↓x_lock, ↓x_keys, ↓x_cut, ↓x_lc, ↓x_rng1, ↓x_rng2, ↓x_lst1, ↓x_itup, ↓x_rng3, ↓x_three, ↓x_lstg, ↓x_tupg, ↓x_adrS, ↓x_one, ↓x_two, ↓x_adr, ↓x_sl, ↓x_np, ↓x_pt, ↓x_int, ↓x_bm, ↓x_bm0, ↓x_consg, ↓x_nilg, ↓x_dget2, ↓x_dget1, ↓x_dgetN, ↓x_dget, ↓x_din, ↓x_dni, ↓x_dput, ↓x_dpop2, ↓r_isB, ↓r_notB, ↓x_enum, ↓x_zip, ↓x_str, ↓x_strE, ↓r_inS, ↓r_ninS, wipe, List.map_cons, List.map_nil, ↓x_isT, ↓r_isiII, ↓r_isiBB, ↓r_isiIB, ↓r_isiSS, ↓r_neNS, ↓r_neSN, ↓r_neNN, ↓r_eqNS, ↓r_eqSN, ↓r_eqNN, ↓r_eqIS, ↓r_neIS, ↓r_neSI, ↓r_neBS, ↓r_eqBB, ↓r_neBB, ↓x_start, ↓x_K, ↓x_start0, ↓r_i0, ↓r_i, ↓r_u, ↓r_addI, ↓r_addS, ↓r_mulI, ↓r_mulS, ↓r_eqI, ↓r_neI, ↓r_eqS, ↓r_neS, ↓r_absI, ↓r_intI, ↓r_intB, List.length_cons, List.length_nil, List.replicate, List.set_cons_zero, List.set_cons_succ, decide_eq_true_eq, Bool.not_eq_true', decide_eq_false_iff_not, if_true, if_false, Bool.false_eq_true, Bool.true_eq_false, ite_true, ite_false, Bool.not_true, Bool.not_false, c_div, n_ten, c_pow, not_true_eq_false, not_false_eq_true, decide_true, decide_false, true_and, and_true, and_self, true_or, or_true, Int.reduceLT, Int.reduceLE, Int.reduceMul, Int.reduceAdd, Int.reduceSub, Int.reducePow, Int.reduceNeg, Int.reduceDiv, Int.reduceMod, Nat.reducePow, Int.reduceToNat, Int.reduceEq, Int.reduceNe, Nat.reduceLT, Nat.reduceLeDiff, Nat.reduceAdd, ↓x_whole, ↓x_kind, Int.natCast_one, Int.natCast_one])
def sp_goals (K : PySem.W.Frag) : Sp := fun vs H Q _ => ∃ A S C a ks, vs = [.ref A.a, .ref a] ∧ ArO K H A S ∧ SqL K H a (ks.map V.int) ∧ CelP S C ∧ (∀ x ∈ ks, ∃ c ∈ C, x = (c.p : Int)) ∧ ks.Nodup ∧ ks.length ≤ 1000 ∧
  ∀ ss d H', ss.Perm ks → ss.Pairwise (· ≤ ·) → H d = none → Same H H' → H' d = some (.dK (kvI (goL (wC C) 0 ss))) → Q (.ref d) H'
section
variable {P : Program} {w : World} {K : PySem.W.Frag} {mg : Str → Option Value} {base : Heap}
theorem f_goals (T : Tx K mg) : Fn P w K mg base 7 "goals" ["areas", "kept"] (sp_goals K) := by
  have c_words_of := f_words_of (P := P) (w := w) (base := base) T
  refine T.mkFn 14 32 (d := d_goals) (N := ["areas", "kept", "found", "top", "at"]) (k := 6) rfl rfl rfl rfl rfl sc_goals (fun _ _ _ _ _ _ us hl => match us, hl with | [_, _], _ => rfl) (fun vs H Q E h => ?len) (fun cdv A outer s H vs Q E hr h => ⟨_,
      (pss_cons (ps_set (i := 2) sc_goals.nd rfl (Or.inl rfl) pe_dnewK)
        (pss_cons (ps_set (i := 3) sc_goals.nd rfl (Or.inl rfl) (pe_fldC (T.cls 92) (T.noat 101) (pe_fldC (T.cls 104) (T.noat 111) (pv 0))))
        (pss_cons (ps_for (passes_of rfl) rfl (pi_listK (K := K) rfl (pe_callB (call_sortedK (K := K) rfl) (by rfl) (T.free 67) (by decide +kernel) (pa_cons (pv 1) pa_nil))) (pg_name (i := 4) sc_goals.nd rfl (Or.inl rfl)) (pss_cons (ps_dput (hu_of hr) (pv 2) (pv 4) (pv 3) rfl)
        (pss_one (ps_set (i := 3) sc_goals.nd rfl (Or.inl rfl) (pe_op op_gAdd (pv 3) (pe_fn (takes_of rfl rfl rfl rfl) c_words_of (hr.mono (by decide)) (by rfl) (pa_cons (pe_fldC (T.cls 104) (T.noat 110) (pv 0)) (pa_cons (pv 4) pa_nil))))))))
        (pss_one (ps_ret (pv 2)))))), ?rd⟩)
  case len => obtain ⟨_, _, _, _, _, rfl, _⟩ := h; rfl
  case rd =>
    obtain ⟨A, S, C, a, ks, rfl, I, hS, cp, hm, nd, hl, q⟩ := h
    have sz : 10000 ≤ sizeLine := by rw [sizeLine_eq]; omega
    walk_at "w3"
    intro p np
    have sp := same_new (o := .dK []) np
    have I0 := I.same sp
    refine ⟨_, fldIs I0.ob, _, fldIs I0.so, a, ks, rfl, sp.seq hS, fun ss r pm so nr => ?_⟩
    have s2 := same_new (o := .lst (ss.map V.int)) nr
    have ps : upd H p (.dK []) p = some (.dK []) := upd_same
    have rs : upd (upd H p (.dK [])) r (.lst (ss.map V.int)) r = some (.lst (ss.map V.int)) := upd_same
    have ps2 := s2 _ _ ps
    have s02 := sp.trans s2
    have pr : p ≠ r := ne_of_none ps nr
    generalize upd (upd H p (.dK [])) r (.lst (ss.map V.int)) = H2 at rs ps2 s02 ⊢
    have hm' : ∀ x ∈ ss, ∃ c ∈ C, x = (c.p : Int) := fun x m => hm x (pm.mem_iff.mp m)
    have nd' : ss.Nodup := pm.nodup_iff.mpr nd
    have hl' : ss.length ≤ 1000 := by rw [pm.length_eq]; exact hl
    walk_at "w3"
    refine ⟨⟨_, .of rs⟩, forW_list (xs := ss.map V.int) (fun i σ H' => ∃ o4, σ = [some (.ref A.a), some (.ref a), some (.ref p), some (.int ((ss.take i).map (wC C)).sum), o4] ∧ H' p = some (.dK (kvI (goL (wC C) 0 (ss.take i)))) ∧ ∀ b o, b ≠ p → H2 b = some o → H' b = some o) ⟨_, rfl, ps2, fun b o _ g => g⟩ ?_ ?_ ?_⟩
    · rintro i σ H' hi ⟨o4, rfl, hp, k⟩
      exact .of (k _ _ pr.symm rs)
    · rintro i x σ H' hx ⟨o4, rfl, hp, k⟩
      obtain ⟨y, hy, rfl⟩ : ∃ y, ss[i]? = some y ∧ x = .int y := by
        rw [List.getElem?_map] at hx
        cases e : ss[i]? with
        | none => rw [e] at hx; cases hx
        | some y => rw [e] at hx; cases hx; exact ⟨y, rfl, rfl⟩
      have my := List.mem_of_getElem? hy
      obtain ⟨c, mc, ey⟩ := hm' y my
      have hi : i < ss.length := (List.getElem?_eq_some_iff.mp hy).1
      have tk : ss.take (i + 1) = ss.take i ++ [y] := by
        rw [List.take_add_one, hy]
        rfl
      have ne : ∀ q ∈ goL (wC C) 0 (ss.take i), q.1 ≠ y := fun q mq e => by
        have m1 : q.1 ∈ ss.take i := by
          have := List.mem_map_of_mem (f := (·.1)) mq
          rwa [goL_fst] at this
        have nd2 : (ss.take (i + 1)).Nodup := List.Nodup.sublist (List.take_sublist ..) nd'
        rw [tk] at nd2
        exact (List.nodup_append.mp nd2).2.2 q.1 m1 y (List.mem_singleton.mpr rfl) e
      have pk := kvI_put (p := (y, ((ss.take i).map (wC C)).sum)) ne
      rw [← Int.zero_add ((ss.take i).map (wC C)).sum, ← goL_app, ← tk] at pk
      rw [Int.zero_add] at pk
      walk_at "w3"
      have dp := dput_i (i := y) (v := .int ((ss.take i).map (wC C)).sum) hp (by rw [kvI_len, goL_len, List.length_take]; omega)
      rw [pk] at dp
      refine ⟨_, dp, ?_⟩
      have k' : ∀ b o, b ≠ p → H2 b = some o → upd H' p (.dK (kvI (goL (wC C) 0 (ss.take (i + 1))))) b = some o := fun b o h g => (upd_ne h).trans (k b o h g)
      have I3 : ArO K (upd H' p (.dK (kvI (goL (wC C) 0 (ss.take (i + 1)))))) A S := I.same fun b o g => k' b o (ne_of_none g np) (s02 _ _ g)
      have hlt := cp.lt I.ln I.lo (I.lt _).2 c mc
      obtain ⟨h, e1, e2, -⟩ := cp.head mc hlt
      refine ⟨_, fldIs I3.ob, A.m, A.mx, A.l, S.ws, _, rfl, I3.me, I3.vw, .inl ⟨_, rfl⟩, ?_⟩
      rw [ey, e1]
      dsimp only
      walk_at "w3"
      have es : ((ss.take i).map (wC C)).sum + ((h / 4 + 1 : Nat) : Int) = ((ss.take (i + 1)).map (wC C)).sum := by
        rw [tk, List.map_append, List.sum_append, e2]
        show _ = _ + (wC C y + 0)
        rw [ey, wC_mem cp mc, Int.add_zero]
        rfl
      rw [es]
      exact ⟨_, rfl, upd_same, k'⟩
    · rintro σ H' ⟨o4, rfl, hp, k⟩
      walk_at "w3"
      rw [List.length_map, List.take_length] at hp
      exact q ss p H' pm so np (fun b o g => k b o (ne_of_none g np) (s02 _ _ g)) hp
end
theorem ints_at {ns : List Int} {i : Nat} {x : V} (h : (ns.map V.int)[i]? = some x) : ∃ y, ns[i]? = some y ∧ x = .int y := by
  rw [List.getElem?_map] at h
  cases e : ns[i]? with
  | none => rw [e] at h; cases h
  | some y => rw [e] at h; cases h; exact ⟨y, rfl, rfl⟩
def sp_reached (K : PySem.W.Frag) : Sp := fun vs H Q _ => ∃ m mx l S C a ks, vs = [.ref m, .ref a] ∧ MemO K H m mx l S.ws ∧ Vw S.ws ∧ SqL K H a (ks.map V.int) ∧ CelP S C ∧ (∀ c ∈ C, c.p + c.ws.length < S.ws.length) ∧ (∀ c ∈ C, ∀ w ∈ c.ws, ClW C w) ∧ (∀ x ∈ ks, x ∈ plcC C) ∧ C.length ≤ 1000 ∧
  ∀ p H', H p = none → Same H H' → H' p = some (.lst ((reachC C ks).map V.int)) → Q (.ref p) H'
theorem plc_len {C : List CeL} : (plcC C).length = C.length := List.length_map ..
section
variable {P : Program} {w : World} {K : PySem.W.Frag} {mg : Str → Option Value} {base : Heap}
theorem f_reached (T : Tx K mg) : Fn P w K mg base 7 "reached" ["memory", "starts"] (sp_reached K) := by
  have c_children := f_children (P := P) (w := w) (base := base) T
  refine T.mkFn 13 31 (d := d_reached) (N := ["memory", "starts", "found", "met", "at", "turn"]) (k := 6) rfl rfl rfl rfl rfl sc_reached (fun _ _ _ _ _ _ us hl => match us, hl with | [_, _], _ => rfl) (fun vs H Q E h => ?len) (fun cdv A outer s H vs Q E hr h => ⟨_,
      (pss_cons (ps_set (i := 2) sc_reached.nd rfl (Or.inl rfl) (pe_lst pa_nil))
        (pss_cons (ps_set (i := 3) sc_reached.nd rfl (Or.inl rfl) pe_dnewK)
        (pss_cons (ps_for (passes_of rfl) rfl (pi_listK (K := K) rfl (pv 1)) (pg_name (i := 4) sc_reached.nd rfl (Or.inl rfl)) (pss_one (ps_if (pt_cmp (pc_dnotin (hu_of hr) (pv 4) (pv 3))) (pss_cons (ps_dput (hu_of hr) (pv 3) (pv 4) pe_bl rfl)
        (pss_one (ps_expr (pe_bm PySem.F.plainAttrs_list PySem.F.slot_list_append PySem.F.type_list_append mt_append (pv 2) (pa_cons (pv 4) pa_nil))))) pss_nil)))
        (pss_cons (ps_set (i := 5) sc_reached.nd rfl (Or.inl rfl) pe_int)
        (pss_cons (ps_while (passes_of rfl) (pt_cmpR op_lt (pv 5) (pe_callB (call_lenK (K := K) rfl) (by rfl) (T.free 64) PySem.boot_len (pa_cons (pv 2) pa_nil)) (nomark _)) (pss_cons (ps_for (passes_of rfl) rfl (pi_listK (K := K) rfl (pe_fn (takes_of rfl rfl rfl rfl) c_children (hr.mono (by decide)) (by rfl) (pa_cons (pv 0) (pa_cons (pe_ix (ix_seqK (K := K) rfl) (pv 2) (pv 5) (fun _ _ => rfl)) pa_nil)))) (pg_name (i := 4) sc_reached.nd rfl (Or.inl rfl)) (pss_one (ps_if (pt_cmp (pc_dnotin (hu_of hr) (pv 4) (pv 3))) (pss_cons (ps_dput (hu_of hr) (pv 3) (pv 4) pe_bl rfl)
        (pss_one (ps_expr (pe_bm PySem.F.plainAttrs_list PySem.F.slot_list_append PySem.F.type_list_append mt_append (pv 2) (pa_cons (pv 4) pa_nil))))) pss_nil)))
        (pss_one (ps_set (i := 5) sc_reached.nd rfl (Or.inl rfl) (pe_op op_gAdd (pv 5) pe_int)))))
        (pss_one (ps_ret (pv 2)))))))), ?rd⟩)
  case len => obtain ⟨_, _, _, _, _, _, _, rfl, _⟩ := h; rfl
  case rd =>
    obtain ⟨m, mx, l, S, C, a, ks, rfl, M, vw, hS, cp, hlt, hw, hm, hl, q⟩ := h
    have sz : 10000 ≤ sizeLine := by rw [sizeLine_eq]; omega
    walk_at "w3"
    refine ⟨by omega, fun p np e ne => ?_⟩
    have sp := same_new (o := .lst []) np
    have se := same_new (o := .dK []) ne
    have pe : p ≠ e := ne_of_none upd_same ne
    have hp0 : upd (upd H p (.lst [])) e (.dK []) p = some (.lst []) := se _ _ upd_same
    have he0 : upd (upd H p (.lst [])) e (.dK []) e = some (.dK []) := upd_same
    have neH := none_of sp ne
    have s0 := sp.trans se
    generalize upd (upd H p (.lst [])) e (.dK []) = H0 at hp0 he0 s0 ⊢
    refine ⟨⟨_, s0.seq hS⟩, ?_⟩
    have fl : ∀ {f : List Int}, f.Nodup → (∀ x ∈ f, x ∈ plcC C) → f.length ≤ C.length := fun h1 h2 => by
      have := nd_len h1 h2
      rwa [plc_len] at this
    have stepL : ∀ {o5 : Option V} {D : Ends} {f : List Int} {x : Int} {H1 : Hp}, H1 p = some (.lst (f.map V.int)) → H1 e = some (.dK (kvT f)) → f.length ≤ 1000 →
        (∀ H2, H2 p = some (.lst ((addN f [x]).map V.int)) → H2 e = some (.dK (kvT (addN f [x]))) → (∀ b o, b ≠ p → b ≠ e → H1 b = some o → H2 b = some o) → D.nx [some (.ref m), some (.ref a), some (.ref p), some (.ref e), some (.int x), o5] H2) →
        (tIfS (tB (tDNotIn (tVar 4) (tVar 3))) (tSeq (sDPut (tVar 3) (tVar 4) (tC (V.bl true))) (tDrop (tBM K "list" rAppend (tVar 2) (tCons (tVar 4) tNil)))) tNext) D [some (.ref m), some (.ref a), some (.ref p), some (.ref e), some (.int x), o5] H1 := by
      intro o5 D f x H1 h1 h2 hl qq
      walk_at "w3"
      have dg := dget_i (i := x) h2
      rw [kvT_val] at dg
      have ea : addN f [x] = if x ∈ f then f else f ++ [x] := by rw [addN_cons, addN_nil]
      rw [ea] at qq
      by_cases c : x ∈ f
      · rw [if_pos c] at dg qq
        refine ⟨_, dg, ?_⟩
        walk_at "w3"
        exact qq H1 h1 h2 fun b o _ _ g => g
      · rw [if_neg c] at dg qq
        refine ⟨_, dg, ?_⟩
        walk_at "w3"
        have dp := dput_i (i := x) (v := .bl true) h2 (by unfold kvT; rw [List.length_map]; omega)
        rw [kvT_put c] at dp
        have h1' : upd H1 e (.dK (kvT (f ++ [x]))) p = some (.lst (f.map V.int)) := (upd_ne pe).trans h1
        refine ⟨_, dp, .inl ⟨rfl, _, .of h1'⟩, p, _, _, rfl, rfl, h1', by rw [List.length_map]; omega, ?_⟩
        refine qq _ ?_ ((upd_ne pe.symm).trans upd_same) fun b o n1 n2 g => (upd_ne n1).trans ((upd_ne n2).trans g)
        rw [upd_same, List.map_append]
        rfl
    refine forW_list (xs := ks.map V.int) (fun i σ H' => ∃ o4, σ = [some (.ref m), some (.ref a), some (.ref p), some (.ref e), o4, none] ∧ H' p = some (.lst ((addN [] (ks.take i)).map V.int)) ∧ H' e = some (.dK (kvT (addN [] (ks.take i)))) ∧ Same H H') ⟨_, rfl, hp0, he0, s0⟩ ?_ ?_ ?_
    · rintro i σ H' hi ⟨o4, rfl, hp, he, s⟩
      exact s.seq hS
    · rintro i x σ H' hx ⟨o4, rfl, hp, he, s⟩
      obtain ⟨y, hy, rfl⟩ := ints_at hx
      have hmi : ∀ x ∈ addN [] (ks.take i), x ∈ plcC C := fun x mx => (addN_mem mx).elim (fun z => (List.not_mem_nil z).elim) fun z => hm x (List.mem_of_mem_take z)
      have := fl (addN_nd (xs := ks.take i) List.nodup_nil) hmi
      have tk : ks.take (i + 1) = ks.take i ++ [y] := by
        rw [List.take_add_one, hy]
        rfl
      rw [tk, addN_app]
      rw [x_name]
      refine stepL hp he (by omega) fun H2 h1 h2 k => ⟨_, rfl, h1, h2, fun b o g => k b o (ne_of_none g np) (ne_of_none g neH) (s _ _ g)⟩
    · rintro σ H' ⟨o4, rfl, hp, he, s⟩
      rw [List.length_map, List.take_length] at hp he
      walk_at "w3"
      have ndi : (addN [] ks).Nodup := addN_nd List.nodup_nil
      have hmi : ∀ x ∈ addN [] ks, x ∈ plcC C := fun x mx => (addN_mem mx).elim (fun z => (List.not_mem_nil z).elim) fun z => hm x z
      refine whW (fun k σ H' => ∃ f t o4, σ = [some (.ref m), some (.ref a), some (.ref p), some (.ref e), o4, some (.int (t : Nat))] ∧ k + t = C.length ∧ H' p = some (.lst (f.map V.int)) ∧ H' e = some (.dK (kvT f)) ∧ f.Nodup ∧ (∀ x ∈ f, x ∈ plcC C) ∧ t ≤ f.length ∧ reachR (kC C) k f t = reachC C ks ∧ Same H H') ⟨C.length, addN [] ks, 0, _, rfl, rfl, hp, he, ndi, hmi, Nat.zero_le _, rfl, s⟩ ?_
      rintro k σ H' ⟨f, t, o4, rfl, kt, hp, he, nd, hf, tl, er, s⟩
      have lf := fl nd hf
      walk_at "w3"
      refine r_lenL hp ?_
      rw [List.length_map]
      walk_at "w3"
      by_cases c : t < f.length
      · rw [if_pos (by omega)]
        refine whB ?_
        walk_at "w3"
        refine r_ixL hp (by rw [List.getElem?_map, getD_at (d := 0) c]; rfl) ?_
        have hfx : f.getD t 0 ∈ plcC C := hf _ (List.mem_of_getElem? (getD_at (d := 0) c))
        obtain ⟨ce, mc, ex⟩ := List.mem_map.mp hfx
        have er' := er
        obtain ⟨k, rfl⟩ : ∃ k', k = k' + 1 := ⟨k - 1, by omega⟩
        rw [reachR_step c] at er
        rw [← ex] at er ⊢
        obtain ⟨h, e1, e2, -⟩ := cp.head mc (hlt ce mc)
        refine ⟨m, mx, l, S.ws, _, rfl, M.same s, vw, .inl ⟨_, rfl⟩, ?_⟩
        rw [e1]
        dsimp only
        refine ⟨by have := hlt ce mc; omega, fun g H2 ng s2 hg => ?_⟩
        have ek : kidsT S.ws ce.p (h / 4) = kC C ce.p := by
          rw [kC_mem cp mc, e2, kidsT_row (row := ce.ws) (fun w mw => (hw ce mc w mw).1) (cp.sl ce mc) (Nat.le_refl _), List.take_length]
        rw [ek] at hg
        have gp : g ≠ p := (ne_of_none hp ng).symm
        have ge : g ≠ e := (ne_of_none he ng).symm
        have kin : ∀ x ∈ kC C ce.p, x ∈ plcC C := kC_in cp hw _ (List.mem_map.mpr ⟨ce, mc, rfl⟩)
        have hin : ∀ i, ∀ x ∈ addN f ((kC C ce.p).take i), x ∈ plcC C := fun i x mx => (addN_mem mx).elim (hf x) fun z => kin x (List.mem_of_mem_take z)
        walk_at "w3"
        refine ⟨⟨_, .of hg⟩, forW_list (xs := (kC C ce.p).map V.int) (fun i σ H' => ∃ o4, σ = [some (.ref m), some (.ref a), some (.ref p), some (.ref e), o4, some (.int (t : Nat))] ∧ H' p = some (.lst ((addN f ((kC C ce.p).take i)).map V.int)) ∧ H' e = some (.dK (kvT (addN f ((kC C ce.p).take i)))) ∧ Same H H' ∧ H' g = some (.lst ((kC C ce.p).map V.int))) ⟨_, rfl, s2 _ _ hp, s2 _ _ he, s.trans s2, hg⟩ ?_ ?_ ?_⟩
        · rintro i σ H3 hi ⟨o4', rfl, hp3, he3, s3, hg3⟩
          exact .of hg3
        · rintro i x σ H3 hx ⟨o4', rfl, hp3, he3, s3, hg3⟩
          obtain ⟨y, hy, rfl⟩ := ints_at hx
          have lf3 := fl (addN_nd (xs := (kC C ce.p).take i) nd) (hin i)
          have tk : (kC C ce.p).take (i + 1) = (kC C ce.p).take i ++ [y] := by
            rw [List.take_add_one, hy]
            rfl
          rw [tk, addN_app]
          rw [x_name]
          exact stepL hp3 he3 (by omega) fun H4 h1 h2 k => ⟨_, rfl, h1, h2, (fun b o z => k b o (ne_of_none z np) (ne_of_none z neH) (s3 _ _ z)), k _ _ gp ge hg3⟩
        · rintro σ H3 ⟨o4', rfl, hp3, he3, s3, hg3⟩
          rw [List.length_map, List.take_length] at hp3 he3
          have hin' := hin (kC C ce.p).length
          rw [List.take_length] at hin'
          walk_at "w3"
          refine ⟨k, by omega, addN f (kC C ce.p), t + 1, _, rfl, by omega, hp3, he3, addN_nd nd, hin', ?_, er, s3⟩
          obtain ⟨z, ez⟩ := addN_pre (xs := kC C ce.p) (a := f)
          rw [ez, List.length_append]
          omega
      · rw [if_neg (by omega)]
        rw [reachR_end (by omega)] at er
        rw [er] at hp
        exact q p H' np s hp
end

local macro_rules | `(tactic| walk_at "w3") => `(tactic| try simp only [↓x_var0, ↓x_varS, ↓x_c, ↓x_op, ↓x_un, ↓x_cb, ↓x_nil, ↓x_cons, ↓x_test, ↓x_b, ↓x_ex, ↓x_and, ↓x_or, ↓x_not, ↓x_andV, ↓x_orV, ↓x_notV, ↓x_tif, ↓x_chain, ↓x_menu, ↓x_menuI, ↓x_lst, ↓x_tup, ↓x_dnew, ↓x_callW, ↓x_callN, ↓x_seq, ↓x_next, ↓x_ret, ↓x_retN, ↓x_drop, ↓x_ifS, ↓x_asg, ↓x_name, ↓x_raise, ↓x_fld, ↓x_setF, ↓x_meth, ↓x_make, ↓x_sub, ↓r_min, ↓r_max, ↓x_yes, ↓x_for, ↓x_lock, ↓x_keys, ↓x_cut, ↓x_lc, ↓x_rng1, ↓x_rng2, ↓x_lst1, ↓x_itup, ↓x_rng3, ↓x_three, ↓x_lstg, ↓x_tupg, ↓x_adrS, ↓x_one, ↓x_two, ↓x_adr, ↓x_sl, ↓x_np, ↓x_pt, ↓x_int, ↓x_bm, ↓x_bm0, ↓x_consg, ↓x_nilg, ↓x_dget2, ↓x_dget1, ↓x_dgetN, ↓x_dget, ↓x_din, ↓x_dni, ↓x_dput, ↓x_dpop2, ↓r_isB, ↓r_notB, ↓x_enum, ↓x_zip, ↓x_str, ↓x_strE, ↓r_inS, ↓r_ninS, wipe, List.map_cons, List.map_nil, ↓x_isT, ↓r_isiII, ↓r_isiBB, ↓r_isiIB, ↓r_isiSS, ↓r_neNS, ↓r_neSN, ↓r_neNN, ↓r_eqNS, ↓r_eqSN, ↓r_eqNN, ↓r_eqIS, ↓r_neIS, ↓r_neSI, ↓r_neBS, ↓r_eqBB, ↓r_neBB, ↓x_start, ↓x_K, ↓x_start0, ↓r_i0, ↓r_i, ↓r_u, ↓r_addI, ↓r_addS, ↓r_mulI, ↓r_mulS, ↓r_eqI, ↓r_neI, ↓r_eqS, ↓r_neS, ↓r_absI, ↓r_intI, ↓r_intB, List.length_cons, List.length_nil, List.replicate, List.set_cons_zero, List.set_cons_succ, decide_eq_true_eq, Bool.not_eq_true', decide_eq_false_iff_not, if_true, if_false, Bool.false_eq_true, Bool.true_eq_false, ite_true, ite_false, Bool.not_true, Bool.not_false, c_div, n_ten, c_pow, not_true_eq_false, not_false_eq_true, decide_true, decide_false, true_and, and_true, and_self, true_or, or_true, Int.reduceLT, Int.reduceLE, Int.reduceMul, Int.reduceAdd, Int.reduceSub, Int.reducePow, Int.reduceNeg, Int.reduceDiv, Int.reduceMod, Nat.reducePow, Int.reduceToNat, Int.reduceEq, Int.reduceNe, Nat.reduceLT, Nat.reduceLeDiff, Nat.reduceAdd, ↓x_whole, ↓x_kind, Int.natCast_one, Int.natCast_one])
/-! ## what is come to: closed, and the least so -/
theorem addN_sub {xs a : List Int} {x : Int} (h : x ∈ a) : x ∈ addN a xs := by
  obtain ⟨t, e⟩ := addN_pre (xs := xs) (a := a)
  rw [e]
  exact List.mem_append_left _ h
theorem addN_all : ∀ {xs a : List Int} {x : Int}, x ∈ xs → x ∈ addN a xs
  | [], _, _, h => (List.not_mem_nil h).elim
  | y :: r, a, x, h => by
    rw [addN_cons]
    rcases List.mem_cons.mp h with rfl | h
    · split
      · rename_i c
        exact addN_sub c
      · exact addN_sub (List.mem_append_right _ (List.mem_singleton.mpr rfl))
    · exact addN_all h
theorem reach_sub {kids : Int → List Int} : ∀ {k : Nat} {f : List Int} {t : Nat} {x : Int}, x ∈ f → x ∈ reachR kids k f t
  | 0, _, _, _, h => h
  | k + 1, f, t, x, h => by
    unfold reachR
    split
    · exact reach_sub (addN_sub h)
    · exact h
theorem reach_closed {kids : Int → List Int} {U : List Int} (hk : ∀ x ∈ U, ∀ y ∈ kids x, y ∈ U) : ∀ {k : Nat} {f : List Int} {t : Nat}, f.Nodup → (∀ x ∈ f, x ∈ U) → U.length ≤ k + t → (∀ i, i < t → ∀ x, f[i]? = some x → ∀ y ∈ kids x, y ∈ f) →
    ∀ x ∈ reachR kids k f t, ∀ y ∈ kids x, y ∈ reachR kids k f t
  | 0, f, t, nd, hf, hl, hc => fun x m y my => by
    obtain ⟨i, ei⟩ := List.getElem?_of_mem m
    have h1 := (List.getElem?_eq_some_iff.mp ei).1
    have h2 : f.length ≤ U.length := nd_len nd hf
    have h1 : i < f.length := h1
    exact hc i (by omega) x ei y my
  | k + 1, f, t, nd, hf, hl, hc => by
    by_cases c : t < f.length
    · rw [reachR_step c]
      have et : f[t]? = some (f.getD t 0) := getD_at (d := 0) c
      refine reach_closed hk (addN_nd nd) (fun x m => ?_) (by omega) fun i hi x ei y my => ?_
      · rcases addN_mem m with m | m
        · exact hf x m
        · exact hk _ (hf _ (List.mem_of_getElem? et)) x m
      · obtain ⟨z, ez⟩ := addN_pre (xs := kids (f.getD t 0)) (a := f)
        have ei' : f[i]? = some x := by
          rw [ez, List.getElem?_append, if_pos (by omega)] at ei
          exact ei
        by_cases q : i = t
        · subst q
          rw [et] at ei'
          cases ei'
          exact addN_all my
        · exact addN_sub (hc i (by omega) x ei' y my)
    · rw [reachR_end (by omega)]
      intro x m y my
      obtain ⟨i, ei⟩ := List.getElem?_of_mem m
      have h1 := (List.getElem?_eq_some_iff.mp ei).1
      exact hc i (by omega) x ei y my
theorem reach_min {kids : Int → List Int} {p : Int → Prop} (hk : ∀ x, p x → ∀ y ∈ kids x, p y) : ∀ {k : Nat} {f : List Int} {t : Nat}, (∀ x ∈ f, p x) → ∀ x ∈ reachR kids k f t, p x
  | 0, _, _, h => h
  | k + 1, f, t, h => by
    unfold reachR
    split
    · rename_i c
      refine reach_min hk fun x m => ?_
      rcases addN_mem m with m | m
      · exact h x m
      · exact hk _ (h _ (List.mem_of_getElem? (getD_at (d := 0) c))) x m
    · exact h
/-- the cells come to -/
structure ReC (C : List CeL) (ks kept : List Int) : Prop where
  nd : kept.Nodup
  cl : ∀ x ∈ kept, ∃ c ∈ C, x = (c.p : Int)
  st : ∀ x ∈ ks, x ∈ kept
  kd : ∀ c ∈ C, (c.p : Int) ∈ kept → ∀ y ∈ kidsL c.ws, y ∈ kept
  mn : ∀ p : Int → Prop, (∀ x ∈ ks, p x) → (∀ c ∈ C, p c.p → ∀ y ∈ kidsL c.ws, p y) → ∀ x ∈ kept, p x
theorem reachC_is {S : ArS} {C : List CeL} {ks : List Int} (h : CelP S C) (hw : ∀ c ∈ C, ∀ w ∈ c.ws, ClW C w) (hk : ∀ x ∈ ks, x ∈ plcC C) : ReC C ks (reachC C ks) := by
  have kin := kC_in h hw
  have i0 : ∀ x ∈ addN [] ks, x ∈ plcC C := fun x m => (addN_mem m).elim (fun z => (List.not_mem_nil z).elim) (hk x)
  have n0 : (addN [] ks).Nodup := addN_nd List.nodup_nil
  have sub := reach_in kin (k := C.length) (t := 0) i0
  refine ⟨reach_nd n0, fun x m => ?_, fun x m => reach_sub (addN_all m), fun c mc m y my => ?_, fun p h1 h2 x m => ?_⟩
  · obtain ⟨c, mc, e⟩ := List.mem_map.mp (sub x m)
    exact ⟨c, mc, e.symm⟩
  · refine reach_closed kin n0 i0 (by unfold plcC; rw [List.length_map]; omega) (fun i hi => absurd hi (Nat.not_lt_zero i)) _ m y ?_
    rw [kC_mem h mc]
    exact my
  · refine (reach_min (kids := kC C) (p := fun x => p x ∧ x ∈ plcC C) (fun x hx y my => ?_) (fun x m => ?_) x m).1
    · obtain ⟨c, mc, e⟩ := List.mem_map.mp hx.2
      have e : (c.p : Int) = x := e
      subst e
      rw [kC_mem h mc] at my
      exact ⟨h2 c mc hx.1 y my, kin _ hx.2 y (by rw [kC_mem h mc]; exact my)⟩
    · rcases addN_mem m with m | m
      · exact (List.not_mem_nil m).elim
      · exact ⟨h1 x m, hk x m⟩
theorem kids_place {w : Int} {x : Wd} (h : wordOf w = some x) {y : Int} : placeIn w = some y ↔ wordOf w = some (.place y) := by
  have e := wd_place h
  cases x with
  | place p =>
    have e : placeIn w = some p := e
    rw [e, h]
    exact ⟨fun z => (by cases z; rfl), fun z => (by cases z; rfl)⟩
  | num p =>
    have e : placeIn w = none := e
    rw [e, h]
    exact ⟨fun z => (by cases z), fun z => (by cases z)⟩
  | nothing =>
    have e : placeIn w = none := e
    rw [e, h]
    exact ⟨fun z => (by cases z), fun z => (by cases z)⟩

local macro_rules | `(tactic| walk_at "w3") => `(tactic| try simp only [↓x_var0, ↓x_varS, ↓x_c, ↓x_op, ↓x_un, ↓x_cb, ↓x_nil, ↓x_cons, ↓x_test, ↓x_b, ↓x_ex, ↓x_and, ↓x_or, ↓x_not, ↓x_andV, ↓x_orV, ↓x_notV, ↓x_tif, ↓x_chain, ↓x_menu, ↓x_menuI, ↓x_lst, ↓x_tup, ↓x_dnew, ↓x_callW, ↓x_callN, ↓x_seq, ↓x_next, ↓x_ret, ↓x_retN, ↓x_drop, ↓x_ifS, ↓x_asg, ↓x_name, ↓x_raise, ↓x_fld, ↓x_setF, ↓x_meth, ↓x_make, ↓x_sub, ↓r_min, ↓r_max, ↓x_yes, ↓x_for, ↓x_lock, ↓x_keys, ↓x_cut, ↓x_lc, ↓x_rng1, ↓x_rng2, ↓x_lst1, ↓x_itup, ↓x_rng3, ↓x_three, ↓x_lstg, ↓x_tupg, ↓x_adrS, ↓x_one, ↓x_two, ↓x_adr, ↓x_sl, ↓x_np, ↓x_pt, ↓x_int, ↓x_bm, ↓x_bm0, ↓x_consg, ↓x_nilg, ↓x_dget2, ↓x_dget1, ↓x_dgetN, ↓x_dget, ↓x_din, ↓x_dni, ↓x_dput, ↓x_dpop2, ↓r_isB, ↓r_notB, ↓x_enum, ↓x_zip, ↓x_str, ↓x_strE, ↓r_inS, ↓r_ninS, wipe, List.map_cons, List.map_nil, ↓x_isT, ↓r_isiII, ↓r_isiBB, ↓r_isiIB, ↓r_isiSS, ↓r_neNS, ↓r_neSN, ↓r_neNN, ↓r_eqNS, ↓r_eqSN, ↓r_eqNN, ↓r_eqIS, ↓r_neIS, ↓r_neSI, ↓r_neBS, ↓r_eqBB, ↓r_neBB, ↓x_start, ↓x_K, ↓x_start0, ↓r_i0, ↓r_i, ↓r_u, ↓r_addI, ↓r_addS, ↓r_mulI, ↓r_mulS, ↓r_eqI, ↓r_neI, ↓r_eqS, ↓r_neS, ↓r_absI, ↓r_intI, ↓r_intB, List.length_cons, List.length_nil, List.replicate, List.set_cons_zero, List.set_cons_succ, decide_eq_true_eq, Bool.not_eq_true', decide_eq_false_iff_not, if_true, if_false, Bool.false_eq_true, Bool.true_eq_false, ite_true, ite_false, Bool.not_true, Bool.not_false, c_div, n_ten, c_pow, not_true_eq_false, not_false_eq_true, decide_true, decide_false, true_and, and_true, and_self, true_or, or_true, Int.reduceLT, Int.reduceLE, Int.reduceMul, Int.reduceAdd, Int.reduceSub, Int.reducePow, Int.reduceNeg, Int.reduceDiv, Int.reduceMod, Nat.reducePow, Int.reduceToNat, Int.reduceEq, Int.reduceNe, Nat.reduceLT, Nat.reduceLeDiff, Nat.reduceAdd, ↓x_whole, ↓x_kind, Int.natCast_one, Int.natCast_one])
/-! ## rows that are gone through from the left -/
def mapT {α : Type} (f : α → α) (xs : List α) (t : Nat) : List α := (xs.take t).map f ++ xs.drop t
section
variable {α : Type} {f : α → α} {xs : List α} {t j : Nat} {x : α}
theorem mapT_zero : mapT f xs 0 = xs := rfl
theorem mapT_all (h : xs.length ≤ t) : mapT f xs t = xs.map f := by
  unfold mapT
  rw [List.take_of_length_le h, List.drop_of_length_le h, List.append_nil]
theorem mapT_len : (mapT f xs t).length = xs.length := by
  unfold mapT
  rw [List.length_append, List.length_map, List.length_take, List.length_drop]
  omega
theorem mapT_get (h : t ≤ j) : (mapT f xs t)[j]? = xs[j]? := by
  unfold mapT
  rw [List.getElem?_append]
  have hl : ((xs.take t).map f).length = min t xs.length := by rw [List.length_map, List.length_take]
  rw [hl]
  by_cases c : j < min t xs.length
  · omega
  · rw [if_neg c, List.getElem?_drop]
    by_cases d : j < xs.length
    · congr 1
      omega
    · rw [List.getElem?_eq_none (by omega), List.getElem?_eq_none (by omega)]
theorem mapT_done (h : j < t) : (mapT f xs t)[j]? = (xs[j]?).map f := by
  unfold mapT
  rw [List.getElem?_append]
  have hl : ((xs.take t).map f).length = min t xs.length := by rw [List.length_map, List.length_take]
  rw [hl]
  by_cases c : j < min t xs.length
  · rw [if_pos c, List.getElem?_map, List.getElem?_take, if_pos h]
  · rw [if_neg c, List.getElem?_drop, List.getElem?_eq_none (by omega), List.getElem?_eq_none (by omega)]
    rfl
theorem mapT_set (h : xs[t]? = some x) : (mapT f xs t).set t (f x) = mapT f xs (t + 1) := by
  obtain ⟨ht, e⟩ := List.getElem?_eq_some_iff.mp h
  refine List.ext_getElem? fun j => ?_
  rw [List.getElem?_set]
  by_cases c : t = j
  · subst c
    rw [if_pos rfl, if_pos (by rw [mapT_len]; exact ht), mapT_done (Nat.lt_succ_self _), h]
    rfl
  · rw [if_neg c]
    by_cases d : j < t
    · rw [mapT_done d, mapT_done (by omega)]
    · rw [mapT_get (by omega), mapT_get (by omega)]
theorem mapT_skip (h : xs[t]? = some x) (e : f x = x) : mapT f xs (t + 1) = mapT f xs t := by
  rw [← mapT_set h, e]
  refine List.ext_getElem? fun j => ?_
  rw [List.getElem?_set]
  by_cases c : t = j
  · subst c
    obtain ⟨ht, -⟩ := List.getElem?_eq_some_iff.mp h
    rw [if_pos rfl, if_pos (by rw [mapT_len]; exact ht), mapT_get (Nat.le_refl _), h]
  · rw [if_neg c]
end
/-! ## words, names and tickets that go along -/
def turnW (f : Int → Int) (w : Int) : Int := match placeIn w with
  | some p => 2 * f p + 1
  | none => w
def nmG (g : Int → Option Int) : V → V
  | .int p => match g p with
    | some q => .int q
    | none => .non
  | v => v
def tkG (g : Int → Option Int) : Option (Int × Int) → Option (Int × Int)
  | some (p, n) => (g p).map fun q => (q, n)
  | none => none
def sdG (g : Int → Option Int) : Option (Int × Int) → List Int
  | some (p, n) => if (g p).isSome then [] else [n]
  | none => []
def saidG (g : Int → Option Int) (ws : List (Option (Int × Int))) : List Int := ws.flatMap (sdG g)
theorem saidG_snoc {g : Int → Option Int} {ws : List (Option (Int × Int))} {t : Nat} {x : Option (Int × Int)} (h : ws[t]? = some x) : saidG g (ws.take (t + 1)) = saidG g (ws.take t) ++ sdG g x := by
  unfold saidG
  rw [List.take_add_one, h, List.flatMap_append]
  congr 1
  show sdG g x ++ [] = _
  rw [List.append_nil]
theorem pairs_step {g : Int → Option Int} {ts : List V} (fl : ∀ t ∈ ts, flatN t = true) {xs : List V} {rest : List (List V)} : ∀ {k m : Nat}, ts.length - m ≤ k → pairsOf m (ts.drop m) = xs :: rest →
    ∃ a, ∃ p : Int, m ≤ a ∧ a < ts.length ∧ xs = [.int (a : Int), .int p] ∧ ts[a]? = some (.int p) ∧ rest = pairsOf (a + 1) (ts.drop (a + 1)) ∧ mapT (nmG g) ts a = mapT (nmG g) ts m := by
  intro k
  induction k with
  | zero =>
    intro m h e
    rw [List.drop_of_length_le (by omega)] at e
    cases e
  | succ k ih =>
    intro m h e
    by_cases c : m < ts.length
    · have em : ts[m]? = some ts[m] := List.getElem?_eq_getElem c
      rw [List.drop_eq_getElem_cons c] at e
      have e : (if ts[m] = .non then pairsOf (m + 1) (ts.drop (m + 1)) else [.int (m : Int), ts[m]] :: pairsOf (m + 1) (ts.drop (m + 1))) = xs :: rest := e
      by_cases n : ts[m] = .non
      · rw [if_pos n] at e
        obtain ⟨a, p, h1, h2, h3, h4, h5, h6⟩ := ih (by omega) e
        refine ⟨a, p, by omega, h2, h3, h4, h5, h6.trans (mapT_skip em ?_)⟩
        rw [n]
        rfl
      · rw [if_neg n] at e
        have f := fl _ (List.getElem_mem c)
        cases ev : ts[m] with
        | int p =>
          rw [ev] at e
          cases e
          exact ⟨m, p, Nat.le_refl _, c, rfl, by rw [em, ev], rfl, rfl⟩
        | non => exact absurd ev n
        | _ => rw [ev] at f; cases f
    · rw [List.drop_of_length_le (by omega)] at e
      cases e
theorem pairs_end {g : Int → Option Int} {ts : List V} (fl : ∀ t ∈ ts, flatN t = true) : ∀ {k m : Nat}, ts.length - m ≤ k → pairsOf m (ts.drop m) = [] → mapT (nmG g) ts m = ts.map (nmG g) := by
  intro k
  induction k with
  | zero =>
    intro m h e
    exact mapT_all (by omega)
  | succ k ih =>
    intro m h e
    by_cases c : m < ts.length
    · have em : ts[m]? = some ts[m] := List.getElem?_eq_getElem c
      rw [List.drop_eq_getElem_cons c] at e
      have e : (if ts[m] = .non then pairsOf (m + 1) (ts.drop (m + 1)) else [.int (m : Int), ts[m]] :: pairsOf (m + 1) (ts.drop (m + 1))) = [] := e
      by_cases n : ts[m] = .non
      · rw [if_pos n] at e
        rw [← ih (by omega) e]
        exact (mapT_skip em (by rw [n]; rfl)).symm
      · rw [if_neg n] at e
        cases e
    · exact mapT_all (by omega)
theorem pend_step {g : Int → Option Int} {ws : List (Option (Int × Int))} {xs : List V} {rest : List (List V)} : ∀ {k m : Nat}, ws.length - m ≤ k → pendOf m (ws.drop m) = xs :: rest →
    ∃ a, ∃ p n : Int, m ≤ a ∧ a < ws.length ∧ xs = [.int (a : Int), .int p, .int n] ∧ ws[a]? = some (some (p, n)) ∧ rest = pendOf (a + 1) (ws.drop (a + 1)) ∧ mapT (tkG g) ws a = mapT (tkG g) ws m ∧ saidG g (ws.take a) = saidG g (ws.take m) := by
  intro k
  induction k with
  | zero =>
    intro m h e
    rw [List.drop_of_length_le (by omega)] at e
    cases e
  | succ k ih =>
    intro m h e
    by_cases c : m < ws.length
    · have em : ws[m]? = some ws[m] := List.getElem?_eq_getElem c
      rw [List.drop_eq_getElem_cons c] at e
      cases ev : ws[m] with
      | none =>
        rw [ev] at e em
        obtain ⟨a, p, n, h1, h2, h3, h4, h5, h6, h7⟩ := ih (m := m + 1) (by omega) e
        refine ⟨a, p, n, by omega, h2, h3, h4, h5, h6.trans (mapT_skip em rfl), h7.trans ?_⟩
        rw [saidG_snoc em]
        exact List.append_nil _
      | some q =>
        rw [ev] at e em
        cases e
        exact ⟨m, q.1, q.2, Nat.le_refl _, c, rfl, em, rfl, rfl, rfl⟩
    · rw [List.drop_of_length_le (by omega)] at e
      cases e
theorem pend_end {g : Int → Option Int} {ws : List (Option (Int × Int))} : ∀ {k m : Nat}, ws.length - m ≤ k → pendOf m (ws.drop m) = [] → mapT (tkG g) ws m = ws.map (tkG g) ∧ saidG g (ws.take m) = saidG g ws := by
  intro k
  induction k with
  | zero =>
    intro m h e
    exact ⟨mapT_all (by omega), by rw [List.take_of_length_le (by omega)]⟩
  | succ k ih =>
    intro m h e
    by_cases c : m < ws.length
    · have em : ws[m]? = some ws[m] := List.getElem?_eq_getElem c
      rw [List.drop_eq_getElem_cons c] at e
      cases ev : ws[m] with
      | none =>
        rw [ev] at e em
        obtain ⟨h1, h2⟩ := ih (m := m + 1) (by omega) e
        rw [← h1, ← h2, saidG_snoc em]
        exact ⟨(mapT_skip em rfl).symm, (List.append_nil _).symm⟩
      | some q =>
        rw [ev] at e
        cases e
    · exact ⟨mapT_all (by omega), by rw [List.take_of_length_le (by omega)]⟩
theorem said_len {g : Int → Option Int} : ∀ {ws : List (Option (Int × Int))}, (saidG g ws).length ≤ ws.length
  | [] => Nat.le_refl _
  | x :: r => by
    show (sdG g x ++ saidG g r).length ≤ r.length + 1
    have := said_len (g := g) (ws := r)
    rw [List.length_append]
    have : (sdG g x).length ≤ 1 := by
      cases x with
      | none => exact Nat.zero_le _
      | some q =>
        show (if (g q.1).isSome then [] else [q.2]).length ≤ 1
        split
        · exact Nat.zero_le _
        · exact Nat.le_refl _
    omega
theorem turnW_place {f : Int → Int} {w p : Int} (h : wordOf w = some (.place p)) : turnW f w = 2 * f p + 1 := by
  unfold turnW
  rw [wd_place h]
theorem turnW_other {f : Int → Int} {w : Int} {x : Wd} (h : wordOf w = some x) (n : ∀ p, x ≠ .place p) : turnW f w = w := by
  unfold turnW
  rw [wd_place h]
  cases x with
  | place p => exact absurd rfl (n p)
  | _ => rfl
/-! ## cells whose slots are gone through, each as far as told -/
def tC (f : Int → Int) (n : Nat → Nat) (C : List CeL) : List CeL := C.map fun c => { c with ws := mapT (turnW f) c.ws (n c.p) }
theorem tC_zero {f : Int → Int} {C : List CeL} : tC f (fun _ => 0) C = C := by
  unfold tC
  exact List.map_id' C
theorem tC_cong {f : Int → Int} {n m : Nat → Nat} {C : List CeL} (h : ∀ c ∈ C, mapT (turnW f) c.ws (n c.p) = mapT (turnW f) c.ws (m c.p)) : tC f n C = tC f m C := by
  unfold tC
  exact List.map_congr_left fun c mc => by rw [h c mc]
theorem tC_mem {f : Int → Int} {n : Nat → Nat} {C : List CeL} {b : CeL} (m : b ∈ tC f n C) : ∃ c ∈ C, b.p = c.p ∧ b.ws = mapT (turnW f) c.ws (n c.p) := by
  obtain ⟨c, mc, rfl⟩ := List.mem_map.mp m
  exact ⟨c, mc, rfl, rfl⟩
theorem tC_set {f : Int → Int} {n : Nat → Nat} {C : List CeL} {p j : Nat} {w : Int} (hp : n p = j) (h : ∀ c ∈ C, c.p = p → c.ws[j]? = some w) : setC (tC f n C) p j (turnW f w) = tC f (fun q => if q = p then j + 1 else n q) C := by
  unfold setC tC
  rw [List.map_map]
  refine List.map_congr_left fun c mc => ?_
  show (if c.p = p then ({ p := c.p, r := c.r, ws := (mapT (turnW f) c.ws (n c.p)).set j (turnW f w) } : CeL) else { p := c.p, r := c.r, ws := mapT (turnW f) c.ws (n c.p) }) = ({ p := c.p, r := c.r, ws := mapT (turnW f) c.ws (if c.p = p then j + 1 else n c.p) } : CeL)
  by_cases e : c.p = p
  · rw [if_pos e, if_pos e]
    congr 1
    rw [e, hp]
    exact mapT_set (h c mc e)
  · rw [if_neg e, if_neg e]
theorem tups_get {H : Hp} {rs : List V} {yss : List (List V)} (h : TupAll H rs yss) : ∀ {i : Nat} {x : V}, rs[i]? = some x → ∃ tp xs, x = .ref tp ∧ H tp = some (.tup xs) ∧ yss[i]? = some xs := by
  induction h with
  | nil => exact fun e => by cases e
  | cons h f t ih =>
    intro i x e
    cases i with
    | zero => cases e; exact ⟨_, _, rfl, h, rfl⟩
    | succ i => exact ih e

local macro_rules | `(tactic| walk_at "w3") => `(tactic| try simp only [↓x_var0, ↓x_varS, ↓x_c, ↓x_op, ↓x_un, ↓x_cb, ↓x_nil, ↓x_cons, ↓x_test, ↓x_b, ↓x_ex, ↓x_and, ↓x_or, ↓x_not, ↓x_andV, ↓x_orV, ↓x_notV, ↓x_tif, ↓x_chain, ↓x_menu, ↓x_menuI, ↓x_lst, ↓x_tup, ↓x_dnew, ↓x_callW, ↓x_callN, ↓x_seq, ↓x_next, ↓x_ret, ↓x_retN, ↓x_drop, ↓x_ifS, ↓x_asg, ↓x_name, ↓x_raise, ↓x_fld, ↓x_setF, ↓x_meth, ↓x_make, ↓x_sub, ↓r_min, ↓r_max, ↓x_yes, ↓x_for, ↓x_lock, ↓x_keys, ↓x_cut, ↓x_lc, ↓x_rng1, ↓x_rng2, ↓x_lst1, ↓x_itup, ↓x_rng3, ↓x_three, ↓x_lstg, ↓x_tupg, ↓x_adrS, ↓x_one, ↓x_two, ↓x_adr, ↓x_sl, ↓x_np, ↓x_pt, ↓x_int, ↓x_bm, ↓x_bm0, ↓x_consg, ↓x_nilg, ↓x_dget2, ↓x_dget1, ↓x_dgetN, ↓x_dget, ↓x_din, ↓x_dni, ↓x_dput, ↓x_dpop2, ↓r_isB, ↓r_notB, ↓x_enum, ↓x_zip, ↓x_str, ↓x_strE, ↓r_inS, ↓r_ninS, wipe, List.map_cons, List.map_nil, ↓x_isT, ↓r_isiII, ↓r_isiBB, ↓r_isiIB, ↓r_isiSS, ↓r_neNS, ↓r_neSN, ↓r_neNN, ↓r_eqNS, ↓r_eqSN, ↓r_eqNN, ↓r_eqIS, ↓r_neIS, ↓r_neSI, ↓r_neBS, ↓r_eqBB, ↓r_neBB, ↓x_start, ↓x_K, ↓x_start0, ↓r_i0, ↓r_i, ↓r_u, ↓r_addI, ↓r_addS, ↓r_mulI, ↓r_mulS, ↓r_eqI, ↓r_neI, ↓r_eqS, ↓r_neS, ↓r_absI, ↓r_intI, ↓r_intB, List.length_cons, List.length_nil, List.replicate, List.set_cons_zero, List.set_cons_succ, decide_eq_true_eq, Bool.not_eq_true', decide_eq_false_iff_not, if_true, if_false, Bool.false_eq_true, Bool.true_eq_false, ite_true, ite_false, Bool.not_true, Bool.not_false, c_div, n_ten, c_pow, not_true_eq_false, not_false_eq_true, decide_true, decide_false, true_and, and_true, and_self, true_or, or_true, Int.reduceLT, Int.reduceLE, Int.reduceMul, Int.reduceAdd, Int.reduceSub, Int.reducePow, Int.reduceNeg, Int.reduceDiv, Int.reduceMod, Nat.reducePow, Int.reduceToNat, Int.reduceEq, Int.reduceNe, Nat.reduceLT, Nat.reduceLeDiff, Nat.reduceAdd, ↓x_whole, ↓x_kind, Int.natCast_one, Int.natCast_one])
/-! ## areas and roots -/
structure PairO (K : PySem.W.Frag) (H : Hp) (A : ArA) (R : RoA) (S : ArS) (U : RoS) : Prop where
  ar : ArO K H A S
  ro : RootO K H R U
  m1 : A.l ≠ R.hl
  m2 : A.l ≠ R.wl
  m3 : A.l ≠ R.d
  m4 : A.l ≠ R.e
section
variable {K : PySem.W.Frag} {H H' : Hp} {A : ArA} {R : RoA} {S S' : ArS} {U : RoS}
theorem PairO.same (h : PairO K H A R S U) (s : Same H H') : PairO K H' A R S U := { h with ar := h.ar.same s, ro := h.ro.same s }
/-- all but what areas and roots hold stays -/
def Kc (A : ArA) (R : RoA) (bd : Addr) (H H' : Hp) : Prop := ∀ b o, b ≠ A.a → b ≠ A.l → b ≠ A.o → b ≠ A.p → b ≠ A.q → b ≠ R.hl → b ≠ R.wl → b ≠ R.d → b ≠ R.e → b ≠ R.b → b ≠ bd → H b = some o → H' b = some o
theorem fs_ne {C D dx ex : Addr} {fs gs : List (Str × V)} (h : fs.map Prod.fst ≠ gs.map Prod.fst) : HO.ins C dx fs ≠ .ins D ex gs := fun z => h (by rw [(HO.ins.inj z).2.2])
theorem RootO.frP (h : RootO K H R U) (k : ∀ b o, (b = R.r ∨ b = R.h ∨ b = R.hl ∨ b = R.b ∨ b = U.bd ∨ b = R.w ∨ b = R.wl ∨ b = R.la ∨ b = R.d ∨ b = R.e) → H b = some o → H' b = some o) (kt : ∀ c xs, H c = some (.tup xs) → H' c = some (.tup xs)) : RootO K H' R U :=
  { h with ob := k _ _ (.inl rfl) h.ob, ho := ⟨k _ _ (.inr (.inl rfl)) h.ho.ob, k _ _ (.inr (.inr (.inl rfl))) h.ho.ls, h.ho.vw, h.ho.sz⟩, bo := ⟨k _ _ (.inr (.inr (.inr (.inl rfl)))) h.bo.ob, k _ _ (.inr (.inr (.inr (.inr (.inl rfl))))) h.bo.ds, h.bo.nd⟩, wo := ⟨k _ _ (.inr (.inr (.inr (.inr (.inr (.inl rfl)))))) h.wo.ob, k _ _ (.inr (.inr (.inr (.inr (.inr (.inr (.inl rfl))))))) h.wo.ls⟩, lo := ⟨k _ _ (.inr (.inr (.inr (.inr (.inr (.inr (.inr (.inl rfl)))))))) h.lo.ob, k _ _ (.inr (.inr (.inr (.inr (.inr (.inr (.inr (.inr (.inl rfl))))))))) h.lo.wa, h.lo.wt.fr kt, k _ _ (.inr (.inr (.inr (.inr (.inr (.inr (.inr (.inr (.inr rfl))))))))) h.lo.sk, h.lo.de⟩ }
theorem ArO.frP (h : ArO K H A S) (k : ∀ b o, (b = A.a ∨ b = A.m ∨ b = A.l ∨ b = A.o ∨ b = A.p ∨ b = A.q) → H b = some o → H' b = some o) : ArO K H' A S :=
  { h with ob := k _ _ (.inl rfl) h.ob, me := ⟨k _ _ (.inr (.inl rfl)) h.me.ob, k _ _ (.inr (.inr (.inl rfl))) h.me.ls, h.me.sz⟩, so := k _ _ (.inr (.inr (.inr (.inl rfl)))) h.so, sp := k _ _ (.inr (.inr (.inr (.inr (.inl rfl))))) h.sp, sq := k _ _ (.inr (.inr (.inr (.inr (.inr rfl))))) h.sq }
/-- where the areas' own things stand, no root's thing does -/
theorem PairO.offA (h : PairO K H A R S U) {x : Addr} (hx : x = A.a ∨ x = A.l ∨ x = A.o ∨ x = A.p ∨ x = A.q) : ∀ b, (b = R.r ∨ b = R.h ∨ b = R.hl ∨ b = R.b ∨ b = U.bd ∨ b = R.w ∨ b = R.wl ∨ b = R.la ∨ b = R.d ∨ b = R.e) → b ≠ x := by
  have ra := h.ar.ob
  have rl := h.ar.me.ls
  have lst : ∀ {c xs}, H c = some (.lst xs) → c ≠ A.l → c ≠ x := fun {c xs} g n => by
    rcases hx with rfl | rfl | rfl | rfl | rfl
    · exact ne_of g ra (by intro z; cases z)
    · exact n
    · exact ne_of g h.ar.so fun z => spv_lst z.symm
    · exact ne_of g h.ar.sp fun z => spv_lst z.symm
    · exact ne_of g h.ar.sq fun z => spv_lst z.symm
  have ins : ∀ {c C dx fs}, H c = some (.ins C dx fs) → fs.map Prod.fst ≠ ([("memory" : Str), "old", "young", "spare"]) → fs.length ≠ 3 → c ≠ x := fun {c C dx fs} g n n3 => by
    rcases hx with rfl | rfl | rfl | rfl | rfl
    · exact ne_of g ra (fs_ne n)
    · exact ne_of g rl (by intro z; cases z)
    · exact ne_of g h.ar.so fun z => spv_fs n3 z.symm
    · exact ne_of g h.ar.sp fun z => spv_fs n3 z.symm
    · exact ne_of g h.ar.sq fun z => spv_fs n3 z.symm
  have dk : U.bd ≠ x := by
    have g := h.ro.bo.ds
    rcases hx with rfl | rfl | rfl | rfl | rfl
    · exact ne_of g ra (by intro z; cases z)
    · exact ne_of g rl (by intro z; cases z)
    · exact ne_of g h.ar.so (by intro z; cases z)
    · exact ne_of g h.ar.sp (by intro z; cases z)
    · exact ne_of g h.ar.sq (by intro z; cases z)
  rintro b (rfl | rfl | rfl | rfl | rfl | rfl | rfl | rfl | rfl | rfl)
  · exact ins h.ro.ob (by show [("hands" : Str), "book", "weaks", "lasts"] ≠ _; decide +kernel) (by show 4 ≠ 3; decide)
  · exact ins h.ro.ho.ob (by show [("kept" : Str)] ≠ _; decide +kernel) (by show 1 ≠ 3; decide)
  · exact lst h.ro.ho.ls h.m1.symm
  · exact ins h.ro.bo.ob (by show [("marks" : Str)] ≠ _; decide +kernel) (by show 1 ≠ 3; decide)
  · exact dk
  · exact ins h.ro.wo.ob (by show [("told" : Str)] ≠ _; decide +kernel) (by show 1 ≠ 3; decide)
  · exact lst h.ro.wo.ls h.m2.symm
  · exact ins h.ro.lo.ob (by show [("waiting" : Str), "spoken"] ≠ _; decide +kernel) (by show 2 ≠ 3; decide)
  · exact lst h.ro.lo.wa h.m3.symm
  · exact lst h.ro.lo.sk h.m4.symm
theorem PairO.arS (h : PairO K H A R S U) (I : ArO K H' A S') (k : ∀ b o, b ≠ A.a → b ≠ A.l → b ≠ A.o → b ≠ A.p → b ≠ A.q → H b = some o → H' b = some o) : PairO K H' A R S' U :=
  { h with ar := I, ro := h.ro.frP (fun b o m g => k b o (h.offA (.inl rfl) b m) (h.offA (.inr (.inl rfl)) b m) (h.offA (.inr (.inr (.inl rfl))) b m) (h.offA (.inr (.inr (.inr (.inl rfl)))) b m) (h.offA (.inr (.inr (.inr (.inr rfl)))) b m) g) fun c xs g => k _ _ (ne_of g h.ar.ob (by intro z; cases z)) (ne_of g h.ar.me.ls (by intro z; cases z)) (ne_of g h.ar.so (by intro z; cases z)) (ne_of g h.ar.sp (by intro z; cases z)) (ne_of g h.ar.sq (by intro z; cases z)) g }
theorem PairO.wput (h : PairO K H A R S U) {ws : List Int} (vw : Vw ws) (e : ws.length = S.ws.length) : PairO K (upd H A.l (.lst (ws.map V.int))) A R { S with ws := ws } U :=
  h.arS (h.ar.words (h.ar.me.put ws e) (fun b o n g => (upd_ne n).trans g) vw e) fun b o _ n _ _ _ g => (upd_ne n).trans g
theorem PairO.topO (h : PairO K H A R S U) {t : Nat} (ht : t ≤ S.n) : PairO K (upd H A.o (SpV K A.ox 0 S.n t)) A R { S with ot := t } U :=
  h.arS (h.ar.topOld ht) fun b o _ _ n _ _ g => (upd_ne n).trans g
theorem PairO.topH (h : PairO K H A R S U) {f : Bool} {t : Nat} (h0 : S.b f ≤ t) (h1 : t ≤ S.b f + S.k) : PairO K (upd H (A.y f) (SpV K (A.yx f) (S.b f) (S.b f + S.k) t)) A R (S.put f t) U :=
  h.arS (h.ar.topHalf h0 h1) fun b o _ _ _ n1 n2 g => (upd_ne (by unfold ArA.y; split <;> assumption)).trans g
theorem PairO.flip (h : PairO K H A R S U) : PairO K (upd H A.a (.ins (He.ga K "Areas") A.dx (F_Areas (.ref A.m) (.ref A.o) (.ref (A.y !S.fl)) (.ref (A.y S.fl))))) A R { S with fl := !S.fl } U :=
  h.arS h.ar.flip fun b o n _ _ _ _ g => (upd_ne n).trans g
theorem PairO.roS {R : RoA} {U U' : RoS} (h : PairO K H A R S U) (I : RootO K H' R U') (k : ∀ b o, (b = A.a ∨ b = A.m ∨ b = A.l ∨ b = A.o ∨ b = A.p ∨ b = A.q) → H b = some o → H' b = some o) : PairO K H' A R S U' := { h with ar := h.ar.frP k, ro := I }
/-- areas' things are no lists or dicts of the roots -/
theorem PairO.offL (h : PairO K H A R S U) {x : Addr} {xs : List V} (e : H x = some (.lst xs)) (n : A.l ≠ x) : ∀ b, (b = A.a ∨ b = A.m ∨ b = A.l ∨ b = A.o ∨ b = A.p ∨ b = A.q) → b ≠ x := by
  rintro b (rfl | rfl | rfl | rfl | rfl | rfl)
  · exact ne_of h.ar.ob e (by intro z; cases z)
  · exact ne_of h.ar.me.ob e (by intro z; cases z)
  · exact n
  · exact ne_of h.ar.so e spv_lst
  · exact ne_of h.ar.sp e spv_lst
  · exact ne_of h.ar.sq e spv_lst
theorem PairO.hput (h : PairO K H A R S U) {i : Nat} {n : Int} (hn : (wordOf n).isSome = true) : PairO K (upd H R.hl (.lst ((U.hs.set i n).map V.int))) A R S { U with hs := U.hs.set i n } := by
  have r := h.ro
  have f : ∀ {b o}, H b = some o → (∀ xs, o ≠ .lst xs) → upd H R.hl (.lst ((U.hs.set i n).map V.int)) b = some o := fun g n => (upd_ne (ne_of g r.ho.ls (n _))).trans g
  have n1 : ∀ {C d fs xs}, HO.ins C d fs ≠ .lst xs := fun z => by cases z
  refine h.roS { r with ob := f r.ob (fun _ => n1), ho := r.ho.put hn, bo := ⟨f r.bo.ob (fun _ => n1), f r.bo.ds (fun _ z => by cases z), r.bo.nd⟩, wo := ⟨f r.wo.ob (fun _ => n1), (upd_ne r.n1.symm).trans r.wo.ls⟩, lo := ⟨f r.lo.ob (fun _ => n1), (upd_ne r.n2.symm).trans r.lo.wa, r.lo.wt.put r.ho.ls (fun _ z => by cases z), (upd_ne r.n3.symm).trans r.lo.sk, r.lo.de⟩ } fun b o m g => (upd_ne (h.offL r.ho.ls h.m1 b m)).trans g
theorem PairO.wkput (h : PairO K H A R S U) {us : List V} : PairO K (upd H R.wl (.lst us)) A R S { U with ts := us } := by
  have r := h.ro
  have f : ∀ {b o}, H b = some o → (∀ xs, o ≠ .lst xs) → upd H R.wl (.lst us) b = some o := fun g n => (upd_ne (ne_of g r.wo.ls (n _))).trans g
  have n1 : ∀ {C d fs xs}, HO.ins C d fs ≠ .lst xs := fun z => by cases z
  refine h.roS { r with ob := f r.ob (fun _ => n1), ho := ⟨f r.ho.ob (fun _ => n1), (upd_ne r.n1).trans r.ho.ls, r.ho.vw, r.ho.sz⟩, bo := ⟨f r.bo.ob (fun _ => n1), f r.bo.ds (fun _ z => by cases z), r.bo.nd⟩, wo := r.wo.put, lo := ⟨f r.lo.ob (fun _ => n1), (upd_ne r.n4.symm).trans r.lo.wa, r.lo.wt.put r.wo.ls (fun _ z => by cases z), (upd_ne r.n5.symm).trans r.lo.sk, r.lo.de⟩ } fun b o m g => (upd_ne (h.offL r.wo.ls h.m2 b m)).trans g
theorem PairO.lsput {rs ws ss} (h : PairO K H A R S U) (L : LastO K H' R.la R.lax R.d R.e rs ws ss) (k : ∀ c o, c ≠ R.d → c ≠ R.e → H c = some o → H' c = some o) : PairO K H' A R S { U with rs := rs, ws := ws, ss := ss } := by
  have r := h.ro
  have i : ∀ {b C d fs}, H b = some (.ins C d fs) → H' b = some (.ins C d fs) := fun g => k _ _ (ne_of g r.lo.wa (by intro z; cases z)) (ne_of g r.lo.sk (by intro z; cases z)) g
  refine h.roS { r with ob := i r.ob, ho := ⟨i r.ho.ob, k _ _ r.n2 r.n3 r.ho.ls, r.ho.vw, r.ho.sz⟩, bo := ⟨i r.bo.ob, k _ _ (ne_of r.bo.ds r.lo.wa (by intro z; cases z)) (ne_of r.bo.ds r.lo.sk (by intro z; cases z)) r.bo.ds, r.bo.nd⟩, wo := ⟨i r.wo.ob, k _ _ r.n4 r.n5 r.wo.ls⟩, lo := L } fun b o m g => k _ _ (h.offL r.lo.wa h.m3 b m) (h.offL r.lo.sk h.m4 b m) g
theorem PairO.bput (h : PairO K H A R S U) {qs : List Int} (n : qs.Nodup) : PairO K (upd H U.bd (.dK (bk qs))) A R S { U with bs := qs } := by
  have r := h.ro
  have f : ∀ {b o}, H b = some o → (∀ xs, o ≠ .dK xs) → upd H U.bd (.dK (bk qs)) b = some o := fun g n => (upd_ne (ne_of g r.bo.ds (n _))).trans g
  have n1 : ∀ {C d fs xs}, HO.ins C d fs ≠ .dK xs := fun z => by cases z
  have n2 : ∀ {ys xs}, HO.lst ys ≠ .dK xs := fun z => by cases z
  refine h.roS { r with ob := f r.ob (fun _ => n1), ho := ⟨f r.ho.ob (fun _ => n1), f r.ho.ls (fun _ => n2), r.ho.vw, r.ho.sz⟩, bo := r.bo.put n, wo := ⟨f r.wo.ob (fun _ => n1), f r.wo.ls (fun _ => n2)⟩, lo := ⟨f r.lo.ob (fun _ => n1), f r.lo.wa (fun _ => n2), r.lo.wt.put r.bo.ds (fun _ z => by cases z), f r.lo.sk (fun _ => n2), r.lo.de⟩ } ?_
  rintro b o (rfl | rfl | rfl | rfl | rfl | rfl) g
  · exact (upd_ne (ne_of h.ar.ob r.bo.ds (by intro z; cases z))).trans g
  · exact (upd_ne (ne_of h.ar.me.ob r.bo.ds (by intro z; cases z))).trans g
  · exact (upd_ne (ne_of h.ar.me.ls r.bo.ds (by intro z; cases z))).trans g
  · exact (upd_ne (ne_of h.ar.so r.bo.ds (by intro z; cases z))).trans g
  · exact (upd_ne (ne_of h.ar.sp r.bo.ds (by intro z; cases z))).trans g
  · exact (upd_ne (ne_of h.ar.sq r.bo.ds (by intro z; cases z))).trans g
theorem PairO.bnew (h : PairO K H A R S U) {d' : Addr} {qs : List Int} (B : BookO K H' R.b R.bx d' qs) (k : ∀ c o, c ≠ R.b → H c = some o → H' c = some o) : PairO K H' A R S { U with bd := d', bs := qs } := by
  have r := h.ro
  have kb : [("marks" : Str)] ≠ [("memory" : Str), "old", "young", "spare"] := by decide +kernel
  have lst : ∀ {c xs}, H c = some (.lst xs) → H' c = some (.lst xs) := fun g => k _ _ (ne_of g r.bo.ob (by intro z; cases z)) g
  have ins : ∀ {c C dx fs}, H c = some (.ins C dx fs) → fs.map Prod.fst ≠ ([("marks" : Str)]) → H' c = some (.ins C dx fs) := fun g n => k _ _ (ne_of g r.bo.ob (fs_ne n)) g
  refine h.roS { r with ob := ins r.ob (by show [("hands" : Str), "book", "weaks", "lasts"] ≠ _; decide +kernel), ho := ⟨ins r.ho.ob (by show [("kept" : Str)] ≠ _; decide +kernel), lst r.ho.ls, r.ho.vw, r.ho.sz⟩, bo := B, wo := ⟨ins r.wo.ob (by show [("told" : Str)] ≠ _; decide +kernel), lst r.wo.ls⟩, lo := ⟨ins r.lo.ob (by show [("waiting" : Str), "spoken"] ≠ _; decide +kernel), lst r.lo.wa, r.lo.wt.fr (fun c xs g => k _ _ (ne_of g r.bo.ob (by intro z; cases z)) g), lst r.lo.sk, r.lo.de⟩ } ?_
  rintro b o (rfl | rfl | rfl | rfl | rfl | rfl) g
  · exact k _ _ (ne_of h.ar.ob r.bo.ob (fs_ne (by show [("memory" : Str), "old", "young", "spare"] ≠ [("marks" : Str)]; decide +kernel))) g
  · exact k _ _ (ne_of h.ar.me.ob r.bo.ob (fs_ne (by show [("size" : Str), "words"] ≠ [("marks" : Str)]; decide +kernel))) g
  · exact k _ _ (ne_of h.ar.me.ls r.bo.ob (by intro z; cases z)) g
  · exact k _ _ (ne_of h.ar.so r.bo.ob (fs_ne (by show [("begin" : Str), "end", "top"] ≠ [("marks" : Str)]; decide +kernel))) g
  · exact k _ _ (ne_of h.ar.sp r.bo.ob (fs_ne (by show [("begin" : Str), "end", "top"] ≠ [("marks" : Str)]; decide +kernel))) g
  · exact k _ _ (ne_of h.ar.sq r.bo.ob (fs_ne (by show [("begin" : Str), "end", "top"] ≠ [("marks" : Str)]; decide +kernel))) g
/-- another object changes -/
theorem PairO.fr (h : PairO K H A R S U) (k : ∀ b o, (b = A.a ∨ b = A.m ∨ b = A.l ∨ b = A.o ∨ b = A.p ∨ b = A.q ∨ b = R.r ∨ b = R.h ∨ b = R.hl ∨ b = R.b ∨ b = U.bd ∨ b = R.w ∨ b = R.wl ∨ b = R.la ∨ b = R.d ∨ b = R.e) → H b = some o → H' b = some o) (kt : ∀ c xs, H c = some (.tup xs) → H' c = some (.tup xs)) : PairO K H' A R S U :=
  { h with ar := h.ar.frP fun b o m g => k b o (by rcases m with m | m | m | m | m | m <;> simp only [m, true_or, or_true]) g, ro := h.ro.frP (fun b o m g => k b o (by rcases m with m | m | m | m | m | m | m | m | m | m <;> simp only [m, true_or, or_true]) g) kt }
/-- none of the own lists -/
def OffP (A : ArA) (R : RoA) (c : Addr) : Prop := c ≠ A.l ∧ c ≠ R.hl ∧ c ≠ R.wl ∧ c ≠ R.d ∧ c ≠ R.e
theorem PairO.off (h : PairO K H A R S U) {c : Addr} {xs : List V} {o : HO} (e : H c = some (.lst xs)) (n : OffP A R c) : PairO K (upd H c o) A R S U := by
  have i : ∀ {b C d fs}, H b = some (.ins C d fs) → upd H c o b = some (.ins C d fs) := fun g => (upd_ne (ne_of g e (by intro z; cases z))).trans g
  have t : ∀ b ys, H b = some (.tup ys) → upd H c o b = some (.tup ys) := fun b ys g => (upd_ne (ne_of g e (by intro z; cases z))).trans g
  have l : ∀ {b ys}, c ≠ b → H b = some (.lst ys) → upd H c o b = some (.lst ys) := fun n g => (upd_ne n.symm).trans g
  have r := h.ro
  exact { h with ar := h.ar.put e n.1.symm, ro := { r with ob := i r.ob, ho := ⟨i r.ho.ob, l n.2.1 r.ho.ls, r.ho.vw, r.ho.sz⟩, bo := ⟨i r.bo.ob, (upd_ne (ne_of r.bo.ds e (by intro z; cases z))).trans r.bo.ds, r.bo.nd⟩, wo := ⟨i r.wo.ob, l n.2.2.1 r.wo.ls⟩, lo := ⟨i r.lo.ob, l n.2.2.2.1 r.lo.wa, r.lo.wt.fr t, l n.2.2.2.2 r.lo.sk, r.lo.de⟩ } }
theorem PairO.offD (h : PairO K H A R S U) {c : Addr} {kv : List (Key × V)} {o : HO} (e : H c = some (.dK kv)) (n : c ≠ U.bd) : PairO K (upd H c o) A R S U := by
  have i : ∀ {b C d fs}, H b = some (.ins C d fs) → upd H c o b = some (.ins C d fs) := fun g => (upd_ne (ne_of g e (by intro z; cases z))).trans g
  have t : ∀ b ys, H b = some (.tup ys) → upd H c o b = some (.tup ys) := fun b ys g => (upd_ne (ne_of g e (by intro z; cases z))).trans g
  have l : ∀ {b ys}, H b = some (.lst ys) → upd H c o b = some (.lst ys) := fun g => (upd_ne (ne_of g e (by intro z; cases z))).trans g
  have r := h.ro
  exact { h with ar := h.ar.off (ne_of h.ar.me.ls e (by intro z; cases z)) (fun C d fs g => by rw [e] at g; cases g), ro := { r with ob := i r.ob, ho := ⟨i r.ho.ob, l r.ho.ls, r.ho.vw, r.ho.sz⟩, bo := ⟨i r.bo.ob, (upd_ne n.symm).trans r.bo.ds, r.bo.nd⟩, wo := ⟨i r.wo.ob, l r.wo.ls⟩, lo := ⟨i r.lo.ob, l r.lo.wa, r.lo.wt.fr t, l r.lo.sk, r.lo.de⟩ } }
theorem PairO.offl (h : PairO K H A R S U) {p : Addr} (np : H p = none) : OffP A R p ∧ p ≠ U.bd := ⟨⟨(ne_of_none h.ar.me.ls np).symm, (ne_of_none h.ro.ho.ls np).symm, (ne_of_none h.ro.wo.ls np).symm, (ne_of_none h.ro.lo.wa np).symm, (ne_of_none h.ro.lo.sk np).symm⟩, (ne_of_none h.ro.bo.ds np).symm⟩
end

local macro_rules | `(tactic| walk_at "w3") => `(tactic| try simp only [↓x_var0, ↓x_varS, ↓x_c, ↓x_op, ↓x_un, ↓x_cb, ↓x_nil, ↓x_cons, ↓x_test, ↓x_b, ↓x_ex, ↓x_and, ↓x_or, ↓x_not, ↓x_andV, ↓x_orV, ↓x_notV, ↓x_tif, ↓x_chain, ↓x_menu, ↓x_menuI, ↓x_lst, ↓x_tup, ↓x_dnew, ↓x_callW, ↓x_callN, ↓x_seq, ↓x_next, ↓x_ret, ↓x_retN, ↓x_drop, ↓x_ifS, ↓x_asg, ↓x_name, ↓x_raise, ↓x_fld, ↓x_setF, ↓x_meth, ↓x_make, ↓x_sub, ↓r_min, ↓r_max, ↓x_yes, ↓x_for, ↓x_lock, ↓x_keys, ↓x_cut, ↓x_lc, ↓x_rng1, ↓x_rng2, ↓x_lst1, ↓x_itup, ↓x_rng3, ↓x_three, ↓x_lstg, ↓x_tupg, ↓x_adrS, ↓x_one, ↓x_two, ↓x_adr, ↓x_sl, ↓x_np, ↓x_pt, ↓x_int, ↓x_bm, ↓x_bm0, ↓x_consg, ↓x_nilg, ↓x_dget2, ↓x_dget1, ↓x_dgetN, ↓x_dget, ↓x_din, ↓x_dni, ↓x_dput, ↓x_dpop2, ↓r_isB, ↓r_notB, ↓x_enum, ↓x_zip, ↓x_str, ↓x_strE, ↓r_inS, ↓r_ninS, wipe, List.map_cons, List.map_nil, ↓x_isT, ↓r_isiII, ↓r_isiBB, ↓r_isiIB, ↓r_isiSS, ↓r_neNS, ↓r_neSN, ↓r_neNN, ↓r_eqNS, ↓r_eqSN, ↓r_eqNN, ↓r_eqIS, ↓r_neIS, ↓r_neSI, ↓r_neBS, ↓r_eqBB, ↓r_neBB, ↓x_start, ↓x_K, ↓x_start0, ↓r_i0, ↓r_i, ↓r_u, ↓r_addI, ↓r_addS, ↓r_mulI, ↓r_mulS, ↓r_eqI, ↓r_neI, ↓r_eqS, ↓r_neS, ↓r_absI, ↓r_intI, ↓r_intB, List.length_cons, List.length_nil, List.replicate, List.set_cons_zero, List.set_cons_succ, decide_eq_true_eq, Bool.not_eq_true', decide_eq_false_iff_not, if_true, if_false, Bool.false_eq_true, Bool.true_eq_false, ite_true, ite_false, Bool.not_true, Bool.not_false, c_div, n_ten, c_pow, not_true_eq_false, not_false_eq_true, decide_true, decide_false, true_and, and_true, and_self, true_or, or_true, Int.reduceLT, Int.reduceLE, Int.reduceMul, Int.reduceAdd, Int.reduceSub, Int.reducePow, Int.reduceNeg, Int.reduceDiv, Int.reduceMod, Nat.reducePow, Int.reduceToNat, Int.reduceEq, Int.reduceNe, Nat.reduceLT, Nat.reduceLeDiff, Nat.reduceAdd, ↓x_whole, ↓x_kind, Int.natCast_one, Int.natCast_one])
/-! ## where cells go, by a list of pairs -/
def goG (ps : List (Int × Int)) (x : Int) : Option Int := (ps.find? fun p => decide (p.1 = x)).map (·.2)
def goF (ps : List (Int × Int)) (x : Int) : Int := (goG ps x).getD 0
theorem goG_val : ∀ {ps : List (Int × Int)} {x : Int}, valV (kvI ps) (.inl x : Key) = (goG ps x).map V.int
  | [], x => rfl
  | p :: r, x => by
    unfold goG
    rw [List.find?_cons]
    by_cases e : p.1 = x
    · subst e
      rw [decide_eq_true rfl]
      exact valV_pos rfl
    · rw [decide_eq_false e]
      have e2 : ¬ ((.inl p.1 : Key) = .inl x) := fun z => e (Sum.inl.inj z)
      exact (valV_neg (p := ((.inl p.1 : Key), V.int p.2)) (r := kvI r) e2).trans goG_val
theorem goG_mem {ps : List (Int × Int)} (nd : ps.Pairwise fun a b => a.1 ≠ b.1) {p : Int × Int} (m : p ∈ ps) : goG ps p.1 = some p.2 := by
  have h := kvI_some nd m
  rw [goG_val] at h
  cases e : goG ps p.1 with
  | none => rw [e] at h; cases h
  | some q => rw [e] at h; cases h; rfl
theorem goG_none {ps : List (Int × Int)} {x : Int} (h : ∀ p ∈ ps, p.1 ≠ x) : goG ps x = none := by
  have h := kvI_none h
  rw [goG_val] at h
  cases e : goG ps x with
  | none => rfl
  | some q => rw [e] at h; cases h
theorem goG_in {ps : List (Int × Int)} {x q : Int} (h : goG ps x = some q) : (x, q) ∈ ps := by
  unfold goG at h
  cases e : ps.find? fun p => decide (p.1 = x) with
  | none => rw [e] at h; cases h
  | some p =>
    rw [e] at h
    have h : some p.2 = some q := h
    have h1 := List.find?_some e
    have h2 := List.mem_of_find?_eq_some e
    rw [decide_eq_true_eq] at h1
    have : p = (x, q) := Prod.ext h1 (Option.some.inj h)
    rw [← this]
    exact h2
/-- places of a word that goes along are told -/
def GoW (ps : List (Int × Int)) (w : Int) : Prop := ∀ p, wordOf w = some (.place p) → ∃ q, goG ps p = some q ∧ 0 ≤ q ∧ q ≤ 9999
theorem turn_isSome {ps : List (Int × Int)} {w : Int} (h : (wordOf w).isSome = true) (g : GoW ps w) : (wordOf (turnW (goF ps) w)).isSome = true := by
  cases e : wordOf w with
  | none => rw [e] at h; cases h
  | some x =>
    cases x with
    | place p =>
      obtain ⟨q, eq, h0, h1⟩ := g p e
      rw [turnW_place e, show goF ps p = q from by unfold goF; rw [eq]; rfl, word_place h0 h1]
      rfl
    | _ => rw [turnW_other e (fun p z => (by cases z)), e]; rfl
/-- cells laid one behind the other -/
def slC : Nat → List CeL → List CeL
  | _, [] => []
  | t, c :: r => ⟨t, c.r, c.ws⟩ :: slC (t + (c.ws.length + 1)) r
theorem slC_get : ∀ {D : List CeL} {t k : Nat} {c : CeL}, D[k]? = some c → (slC t D)[k]? = some ⟨t + sumW (D.take k), c.r, c.ws⟩
  | [], _, _, _, e => by cases e
  | d :: r, t, 0, c, e => by cases e; rfl
  | d :: r, t, k + 1, c, e => by
    have e : r[k]? = some c := e
    show (slC (t + (d.ws.length + 1)) r)[k]? = _
    rw [slC_get e, List.take_succ_cons]
    show some _ = some ({ p := t + ((d.ws.length + 1) + sumW (r.take k)), r := c.r, ws := c.ws } : CeL)
    rw [Nat.add_assoc]
theorem slC_len : ∀ {D : List CeL} {t : Nat}, (slC t D).length = D.length
  | [], _ => rfl
  | d :: r, t => congrArg (· + 1) slC_len
theorem slC_mem {D : List CeL} {t : Nat} {b : CeL} (m : b ∈ slC t D) : ∃ k c, D[k]? = some c ∧ b = ⟨t + sumW (D.take k), c.r, c.ws⟩ := by
  obtain ⟨k, hk⟩ := List.getElem?_of_mem m
  have hl : k < D.length := by
    have := (List.getElem?_eq_some_iff.mp hk).1
    rwa [slC_len] at this
  refine ⟨k, D[k], List.getElem?_eq_getElem hl, ?_⟩
  rw [slC_get (List.getElem?_eq_getElem hl)] at hk
  exact (Option.some.inj hk).symm
theorem sum_take {D : List CeL} {k : Nat} {c : CeL} (h : D[k]? = some c) : sumW (D.take (k + 1)) = sumW (D.take k) + (c.ws.length + 1) := by
  rw [List.take_add_one, h]
  exact sumW_app
theorem sum_le {D : List CeL} {j k : Nat} (h : j ≤ k) : sumW (D.take j) ≤ sumW (D.take k) := by
  induction h with
  | refl => exact Nat.le_refl _
  | step h ih =>
    rename_i k
    cases e : D[k]? with
    | none =>
      rw [List.take_add_one, e]
      show _ ≤ sumW (D.take k ++ [])
      rw [List.append_nil]
      exact ih
    | some c => rw [sum_take e]; omega
theorem sum_all {D : List CeL} {k : Nat} : sumW (D.take k) ≤ sumW D := by
  have h := sum_le (D := D) (Nat.le_max_left k D.length)
  rw [List.take_of_length_le (Nat.le_max_right ..)] at h
  exact h
/-- cells on their way: the first i stand where they go, with age 2 -/
structure SlI (ws : List Int) (D : List CeL) (i : Nat) : Prop where
  dn : ∀ (k : Nat) (c : CeL), D[k]? = some c → k < i → headAt (ws.getD (sumW (D.take k)) 0) = some (4 * c.ws.length + 2) ∧ ∀ j, j < c.ws.length → ws.getD (sumW (D.take k) + 1 + j) 0 = c.ws.getD j 0
  st : ∀ (k : Nat) (c : CeL), D[k]? = some c → i ≤ k → (∃ a, a ≤ 2 ∧ headAt (ws.getD c.p 0) = some (4 * c.ws.length + a)) ∧ ∀ j, j < c.ws.length → ws.getD (c.p + 1 + j) 0 = c.ws.getD j 0
/-- they lie apart, rising, and go to the left -/
structure SlD (D : List CeL) (l : Nat) : Prop where
  ap : ∀ (j k : Nat) (a b : CeL), D[j]? = some a → D[k]? = some b → j < k → a.p + a.ws.length < b.p
  le : ∀ (k : Nat) (c : CeL), D[k]? = some c → sumW (D.take k) ≤ c.p
  en : ∀ (k : Nat) (c : CeL), D[k]? = some c → c.p + c.ws.length < l
theorem SlI.step {ws : List Int} {D : List CeL} {i : Nat} {c : CeL} (h : SlI ws D i) (d : SlD D ws.length) (e : D[i]? = some c) (h8 : c.ws.length ≤ 8) :
    SlI ((cpT ws c.p (sumW (D.take i)) (c.ws.length + 1)).set (sumW (D.take i)) (2 * ((4 * c.ws.length + 2 : Nat) : Int))) D (i + 1) := by
  have lc := d.le i c e
  have ec := d.en i c e
  have gl : sumW (D.take i) + (c.ws.length + 1) ≤ ws.length := by omega
  have at_ : ∀ u, ((cpT ws c.p (sumW (D.take i)) (c.ws.length + 1)).set (sumW (D.take i)) (2 * ((4 * c.ws.length + 2 : Nat) : Int))).getD u 0 = if sumW (D.take i) = u then 2 * ((4 * c.ws.length + 2 : Nat) : Int) else if sumW (D.take i) ≤ u ∧ u < sumW (D.take i) + (c.ws.length + 1) then ws.getD (c.p + (u - sumW (D.take i))) 0 else ws.getD u 0 := fun u => by
    rw [getD_set (by rw [cpT_len]; omega), cpT_at gl]
  refine ⟨fun k a ek hk => ?_, fun k a ek hk => ?_⟩
  · by_cases q : k = i
    · subst q
      rw [e] at ek
      cases ek
      obtain ⟨h1, h2⟩ := h.st _ _ e (Nat.le_refl _)
      refine ⟨?_, fun j hj => ?_⟩
      · rw [at_, if_pos rfl]
        unfold headAt
        rw [word_num (by omega)]
        dsimp only
        rw [if_pos (by omega), Int.toNat_natCast]
      · rw [at_, if_neg (by omega), if_pos (by omega), show c.p + (sumW (D.take k) + 1 + j - sumW (D.take k)) = c.p + 1 + j from by omega]
        exact h2 j hj
    · obtain ⟨h1, h2⟩ := h.dn k a ek (by omega)
      have s1 := sum_take ek
      have s2 := sum_le (D := D) (show k + 1 ≤ i by omega)
      refine ⟨by rw [at_, if_neg (by omega), if_neg (by omega)]; exact h1, fun j hj => by rw [at_, if_neg (by omega), if_neg (by omega)]; exact h2 j hj⟩
  · obtain ⟨h1, h2⟩ := h.st k a ek (by omega)
    have ap := d.ap i k c a e ek (by omega)
    refine ⟨by rw [at_, if_neg (by omega), if_neg (by omega)]; exact h1, fun j hj => by rw [at_, if_neg (by omega), if_neg (by omega)]; exact h2 j hj⟩
def sp_turned (K : PySem.W.Frag) : Sp := fun vs H Q _ => ∃ w d ps, vs = [.int w, .ref d] ∧ H d = some (.dK (kvI ps)) ∧ (wordOf w).isSome = true ∧ GoW ps w ∧ Q (.int (turnW (goF ps) w)) H
def sp_turn_slots (K : PySem.W.Frag) : Sp := fun vs H Q _ => ∃ m mx l S C ps n d, ∃ c ∈ C, vs = [.ref m, .int (c.p : Int), .ref d] ∧ MemO K H m mx l S.ws ∧ Vw S.ws ∧ H d = some (.dK (kvI ps)) ∧ CelP S (tC (goF ps) n C) ∧ (∀ c ∈ C, c.p + c.ws.length < S.ws.length) ∧ n c.p = 0 ∧ (∀ w ∈ c.ws, (wordOf w).isSome = true ∧ GoW ps w) ∧
  ∀ ws' H', MemO K H' m mx l ws' → Vw ws' → ws'.length = S.ws.length → CelP { S with ws := ws' } (tC (goF ps) (fun q => if q = c.p then c.ws.length else n q) C) → (∀ b o, b ≠ l → H b = some o → H' b = some o) → Q .non H'
def sp_turn_roots (K : PySem.W.Frag) : Sp := fun vs H Q _ => ∃ A R S U d ps, vs = [.ref R.r, .ref d] ∧ PairO K H A R S U ∧ H d = some (.dK (kvI ps)) ∧ (∀ w ∈ U.hs, GoW ps w) ∧ (∀ p ∈ ps, 0 ≤ p.2 ∧ p.2 ≤ 9999) ∧ U.ts.length < 100000 ∧ (∀ t ∈ U.ts, flatN t = true) ∧ U.ws.length < 100000 ∧ U.ss.length < 100000 ∧
  ∀ U' H', PairO K H' A R S U' → U'.hs = U.hs.map (turnW (goF ps)) → U'.bd = U.bd → U'.bs = U.bs → U'.ts = U.ts.map (nmG (goG ps)) → U'.ws = U.ws.map (tkG (goG ps)) → U'.ss = U.ss ++ saidG (goG ps) U.ws → (∀ b o, b ≠ R.hl → b ≠ R.wl → b ≠ R.d → b ≠ R.e → H b = some o → H' b = some o) → Q .non H'
section
variable {P : Program} {w : World} {K : PySem.W.Frag} {mg : Str → Option Value} {base : Heap}
theorem f_turned (T : Tx K mg) : Fn P w K mg base 4 "turned" ["word", "where"] (sp_turned K) := by
  have c_kind := f_kind (P := P) (w := w) (base := base) T
  have c_place_word := f_place_word (P := P) (w := w) (base := base) T
  have c_worth := f_worth (P := P) (w := w) (base := base) T
  refine T.mkFn 15 33 (d := d_turned) (N := ["word", "where"]) (k := 3) rfl rfl rfl rfl rfl sc_turned (fun _ _ _ _ _ _ us hl => match us, hl with | [_, _], _ => rfl) (fun vs H Q E h => ?len) (fun cdv A outer s H vs Q E hr h => ⟨_,
      (pss_cons (ps_if (pt_cmpR (op_eqK (K := K) rfl hr.units) (pe_fn (takes_of rfl rfl rfl rfl) c_kind (hr.mono (by decide)) (by rfl) (pa_cons (pv 0) pa_nil)) pe_str (nomark _)) (pss_one (ps_ret (pe_fn (takes_of rfl rfl rfl rfl) c_place_word (hr.mono (by decide)) (by rfl) (pa_cons (pe_dget (hu_of hr) (pv 1) (pe_fn (takes_of rfl rfl rfl rfl) c_worth (hr.mono (by decide)) (by rfl) (pa_cons (pv 0) pa_nil)) (fun _ _ => rfl)) pa_nil)))) pss_nil)
        (pss_one (ps_ret (pv 0)))), ?rd⟩)
  case len => obtain ⟨_, _, _, rfl, _⟩ := h; rfl
  case rd =>
    obtain ⟨w, d, ps, rfl, hd, hw, g, q⟩ := h
    walk_at "w3"
    obtain ⟨x, ex⟩ := Option.isSome_iff_exists.mp hw
    rw [ex]
    dsimp only
    cases x with
    | place p =>
      walk_at "w3"
      simp only [k_nn, k_pn, k_Nn, k_np, k_Np, k_pp, not_true_eq_false, not_false_eq_true, if_true, if_false, ite_true, ite_false, Wd.worth]
      rw [x_worth, ex]
      dsimp only
      obtain ⟨q', eq, h0, h1⟩ := g p ex
      have dg := dget_i (i := p) hd
      rw [goG_val, eq] at dg
      refine ⟨_, dg, ?_⟩
      rw [x_place_word, if_pos ⟨h0, h1⟩]
      rw [turnW_place ex, show goF ps p = q' from by unfold goF; rw [eq]; rfl] at q
      exact q
    | num x =>
      walk_at "w3"
      simp only [k_nn, k_pn, k_Nn, k_np, k_Np, k_pp, not_true_eq_false, not_false_eq_true, if_true, if_false, ite_true, ite_false, Wd.worth]
      rw [turnW_other ex fun p z => by cases z] at q
      exact q
    | nothing =>
      walk_at "w3"
      simp only [k_nn, k_pn, k_Nn, k_np, k_Np, k_pp, not_true_eq_false, not_false_eq_true, if_true, if_false, ite_true, ite_false, Wd.worth]
      rw [turnW_other ex fun p z => by cases z] at q
      exact q
theorem f_turn_slots (T : Tx K mg) : Fn P w K mg base 7 "turn_slots" ["memory", "at", "where"] (sp_turn_slots K) := by
  have c_slots_of := f_slots_of (P := P) (w := w) (base := base) T
  have c_slot_place := f_slot_place (P := P) (w := w) (base := base) T
  have c_Memory_write := f_Memory_write (P := P) (w := w) (base := base) T
  have c_turned := f_turned (P := P) (w := w) (base := base) T
  have c_Memory_read := f_Memory_read (P := P) (w := w) (base := base) T
  refine T.mkFn 16 34 (d := d_turn_slots) (N := ["memory", "at", "where", "slot", "place"]) (k := 6) rfl rfl rfl rfl rfl sc_turn_slots (fun _ _ _ _ _ _ us hl => match us, hl with | [_, _, _], _ => rfl) (fun vs H Q E h => ?len) (fun cdv A outer s H vs Q E hr h => ⟨_,
      (pss_one (ps_for (passes_of rfl) rfl (pi_range1 rfl (T.free 66) (pa_cons (pe_fn (takes_of rfl rfl rfl rfl) c_slots_of (hr.mono (by decide)) (by rfl) (pa_cons (pv 0) (pa_cons (pv 1) pa_nil))) pa_nil)) (pg_name (i := 3) sc_turn_slots.nd rfl (Or.inl rfl)) (pss_cons (ps_set (i := 4) sc_turn_slots.nd rfl (Or.inl rfl) (pe_fn (takes_of rfl rfl rfl rfl) c_slot_place (hr.mono (by decide)) (by rfl) (pa_cons (pv 0) (pa_cons (pv 1) (pa_cons (pv 3) pa_nil)))))
        (pss_one (ps_expr (pe_mt (K := K) rfl (takes_of rfl rfl rfl rfl) (pv 0) c_Memory_write (hr.mono (by decide)) (pa_cons (pv 4) (pa_cons (pe_fn (takes_of rfl rfl rfl rfl) c_turned (hr.mono (by decide)) (by rfl) (pa_cons (pe_mt (K := K) rfl (takes_of rfl rfl rfl rfl) (pv 0) c_Memory_read (hr.mono (by decide)) (pa_cons (pv 4) pa_nil)) (pa_cons (pv 2) pa_nil))) pa_nil)))))))), ?rd⟩)
  case len => obtain ⟨_, _, _, _, _, _, _, _, _, _, rfl, _⟩ := h; rfl
  case rd =>
    obtain ⟨m, mx, l, S, C, ps, n, d, c, mc, rfl, M, vw, hd, cp, hlt, n0, hw, q⟩ := h
    have lt := hlt c mc
    have mt : ∀ {n'}, ({ c with ws := mapT (turnW (goF ps)) c.ws (n' c.p) } : CeL) ∈ tC (goF ps) n' C := fun {n'} => List.mem_map.mpr ⟨c, mc, rfl⟩
    obtain ⟨k, ek, ek4, -⟩ := cp.head (mt (n' := n)) (by show c.p + (mapT _ _ _).length < _; rw [mapT_len]; exact lt)
    have ek4 : k / 4 = c.ws.length := ek4.trans mapT_len
    have sz := M.sz
    walk_at "w3"
    refine ⟨m, mx, l, S.ws, _, rfl, M, vw, .inl ⟨_, rfl⟩, ?_⟩
    rw [ek]
    dsimp only
    walk_at "w3"
    rw [ek4]
    refine ⟨by omega, by omega, ?_⟩
    rw [Int.toNat_natCast]
    have same_p : ∀ b ∈ C, b.p = c.p → b = c := fun b mb e => by
      by_cases z : b = c
      · exact z
      · have pw := cp.dj
        unfold tC at pw
        have pw := List.pairwise_map.mp pw
        have := pair_mem (fun _ _ q => q.symm) pw mb mc z
        dsimp only at this
        omega
    refine forW_range (lo := 0) (fun t σ H' => ∃ o4 o5 ws', σ = [some (.ref m), some (.int (c.p : Int)), some (.ref d), o4, o5] ∧ MemO K H' m mx l ws' ∧ Vw ws' ∧ ws'.length = S.ws.length ∧ CelP { S with ws := ws' } (tC (goF ps) (fun q => if q = c.p then t else n q) C) ∧ ∀ b o, b ≠ l → H b = some o → H' b = some o) ⟨_, _, S.ws, rfl, M, vw, rfl, ?_, fun b o _ g => g⟩ ?_ ?_
    · rw [show (fun q => if q = c.p then 0 else n q) = n from by
        funext q
        split
        · rename_i e
          rw [e, n0]
        · rfl]
      exact cp
    · rintro t σ H' ht ⟨o4, o5, ws', rfl, M', vw', el, cp', k'⟩
      rw [Int.zero_add]
      have mt' := mt (n' := fun q => if q = c.p then t else n q)
      obtain ⟨k2, ek2, ek24, -⟩ := cp'.head mt' (by show c.p + (mapT _ _ _).length < ws'.length; rw [mapT_len]; omega)
      have ek24 : k2 / 4 = c.ws.length := ek24.trans mapT_len
      have ecw : c.ws[t]? = some (c.ws.getD t 0) := getD_at (d := 0) ht
      have mw := List.mem_of_getElem? ecw
      have slt := cp'.sl _ mt' t (by show t < (mapT _ _ _).length; rw [mapT_len]; exact ht)
      have slt : ws'.getD (c.p + 1 + t) 0 = c.ws.getD t 0 := slt.trans (by
        show (mapT (turnW (goF ps)) c.ws (if c.p = c.p then t else n c.p)).getD t 0 = _
        rw [if_pos rfl, List.getD_eq_getElem?_getD, mapT_get (Nat.le_refl _), ← List.getD_eq_getElem?_getD])
      have hd' := k' _ _ (ne_of hd M.ls (by intro z; cases z)) hd
      walk_at "w3"
      refine ⟨m, mx, l, ws', _, _, rfl, M', vw', .inl ⟨_, rfl⟩, .inl ⟨_, rfl⟩, ?_⟩
      rw [ek2]
      dsimp only
      rw [ek24, placeOf_int, if_pos ⟨by omega, by omega⟩, Int.toNat_natCast]
      dsimp only
      walk_at "w3"
      refine ⟨recv M'.ob, recv M'.ob, m, mx, l, ws', _, rfl, M', .inl ⟨_, rfl⟩, ?_⟩
      rw [placeOf_int, if_pos ⟨by omega, by omega⟩, Int.toNat_natCast]
      dsimp only
      rw [slt]
      refine ⟨_, d, ps, rfl, hd', (hw _ mw).1, (hw _ mw).2, ?_⟩
      have wi := turn_isSome (hw _ mw).1 (hw _ mw).2
      refine ⟨m, mx, l, ws', _, _, rfl, M', .inl ⟨_, rfl⟩, .inl ⟨_, rfl⟩, ?_⟩
      rw [placeOf_int, if_pos ⟨by omega, by omega⟩, wordV_int, if_pos wi, Int.toNat_natCast]
      dsimp only
      refine ⟨_, _, ws'.set (c.p + 1 + t) (turnW (goF ps) (c.ws.getD t 0)), rfl, M'.put _ (List.length_set ..), vw'.set wi, (List.length_set ..).trans el, ?_, fun b o nb g => (upd_ne nb).trans (k' b o nb g)⟩
      have z := cp'.put (n := turnW (goF ps) (c.ws.getD t 0)) mt' (j := t) (by show t < (mapT _ _ _).length; rw [mapT_len]; exact ht) (by show c.p + (mapT _ _ _).length < ws'.length; rw [mapT_len]; omega)
      have e2 : setC (tC (goF ps) (fun q => if q = c.p then t else n q) C) c.p t (turnW (goF ps) (c.ws.getD t 0)) = tC (goF ps) (fun q => if q = c.p then t + 1 else n q) C := by
        rw [tC_set (n := fun q => if q = c.p then t else n q) (p := c.p) (j := t) (if_pos rfl) fun b mb e => by rw [same_p b mb e]; exact ecw]
        refine congrArg (fun m => tC (goF ps) m C) ?_
        funext q
        by_cases e : q = c.p
        · rw [if_pos e, if_pos e]
        · rw [if_neg e, if_neg e, if_neg e]
      rw [e2] at z
      exact z
    · rintro σ H' ⟨o4, o5, ws', rfl, M', vw', el, cp', k'⟩
      exact q ws' H' M' vw' el cp' k'
theorem f_turn_roots (T : Tx K mg) : Fn P w K mg base 5 "turn_roots" ["roots", "where"] (sp_turn_roots K) := by
  have c_Hands_row := f_Hands_row (P := P) (w := w) (base := base) T
  have c_Hands_put := f_Hands_put (P := P) (w := w) (base := base) T
  have c_turned := f_turned (P := P) (w := w) (base := base) T
  have c_Weak_names := f_Weak_names (P := P) (w := w) (base := base) T
  have c_Weak_move := f_Weak_move (P := P) (w := w) (base := base) T
  have c_Weak_gone := f_Weak_gone (P := P) (w := w) (base := base) T
  have c_Lasts_pending := f_Lasts_pending (P := P) (w := w) (base := base) T
  have c_Lasts_move := f_Lasts_move (P := P) (w := w) (base := base) T
  have c_Lasts_say := f_Lasts_say (P := P) (w := w) (base := base) T
  refine T.mkFn 17 35 (d := d_turn_roots) (N := ["roots", "where", "words", "hand", "name", "at", "ticket", "number"]) (k := 4) rfl rfl rfl rfl rfl sc_turn_roots (fun _ _ _ _ _ _ us hl => match us, hl with | [_, _], _ => rfl) (fun vs H Q E h => ?len) (fun cdv A outer s H vs Q E hr h => ⟨_,
      (pss_cons (ps_set (i := 2) sc_turn_roots.nd rfl (Or.inl rfl) (pe_mt0 (K := K) rfl (takes_of rfl rfl rfl rfl) (pe_fldC (T.cls 149) (T.noat 152) (pv 0)) c_Hands_row (hr.mono (by decide))))
        (pss_cons (ps_for (passes_of rfl) rfl (pi_range1 rfl (T.free 66) (pa_cons (pe_callB (call_lenK (K := K) rfl) (by rfl) (T.free 64) PySem.boot_len (pa_cons (pv 2) pa_nil)) pa_nil)) (pg_name (i := 3) sc_turn_roots.nd rfl (Or.inl rfl)) (pss_one (ps_expr (pe_mt (K := K) rfl (takes_of rfl rfl rfl rfl) (pe_fldC (T.cls 149) (T.noat 152) (pv 0)) c_Hands_put (hr.mono (by decide)) (pa_cons (pv 3) (pa_cons (pe_fn (takes_of rfl rfl rfl rfl) c_turned (hr.mono (by decide)) (by rfl) (pa_cons (pe_ix (ix_seqK (K := K) rfl) (pv 2) (pv 3) (fun _ _ => rfl)) (pa_cons (pv 1) pa_nil))) pa_nil))))))
        (pss_cons (ps_for (passes_of rfl) rfl (pi_listK (K := K) rfl (pe_mt0 (K := K) rfl (takes_of rfl rfl rfl rfl) (pe_fldC (T.cls 149) (T.noat 154) (pv 0)) c_Weak_names (hr.mono (by decide)))) (pg_tup (n := 2) rfl (pgs_cons (pg_name (i := 4) sc_turn_roots.nd rfl (Or.inl rfl)) (pgs_cons (pg_name (i := 5) sc_turn_roots.nd rfl (Or.inl rfl)) pgs_nil))) (pss_one (ps_if (pt_cmp (pc_din (hu_of hr) (pv 5) (pv 1))) (pss_one (ps_expr (pe_mt (K := K) rfl (takes_of rfl rfl rfl rfl) (pe_fldC (T.cls 149) (T.noat 154) (pv 0)) c_Weak_move (hr.mono (by decide)) (pa_cons (pv 4) (pa_cons (pe_dget (hu_of hr) (pv 1) (pv 5) (fun _ _ => rfl)) pa_nil))))) (pss_one (ps_expr (pe_mt (K := K) rfl (takes_of rfl rfl rfl rfl) (pe_fldC (T.cls 149) (T.noat 154) (pv 0)) c_Weak_gone (hr.mono (by decide)) (pa_cons (pv 4) pa_nil)))))))
        (pss_one (ps_for (passes_of rfl) rfl (pi_listK (K := K) rfl (pe_mt0 (K := K) rfl (takes_of rfl rfl rfl rfl) (pe_fldC (T.cls 149) (T.noat 155) (pv 0)) c_Lasts_pending (hr.mono (by decide)))) (pg_tup (n := 3) rfl (pgs_cons (pg_name (i := 6) sc_turn_roots.nd rfl (Or.inl rfl)) (pgs_cons (pg_name (i := 5) sc_turn_roots.nd rfl (Or.inl rfl)) (pgs_cons (pg_name (i := 7) sc_turn_roots.nd rfl (Or.inl rfl)) pgs_nil)))) (pss_one (ps_if (pt_cmp (pc_din (hu_of hr) (pv 5) (pv 1))) (pss_one (ps_expr (pe_mt (K := K) rfl (takes_of rfl rfl rfl rfl) (pe_fldC (T.cls 149) (T.noat 155) (pv 0)) c_Lasts_move (hr.mono (by decide)) (pa_cons (pv 6) (pa_cons (pe_dget (hu_of hr) (pv 1) (pv 5) (fun _ _ => rfl)) pa_nil))))) (pss_one (ps_expr (pe_mt (K := K) rfl (takes_of rfl rfl rfl rfl) (pe_fldC (T.cls 149) (T.noat 155) (pv 0)) c_Lasts_say (hr.mono (by decide)) (pa_cons (pv 6) pa_nil))))))))))), ?rd⟩)
  case len => obtain ⟨_, _, _, _, _, _, rfl, _⟩ := h; rfl
  case rd =>
    obtain ⟨A, R, S, U, d, ps, rfl, I, hd, hw, hp, tl, fl, wl, sl, q⟩ := h
    have sz : 10000000 ≤ sizeLine := by rw [sizeLine_eq]; omega
    have hz := I.ro.ho.sz
    have vw := I.ro.ho.vw
    have ndt : ∀ {c kv}, H c = some (.dK kv) → c ≠ R.hl ∧ c ≠ R.wl ∧ c ≠ R.d ∧ c ≠ R.e := fun g => ⟨ne_of g I.ro.ho.ls (by intro z; cases z), ne_of g I.ro.wo.ls (by intro z; cases z), ne_of g I.ro.lo.wa (by intro z; cases z), ne_of g I.ro.lo.sk (by intro z; cases z)⟩
    have dn := ndt hd
    have gr : ∀ {x y}, goG ps x = some y → 0 ≤ y ∧ y ≤ 9999 := fun e => hp _ (goG_in e)
    walk_at "w3"
    refine ⟨_, fldIs I.ro.ob, recv I.ro.ho.ob, R.h, R.hx, R.hl, U.hs, rfl, I.ro.ho, fun r nr => ?_⟩
    have s1 := same_new (o := .lst (U.hs.map V.int)) nr
    have hr : upd H r (.lst (U.hs.map V.int)) r = some (.lst (U.hs.map V.int)) := upd_same
    have I1 := I.same s1
    have hd1 := s1 _ _ hd
    have rn : r ≠ R.hl ∧ r ≠ R.wl ∧ r ≠ R.d ∧ r ≠ R.e := ⟨(ne_of_none I.ro.ho.ls nr).symm, (ne_of_none I.ro.wo.ls nr).symm, (ne_of_none I.ro.lo.wa nr).symm, (ne_of_none I.ro.lo.sk nr).symm⟩
    generalize upd H r (.lst (U.hs.map V.int)) = H1 at s1 hr I1 hd1 ⊢
    refine r_lenL hr ?_
    walk_at "w3"
    rw [List.length_map]
    refine ⟨by omega, by omega, ?_⟩
    rw [Int.toNat_natCast]
    refine forW_range (lo := 0) (fun i σ H' => ∃ o3, σ = [some (.ref R.r), some (.ref d), some (.ref r), o3, none, none, none, none] ∧ PairO K H' A R S { U with hs := mapT (turnW (goF ps)) U.hs i } ∧ ∀ b o, b ≠ R.hl → H1 b = some o → H' b = some o) ⟨_, rfl, I1, fun b o _ g => g⟩ ?_ ?_
    · rintro i σ H' hi ⟨o3, rfl, I', k'⟩
      rw [Int.zero_add]
      have ei : U.hs[i]? = some (U.hs.getD i 0) := getD_at (d := 0) hi
      have mw := List.mem_of_getElem? ei
      walk_at "w3"
      refine ⟨_, fldIs I'.ro.ob, recv I'.ro.ho.ob, ?_⟩
      refine r_ixL (k' _ _ rn.1 hr) (by rw [List.getElem?_map, ei]; rfl) ?_
      refine ⟨_, d, ps, rfl, k' _ _ dn.1 hd1, vw _ mw, hw _ mw, ?_⟩
      have wi := turn_isSome (vw _ mw) (hw _ mw)
      refine ⟨_, _, _, _, _, _, rfl, I'.ro.ho, .inl ⟨_, rfl⟩, .inl ⟨_, rfl⟩, ?_⟩
      rw [placeOf_int, if_pos ⟨by omega, by show (i : Int) < ((mapT (turnW (goF ps)) U.hs i).length : Nat); rw [mapT_len]; omega⟩, wordV_int, if_pos wi, Int.toNat_natCast]
      dsimp only
      have J := I'.hput (i := i) wi
      dsimp only at J
      rw [mapT_set ei] at J ⊢
      exact ⟨_, rfl, J, fun b o n g => (upd_ne n).trans (k' b o n g)⟩
    rintro σ H2 ⟨o3, rfl, I2, k2⟩
    rw [mapT_all (Nat.le_refl _)] at I2
    have hd2 := k2 _ _ dn.1 hd1
    have f2 : ∀ b o, b ≠ R.hl → b ≠ R.wl → b ≠ R.d → b ≠ R.e → H b = some o → H2 b = some o := fun b o n _ _ _ g => k2 b o n (s1 _ _ g)
    clear k2 I1 hd1 s1 hr
    walk_at "w3"
    refine ⟨_, fldIs I2.ro.ob, recv I2.ro.wo.ob, R.w, R.wx, R.wl, U.ts, rfl, I2.ro.wo, by omega, fl, fun p rs H3 np s3 hp3 ta => ?_⟩
    have I3 := I2.same s3
    have hd3 := s3 _ _ hd2
    have pn : p ≠ R.wl := (ne_of_none I2.ro.wo.ls np).symm
    have f3 : ∀ b o, b ≠ R.hl → b ≠ R.wl → b ≠ R.d → b ≠ R.e → H b = some o → H3 b = some o := fun b o n1 n2 n3 n4 g => s3 _ _ (f2 b o n1 n2 n3 n4 g)
    clear hd2
    have tpk : ∀ {tp xs}, H3 tp = some (.tup xs) → tp ≠ R.wl := fun g => ne_of g I3.ro.wo.ls (by intro z; cases z)
    walk_at "w3"
    refine ⟨⟨_, .of hp3⟩, forW_list (xs := rs) (fun i σ H' => ∃ o3 o4 o5 m, σ = [some (.ref R.r), some (.ref d), some (.ref r), o3, o4, o5, none, none] ∧ m ≤ U.ts.length ∧ (pairsOf 0 U.ts).drop i = pairsOf m (U.ts.drop m) ∧ PairO K H' A R S { U with hs := U.hs.map (turnW (goF ps)), ts := mapT (nmG (goG ps)) U.ts m } ∧ ∀ b o, b ≠ R.wl → H3 b = some o → H' b = some o) ⟨_, _, _, 0, rfl, Nat.zero_le _, rfl, I3, fun b o _ g => g⟩ ?_ ?_ ?_⟩
    · rintro i σ H' _ ⟨o3, o4, o5, m, rfl, -, -, -, k'⟩
      exact .of (k' _ _ pn hp3)
    · rintro i x σ H' hx ⟨o3, o4, o5, m, rfl, hm, ed, I', k'⟩
      obtain ⟨tp, xs, rfl, htp, ex⟩ := tups_get ta hx
      rw [List.drop_eq_getElem_cons (List.getElem?_eq_some_iff.mp ex).1, (List.getElem?_eq_some_iff.mp ex).2] at ed
      obtain ⟨a, pl, ma, al, rfl, ea, er, em⟩ := pairs_step (g := goG ps) fl (Nat.le_refl _) ed.symm
      have htp' := k' _ _ (tpk htp) htp
      have hd' := k' _ _ dn.2.1 hd3
      have gm : (mapT (nmG (goG ps)) U.ts m).getD a .non = .int pl := by rw [List.getD_eq_getElem?_getD, mapT_get ma, ea]; rfl
      have lm : (mapT (nmG (goG ps)) U.ts m).length = U.ts.length := mapT_len
      have es := mapT_set (f := nmG (goG ps)) ea
      rw [em] at es
      have fin : ∀ us, us = nmG (goG ps) (.int pl) → ∃ o3 o4 o5 m', [some (V.ref R.r), some (.ref d), some (.ref r), o3, some (.int (a : Int)), some (.int pl), none, none] = [some (.ref R.r), some (.ref d), some (.ref r), o3, o4, o5, none, none] ∧ m' ≤ U.ts.length ∧ (pairsOf 0 U.ts).drop (i + 1) = pairsOf m' (U.ts.drop m') ∧ PairO K (upd H' R.wl (.lst ((mapT (nmG (goG ps)) U.ts m).set a us))) A R S { U with hs := U.hs.map (turnW (goF ps)), ts := mapT (nmG (goG ps)) U.ts m' } ∧ ∀ b o, b ≠ R.wl → H3 b = some o → upd H' R.wl (.lst ((mapT (nmG (goG ps)) U.ts m).set a us)) b = some o := by
        rintro us rfl
        have J := I'.wkput (us := (mapT (nmG (goG ps)) U.ts m).set a (nmG (goG ps) (.int pl)))
        rw [es] at J ⊢
        exact ⟨o3, _, _, a + 1, rfl, al, er, J, fun b o n g => (upd_ne n).trans (k' b o n g)⟩
      walk_at "w3"
      refine ⟨_, .inl (.inl htp'), rfl, ?_⟩
      walk_at "w3"
      have dg := dget_i (i := pl) hd'
      rw [goG_val] at dg
      refine ⟨_, dg, ?_⟩
      cases eg : goG ps pl with
      | none =>
        walk_at "w3"
        refine ⟨_, fldIs I'.ro.ob, recv I'.ro.wo.ob, R.w, R.wx, R.wl, _, _, rfl, I'.ro.wo, .inl ⟨_, rfl⟩, ?_⟩
        dsimp only
        rw [placeOf_int, lm, if_pos ⟨by omega, by omega⟩, Int.toNat_natCast]
        dsimp only
        rw [gm, if_neg (by intro z; cases z)]
        obtain ⟨o3', o4', o5', m', h1, h2⟩ := fin .non (by show _ = (match goG ps pl with | some q => V.int q | none => .non); rw [eg])
        exact ⟨_, _, _, m', rfl, h2⟩
      | some q' =>
        walk_at "w3"
        rw [eg] at dg
        refine ⟨_, fldIs I'.ro.ob, recv I'.ro.wo.ob, _, dg, ?_⟩
        obtain ⟨g0, g1⟩ := gr eg
        refine ⟨R.w, R.wx, R.wl, _, _, _, rfl, I'.ro.wo, .inl ⟨_, rfl⟩, .inl ⟨_, rfl⟩, ?_⟩
        dsimp only
        rw [placeOf_int, lm, if_pos ⟨by omega, by omega⟩, Int.toNat_natCast]
        dsimp only
        rw [gm, if_neg (by intro z; cases z), placeW_int, if_pos ⟨g0, g1⟩]
        obtain ⟨o3', o4', o5', m', h1, h2⟩ := fin (.int q') (by show _ = (match goG ps pl with | some q => V.int q | none => .non); rw [eg])
        exact ⟨_, _, _, m', rfl, h2⟩
    rintro σ H4 ⟨o3', o4, o5, m, rfl, hm, ed, I4, k4⟩
    have tlen := ta.len
    rw [tlen, List.drop_length] at ed
    rw [pairs_end (g := goG ps) fl (Nat.le_refl _) ed.symm] at I4
    have hd4 := k4 _ _ dn.2.1 hd3
    have f4 : ∀ b o, b ≠ R.hl → b ≠ R.wl → b ≠ R.d → b ≠ R.e → H b = some o → H4 b = some o := fun b o n1 n2 n3 n4 g => k4 b o n2 (f3 b o n1 n2 n3 n4 g)
    clear k4 f3 f2 I3 hd3 ta hp3 s3 I2
    walk_at "w3"
    refine ⟨_, fldIs I4.ro.ob, recv I4.ro.lo.ob, R.la, R.lax, R.d, R.e, _, U.ws, U.ss, rfl, I4.ro.lo, by omega, fun p rs H5 np s5 hp5 ta => ?_⟩
    have I5 := I4.same s5
    have hd5 := s5 _ _ hd4
    have pn : p ≠ R.d ∧ p ≠ R.e := ⟨(ne_of_none I4.ro.lo.wa np).symm, (ne_of_none I4.ro.lo.sk np).symm⟩
    have f5 : ∀ b o, b ≠ R.hl → b ≠ R.wl → b ≠ R.d → b ≠ R.e → H b = some o → H5 b = some o := fun b o n1 n2 n3 n4 g => s5 _ _ (f4 b o n1 n2 n3 n4 g)
    have tpk : ∀ {tp xs}, H5 tp = some (.tup xs) → tp ≠ R.d ∧ tp ≠ R.e := fun g => ⟨ne_of g I5.ro.lo.wa (by intro z; cases z), ne_of g I5.ro.lo.sk (by intro z; cases z)⟩
    walk_at "w3"
    refine ⟨⟨_, .of hp5⟩, forW_list (xs := rs) (fun i σ H' => ∃ o3 o4 o5 o6 o7 m rs', σ = [some (.ref R.r), some (.ref d), some (.ref r), o3, o4, o5, o6, o7] ∧ m ≤ U.ws.length ∧ (pendOf 0 U.ws).drop i = pendOf m (U.ws.drop m) ∧ PairO K H' A R S { U with hs := U.hs.map (turnW (goF ps)), ts := U.ts.map (nmG (goG ps)), rs := rs', ws := mapT (tkG (goG ps)) U.ws m, ss := U.ss ++ saidG (goG ps) (U.ws.take m) } ∧ ∀ b o, b ≠ R.d → b ≠ R.e → H5 b = some o → H' b = some o) ⟨_, _, _, _, _, 0, _, rfl, Nat.zero_le _, rfl, (by rw [show U.ss ++ saidG (goG ps) (U.ws.take 0) = U.ss from List.append_nil _]; exact I5), fun b o _ _ g => g⟩ ?_ ?_ ?_⟩
    · rintro i σ H' _ ⟨o3, o4, o5, o6, o7, m, rs', rfl, -, -, -, k'⟩
      exact .of (k' _ _ pn.1 pn.2 hp5)
    · rintro i x σ H' hx ⟨o3, o4, o5, o6, o7, m, rs', rfl, hm, ed, I', k'⟩
      obtain ⟨tp, xs, rfl, htp, ex⟩ := tups_get ta hx
      rw [List.drop_eq_getElem_cons (List.getElem?_eq_some_iff.mp ex).1, (List.getElem?_eq_some_iff.mp ex).2] at ed
      obtain ⟨a, pl, nb, ma, al, rfl, ea, er, em, es2⟩ := pend_step (g := goG ps) (Nat.le_refl _) ed.symm
      have htp' := k' _ _ (tpk htp).1 (tpk htp).2 htp
      have hd' := k' _ _ dn.2.2.1 dn.2.2.2 hd5
      have lm : (mapT (tkG (goG ps)) U.ws m).length = U.ws.length := mapT_len
      have es := mapT_set (f := tkG (goG ps)) ea
      rw [em] at es
      have et : tickOf (mapT (tkG (goG ps)) U.ws m) (.int (a : Int)) = some (a, pl, nb) := by
        unfold tickOf
        rw [placeOf_int, lm, if_pos ⟨by omega, by omega⟩, Int.toNat_natCast]
        dsimp only
        rw [List.getD_eq_getElem?_getD, mapT_get ma, ea]
        rfl
      have e7 : saidG (goG ps) (U.ws.take (a + 1)) = saidG (goG ps) (U.ws.take m) ++ sdG (goG ps) (some (pl, nb)) := by rw [saidG_snoc ea, es2]
      have sl2 := said_len (g := goG ps) (ws := U.ws.take m)
      have sl3 : (U.ws.take m).length ≤ U.ws.length := by rw [List.length_take]; omega
      walk_at "w3"
      refine ⟨_, .inl (.inl htp'), rfl, ?_⟩
      walk_at "w3"
      have dg := dget_i (i := pl) hd'
      rw [goG_val] at dg
      refine ⟨_, dg, ?_⟩
      cases eg : goG ps pl with
      | none =>
        walk_at "w3"
        refine ⟨_, fldIs I'.ro.ob, recv I'.ro.lo.ob, R.la, R.lax, R.d, R.e, _, _, _, _, rfl, I'.ro.lo, by show (U.ss ++ saidG _ _).length < _; rw [List.length_append]; omega, .inl ⟨_, rfl⟩, ?_⟩
        dsimp only
        rw [et]
        intro H6 rs6 L6 k6
        have e8 : tkG (goG ps) (some (pl, nb)) = none := by show (goG ps pl).map _ = none; rw [eg]; rfl
        have e9 : sdG (goG ps) (some (pl, nb)) = [nb] := by show (if (goG ps pl).isSome then [] else [nb]) = _; rw [eg]; rfl
        rw [e8] at es
        rw [e9] at e7
        rw [es, List.append_assoc, ← e7] at L6
        exact ⟨_, _, _, _, _, a + 1, rs6, rfl, al, er, I'.lsput L6 k6, fun b o n1 n2 g => k6 b o n1 n2 (k' b o n1 n2 g)⟩
      | some q' =>
        walk_at "w3"
        rw [eg] at dg
        refine ⟨_, fldIs I'.ro.ob, recv I'.ro.lo.ob, _, dg, ?_⟩
        obtain ⟨g0, g1⟩ := gr eg
        refine ⟨R.la, R.lax, R.d, R.e, _, _, _, _, _, rfl, I'.ro.lo, .inl ⟨_, rfl⟩, .inl ⟨_, rfl⟩, ?_⟩
        dsimp only
        rw [et, placeW_int, if_pos ⟨g0, g1⟩]
        intro H6 rs6 L6 k6
        have e8 : tkG (goG ps) (some (pl, nb)) = some (q', nb) := by show (goG ps pl).map _ = _; rw [eg]; rfl
        have e9 : sdG (goG ps) (some (pl, nb)) = [] := by show (if (goG ps pl).isSome then [] else [nb]) = _; rw [eg]; rfl
        rw [e8] at es
        rw [e9, List.append_nil] at e7
        rw [es, ← e7] at L6
        exact ⟨_, _, _, _, _, a + 1, rs6, rfl, al, er, I'.lsput L6 fun c o n1 _ g => k6 c o n1 g, fun b o n1 n2 g => k6 b o n1 (k' b o n1 n2 g)⟩
    rintro σ H7 ⟨o3'', o4', o5', o6, o7, m', rs', rfl, hm', ed', I7, k7⟩
    have tlen := ta.len
    rw [tlen, List.drop_length] at ed'
    obtain ⟨e1, e2⟩ := pend_end (g := goG ps) (Nat.le_refl _) ed'.symm
    rw [e1, e2] at I7
    exact q _ H7 I7 rfl rfl rfl rfl rfl rfl fun b o n1 n2 n3 n4 g => k7 b o n3 n4 (f5 b o n1 n2 n3 n4 g)
end

local macro_rules | `(tactic| walk_at "w3") => `(tactic| try simp only [↓x_var0, ↓x_varS, ↓x_c, ↓x_op, ↓x_un, ↓x_cb, ↓x_nil, ↓x_cons, ↓x_test, ↓x_b, ↓x_ex, ↓x_and, ↓x_or, ↓x_not, ↓x_andV, ↓x_orV, ↓x_notV, ↓x_tif, ↓x_chain, ↓x_menu, ↓x_menuI, ↓x_lst, ↓x_tup, ↓x_dnew, ↓x_callW, ↓x_callN, ↓x_seq, ↓x_next, ↓x_ret, ↓x_retN, ↓x_drop, ↓x_ifS, ↓x_asg, ↓x_name, ↓x_raise, ↓x_fld, ↓x_setF, ↓x_meth, ↓x_make, ↓x_sub, ↓r_min, ↓r_max, ↓x_yes, ↓x_for, ↓x_lock, ↓x_keys, ↓x_cut, ↓x_lc, ↓x_rng1, ↓x_rng2, ↓x_lst1, ↓x_itup, ↓x_rng3, ↓x_three, ↓x_lstg, ↓x_tupg, ↓x_adrS, ↓x_one, ↓x_two, ↓x_adr, ↓x_sl, ↓x_np, ↓x_pt, ↓x_int, ↓x_bm, ↓x_bm0, ↓x_consg, ↓x_nilg, ↓x_dget2, ↓x_dget1, ↓x_dgetN, ↓x_dget, ↓x_din, ↓x_dni, ↓x_dput, ↓x_dpop2, ↓r_isB, ↓r_notB, ↓x_enum, ↓x_zip, ↓x_str, ↓x_strE, ↓r_inS, ↓r_ninS, wipe, List.map_cons, List.map_nil, ↓x_isT, ↓r_isiII, ↓r_isiBB, ↓r_isiIB, ↓r_isiSS, ↓r_neNS, ↓r_neSN, ↓r_neNN, ↓r_eqNS, ↓r_eqSN, ↓r_eqNN, ↓r_eqIS, ↓r_neIS, ↓r_neSI, ↓r_neBS, ↓r_eqBB, ↓r_neBB, ↓x_start, ↓x_K, ↓x_start0, ↓r_i0, ↓r_i, ↓r_u, ↓r_addI, ↓r_addS, ↓r_mulI, ↓r_mulS, ↓r_eqI, ↓r_neI, ↓r_eqS, ↓r_neS, ↓r_absI, ↓r_intI, ↓r_intB, List.length_cons, List.length_nil, List.replicate, List.set_cons_zero, List.set_cons_succ, decide_eq_true_eq, Bool.not_eq_true', decide_eq_false_iff_not, if_true, if_false, Bool.false_eq_true, Bool.true_eq_false, ite_true, ite_false, Bool.not_true, Bool.not_false, c_div, n_ten, c_pow, not_true_eq_false, not_false_eq_true, decide_true, decide_false, true_and, and_true, and_self, true_or, or_true, Int.reduceLT, Int.reduceLE, Int.reduceMul, Int.reduceAdd, Int.reduceSub, Int.reducePow, Int.reduceNeg, Int.reduceDiv, Int.reduceMod, Nat.reducePow, Int.reduceToNat, Int.reduceEq, Int.reduceNe, Nat.reduceLT, Nat.reduceLeDiff, Nat.reduceAdd, ↓x_whole, ↓x_kind, Int.natCast_one, Int.natCast_one])
/-- the goals of kept cells -/
abbrev goP (C : List CeL) (ss : List Int) : List (Int × Int) := goL (wC C) 0 ss
structure SlidR (S : ArS) (U : RoS) (C : List CeL) (ss : List Int) (D : List CeL) (S' : ArS) (U' : RoS) : Prop where
  pm : ss.Perm (reachC C (placesW U.hs))
  so : ss.Pairwise (· ≤ ·)
  dp : D.map (fun c => (c.p : Int)) = ss
  dw : ∀ d ∈ D, ∃ c ∈ C, c.p = d.p ∧ d.r = c.r ∧ d.ws = c.ws.map (turnW (goF (goP C ss)))
  dv : ∀ d ∈ D, ∀ w ∈ d.ws, (wordOf w).isSome = true
  ce : CelP S' (slC 0 D)
  ag : ∀ c ∈ slC 0 D, headAt (S'.ws.getD c.p 0) = some (4 * c.ws.length + 2)
  ot : S'.ot = sumW D
  n : S'.n = S.n
  k : S'.k = S.k
  fl : S'.fl = S.fl
  t : ∀ f, S'.t f = S'.b f
  hs : U'.hs = U.hs.map (turnW (goF (goP C ss)))
  bs : U'.bs = []
  ts : U'.ts = U.ts.map (nmG (goG (goP C ss)))
  ws : U'.ws = U.ws.map (tkG (goG (goP C ss)))
  ss : U'.ss = U.ss ++ saidG (goG (goP C ss)) U.ws
def sp_collect_all (K : PySem.W.Frag) : Sp := fun vs H Q _ => ∃ A R S U C, vs = [.ref A.a, .ref R.r] ∧ PairO K H A R S U ∧ CelP S C ∧ (∀ c ∈ C, ∀ w ∈ c.ws, ClW C w) ∧ (∀ w ∈ U.hs, ClW C w) ∧ C.length ≤ 1000 ∧ ((reachC C (placesW U.hs)).map (wC C)).sum ≤ S.n ∧
  U.ts.length < 100000 ∧ (∀ t ∈ U.ts, flatN t = true) ∧ U.ws.length < 100000 ∧ U.ss.length < 100000 ∧
  ∀ ss D S' U' H', SlidR S U C ss D S' U' → PairO K H' A R S' U' → H U'.bd = none → Kc A R U.bd H H' → Q (.int (sumW D : Int)) H'
theorem goP_mem {S : ArS} {C : List CeL} (cp : CelP S C) {ss : List Int} (nd : ss.Nodup) {k : Nat} {x : Int} (h : ss[k]? = some x) : goG (goP C ss) x = some (((ss.take k).map (wC C)).sum) := by
  have m := goL_at (w := wC C) (t := 0) h
  rw [Int.zero_add] at m
  exact goG_mem (kvI_pw (by rw [goL_fst]; exact nd)) m
theorem PairO.mem {K : PySem.W.Frag} {H H' : Hp} {A : ArA} {R : RoA} {S : ArS} {U : RoS} (h : PairO K H A R S U) {ws : List Int} (M : MemO K H' A.m A.mx A.l ws) (vw : Vw ws) (e : ws.length = S.ws.length) (k : ∀ b o, b ≠ A.l → H b = some o → H' b = some o) : PairO K H' A R { S with ws := ws } U :=
  h.arS (h.ar.words M k vw e) fun b o _ n _ _ _ g => k b o n g
theorem put_both : ∀ S : ArS, ((S.put S.fl (S.b S.fl)).put (!S.fl) (S.b (!S.fl))) = { S with t1 := S.n, t2 := S.n + S.k } := fun ⟨ws, n, k, ot, t1, t2, fl⟩ => by cases fl <;> rfl
theorem put_b {S : ArS} {f g : Bool} {t : Nat} : (S.put f t).b g = S.b g ∧ (S.put f t).k = S.k := by
  unfold ArS.put ArS.b
  cases f <;> exact ⟨rfl, rfl⟩
theorem ArO.ny {K : PySem.W.Frag} {H : Hp} {A : ArA} {S : ArS} (h : ArO K H A S) (f : Bool) : A.y (!f) ≠ A.y f := by
  cases f
  · exact h.npq.symm
  · exact h.npq
theorem Kc.none {K : PySem.W.Frag} {H H' : Hp} {A : ArA} {R : RoA} {S : ArS} {U : RoS} (h : PairO K H' A R S U) (k : Kc A R U.bd H H') {x : Addr} (e : H' x = none) : H x = none := by
  cases e2 : H x with
  | none => rfl
  | some o =>
    rw [k x o (ne_of_none h.ar.ob e).symm (ne_of_none h.ar.me.ls e).symm (ne_of_none h.ar.so e).symm (ne_of_none h.ar.sp e).symm (ne_of_none h.ar.sq e).symm (ne_of_none h.ro.ho.ls e).symm (ne_of_none h.ro.wo.ls e).symm (ne_of_none h.ro.lo.wa e).symm (ne_of_none h.ro.lo.sk e).symm (ne_of_none h.ro.bo.ob e).symm (ne_of_none h.ro.bo.ds e).symm e2] at e
    cases e
theorem sumI_take {w : Int → Int} (h : ∀ x, 0 ≤ w x) {xs : List Int} {k : Nat} : ((xs.take k).map w).sum ≤ (xs.map w).sum := by
  have e : (xs.map w).sum = ((xs.take k).map w).sum + ((xs.drop k).map w).sum := by
    rw [← List.sum_append, ← List.map_append, List.take_append_drop]
  have := sum_ge h (xs.drop k)
  omega
theorem pick {E : List CeL} : ∀ {ss : List Int}, (∀ x ∈ ss, ∃ c ∈ E, x = (c.p : Int)) → ∃ D : List CeL, D.map (fun c => (c.p : Int)) = ss ∧ ∀ d ∈ D, d ∈ E
  | [], _ => ⟨[], rfl, fun d m => (List.not_mem_nil m).elim⟩
  | x :: r, h => by
    obtain ⟨c, mc, e⟩ := h x List.mem_cons_self
    obtain ⟨D, h1, h2⟩ := pick (E := E) (ss := r) fun y m => h y (List.mem_cons_of_mem _ m)
    refine ⟨c :: D, by rw [List.map_cons, h1, e], fun d m => ?_⟩
    rcases List.mem_cons.mp m with rfl | m
    · exact mc
    · exact h2 d m
theorem wC_D {C D : List CeL} (h : ∀ d ∈ D, wC C d.p = (d.ws.length : Int) + 1) : ((D.map fun c => (c.p : Int)).map (wC C)).sum = (sumW D : Int) := by
  induction D with
  | nil => rfl
  | cons d r ih =>
    have e : sumW (d :: r) = (d.ws.length + 1) + sumW r := rfl
    rw [List.map_cons, List.map_cons, List.sum_cons, ih (fun c m => h c (List.mem_cons_of_mem _ m)), h d List.mem_cons_self, e]
    omega
theorem slide_end {ws : List Int} {D : List CeL} {S : ArS} (h : SlI ws D D.length) (ew : S.ws = ws) (eo : S.ot = sumW D) : CelP S (slC 0 D) ∧ ∀ c ∈ slC 0 D, headAt (S.ws.getD c.p 0) = some (4 * c.ws.length + 2) := by
  subst ew
  have key : ∀ b ∈ slC 0 D, ∃ k c, D[k]? = some c ∧ b.p = sumW (D.take k) ∧ b.ws = c.ws ∧ k < D.length := fun b m => by
    obtain ⟨k, c, ek, rfl⟩ := slC_mem m
    exact ⟨k, c, ek, Nat.zero_add _, rfl, (List.getElem?_eq_some_iff.mp ek).1⟩
  have hd : ∀ c ∈ slC 0 D, headAt (S.ws.getD c.p 0) = some (4 * c.ws.length + 2) := fun b m => by
    obtain ⟨k, c, ek, e1, e2, kl⟩ := key b m
    rw [e1, e2]
    exact (h.dn k c ek kl).1
  refine ⟨⟨fun b m => ⟨2, Nat.le_refl _, hd b m⟩, fun b m j hj => ?_, fun b m => ?_, ?_⟩, hd⟩
  · obtain ⟨k, c, ek, e1, e2, kl⟩ := key b m
    rw [e2] at hj
    rw [e1, e2]
    exact (h.dn k c ek kl).2 j hj
  · obtain ⟨k, c, ek, e1, e2, kl⟩ := key b m
    have := sum_take ek
    have := sum_all (D := D) (k := k + 1)
    rw [e1, e2, eo]
    exact .inl (by omega)
  · refine List.pairwise_iff_getElem.mpr fun i j hi hj hij => ?_
    have hi' : i < D.length := by rwa [slC_len] at hi
    have hj' : j < D.length := by rwa [slC_len] at hj
    have ei := slC_get (t := 0) (List.getElem?_eq_getElem hi')
    have ej := slC_get (t := 0) (List.getElem?_eq_getElem hj')
    have ei := (List.getElem?_eq_some_iff.mp ei).2
    have ej := (List.getElem?_eq_some_iff.mp ej).2
    rw [ei, ej]
    have s1 := sum_take (List.getElem?_eq_getElem hi')
    have s2 := sum_le (D := D) (show i + 1 ≤ j by omega)
    exact .inl (by show 0 + sumW (D.take i) + D[i].ws.length < 0 + sumW (D.take j); omega)
section
variable {P : Program} {w : World} {K : PySem.W.Frag} {mg : Str → Option Value} {base : Heap}
theorem f_collect_all (T : Tx K mg) : Fn P w K mg base 8 "collect_all" ["areas", "roots"] (sp_collect_all K) := by
  have c_reached := f_reached (P := P) (w := w) (base := base) T
  have c_Roots_starts := f_Roots_starts (P := P) (w := w) (base := base) T
  have c_goals := f_goals (P := P) (w := w) (base := base) T
  have c_turn_slots := f_turn_slots (P := P) (w := w) (base := base) T
  have c_turn_roots := f_turn_roots (P := P) (w := w) (base := base) T
  have c_words_of := f_words_of (P := P) (w := w) (base := base) T
  have c_Memory_copy := f_Memory_copy (P := P) (w := w) (base := base) T
  have c_aged := f_aged (P := P) (w := w) (base := base) T
  have c_Space_cut := f_Space_cut (P := P) (w := w) (base := base) T
  have c_Space_empty := f_Space_empty (P := P) (w := w) (base := base) T
  have c_Book_clear := f_Book_clear (P := P) (w := w) (base := base) T
  have c_Space_used := f_Space_used (P := P) (w := w) (base := base) T
  refine T.mkFn 18 36 (d := d_collect_all) (N := ["areas", "roots", "memory", "kept", "where", "at", "top", "many"]) (k := 7) rfl rfl rfl rfl rfl sc_collect_all (fun _ _ _ _ _ _ us hl => match us, hl with | [_, _], _ => rfl) (fun vs H Q E h => ?len) (fun cdv A outer s H vs Q E hr h => ⟨_,
      (pss_cons (ps_set (i := 2) sc_collect_all.nd rfl (Or.inl rfl) (pe_fldC (T.cls 104) (T.noat 110) (pv 0)))
        (pss_cons (ps_set (i := 3) sc_collect_all.nd rfl (Or.inl rfl) (pe_fn (takes_of rfl rfl rfl rfl) c_reached (hr.mono (by decide)) (by rfl) (pa_cons (pv 2) (pa_cons (pe_mt0 (K := K) rfl (takes_of rfl rfl rfl rfl) (pv 1) c_Roots_starts (hr.mono (by decide))) pa_nil))))
        (pss_cons (ps_set (i := 4) sc_collect_all.nd rfl (Or.inl rfl) (pe_fn (takes_of rfl rfl rfl rfl) c_goals (hr.mono (by decide)) (by rfl) (pa_cons (pv 0) (pa_cons (pv 3) pa_nil))))
        (pss_cons (ps_for (passes_of rfl) rfl (pi_listK (K := K) rfl (pv 3)) (pg_name (i := 5) sc_collect_all.nd rfl (Or.inl rfl)) (pss_one (ps_expr (pe_fn (takes_of rfl rfl rfl rfl) c_turn_slots (hr.mono (by decide)) (by rfl) (pa_cons (pv 2) (pa_cons (pv 5) (pa_cons (pv 4) pa_nil)))))))
        (pss_cons (ps_expr (pe_fn (takes_of rfl rfl rfl rfl) c_turn_roots (hr.mono (by decide)) (by rfl) (pa_cons (pv 1) (pa_cons (pv 4) pa_nil))))
        (pss_cons (ps_set (i := 6) sc_collect_all.nd rfl (Or.inl rfl) (pe_fldC (T.cls 92) (T.noat 101) (pe_fldC (T.cls 104) (T.noat 111) (pv 0))))
        (pss_cons (ps_for (passes_of rfl) rfl (pi_listK (K := K) rfl (pe_callB (call_sortedK (K := K) rfl) (by rfl) (T.free 67) (by decide +kernel) (pa_cons (pv 3) pa_nil))) (pg_name (i := 5) sc_collect_all.nd rfl (Or.inl rfl)) (pss_cons (ps_set (i := 7) sc_collect_all.nd rfl (Or.inl rfl) (pe_fn (takes_of rfl rfl rfl rfl) c_words_of (hr.mono (by decide)) (by rfl) (pa_cons (pv 2) (pa_cons (pv 5) pa_nil))))
        (pss_cons (ps_expr (pe_mt (K := K) rfl (takes_of rfl rfl rfl rfl) (pv 2) c_Memory_copy (hr.mono (by decide)) (pa_cons (pv 5) (pa_cons (pe_dget (hu_of hr) (pv 4) (pv 5) (fun _ _ => rfl)) (pa_cons (pv 7) pa_nil)))))
        (pss_cons (ps_expr (pe_fn (takes_of rfl rfl rfl rfl) c_aged (hr.mono (by decide)) (by rfl) (pa_cons (pv 2) (pa_cons (pe_dget (hu_of hr) (pv 4) (pv 5) (fun _ _ => rfl)) (pa_cons (pe_num (T.num 56) (by rfl)) pa_nil)))))
        (pss_one (ps_set (i := 6) sc_collect_all.nd rfl (Or.inl rfl) (pe_op op_gAdd (pe_dget (hu_of hr) (pv 4) (pv 5) (fun _ _ => rfl)) (pv 7))))))))
        (pss_cons (ps_expr (pe_mt (K := K) rfl (takes_of rfl rfl rfl rfl) (pe_fldC (T.cls 104) (T.noat 111) (pv 0)) c_Space_cut (hr.mono (by decide)) (pa_cons (pv 6) pa_nil)))
        (pss_cons (ps_expr (pe_mt0 (K := K) rfl (takes_of rfl rfl rfl rfl) (pe_fldC (T.cls 104) (T.noat 112) (pv 0)) c_Space_empty (hr.mono (by decide))))
        (pss_cons (ps_expr (pe_mt0 (K := K) rfl (takes_of rfl rfl rfl rfl) (pe_fldC (T.cls 104) (T.noat 113) (pv 0)) c_Space_empty (hr.mono (by decide))))
        (pss_cons (ps_expr (pe_mt0 (K := K) rfl (takes_of rfl rfl rfl rfl) (pe_fldC (T.cls 149) (T.noat 153) (pv 1)) c_Book_clear (hr.mono (by decide))))
        (pss_one (ps_ret (pe_mt0 (K := K) rfl (takes_of rfl rfl rfl rfl) (pe_fldC (T.cls 104) (T.noat 111) (pv 0)) c_Space_used (hr.mono (by decide)))))))))))))))), ?rd⟩)
  case len => obtain ⟨_, _, _, _, _, rfl, _⟩ := h; rfl
  case rd =>
    obtain ⟨A, R, S, U, C, rfl, I, cp, cw, hw, cl, sm, tl, fl, wl, sl, q⟩ := h
    have sz : 10000000 ≤ sizeLine := by rw [sizeLine_eq]; omega
    have gn := I.ar.gn
    have gk := I.ar.gk
    have ln := I.ar.ln
    have lo := I.ar.lo
    have lt := I.ar.lt S.fl
    have hlt := cp.lt ln lo lt.2
    have ksC : ∀ x ∈ placesW U.hs, x ∈ plcC C := fun x mx => by
      obtain ⟨w, mw, e⟩ := List.mem_filterMap.mp mx
      cases ew : wordOf w with
      | none => rw [ew] at e; cases e
      | some y =>
        rw [ew] at e
        cases y with
        | place p =>
          cases e
          obtain ⟨c, mc, rfl⟩ := (hw w mw).2 _ ew
          exact List.mem_map.mpr ⟨c, mc, rfl⟩
        | _ => cases e
    have RC := reachC_is cp cw ksC
    walk_at "w3"
    refine ⟨_, fldIs I.ar.ob, recv I.ro.ob, R.r, R.rx, R.h, R.hx, R.hl, U.hs, _, _, _, rfl, I.ro.ob, I.ro.ho, fun p1 H1 np1 s1 hp1 => ?_⟩
    have I1 := I.same s1
    refine ⟨A.m, A.mx, A.l, S, C, p1, placesW U.hs, rfl, I1.ar.me, I1.ar.vw, .of hp1, cp, hlt, cw, ksC, cl, fun p2 H2 np2 s2 hp2 => ?_⟩
    have I2 := I1.same s2
    have kl : (reachC C (placesW U.hs)).length ≤ 1000 := by
      have := nd_len (U := plcC C) RC.nd fun x mx => by
        obtain ⟨c, mc, e⟩ := RC.cl x mx
        exact List.mem_map.mpr ⟨c, mc, e.symm⟩
      have e : (plcC C).length = C.length := List.length_map ..
      omega
    refine ⟨A, S, C, p2, reachC C (placesW U.hs), rfl, I2.ar, .of hp2, cp, RC.cl, RC.nd, kl, fun ss d H3 pm so nd3 s3 hd3 => ?_⟩
    have I3 := I2.same s3
    have s03 := (s1.trans s2).trans s3
    have hp3 := s3 _ _ hp2
    have po := I1.offl np2
    have od := I2.offl nd3
    have pH : H p2 = none := none_of s1 np2
    have dH : H d = none := none_of (s1.trans s2) nd3
    clear I1 I2 hp1 s1 s2 s3 hp2
    obtain ⟨ps, eps⟩ : ∃ ps, ps = goP C ss := ⟨_, rfl⟩
    have hd3 : H3 d = some (.dK (kvI ps)) := by rw [eps]; exact hd3
    have nds : ss.Nodup := pm.nodup_iff.mpr RC.nd
    have tot : (ss.map (wC C)).sum ≤ S.n := by rw [sum_perm (pm.map _)]; exact sm
    have gK : ∀ k x, ss[k]? = some x → goG ps x = some (((ss.take k).map (wC C)).sum) := fun k x e => by rw [eps]; exact goP_mem cp nds e
    have gx : ∀ x ∈ reachC C (placesW U.hs), ∃ q, goG ps x = some q ∧ 0 ≤ q ∧ q ≤ 9999 := fun x mx => by
      obtain ⟨k, ek⟩ := List.getElem?_of_mem (pm.mem_iff.mpr mx)
      have h1 := sumI_take (w := wC C) (fun x => wC_ge) (xs := ss) (k := k)
      exact ⟨_, gK k x ek, sum_ge (fun x => wC_ge) _, by omega⟩
    have gp : ∀ p ∈ ps, 0 ≤ p.2 ∧ p.2 ≤ 9999 := fun p mp => by
      have mf : p.1 ∈ ss := by
        have := List.mem_map_of_mem (f := (·.1)) mp
        rwa [eps, goL_fst] at this
      have pw : ps.Pairwise fun a b => a.1 ≠ b.1 := kvI_pw (by rw [eps, goL_fst]; exact nds)
      obtain ⟨q, eq, h⟩ := gx p.1 (pm.mem_iff.mp mf)
      rw [goG_mem pw mp] at eq
      cases eq
      exact h
    have wkid : ∀ {w : Int} {ws : List Int}, w ∈ ws → (wordOf w).isSome = true → ∀ p, wordOf w = some (.place p) → p ∈ kidsL ws := fun mw hs p e => by
      refine List.mem_filterMap.mpr ⟨_, mw, ?_⟩
      rw [wd_place e]
    have gW : ∀ c ∈ C, (c.p : Int) ∈ reachC C (placesW U.hs) → ∀ w ∈ c.ws, (wordOf w).isSome = true ∧ GoW ps w := fun c mc mk w mw => ⟨(cw c mc w mw).1, fun p e => gx p (RC.kd c mc mk p (wkid mw (cw c mc w mw).1 p e))⟩
    have gH : ∀ w ∈ U.hs, GoW ps w := fun w mw p e => gx p (RC.st p (List.mem_filterMap.mpr ⟨w, mw, by rw [e]⟩))
    have c8 : ∀ c ∈ C, c.ws.length ≤ 8 := fun c mc => by
      obtain ⟨k, -, h1, h2⟩ := cp.head mc (hlt c mc)
      omega
    have dnl : d ≠ A.l := ne_of hd3 I3.ar.me.ls (by intro z; cases z)
    have pnl : p2 ≠ A.l := po.1.1
    walk_at "w3"
    refine ⟨⟨_, .of hp3⟩, forW_list (xs := (reachC C (placesW U.hs)).map V.int) (fun i σ H' => ∃ o5 ws', σ = [some (.ref A.a), some (.ref R.r), some (.ref A.m), some (.ref p2), some (.ref d), o5, none, none] ∧ MemO K H' A.m A.mx A.l ws' ∧ Vw ws' ∧ ws'.length = S.ws.length ∧ CelP { S with ws := ws' } (tC (goF ps) (fun q => if (q : Int) ∈ (reachC C (placesW U.hs)).take i then 100 else 0) C) ∧ ∀ b o, b ≠ A.l → H3 b = some o → H' b = some o) ⟨_, S.ws, rfl, I3.ar.me, I3.ar.vw, rfl, ?_, fun b o _ g => g⟩ ?_ ?_ ?_⟩
    · rw [tC_cong (m := fun _ => 0) fun c mc => by rw [List.take_zero, if_neg List.not_mem_nil], tC_zero]
      exact cp
    · rintro i σ H' _ ⟨o5, ws', rfl, -, -, -, -, k'⟩
      exact .of (k' _ _ pnl hp3)
    · rintro i x σ H' hx ⟨o5, ws', rfl, M', vw', el, cp', k'⟩
      obtain ⟨y, ey, rfl⟩ := ints_at hx
      have my := List.mem_of_getElem? ey
      obtain ⟨c, mc, rfl⟩ := RC.cl y my
      have nin : ¬ (c.p : Int) ∈ (reachC C (placesW U.hs)).take i := fun m => by
        have nd := RC.nd
        have tk : (reachC C (placesW U.hs)).take (i + 1) = (reachC C (placesW U.hs)).take i ++ [(c.p : Int)] := by rw [List.take_add_one, ey]; rfl
        have nd2 := List.Nodup.sublist (List.take_sublist (i + 1) _) nd
        rw [tk] at nd2
        exact (List.nodup_append.mp nd2).2.2 _ m _ (List.mem_singleton.mpr rfl) rfl
      walk_at "w3"
      refine ⟨A.m, A.mx, A.l, { S with ws := ws' }, C, ps, _, d, c, mc, rfl, M', vw', k' _ _ dnl hd3, cp', fun b mb => by show _ < ws'.length; rw [el]; exact hlt b mb, if_neg nin, gW c mc my, fun w2 H2' M2 vw2 el2 cp2 k2 => ?_⟩
      refine ⟨_, w2, rfl, M2, vw2, el2.trans el, ?_, fun b o n g => k2 b o n (k' b o n g)⟩
      have e2 := tC_cong (f := goF ps) (C := C) (n := fun q => if q = c.p then c.ws.length else if (q : Int) ∈ (reachC C (placesW U.hs)).take i then 100 else 0) (m := fun q => if (q : Int) ∈ (reachC C (placesW U.hs)).take (i + 1) then 100 else 0) fun b mb => by
        have tk : (reachC C (placesW U.hs)).take (i + 1) = (reachC C (placesW U.hs)).take i ++ [(c.p : Int)] := by rw [List.take_add_one, ey]; rfl
        by_cases e : b.p = c.p
        · have := cp.same_p mb mc e
          subst this
          rw [if_pos rfl, if_pos (by rw [tk]; exact List.mem_append_right _ (List.mem_singleton.mpr rfl)), mapT_all (Nat.le_refl _), mapT_all (by have := c8 b mb; omega)]
        · rw [if_neg e]
          have : (b.p : Int) ∈ (reachC C (placesW U.hs)).take (i + 1) ↔ (b.p : Int) ∈ (reachC C (placesW U.hs)).take i := by
            rw [tk, List.mem_append, List.mem_singleton]
            exact ⟨fun h => h.elim id fun z => absurd z (by omega), .inl⟩
          by_cases g : (b.p : Int) ∈ (reachC C (placesW U.hs)).take i
          · rw [if_pos g, if_pos (this.mpr g)]
          · rw [if_neg g, if_neg (fun z => g (this.mp z))]
      rw [e2] at cp2
      exact cp2
    rintro σ H4 ⟨o5, w4, rfl, M4, vw4, el4, cp4, k4⟩
    rw [List.length_map, List.take_length] at cp4
    have I4 := I3.mem M4 vw4 el4 k4
    have hp4 := k4 _ _ pnl hp3
    have hd4 := k4 _ _ dnl hd3
    walk_at "w3"
    refine ⟨A, R, _, U, d, ps, rfl, I4, hd4, gH, gp, tl, fl, wl, sl, fun U5 H5 I5 h5 bd5 bs5 ts5 ws5 ss5 k5 => ?_⟩
    have vw5 := I5.ar.vw
    have hp5 := k5 _ _ po.1.2.1 po.1.2.2.1 po.1.2.2.2.1 po.1.2.2.2.2 hp4
    have hd5 := k5 _ _ od.1.2.1 od.1.2.2.1 od.1.2.2.2.1 od.1.2.2.2.2 hd4
    have k15 : Kc A R U.bd H H5 := fun b o _ n2 _ _ _ n6 n7 n8 n9 _ _ g => k5 b o n6 n7 n8 n9 (k4 b o n2 (s03 _ _ g))
    -- the cells that go
    obtain ⟨D, dp, dC⟩ := pick (E := tC (goF ps) (fun q => if (q : Int) ∈ reachC C (placesW U.hs) then 100 else 0) C) (ss := ss) fun x mx => by
      obtain ⟨c, mc, e⟩ := RC.cl x (pm.mem_iff.mp mx)
      exact ⟨_, List.mem_map.mpr ⟨c, mc, rfl⟩, e⟩
    have dp' : ∀ (k : Nat) (x : CeL), D[k]? = some x → ss[k]? = some (x.p : Int) := fun k x e => by rw [← dp, List.getElem?_map, e]; rfl
    have dw : ∀ x ∈ D, ∃ c ∈ C, c.p = x.p ∧ x.r = c.r ∧ x.ws = c.ws.map (turnW (goF ps)) ∧ x.ws.length = c.ws.length ∧ (c.p : Int) ∈ reachC C (placesW U.hs) := fun x mx => by
      obtain ⟨c, mc, rfl⟩ := List.mem_map.mp (dC x mx)
      have mk : (c.p : Int) ∈ reachC C (placesW U.hs) := by
        rw [← pm.mem_iff, ← dp]
        exact List.mem_map_of_mem (f := fun c => (c.p : Int)) mx
      have e : mapT (turnW (goF ps)) c.ws (if (c.p : Int) ∈ reachC C (placesW U.hs) then 100 else 0) = c.ws.map (turnW (goF ps)) := by
        rw [if_pos mk, mapT_all (by have := c8 c mc; omega)]
      exact ⟨c, mc, rfl, rfl, e, mapT_len, mk⟩
    have wD : ∀ x ∈ D, wC C x.p = (x.ws.length : Int) + 1 := fun x mx => by
      obtain ⟨c, mc, e1, -, -, e3, -⟩ := dw x mx
      rw [← e1, wC_mem cp mc, e3]
    have sD : ∀ k, ((ss.take k).map (wC C)).sum = (sumW (D.take k) : Int) := fun k => by
      rw [← dp, ← List.map_take]
      exact wC_D fun x mx => wD x (List.mem_of_mem_take mx)
    have rise := cp.rise so nds fun x mx => RC.cl x (pm.mem_iff.mp mx)
    have sld : SlD D w4.length := by
      refine ⟨fun j k a b ea eb jk => ?_, fun k c ek => ?_, fun k c ek => ?_⟩
      · have h1 := dp' j a ea
        have h2 := dp' k b eb
        have pw := List.pairwise_iff_getElem.mp rise
        obtain ⟨l1, e1⟩ := List.getElem?_eq_some_iff.mp h1
        obtain ⟨l2, e2⟩ := List.getElem?_eq_some_iff.mp h2
        have := pw j k l1 l2 jk
        rw [e1, e2, wD a (List.mem_of_getElem? ea)] at this
        omega
      · have := go_le (w := wC C) (t := 0) rise (fun x mx => by obtain ⟨c, -, e⟩ := RC.cl x (pm.mem_iff.mp mx); omega) (dp' k c ek)
        rw [sD] at this
        omega
      · obtain ⟨b, mb, e1, -, -, e3, -⟩ := dw c (List.mem_of_getElem? ek)
        have := hlt b mb
        rw [el4]
        omega
    have sm5 : sumW D ≤ S.n := by
      have h := sD D.length
      rw [List.take_length, show ss.take D.length = ss from List.take_of_length_le (by rw [← dp, List.length_map]; exact Nat.le_refl _)] at h
      omega
    have sl0 : SlI w4 D 0 := ⟨fun k c _ hk => absurd hk (Nat.not_lt_zero k), fun k c ek _ => by
      have mE := dC c (List.mem_of_getElem? ek)
      exact ⟨cp4.hd c mE, cp4.sl c mE⟩⟩
    have d8 : ∀ x ∈ D, x.ws.length ≤ 8 := fun x mx => by
      obtain ⟨c, mc, -, -, -, e3, -⟩ := dw x mx
      have := c8 c mc
      omega
    walk_at "w3"
    refine ⟨_, fldIs I5.ar.ob, _, fldIs I5.ar.so, p2, _, rfl, .of hp5, fun ss2 r pm2 so2 nr => ?_⟩
    obtain rfl : ss2 = ss := sort_one RC.nd RC.nd (fun i => Iff.rfl) pm2 pm so2 so
    have s6 := same_new (o := .lst (ss2.map V.int)) nr
    have I6 := I5.same s6
    have hr6 : upd H5 r (.lst (ss2.map V.int)) r = some (.lst (ss2.map V.int)) := upd_same
    have hd6 := s6 _ _ hd5
    have rnl : r ≠ A.l := (I5.offl nr).1.1
    have k16 : Kc A R U.bd H (upd H5 r (.lst (ss2.map V.int))) := fun b o n1 n2 n3 n4 n5 n6 n7 n8 n9 n10 n11 g => s6 _ _ (k15 b o n1 n2 n3 n4 n5 n6 n7 n8 n9 n10 n11 g)
    generalize upd H5 r (.lst (ss2.map V.int)) = H6 at I6 hr6 hd6 k16 ⊢
    walk_at "w3"
    refine ⟨⟨_, .of hr6⟩, forW_list (xs := ss2.map V.int) (fun i σ H' => ∃ o5 o7 ws', σ = [some (.ref A.a), some (.ref R.r), some (.ref A.m), some (.ref p2), some (.ref d), o5, some (.int (sumW (D.take i) : Int)), o7] ∧ MemO K H' A.m A.mx A.l ws' ∧ Vw ws' ∧ ws'.length = S.ws.length ∧ SlI ws' D i ∧ ∀ b o, b ≠ A.l → H6 b = some o → H' b = some o) ⟨_, _, w4, rfl, I6.ar.me, I6.ar.vw, el4, sl0, fun b o _ g => g⟩ ?_ ?_ ?_⟩
    · rintro i σ H' _ ⟨o5, o7, ws', rfl, -, -, -, -, k'⟩
      exact .of (k' _ _ rnl hr6)
    · rintro i x σ H' hx ⟨o5, o7, ws', rfl, M', vw', el', sl', k'⟩
      obtain ⟨y, ey, rfl⟩ := ints_at hx
      obtain ⟨c, ec, eyp⟩ : ∃ c, D[i]? = some c ∧ y = (c.p : Int) := by
        rw [← dp, List.getElem?_map] at ey
        cases e : D[i]? with
        | none => rw [e] at ey; cases ey
        | some c => rw [e] at ey; cases ey; exact ⟨c, rfl, rfl⟩
      subst eyp
      have mD := List.mem_of_getElem? ec
      have gk' := gK i _ ey
      rw [sD] at gk'
      have dg := dget_i (i := (c.p : Int)) (k' _ _ od.1.1 hd6)
      rw [goG_val, gk'] at dg
      obtain ⟨⟨a, a2, eh⟩, -⟩ := sl'.st i c ec (Nat.le_refl _)
      have en := sld.en i c ec
      have le := sld.le i c ec
      have l8 := d8 c mD
      have stk := sum_take ec
      walk_at "w3"
      refine ⟨A.m, A.mx, A.l, ws', _, rfl, M', vw', .inl ⟨_, rfl⟩, ?_⟩
      rw [ans_head' (by omega) eh]
      dsimp only
      rw [show (4 * c.ws.length + a) / 4 = c.ws.length from by omega]
      walk_at "w3"
      refine ⟨recv M'.ob, _, dg, A.m, A.mx, A.l, ws', _, _, _, rfl, M', .inl ⟨_, rfl⟩, .inl ⟨_, rfl⟩, .inl ⟨_, rfl⟩, ?_⟩
      rw [cpOf_int, if_pos (by omega), stretchOf_int, if_pos ⟨by omega, by omega⟩, stretchOf_int, if_pos ⟨by omega, by omega⟩]
      dsimp only
      rw [Int.toNat_natCast, Int.toNat_natCast, Int.toNat_natCast]
      intro H8 M8 k8 _
      have vw8 := cpT_vw vw' (i := c.p) (j := sumW (D.take i)) (t := c.ws.length + 1) (by omega)
      have dg8 := dget_i (i := (c.p : Int)) (k8 _ _ od.1.1 (k' _ _ od.1.1 hd6))
      rw [goG_val, gk'] at dg8
      have gl : sumW (D.take i) + (c.ws.length + 1) ≤ ws'.length := by omega
      have eh8 : headAt ((cpT ws' c.p (sumW (D.take i)) (c.ws.length + 1)).getD (sumW (D.take i)) 0) = some (4 * c.ws.length + a) := by
        rw [cpT_at gl, if_pos (by omega), Nat.sub_self, Nat.add_zero]
        exact eh
      refine ⟨_, dg8, A.m, A.mx, A.l, _, _, _, rfl, M8, vw8, .inl ⟨_, rfl⟩, .inl ⟨_, rfl⟩, ?_⟩
      rw [ans_head' (by rw [cpT_len]; omega) eh8]
      dsimp only
      rw [show ageW (.int 2) = some 2 from rfl, show (4 * c.ws.length + a) / 4 = c.ws.length from by omega]
      dsimp only
      have dg9 := dget_i (H := upd H8 A.l (.lst (((cpT ws' c.p (sumW (D.take i)) (c.ws.length + 1)).set (sumW (D.take i)) (2 * ((4 * c.ws.length + 2 : Nat) : Int))).map V.int))) (i := (c.p : Int)) ((upd_ne od.1.1).trans (k8 _ _ od.1.1 (k' _ _ od.1.1 hd6)))
      rw [goG_val, gk'] at dg9
      refine ⟨_, dg9, ?_⟩
      walk_at "w3"
      have st1 := sl'.step (by rw [el', ← el4]; exact sld) ec l8
      rw [show (sumW (D.take i) : Int) + ((c.ws.length + 1 : Nat) : Int) = (sumW (D.take (i + 1)) : Int) from by rw [stk]; rfl]
      exact ⟨_, _, _, rfl, M8.put _ (by rw [List.length_set]), vw8.set (by rw [word_num (by omega)]; rfl), by rw [List.length_set, cpT_len]; exact el', st1, fun b o n g => (upd_ne n).trans (k8 b o n (k' b o n g))⟩
    rintro σ H7 ⟨o5', o7, ws', rfl, M7, vw7, el7, sl7, k7⟩
    rw [List.length_map, show (ss2.length) = D.length from by rw [← dp, List.length_map]] at sl7 ⊢
    rw [List.take_length]
    have I7 := I6.mem M7 vw7 (el7.trans el4.symm) k7
    have k17 : Kc A R U.bd H H7 := fun b o n1 n2 n3 n4 n5 n6 n7 n8 n9 n10 n11 g => k7 b o n2 (k16 b o n1 n2 n3 n4 n5 n6 n7 n8 n9 n10 n11 g)
    walk_at "w3"
    refine ⟨_, fldIs I7.ar.ob, recv I7.ar.so, A.o, A.ox, 0, S.n, S.ot, _, rfl, I7.ar.so, .inl ⟨_, rfl⟩, ?_⟩
    rw [cutW_int, if_pos ⟨by omega, by omega⟩, Int.toNat_natCast]
    dsimp only
    obtain ⟨S8, eS8⟩ : ∃ S8 : ArS, S8 = { S with ws := ws', ot := sumW D } := ⟨_, rfl⟩
    have I8 : PairO K (upd H7 A.o (SpV K A.ox 0 S.n (sumW D))) A R S8 U5 := by rw [eS8]; exact I7.topO (t := sumW D) sm5
    have k18 : Kc A R U.bd H (upd H7 A.o (SpV K A.ox 0 S.n (sumW D))) := fun b o n1 n2 n3 n4 n5 n6 n7 n8 n9 n10 n11 g => (upd_ne n3).trans (k17 b o n1 n2 n3 n4 n5 n6 n7 n8 n9 n10 n11 g)
    generalize upd H7 A.o (SpV K A.ox 0 S.n (sumW D)) = H8 at I8 k18 ⊢
    have hf8 := I8.ar.half S8.fl
    refine ⟨_, fldIs I8.ar.ob, recv hf8, _, _, _, _, _, rfl, hf8, ?_⟩
    have I9 := I8.topH (f := S8.fl) (t := S8.b S8.fl) (Nat.le_refl _) (Nat.le_add_right ..)
    have ny := I8.ar.ny S8.fl
    have ay := (I8.ar.na hf8).1
    have ob9 := (upd_ne (o := SpV K (A.yx S8.fl) (S8.b S8.fl) (S8.b S8.fl + S8.k) (S8.b S8.fl)) ay).trans I8.ar.ob
    have hs9 := (upd_ne (o := SpV K (A.yx S8.fl) (S8.b S8.fl) (S8.b S8.fl + S8.k) (S8.b S8.fl)) ny).trans (I8.ar.half (!S8.fl))
    have k19 : Kc A R U.bd H (upd H8 (A.y S8.fl) (SpV K (A.yx S8.fl) (S8.b S8.fl) (S8.b S8.fl + S8.k) (S8.b S8.fl))) := fun b o n1 n2 n3 n4 n5 n6 n7 n8 n9 n10 n11 g => (upd_ne (by unfold ArA.y; split <;> assumption)).trans (k18 b o n1 n2 n3 n4 n5 n6 n7 n8 n9 n10 n11 g)
    generalize upd H8 (A.y S8.fl) (SpV K (A.yx S8.fl) (S8.b S8.fl) (S8.b S8.fl + S8.k) (S8.b S8.fl)) = H9 at I9 ob9 hs9 k19 ⊢
    dsimp only
    refine ⟨_, fldIs ob9, recv hs9, _, _, _, _, _, rfl, hs9, ?_⟩
    have I10 := I9.topH (f := !S8.fl) (t := S8.b (!S8.fl)) (by rw [put_b.1]; exact Nat.le_refl _) (by rw [put_b.1, (put_b (g := true)).2]; exact Nat.le_add_right ..)
    rw [put_b.1, (put_b (g := true)).2] at I10
    rw [put_both S8] at I10
    have k20 : Kc A R U.bd H (upd H9 (A.y !S8.fl) (SpV K (A.yx !S8.fl) (S8.b !S8.fl) (S8.b (!S8.fl) + S8.k) (S8.b !S8.fl))) := fun b o n1 n2 n3 n4 n5 n6 n7 n8 n9 n10 n11 g => (upd_ne (by unfold ArA.y; split <;> assumption)).trans (k19 b o n1 n2 n3 n4 n5 n6 n7 n8 n9 n10 n11 g)
    generalize upd H9 (A.y !S8.fl) (SpV K (A.yx !S8.fl) (S8.b !S8.fl) (S8.b (!S8.fl) + S8.k) (S8.b !S8.fl)) = H10 at I10 k20 ⊢
    dsimp only
    refine ⟨_, fldIs I10.ro.ob, recv I10.ro.bo.ob, _, _, _, _, rfl, I10.ro.bo, fun d' H11 nd' B11 k11 => ?_⟩
    have I11 := I10.bnew B11 k11
    have k21 : Kc A R U.bd H H11 := fun b o n1 n2 n3 n4 n5 n6 n7 n8 n9 n10 n11 g => k11 b o n10 (k20 b o n1 n2 n3 n4 n5 n6 n7 n8 n9 n10 n11 g)
    refine ⟨_, fldIs I11.ar.ob, recv I11.ar.so, _, _, _, _, _, rfl, I11.ar.so, ?_⟩
    have e8 : S8.ot = sumW D := by rw [eS8]
    rw [show ((S8.ot : Int) - (0 : Nat)) = (sumW D : Int) from by rw [e8]; omega]
    obtain ⟨ce, ag⟩ := slide_end (S := { S8 with t1 := S8.n, t2 := S8.n + S8.k }) sl7 (by rw [eS8]) e8
    refine q ss2 D _ _ H11 { pm := pm, so := so, dp := dp, dw := fun x mx => ?_, dv := fun x mx w mw => ?_, ce := ce, ag := ag, ot := e8, n := by rw [eS8], k := by rw [eS8], fl := by rw [eS8], t := fun f => (by cases f <;> rfl), hs := by rw [← eps]; exact h5, bs := rfl, ts := by rw [← eps]; exact ts5, ws := by rw [← eps]; exact ws5, ss := by rw [← eps]; exact ss5 } I11 ?_ k21
    · obtain ⟨c, mc, e1, e2, e3, -⟩ := dw x mx
      exact ⟨c, mc, e1, e2, by rw [← eps]; exact e3⟩
    · obtain ⟨c, mc, e1, e2, e3, -, mk⟩ := dw x mx
      rw [e3] at mw
      obtain ⟨w0, m0, rfl⟩ := List.mem_map.mp mw
      obtain ⟨g1, g2⟩ := gW c mc mk w0 m0
      exact turn_isSome g1 g2
    · exact Kc.none (U := U5) I10 (by rw [bd5]; exact k20) nd'
end

local macro_rules | `(tactic| walk_at "w3") => `(tactic| try simp only [↓x_var0, ↓x_varS, ↓x_c, ↓x_op, ↓x_un, ↓x_cb, ↓x_nil, ↓x_cons, ↓x_test, ↓x_b, ↓x_ex, ↓x_and, ↓x_or, ↓x_not, ↓x_andV, ↓x_orV, ↓x_notV, ↓x_tif, ↓x_chain, ↓x_menu, ↓x_menuI, ↓x_lst, ↓x_tup, ↓x_dnew, ↓x_callW, ↓x_callN, ↓x_seq, ↓x_next, ↓x_ret, ↓x_retN, ↓x_drop, ↓x_ifS, ↓x_asg, ↓x_name, ↓x_raise, ↓x_fld, ↓x_setF, ↓x_meth, ↓x_make, ↓x_sub, ↓r_min, ↓r_max, ↓x_yes, ↓x_for, ↓x_lock, ↓x_keys, ↓x_cut, ↓x_lc, ↓x_rng1, ↓x_rng2, ↓x_lst1, ↓x_itup, ↓x_rng3, ↓x_three, ↓x_lstg, ↓x_tupg, ↓x_adrS, ↓x_one, ↓x_two, ↓x_adr, ↓x_sl, ↓x_np, ↓x_pt, ↓x_int, ↓x_bm, ↓x_bm0, ↓x_consg, ↓x_nilg, ↓x_dget2, ↓x_dget1, ↓x_dgetN, ↓x_dget, ↓x_din, ↓x_dni, ↓x_dput, ↓x_dpop2, ↓r_isB, ↓r_notB, ↓x_enum, ↓x_zip, ↓x_str, ↓x_strE, ↓r_inS, ↓r_ninS, wipe, List.map_cons, List.map_nil, ↓x_isT, ↓r_isiII, ↓r_isiBB, ↓r_isiIB, ↓r_isiSS, ↓r_neNS, ↓r_neSN, ↓r_neNN, ↓r_eqNS, ↓r_eqSN, ↓r_eqNN, ↓r_eqIS, ↓r_neIS, ↓r_neSI, ↓r_neBS, ↓r_eqBB, ↓r_neBB, ↓x_start, ↓x_K, ↓x_start0, ↓r_i0, ↓r_i, ↓r_u, ↓r_addI, ↓r_addS, ↓r_mulI, ↓r_mulS, ↓r_eqI, ↓r_neI, ↓r_eqS, ↓r_neS, ↓r_absI, ↓r_intI, ↓r_intB, List.length_cons, List.length_nil, List.replicate, List.set_cons_zero, List.set_cons_succ, decide_eq_true_eq, Bool.not_eq_true', decide_eq_false_iff_not, if_true, if_false, Bool.false_eq_true, Bool.true_eq_false, ite_true, ite_false, Bool.not_true, Bool.not_false, c_div, n_ten, c_pow, not_true_eq_false, not_false_eq_true, decide_true, decide_false, true_and, and_true, and_self, true_or, or_true, Int.reduceLT, Int.reduceLE, Int.reduceMul, Int.reduceAdd, Int.reduceSub, Int.reducePow, Int.reduceNeg, Int.reduceDiv, Int.reduceMod, Nat.reducePow, Int.reduceToNat, Int.reduceEq, Int.reduceNe, Nat.reduceLT, Nat.reduceLeDiff, Nat.reduceAdd, ↓x_whole, ↓x_kind, Int.natCast_one, Int.natCast_one, Int.natCast_one])
abbrev kp : Nat → Int := fun p => (p : Int)
/-! ## cells by places, rows and sizes -/
abbrev sig (c : CeL) : Nat × Addr × Nat := (c.p, c.r, c.ws.length)
theorem setC_sig {C : List CeL} {p j : Nat} {n : Int} : (setC C p j n).map sig = C.map sig := by
  unfold setC
  rw [List.map_map]
  congr 1
  funext c
  show sig (if c.p = p then _ else c) = sig c
  split
  · show (c.p, c.r, (c.ws.set j n).length) = (c.p, c.r, c.ws.length)
    rw [List.length_set]
  · rfl
theorem sig_mem {C D : List CeL} (e : D.map sig = C.map sig) {c : CeL} (m : c ∈ C) : ∃ d ∈ D, d.p = c.p ∧ d.r = c.r ∧ d.ws.length = c.ws.length := by
  have : sig c ∈ D.map sig := by rw [e]; exact List.mem_map.mpr ⟨c, m, rfl⟩
  obtain ⟨d, md, ed⟩ := List.mem_map.mp this
  have e1 : d.p = c.p := congrArg (·.1) ed
  have e2 : d.r = c.r := congrArg (·.2.1) ed
  have e3 : d.ws.length = c.ws.length := congrArg (·.2.2) ed
  exact ⟨d, md, e1, e2, e3⟩
theorem sig_kvs {C D : List CeL} (e : D.map sig = C.map sig) : kvsOf kp D = kvsOf kp C := by
  have f : ∀ E : List CeL, kvsOf kp E = (E.map sig).map fun s => (.inl (s.1 : Int), .ref s.2.1) := fun E => by
    unfold kvsOf
    rw [List.map_map]
    rfl
  rw [f D, f C, e]
theorem sig_plc {C D : List CeL} (e : D.map sig = C.map sig) : plcC D = plcC C := by
  have f : ∀ E : List CeL, plcC E = (E.map sig).map fun s => (s.1 : Int) := fun E => by
    unfold plcC
    rw [List.map_map]
    rfl
  rw [f D, f C, e]
theorem ClW.sig {C D : List CeL} (e : D.map Pr.sig = C.map Pr.sig) {w : Int} (h : ClW C w) : ClW D w := h.mono fun c m => by
  obtain ⟨d, md, ed, -⟩ := sig_mem e m
  exact ⟨d, md, ed⟩
theorem kvs_keys {C : List CeL} : (kvsOf kp C).map (fun kv => kV kv.1) = (plcC C).map V.int := by
  unfold kvsOf plcC
  rw [List.map_map, List.map_map]
  rfl

local macro_rules | `(tactic| walk_at "w3") => `(tactic| try simp only [↓x_var0, ↓x_varS, ↓x_c, ↓x_op, ↓x_un, ↓x_cb, ↓x_nil, ↓x_cons, ↓x_test, ↓x_b, ↓x_ex, ↓x_and, ↓x_or, ↓x_not, ↓x_andV, ↓x_orV, ↓x_notV, ↓x_tif, ↓x_chain, ↓x_menu, ↓x_menuI, ↓x_lst, ↓x_tup, ↓x_dnew, ↓x_callW, ↓x_callN, ↓x_seq, ↓x_next, ↓x_ret, ↓x_retN, ↓x_drop, ↓x_ifS, ↓x_asg, ↓x_name, ↓x_raise, ↓x_fld, ↓x_setF, ↓x_meth, ↓x_make, ↓x_sub, ↓r_min, ↓r_max, ↓x_yes, ↓x_for, ↓x_lock, ↓x_keys, ↓x_cut, ↓x_lc, ↓x_rng1, ↓x_rng2, ↓x_lst1, ↓x_itup, ↓x_rng3, ↓x_three, ↓x_lstg, ↓x_tupg, ↓x_adrS, ↓x_one, ↓x_two, ↓x_adr, ↓x_sl, ↓x_np, ↓x_pt, ↓x_int, ↓x_bm, ↓x_bm0, ↓x_consg, ↓x_nilg, ↓x_dget2, ↓x_dget1, ↓x_dgetN, ↓x_dget, ↓x_din, ↓x_dni, ↓x_dput, ↓x_dpop2, ↓r_isB, ↓r_notB, ↓x_enum, ↓x_zip, ↓x_str, ↓x_strE, ↓r_inS, ↓r_ninS, wipe, List.map_cons, List.map_nil, ↓x_isT, ↓r_isiII, ↓r_isiBB, ↓r_isiIB, ↓r_isiSS, ↓r_neNS, ↓r_neSN, ↓r_neNN, ↓r_eqNS, ↓r_eqSN, ↓r_eqNN, ↓r_eqIS, ↓r_neIS, ↓r_neSI, ↓r_neBS, ↓r_eqBB, ↓r_neBB, ↓x_start, ↓x_K, ↓x_start0, ↓r_i0, ↓r_i, ↓r_u, ↓r_addI, ↓r_addS, ↓r_mulI, ↓r_mulS, ↓r_eqI, ↓r_neI, ↓r_eqS, ↓r_neS, ↓r_absI, ↓r_intI, ↓r_intB, List.length_cons, List.length_nil, List.replicate, List.set_cons_zero, List.set_cons_succ, decide_eq_true_eq, Bool.not_eq_true', decide_eq_false_iff_not, if_true, if_false, Bool.false_eq_true, Bool.true_eq_false, ite_true, ite_false, Bool.not_true, Bool.not_false, c_div, n_ten, c_pow, not_true_eq_false, not_false_eq_true, decide_true, decide_false, true_and, and_true, and_self, true_or, or_true, Int.reduceLT, Int.reduceLE, Int.reduceMul, Int.reduceAdd, Int.reduceSub, Int.reducePow, Int.reduceNeg, Int.reduceDiv, Int.reduceMod, Nat.reducePow, Int.reduceToNat, Int.reduceEq, Int.reduceNe, Nat.reduceLT, Nat.reduceLeDiff, Nat.reduceAdd, ↓x_whole, ↓x_kind, Int.natCast_one, Int.natCast_one, Int.natCast_one, Int.natCast_one])
/-! ## the law's own: cells laid, words, slots written -/
def nextW (s : Int) : Int := (s * 48271 + 11) % 2147483647
theorem nextW_ge {s : Int} : 0 ≤ nextW s ∧ nextW s < 2147483647 := by unfold nextW; omega
def sp_next (_ : PySem.W.Frag) : Sp := fun vs H Q _ => ∃ s, vs = [.int s] ∧ Q (.int (nextW s)) H
theorem PairO.laid {K : PySem.W.Frag} {H H' : Hp} {A : ArA} {R : RoA} {S S' : ArS} {U : RoS} (h : PairO K H A R S U) (I : ArO K H' A S') (k : ∀ b o, b ≠ A.l → b ≠ A.o → b ≠ A.p → b ≠ A.q → H b = some o → H' b = some o) : PairO K H' A R S' U :=
  h.arS I fun b o _ n1 n2 n3 n4 g => k b o n1 n2 n3 n4 g
theorem lst_off {K : PySem.W.Frag} {H : Hp} {A : ArA} {R : RoA} {S : ArS} {U : RoS} (h : PairO K H A R S U) {c : Addr} {xs : List V} (e : H c = some (.lst xs)) (n : c ≠ A.l) : c ≠ A.l ∧ c ≠ A.o ∧ c ≠ A.p ∧ c ≠ A.q := ⟨n, ne_of e h.ar.so fun z => spv_lst z.symm, ne_of e h.ar.sp fun z => spv_lst z.symm, ne_of e h.ar.sq fun z => spv_lst z.symm⟩
theorem dk_off {K : PySem.W.Frag} {H : Hp} {A : ArA} {R : RoA} {S : ArS} {U : RoS} (h : PairO K H A R S U) {c : Addr} {kv : List (Key × V)} (e : H c = some (.dK kv)) : c ≠ A.l ∧ c ≠ A.o ∧ c ≠ A.p ∧ c ≠ A.q := ⟨ne_of e h.ar.me.ls (by intro z; cases z), ne_of e h.ar.so (by intro z; cases z), ne_of e h.ar.sp (by intro z; cases z), ne_of e h.ar.sq (by intro z; cases z)⟩
/-- rows that are no roots' lists -/
def RowsOff (A : ArA) (R : RoA) (C : List CeL) : Prop := ∀ c ∈ C, OffP A R c.r
def sp_lay16 (K : PySem.W.Frag) : Sp := fun vs H Q _ => ∃ A R S U C d, ∃ b : Bool, ∃ s : Nat, vs = [.ref A.a, .int (if b then 0 else 1), .int s, .ref d] ∧ PairO K H A R S U ∧ CellsO kp H S d C ∧ RowsOff A R C ∧ d ≠ U.bd ∧ C.length ≤ 1000 ∧ s ≤ 8 ∧ s + 1 ≤ endA S b - topA S b ∧
  ∀ r H', PairO K H' A R (laidS S b s) U → CellsO kp H' (laidS S b s) d (C ++ [⟨topA S b, r, List.replicate s (-1)⟩]) → H r = none → OffP A R r → (∀ c o, c ≠ A.l → c ≠ A.o → c ≠ A.p → c ≠ A.q → c ≠ d → H c = some o → H' c = some o) → Q (.int (topA S b)) H'
def sp_laid16 (K : PySem.W.Frag) : Sp := fun vs H Q _ => ∃ A R S U z a, ∃ ns : List Int, vs = [.ref A.a, .ref z, .ref a] ∧ PairO K H A R S U ∧ S.ot = 0 ∧ S.t S.fl = S.b S.fl ∧ H z = some (.lst [.int S.n, .int S.k]) ∧ SqL K H a (ns.map V.int) ∧ z ≠ A.l ∧
  ∀ d H' S' C, PairO K H' A R S' U → S'.n = S.n → S'.k = S.k → CellsO kp H' S' d C → RowsOff A R C → (∀ c ∈ C, ∀ w ∈ c.ws, w = -1) → C.length ≤ 10 → sumW C ≤ S.n → (∀ c ∈ C, H c.r = none) → H d = none → (∀ c o, c ≠ A.l → c ≠ A.o → c ≠ A.p → c ≠ A.q → H c = some o → H' c = some o) → Q (.ref d) H'
def sp_word16 (_ : PySem.W.Frag) : Sp := fun vs H Q _ => ∃ S d C sd, vs = [.ref d, .int sd] ∧ CellsO kp H S d C ∧ C.length ≤ 1000 ∧ (∀ c ∈ C, c.p ≤ 9999) ∧ ∀ w H', Same H H' → ClW C w → Q (.int w) H'
def sp_write16 (K : PySem.W.Frag) : Sp := fun vs H Q _ => ∃ A R S U C d, ∃ c ∈ C, ∃ t : Nat, ∃ w : Int, vs = [.ref A.a, .ref R.r, .ref d, .int (c.p : Int), .int t, .int w] ∧ PairO K H A R S U ∧ CellsO kp H S d C ∧ RowsOff A R C ∧ d ≠ U.bd ∧ t < c.ws.length ∧ (wordOf w).isSome = true ∧ U.bs.length < 900000 ∧
  ∀ bs' H', bs'.length ≤ U.bs.length + 1 → PairO K H' A R { S with ws := S.ws.set (c.p + 1 + t) w } { U with bs := bs' } → CellsO kp H' { S with ws := S.ws.set (c.p + 1 + t) w } d (setC C c.p t w) → (∀ b o, b ≠ A.l → b ≠ c.r → b ≠ U.bd → H b = some o → H' b = some o) → Q .non H'
def sp_filled16 (K : PySem.W.Frag) : Sp := fun vs H Q _ => ∃ A R S U C d sd, vs = [.ref A.a, .ref R.r, .ref d, .int sd] ∧ PairO K H A R S U ∧ CellsO kp H S d C ∧ RowsOff A R C ∧ d ≠ U.bd ∧ C.length ≤ 1000 ∧ U.bs.length ≤ 1000 ∧ (∀ c ∈ C, ∀ w ∈ c.ws, ClW C w) ∧
  ∀ bs' ws' C' H', bs'.length ≤ U.bs.length + 8 * C.length → PairO K H' A R { S with ws := ws' } { U with bs := bs' } → CellsO kp H' { S with ws := ws' } d C' → C'.map sig = C.map sig → (∀ c ∈ C', ∀ w ∈ c.ws, ClW C' w) → (∀ b o, b ≠ A.l → (∀ c ∈ C, b ≠ c.r) → b ≠ U.bd → H b = some o → H' b = some o) → Q .non H'
theorem RowsOff.sig {A : ArA} {R : RoA} {C D : List CeL} (h : RowsOff A R C) (e : D.map sig = C.map sig) : RowsOff A R D := fun a ma => by
  obtain ⟨b, mb, -, g2, -⟩ := sig_mem e.symm ma
  rw [← g2]
  exact h b mb
section
variable {P : Program} {w : World} {K : PySem.W.Frag} {mg : Str → Option Value} {base : Heap}
theorem f__law_next (T : Tx K mg) : Fn P w K mg base 1 "_law_next" ["_law_seed"] (sp_next K) := by
  refine T.mkFn 67 38 (d := d__law_next) (N := ["_law_seed"]) (k := 0) rfl rfl rfl rfl rfl sc__law_next (fun _ _ _ _ _ _ us hl => match us, hl with | [_], _ => rfl) (fun vs H Q E h => ?len) (fun cdv A outer s H vs Q E hr h => ⟨_,
      (pss_one (ps_ret (pe_op op_mod (pe_op op_gAdd (pe_op op_gMul (pv 0) pe_int) pe_int) pe_int))), ?rd⟩)
  case len => first | exact len__law_next h | (repeat (first | (obtain ⟨rfl, _⟩ := h; rfl; done) | obtain ⟨_, h⟩ := h))
  case rd =>
    obtain ⟨s, rfl, q⟩ := h
    walk_at "w3"
    exact q
theorem f__law_lay (T : Tx K mg) : Fn P w K mg base 8 "_law_lay" ["_law_areas", "_law_side", "_law_slots", "_law_cells"] (sp_lay16 K) := by
  have c_Areas_lay_old := f_Areas_lay_old (P := P) (w := w) (base := base) T
  have c_Areas_lay_young := f_Areas_lay_young (P := P) (w := w) (base := base) T
  refine T.mkFn 68 39 (d := d__law_lay) (N := ["_law_areas", "_law_side", "_law_slots", "_law_cells", "_law_at", "_law_slot"]) (k := 7) rfl rfl rfl rfl rfl sc__law_lay (fun _ _ _ _ _ _ us hl => match us, hl with | [_, _, _, _], _ => rfl) (fun vs H Q E h => ?len) (fun cdv A outer s H vs Q E hr h => ⟨_,
      (pss_cut (ps_if (pt_cmpR (op_eqK (K := K) rfl hr.units) (pv 1) pe_int (nomark _)) (pss_one (ps_set (i := 4) sc__law_lay.nd rfl (Or.inl rfl) (pe_mt (K := K) rfl (takes_of rfl rfl rfl rfl) (pv 0) c_Areas_lay_old (hr.mono (by decide)) (pa_cons (pv 2) pa_nil)))) (pss_one (ps_set (i := 4) sc__law_lay.nd rfl (Or.inl rfl) (pe_mt (K := K) rfl (takes_of rfl rfl rfl rfl) (pv 0) c_Areas_lay_young (hr.mono (by decide)) (pa_cons (pv 2) pa_nil)))))
        (pss_cons (ps_dput (hu_of hr) (pv 3) (pv 4) (pe_lc (own := [("_law_slot", 5)]) (g := gName 5) rfl sc__law_lay.nd (pi_range1 rfl (T.free 66) (pa_cons (pv 2) pa_nil)) (blkOk_by (own := [("_law_slot", 5)]) (N := ["_law_areas", "_law_side", "_law_slots", "_law_cells", "_law_at", "_law_slot"]) (sc := defScope s__law_lay) (by decide +kernel)) (fun _ _ _ _ _ => (pg_name (i := 5) sc__law_lay.nd rfl (Or.inl rfl))) (fun _ _ _ _ _ => pts_nil) (fun _ _ _ _ _ => (pe_un un_neg pe_int))) rfl)
        (pss_one (ps_ret (pv 4))))), ?rd⟩)
  case len => first | exact len__law_lay h | (repeat (first | (obtain ⟨rfl, _⟩ := h; rfl; done) | obtain ⟨_, h⟩ := h))
  case rd =>
    obtain ⟨A, R, S, U, C, d, b, s, rfl, I, ce, ro, db, cl, s8, fit, q⟩ := h
    have sz : 10000 ≤ sizeLine := by rw [sizeLine_eq]; omega
    have es : slotsW (.int (s : Int)) = some s := by rw [slotsW_int, if_pos ⟨by omega, by omega⟩, Int.toNat_natCast]
    have hlt := I.ar.lt S.fl
    have hlo := I.ar.lo
    have hln := I.ar.ln
    walk_at "w3"
    refine ⟨fun σ' H' => σ' = [some (.ref A.a), some (.int (if b then 0 else 1)), some (.int (s : Int)), some (.ref d), some (.int (topA S b)), none] ∧ PairO K H' A R (laidS S b s) U ∧ ∀ c o, c ≠ A.l → c ≠ A.o → c ≠ A.p → c ≠ A.q → H c = some o → H' c = some o, ?_, ?_⟩
    · cases b
      · walk_at "w3"
        refine ⟨recv I.ar.ob, A, S, _, rfl, I.ar, .inl ⟨_, rfl⟩, ?_⟩
        unfold laidW
        rw [es]
        dsimp only
        rw [if_pos fit]
        exact fun H' I' k => ⟨rfl, I.laid I' fun c o h1 h2 h3 h4 g => k c o h1 (by unfold ArA.y; split <;> assumption) g, fun c o h1 h2 h3 h4 g => k c o h1 (by unfold ArA.y; split <;> assumption) g⟩
      · walk_at "w3"
        refine ⟨recv I.ar.ob, A, S, _, rfl, I.ar, .inl ⟨_, rfl⟩, ?_⟩
        unfold laidW
        rw [es]
        dsimp only
        rw [if_pos fit]
        exact fun H' I' k => ⟨rfl, I.laid I' fun c o h1 h2 _ _ g => k c o h1 h2 g, fun c o h1 h2 h3 h4 g => k c o h1 h2 g⟩
    rintro σ' H1 ⟨rfl, I1, k1⟩
    walk_at "w3"
    refine ⟨by omega, by omega, fun r nr => lc_mapR (fun _ => .int (-1)) (fun _ => rfl) (by omega) (fun i hi acc Q2 q2 => ?_) ?_⟩
    · walk_at "w3"
      exact q2
    have erep : (List.range (s : Int).toNat).map (fun _ => V.int (-1)) = (List.replicate s (-1 : Int)).map V.int := by
      rw [Int.toNat_natCast, List.map_const', List.length_range, List.map_replicate]
    rw [erep]
    have sr := same_new (o := .lst ((List.replicate s (-1 : Int)).map V.int)) nr
    have hr : upd H1 r (.lst ((List.replicate s (-1 : Int)).map V.int)) r = some (.lst ((List.replicate s (-1 : Int)).map V.int)) := upd_same
    have nrH : H r = none := by
      cases e : H r with
      | none => rfl
      | some o =>
        rw [k1 r o (ne_of_none I1.ar.me.ls nr).symm (ne_of_none I1.ar.so nr).symm (ne_of_none I1.ar.sp nr).symm (ne_of_none I1.ar.sq nr).symm e] at nr
        cases nr
    have orr := (I1.offl nr).1
    have row1 : ∀ c ∈ C, H1 c.r = some (.lst (c.ws.map V.int)) := fun c m => by
      obtain ⟨h1, h2, h3, h4⟩ := lst_off I (ce.rw_ c m) (ro c m).1
      exact k1 _ _ h1 h2 h3 h4 (ce.rw_ c m)
    have dd1 : H1 d = some (.dK (kvsOf kp C)) := by
      obtain ⟨h1, h2, h3, h4⟩ := dk_off I ce.dd
      exact k1 _ _ h1 h2 h3 h4 ce.dd
    have rnew : ∀ c ∈ C, c.r ≠ r := fun c m => ne_of_none (row1 c m) nr
    have I2 := I1.same sr
    have fr := ce.fresh (s := s) (old := b) hlo hlt.1 (by omega)
    have pk : putK (kvsOf kp C) (.inl (topA S b : Int) : Key) (.ref r) = kvsOf kp (C ++ [⟨topA S b, r, List.replicate s (-1)⟩]) := kvs_put (f := kp) (c := ⟨topA S b, r, List.replicate s (-1)⟩) fun c m e => by
      have e : (c.p : Int) = topA S b := e
      have := fr c m
      omega
    have dd2 := sr _ _ dd1
    have dp := dput_i (i := (topA S b : Int)) (v := .ref r) dd2 (by unfold kvsOf; rw [List.length_map]; omega)
    rw [pk] at dp
    refine ⟨_, dp, ?_⟩
    walk_at "w3"
    have dr : d ≠ r := ne_of_none dd1 nr
    have I3 := I2.offD (o := .dK (kvsOf kp (C ++ [⟨topA S b, r, List.replicate s (-1)⟩]))) dd2 db
    refine q r _ I3 (ce.lay s8 hln hlo hlt.1 (by omega) upd_same ((upd_ne dr.symm).trans hr) (fun c m => ?_) rnew) nrH orr fun c o h1 h2 h3 h4 h5 g => (upd_ne h5).trans (sr _ _ (k1 c o h1 h2 h3 h4 g))
    rw [upd_ne (ne_of (sr _ _ (row1 c m)) dd2 (by intro z; cases z)), sr _ _ (row1 c m)]
    exact (ce.rw_ c m).symm
theorem f__law_word (T : Tx K mg) : Fn P w K mg base 1 "_law_word" ["_law_cells", "_law_seed"] (sp_word16 K) := by
  refine T.mkFn 70 41 (d := d__law_word) (N := ["_law_cells", "_law_seed", "_law_pick"]) (k := 0) rfl rfl rfl rfl rfl sc__law_word (fun _ _ _ _ _ _ us hl => match us, hl with | [_, _], _ => rfl) (fun vs H Q E h => ?len) (fun cdv A outer s H vs Q E hr h => ⟨_,
      (pss_cons (ps_set (i := 2) sc__law_word.nd rfl (Or.inl rfl) (pe_op op_mod (pe_op op_fdiv (pv 1) pe_int) pe_int))
        (pss_cons (ps_if (PW.pt (pw_or (pt_cmpR (op_eqK (K := K) rfl hr.units) (pv 2) pe_int (nomark _)) (pw_or1 (PW.pt (pw_and (pt_cmpR (op_eqDD (Nat.lt_of_succ_lt (hu_of hr))) (pv 0) pe_dnewK (nomark _)) (pw_and1 (pt_cmpR op_gt (pv 2) pe_int (nomark _)))))))) (pss_one (ps_ret (pe_un un_neg pe_int))) pss_nil)
        (pss_cons (ps_if (pt_cmpR (op_eqK (K := K) rfl hr.units) (pv 2) pe_int (nomark _)) (pss_one (ps_ret (pe_op op_gMul pe_int (pe_op op_sub (pe_op op_mod (pe_op op_gMul (pe_op op_fdiv (pv 1) pe_int) pe_int) pe_int) pe_int)))) pss_nil)
        (pss_one (ps_ret (pe_op op_gAdd (pe_op op_gMul pe_int (pe_ix (ix_seqK (K := K) rfl) (pe_callTy (call_listD rfl) (by rfl) (T.free 71) (by decide +kernel) (pa_cons (pv 0) pa_nil)) (pe_op op_mod (pe_op op_fdiv (pv 1) pe_int) (pe_callB call_lenDD (by rfl) (T.free 64) PySem.boot_len (pa_cons (pv 0) pa_nil))) (fun _ _ => rfl))) pe_int)))))), ?rd⟩)
  case len => first | exact len__law_word h | (repeat (first | (obtain ⟨rfl, _⟩ := h; rfl; done) | obtain ⟨_, h⟩ := h))
  case rd =>
    obtain ⟨S, d, C, sd, rfl, ce, hl, h9, q⟩ := h
    have sz : 10000 ≤ sizeLine := by rw [sizeLine_eq]; omega
    have kl : (kvsOf kp C).length = C.length := List.length_map ..
    walk_at "w3"
    by_cases c0 : sd / 11 % 6 = 0
    · rw [if_pos c0]
      exact q _ _ (Same.refl _) ClW.non
    rw [if_neg c0]
    intro p np
    have sp := same_new (o := .dK []) np
    have ce1 := ce.same sp
    cases C with
    | nil =>
      refine ⟨d, p, _, _, rfl, rfl, ce1.dd, upd_same, .inl ⟨rfl, List.nodup_nil, (fun _ m => (List.not_mem_nil m).elim), ?_⟩⟩
      walk_at "w3"
      split
      · exact q _ _ sp ClW.non
      · rw [if_pos (by omega)]
        exact q _ _ sp (ClW.num (by omega))
    | cons c0 r0 =>
      refine r_eqDL ce1.dd upd_same (by rw [kl]; show r0.length + 1 ≠ 0; omega) ?_
      walk_at "w3"
      split
      · exact q _ _ sp (ClW.num (by omega))
      refine ⟨d, _, rfl, .inl ce1.dd, fun p1 np1 => ?_⟩
      rw [kvs_keys]
      have s1 := same_new (o := .lst ((plcC (c0 :: r0)).map V.int)) np1
      have h1 : upd (upd H p (.dK [])) p1 (.lst ((plcC (c0 :: r0)).map V.int)) p1 = some (.lst ((plcC (c0 :: r0)).map V.int)) := upd_same
      refine r_lenDD (s1 _ _ ce1.dd) ?_
      rw [kl]
      have cl : (c0 :: r0).length = r0.length + 1 := rfl
      have m0 := Int.emod_nonneg (sd / 66) (show ((r0.length + 1 : Nat) : Int) ≠ 0 by omega)
      have m1 := Int.emod_lt_of_pos (sd / 66) (show (0 : Int) < ((r0.length + 1 : Nat) : Int) by omega)
      obtain ⟨o, eo⟩ := Int.eq_ofNat_of_zero_le m0
      walk_at "w3"
      rw [eo] at m1 ⊢
      have ho : o < (plcC (c0 :: r0)).length := by rw [plc_len]; omega
      refine ⟨by omega, r_ixL h1 (by rw [List.getElem?_map, List.getElem?_eq_getElem ho]; rfl) ?_⟩
      walk_at "w3"
      obtain ⟨c, mc, ec⟩ := List.mem_map.mp (List.getElem_mem ho)
      have ec : (c.p : Int) = (plcC (c0 :: r0))[o] := ec
      rw [← ec]
      exact q _ _ (sp.trans s1) (ClW.cell mc (h9 c mc))
theorem f__law_write (T : Tx K mg) : Fn P w K mg base 4 "_law_write" ["_law_areas", "_law_roots", "_law_cells", "_law_at", "_law_slot", "_law_word_here"] (sp_write16 K) := by
  have c_Memory_write := f_Memory_write (P := P) (w := w) (base := base) T
  have c_Book_rub := f_Book_rub (P := P) (w := w) (base := base) T
  have c_Areas_area_of := f_Areas_area_of (P := P) (w := w) (base := base) T
  have c_Book_write := f_Book_write (P := P) (w := w) (base := base) T
  refine T.mkFn 71 42 (d := d__law_write) (N := ["_law_areas", "_law_roots", "_law_cells", "_law_at", "_law_slot", "_law_word_here"]) (k := 3) rfl rfl rfl rfl rfl sc__law_write (fun _ _ _ _ _ _ us hl => match us, hl with | [_, _, _, _, _, _], _ => rfl) (fun vs H Q E h => ?len) (fun cdv A outer s H vs Q E hr h => ⟨_,
      (pss_cons (ps_asg (pv 5) (pg_sub (pe_dget (hu_of hr) (pv 2) (pv 3) (fun _ _ => rfl)) (pv 4) set_list))
        (pss_cons (ps_expr (pe_mt (K := K) rfl (takes_of rfl rfl rfl rfl) (pe_fldC (T.cls 104) (T.noat 110) (pv 0)) c_Memory_write (hr.mono (by decide)) (pa_cons (pe_op op_gAdd (pe_op op_gAdd (pv 3) pe_int) (pv 4)) (pa_cons (pv 5) pa_nil))))
        (pss_cons (ps_expr (pe_mt (K := K) rfl (takes_of rfl rfl rfl rfl) (pe_fldC (T.cls 149) (T.noat 153) (pv 1)) c_Book_rub (hr.mono (by decide)) (pa_cons (pe_op op_gAdd (pe_op op_gAdd (pv 3) pe_int) (pv 4)) pa_nil)))
        (pss_one (ps_if (PW.pt (pw_and (pt_cmpR (op_eqK (K := K) rfl hr.units) (pe_mt (K := K) rfl (takes_of rfl rfl rfl rfl) (pv 0) c_Areas_area_of (hr.mono (by decide)) (pa_cons (pv 3) pa_nil)) pe_str (nomark _)) (pw_and (pt_cmpR op_gt (pv 5) pe_int (nomark _)) (pw_and (pt_cmpR (op_eqK (K := K) rfl hr.units) (pe_op op_mod (pv 5) pe_int) pe_int (nomark _)) (pw_and1 (pt_cmpR (op_eqK (K := K) rfl hr.units) (pe_mt (K := K) rfl (takes_of rfl rfl rfl rfl) (pv 0) c_Areas_area_of (hr.mono (by decide)) (pa_cons (pe_op op_fdiv (pv 5) pe_int) pa_nil)) pe_str (nomark _))))))) (pss_one (ps_expr (pe_mt (K := K) rfl (takes_of rfl rfl rfl rfl) (pe_fldC (T.cls 149) (T.noat 153) (pv 1)) c_Book_write (hr.mono (by decide)) (pa_cons (pe_op op_gAdd (pe_op op_gAdd (pv 3) pe_int) (pv 4)) pa_nil)))) pss_nil))))), ?rd⟩)
  case len => first | exact len__law_write h | (repeat (first | (obtain ⟨rfl, _⟩ := h; rfl; done) | obtain ⟨_, h⟩ := h))
  case rd =>
    obtain ⟨A, R, S, U, C, d, c, mc, t, w, rfl, I, ce, ro, db, ht, hw, hb, q⟩ := h
    have sz : 1000000 ≤ sizeLine := by rw [sizeLine_eq]; omega
    have kv := kvs_some (f := kp) (ce.keys fun a b (e : (a : Int) = b) => by omega) mc
    have dg := dget_i (i := (c.p : Int)) ce.dd
    rw [show kp c.p = (c.p : Int) from rfl] at kv
    rw [kv] at dg
    walk_at "w3"
    refine ⟨_, dg, ?_⟩
    have hr := ce.rw_ c mc
    refine r_setL hr (by omega) (by rw [List.length_map]; omega) ?_
    rw [Int.toNat_natCast, ← List.map_set]
    have lt := ce.lt I.ar.ln I.ar.lo (I.ar.lt _).2 c mc
    have gn := I.ar.gn
    have gk := I.ar.gk
    have ln := I.ar.ln
    have I1 := I.off (o := .lst ((c.ws.set t w).map V.int)) hr (ro c mc)
    have r1 : upd H c.r (.lst ((c.ws.set t w).map V.int)) c.r = some (.lst ((c.ws.set t w).map V.int)) := upd_same
    have k1 : ∀ b o, b ≠ c.r → H b = some o → upd H c.r (.lst ((c.ws.set t w).map V.int)) b = some o := fun b o n g => (upd_ne n).trans g
    generalize upd H c.r (.lst ((c.ws.set t w).map V.int)) = H1 at I1 r1 k1 ⊢
    refine ⟨_, fldIs I1.ar.ob, recv I1.ar.me.ob, A.m, A.mx, A.l, S.ws, _, _, rfl, I1.ar.me, .inl ⟨_, rfl⟩, .inl ⟨_, rfl⟩, ?_⟩
    rw [show (c.p : Int) + 1 + (t : Int) = ((c.p + 1 + t : Nat) : Int) from by omega, placeOf_int, if_pos ⟨by omega, by omega⟩, Int.toNat_natCast, wordV_int, if_pos hw]
    dsimp only
    have I2 := I1.wput (ws := S.ws.set (c.p + 1 + t) w) (I.ar.vw.set hw) (List.length_set ..)
    have k2 : ∀ b o, b ≠ A.l → b ≠ c.r → H b = some o → upd H1 A.l (.lst ((S.ws.set (c.p + 1 + t) w).map V.int)) b = some o := fun b o n1 n2 g => (upd_ne n1).trans (k1 b o n2 g)
    have r2 := (upd_ne (o := .lst ((S.ws.set (c.p + 1 + t) w).map V.int)) (ro c mc).1).trans r1
    generalize upd H1 A.l (.lst ((S.ws.set (c.p + 1 + t) w).map V.int)) = H2 at I2 k2 r2 ⊢
    have ce2 : CellsO kp H2 { S with ws := S.ws.set (c.p + 1 + t) w } d (setC C c.p t w) := ce.put mc ht lt ((k2 _ _ (ne_of ce.dd I.ar.me.ls (by intro z; cases z)) (ne_of ce.dd hr (by intro z; cases z)) ce.dd).trans ce.dd.symm) r2 fun a ma n => (k2 _ _ (ro a ma).1 n (ce.rw_ a ma)).trans (ce.rw_ a ma).symm
    have rb : ∀ a ∈ C, a.r ≠ U.bd := fun a ma => ne_of (ce.rw_ a ma) I.ro.bo.ds (by intro z; cases z)
    have keepB : ∀ {H3 : Hp}, (∀ b o, b ≠ U.bd → H2 b = some o → H3 b = some o) → CellsO kp H3 { S with ws := S.ws.set (c.p + 1 + t) w } d (setC C c.p t w) := fun {H3} k => ce2.keep fun b o m g => k b o (by
      rcases m with rfl | ⟨a, ma, rfl⟩
      · exact db
      · obtain ⟨a', ma', -, e, -⟩ := setC_mem ma
        rw [e]
        exact rb a' ma') g
    have fin : ∀ bs' H3, bs'.length ≤ U.bs.length + 1 → PairO K H3 A R { S with ws := S.ws.set (c.p + 1 + t) w } { U with bs := bs' } → (∀ b o, b ≠ U.bd → H2 b = some o → H3 b = some o) → Q .non H3 := fun bs' H3 hl I3 k3 => q bs' H3 hl I3 (keepB k3) fun b o n1 n2 n3 g => k3 b o n3 (k2 b o n1 n2 g)
    have px : placeW (.int ((c.p + 1 + t : Nat) : Int)) = some ((c.p + 1 + t : Nat) : Int) := by rw [placeW_int, if_pos ⟨by omega, by omega⟩]
    refine ⟨_, fldIs I2.ro.ob, recv I2.ro.bo.ob, _, _, _, _, _, rfl, I2.ro.bo, .inl ⟨_, rfl⟩, ?_⟩
    rw [px]
    dsimp only
    have nd : (delP U.bs ((c.p + 1 + t : Nat) : Int)).Nodup := I2.ro.bo.nd.filter _
    have dl : (delP U.bs ((c.p + 1 + t : Nat) : Int)).length ≤ U.bs.length := List.length_filter_le _ _
    have core : ∀ bs' H3, bs'.Nodup → bs'.length ≤ U.bs.length → PairO K H3 A R { S with ws := S.ws.set (c.p + 1 + t) w } { U with bs := bs' } → (∀ b o, b ≠ U.bd → H2 b = some o → H3 b = some o) →
        (Recv (He.ga K (Str.ofString "Areas")) (Str.ofString "area_of") (V.ref A.a) H3 ∧ sp_Areas_area_of K [V.ref A.a, V.int (c.p : Int)] H3 (fun x H1 => gEq K x (V.str (Str.ofString "old")) H1 fun x H1 => ∃ k, x = V.bl k ∧ if k = true then if 0 < w then if w % 2 = 1 then
          Recv (He.ga K (Str.ofString "Areas")) (Str.ofString "area_of") (V.ref A.a) H1 ∧ sp_Areas_area_of K [V.ref A.a, V.int (w / 2)] H1 (fun x H1 => gEq K x (V.str (Str.ofString "young")) H1 fun x H1 => ∃ k, x = V.bl k ∧ if k = true then ∃ v, FldIs (He.ga K (Str.ofString "Roots")) (Str.ofString "book") (V.ref R.r) H1 v ∧ Recv (He.ga K (Str.ofString "Book")) (Str.ofString "write") v H1 ∧ sp_Book_write K [v, V.int ((c.p + 1 + t : Nat) : Int)] H1 (fun x H1 => Q V.non H1) fun c d H3 => E c d H3 else Q V.non H1) fun c d H3 => E c d H3
          else Q V.non H1 else Q V.non H1 else Q V.non H1) fun c d H3 => E c d H3) := by
      intro bs' H3 nd' hl I3 k3
      have f0 := fin bs' H3 (by omega) I3 k3
      refine ⟨recv I3.ar.ob, A, _, _, rfl, I3.ar, ?_⟩
      have two : ∀ n : Int, areaW { S with ws := S.ws.set (c.p + 1 + t) w } n = .str "old" ∨ areaW { S with ws := S.ws.set (c.p + 1 + t) w } n = .str "young" ∨ areaW { S with ws := S.ws.set (c.p + 1 + t) w } n = .non := fun n => areaW_is
      rcases two (c.p : Int) with e | e | e
      · rw [e]
        walk_at "w3"
        split
        · split
          · refine ⟨recv I3.ar.ob, A, _, _, rfl, I3.ar, ?_⟩
            rcases two (w / 2) with e2 | e2 | e2
            · rw [e2]
              walk_at "w3"
              have : ¬ ("old" : Str) = "young" := by decide +kernel
              rw [if_neg this]
              exact f0
            · rw [e2]
              walk_at "w3"
              refine ⟨_, fldIs I3.ro.ob, recv I3.ro.bo.ob, _, _, _, _, _, rfl, I3.ro.bo, by show bs'.length < 1000000; omega, .inl ⟨_, rfl⟩, ?_⟩
              rw [px]
              dsimp only
              have al : (addP bs' ((c.p + 1 + t : Nat) : Int)).length ≤ bs'.length + 1 := by
                unfold addP
                split
                · omega
                · rw [List.length_append]
                  exact Nat.le_refl _
              have nd2 : (addP bs' ((c.p + 1 + t : Nat) : Int)).Nodup := by
                unfold addP
                split
                · exact nd'
                · rename_i ni
                  exact List.nodup_append.mpr ⟨nd', List.nodup_cons.mpr ⟨List.not_mem_nil, List.nodup_nil⟩, fun a ha b hb e => ni (by rw [List.mem_singleton.mp hb] at e; exact e ▸ ha)⟩
              exact fin _ _ (by omega) (I3.bput nd2) fun b o n g => (upd_ne n).trans (k3 b o n g)
            · rw [e2]
              walk_at "w3"
              exact f0
          · exact f0
        · exact f0
      · rw [e]
        walk_at "w3"
        have : ¬ ("young" : Str) = "old" := by decide +kernel
        rw [if_neg this]
        exact f0
      · rw [e]
        walk_at "w3"
        exact f0
    refine ⟨core _ _ nd dl (I2.bput nd) fun b o n g => (upd_ne n).trans g, fun ed => ?_⟩
    exact core U.bs H2 I2.ro.bo.nd (Nat.le_refl _) I2 fun b o _ g => g
end

local macro_rules | `(tactic| walk_at "w3") => `(tactic| try simp only [↓x_var0, ↓x_varS, ↓x_c, ↓x_op, ↓x_un, ↓x_cb, ↓x_nil, ↓x_cons, ↓x_test, ↓x_b, ↓x_ex, ↓x_and, ↓x_or, ↓x_not, ↓x_andV, ↓x_orV, ↓x_notV, ↓x_tif, ↓x_chain, ↓x_menu, ↓x_menuI, ↓x_lst, ↓x_tup, ↓x_dnew, ↓x_callW, ↓x_callN, ↓x_seq, ↓x_next, ↓x_ret, ↓x_retN, ↓x_drop, ↓x_ifS, ↓x_asg, ↓x_name, ↓x_raise, ↓x_fld, ↓x_setF, ↓x_meth, ↓x_make, ↓x_sub, ↓r_min, ↓r_max, ↓x_yes, ↓x_for, ↓x_lock, ↓x_keys, ↓x_cut, ↓x_lc, ↓x_rng1, ↓x_rng2, ↓x_lst1, ↓x_itup, ↓x_rng3, ↓x_three, ↓x_lstg, ↓x_tupg, ↓x_adrS, ↓x_one, ↓x_two, ↓x_adr, ↓x_sl, ↓x_np, ↓x_pt, ↓x_int, ↓x_bm, ↓x_bm0, ↓x_consg, ↓x_nilg, ↓x_dget2, ↓x_dget1, ↓x_dgetN, ↓x_dget, ↓x_din, ↓x_dni, ↓x_dput, ↓x_dpop2, ↓r_isB, ↓r_notB, ↓x_enum, ↓x_zip, ↓x_str, ↓x_strE, ↓r_inS, ↓r_ninS, wipe, List.map_cons, List.map_nil, ↓x_isT, ↓r_isiII, ↓r_isiBB, ↓r_isiIB, ↓r_isiSS, ↓r_neNS, ↓r_neSN, ↓r_neNN, ↓r_eqNS, ↓r_eqSN, ↓r_eqNN, ↓r_eqIS, ↓r_neIS, ↓r_neSI, ↓r_neBS, ↓r_eqBB, ↓r_neBB, ↓x_start, ↓x_K, ↓x_start0, ↓r_i0, ↓r_i, ↓r_u, ↓r_addI, ↓r_addS, ↓r_mulI, ↓r_mulS, ↓r_eqI, ↓r_neI, ↓r_eqS, ↓r_neS, ↓r_absI, ↓r_intI, ↓r_intB, List.length_cons, List.length_nil, List.replicate, List.set_cons_zero, List.set_cons_succ, decide_eq_true_eq, Bool.not_eq_true', decide_eq_false_iff_not, if_true, if_false, Bool.false_eq_true, Bool.true_eq_false, ite_true, ite_false, Bool.not_true, Bool.not_false, c_div, n_ten, c_pow, not_true_eq_false, not_false_eq_true, decide_true, decide_false, true_and, and_true, and_self, true_or, or_true, Int.reduceLT, Int.reduceLE, Int.reduceMul, Int.reduceAdd, Int.reduceSub, Int.reducePow, Int.reduceNeg, Int.reduceDiv, Int.reduceMod, Nat.reducePow, Int.reduceToNat, Int.reduceEq, Int.reduceNe, Nat.reduceLT, Nat.reduceLeDiff, Nat.reduceAdd, ↓x_whole, ↓x_kind, Int.natCast_one, Int.natCast_one, Int.natCast_one, Int.natCast_one, Int.natCast_one])
theorem CellsO.age {f : Nat → Int} {H H' : Hp} {S : ArS} {d : Addr} {C : List CeL} (h : CellsO f H S d C) {c : CeL} {a : Nat} (m : c ∈ C) (hl : c.p < S.ws.length) (ha : a ≤ 2) (h8 : c.ws.length ≤ 8) (k : ∀ b o, (b = d ∨ ∃ c ∈ C, b = c.r) → H b = some o → H' b = some o) : CellsO f H' { S with ws := S.ws.set c.p (2 * ((4 * c.ws.length + a : Nat) : Int)) } d C := by
  have z := h.cp.age m hl ha h8
  exact ⟨k _ _ (.inl rfl) h.dd, fun c m => k _ _ (.inr ⟨c, m, rfl⟩) (h.rw_ c m), z.hd, z.sl, z.ar, z.dj, h.rd⟩
section
variable {P : Program} {w : World} {K : PySem.W.Frag} {mg : Str → Option Value} {base : Heap}
theorem f__law_filled (T : Tx K mg) : Fn P w K mg base 5 "_law_filled" ["_law_areas", "_law_roots", "_law_cells", "_law_seed"] (sp_filled16 K) := by
  have c__law_next := f__law_next (P := P) (w := w) (base := base) T
  have c__law_write := f__law_write (P := P) (w := w) (base := base) T
  have c__law_word := f__law_word (P := P) (w := w) (base := base) T
  refine T.mkFn 72 43 (d := d__law_filled) (N := ["_law_areas", "_law_roots", "_law_cells", "_law_seed", "_law_at", "_law_slot"]) (k := 4) rfl rfl rfl rfl rfl sc__law_filled (fun _ _ _ _ _ _ us hl => match us, hl with | [_, _, _, _], _ => rfl) (fun vs H Q E h => ?len) (fun cdv A outer s H vs Q E hr h => ⟨_,
      (pss_one (ps_for (passes_of rfl) rfl (pi_listK (K := K) rfl (pe_callTy (call_listD rfl) (by rfl) (T.free 71) (by decide +kernel) (pa_cons (pv 2) pa_nil))) (pg_name (i := 4) sc__law_filled.nd rfl (Or.inl rfl)) (pss_one (ps_for (passes_of rfl) rfl (pi_range1 rfl (T.free 66) (pa_cons (pe_callB (call_lenK (K := K) rfl) (by rfl) (T.free 64) PySem.boot_len (pa_cons (pe_dget (hu_of hr) (pv 2) (pv 4) (fun _ _ => rfl)) pa_nil)) pa_nil)) (pg_name (i := 5) sc__law_filled.nd rfl (Or.inl rfl)) (pss_cons (ps_set (i := 3) sc__law_filled.nd rfl (Or.inl rfl) (pe_fn (takes_of rfl rfl rfl rfl) c__law_next (hr.mono (by decide)) (by rfl) (pa_cons (pe_op op_gAdd (pv 3) (pv 5)) pa_nil)))
        (pss_one (ps_expr (pe_fn (takes_of rfl rfl rfl rfl) c__law_write (hr.mono (by decide)) (by rfl) (pa_cons (pv 0) (pa_cons (pv 1) (pa_cons (pv 2) (pa_cons (pv 4) (pa_cons (pv 5) (pa_cons (pe_fn (takes_of rfl rfl rfl rfl) c__law_word (hr.mono (by decide)) (by rfl) (pa_cons (pv 2) (pa_cons (pv 3) pa_nil))) pa_nil)))))))))))))), ?rd⟩)
  case len => first | exact len__law_filled h | (repeat (first | (obtain ⟨rfl, _⟩ := h; rfl; done) | obtain ⟨_, h⟩ := h))
  case rd =>
    obtain ⟨A, R, S, U, C, d, sd, rfl, I, ce, ro, db, hl, hb, hw, q⟩ := h
    have sz : 10000 ≤ sizeLine := by rw [sizeLine_eq]; omega
    have gn := I.ar.gn
    have gk := I.ar.gk
    have ln := I.ar.ln
    have lo := I.ar.lo
    have lt := (I.ar.lt S.fl).2
    have clt := ce.lt ln lo lt
    walk_at "w3"
    refine ⟨d, _, rfl, .inl ce.dd, fun p np => ?_⟩
    rw [kvs_keys]
    have sp := same_new (o := .lst ((plcC C).map V.int)) np
    have hp : upd H p (.lst ((plcC C).map V.int)) p = some (.lst ((plcC C).map V.int)) := upd_same
    have pl := I.offl np
    have pr : ∀ c ∈ C, p ≠ c.r := fun c m => (ne_of_none (ce.rw_ c m) np).symm
    have I0 := I.same sp
    have ce0 := ce.same sp
    generalize upd H p (.lst ((plcC C).map V.int)) = H0 at sp hp I0 ce0 ⊢
    let J : Hp → List Int → List Int → List CeL → Nat → Prop := fun H' bs' ws' C' m => PairO K H' A R { S with ws := ws' } { U with bs := bs' } ∧ bs'.length ≤ U.bs.length + m ∧ CellsO kp H' { S with ws := ws' } d C' ∧ C'.map sig = C.map sig ∧ (∀ c ∈ C', ∀ w ∈ c.ws, ClW C' w) ∧ H' p = some (.lst ((plcC C).map V.int)) ∧ ∀ b o, b ≠ A.l → (∀ c ∈ C, b ≠ c.r) → b ≠ U.bd → H b = some o → H' b = some o
    refine ⟨⟨_, .of hp⟩, forW_list (xs := (plcC C).map V.int) (fun i σ H' => ∃ bs' ws' C' sd o4 o5, σ = [some (.ref A.a), some (.ref R.r), some (.ref d), some (.int sd), o4, o5] ∧ J H' bs' ws' C' (8 * i)) ⟨U.bs, S.ws, C, _, _, _, rfl, I0, Nat.le_refl _, ce0, rfl, hw, hp, fun b o _ _ _ g => sp _ _ g⟩ ?_ ?_ ?_⟩
    · rintro i σ H' hi ⟨bs', ws', C', sd, o4, o5, rfl, j⟩
      exact .of j.2.2.2.2.2.1
    · rintro i x σ H' hx ⟨bs', ws', C', sd, o4, o5, rfl, j⟩
      obtain ⟨y, hy, rfl⟩ := ints_at hx
      have il := (List.getElem?_eq_some_iff.mp hy).1
      rw [plc_len] at il
      obtain ⟨c, mc, ey⟩ := List.mem_map.mp (List.mem_of_getElem? hy)
      have ey : (c.p : Int) = y := ey
      subst ey
      walk_at "w3"
      obtain ⟨I1, jb, ce1, sg, jw, jp, jf⟩ := j
      obtain ⟨c1, m1, e1, e2, e3⟩ := sig_mem sg mc
      have dg := dget_i (i := (c.p : Int)) ce1.dd
      have kv := kvs_some (f := kp) (ce1.keys fun a b (e : (a : Int) = b) => by omega) m1
      rw [show kp c1.p = (c.p : Int) from by rw [e1]] at kv
      rw [kv, e2] at dg
      refine ⟨_, dg, ?_⟩
      have r1 := ce1.rw_ c1 m1
      rw [e2] at r1
      refine r_lenL r1 ?_
      rw [List.length_map, e3]
      have hc8 : c.ws.length ≤ 8 := by
        obtain ⟨k, -, h1, h2⟩ := ce.head mc (clt c mc)
        omega
      walk_at "w3"
      refine ⟨by omega, by omega, forW_range (lo := 0) (n := c.ws.length) (fun t σ H' => ∃ bs' ws' C' sd o5, σ = [some (.ref A.a), some (.ref R.r), some (.ref d), some (.int sd), some (.int (c.p : Int)), o5] ∧ J H' bs' ws' C' (8 * i + t)) ⟨bs', ws', C', _, _, rfl, I1, jb, ce1, sg, jw, jp, jf⟩ ?_ ?_⟩
      · rintro t σ H2 ht ⟨bs2, ws2, C2, sd, o5, rfl, I2, jb2, ce2, sg2, jw2, jp2, jf2⟩
        rw [Int.zero_add]
        have ln2 : ws2.length = S.n + 2 * S.k := I2.ar.ln
        have lt2 : ∀ c ∈ C2, c.p + c.ws.length < ws2.length := ce2.lt I2.ar.ln I2.ar.lo (I2.ar.lt _).2
        have l2 : C2.length = C.length := by
          have := congrArg List.length sg2
          rwa [List.length_map, List.length_map] at this
        walk_at "w3"
        refine ⟨_, rfl, _, d, C2, _, rfl, ce2, by omega, fun c m => ?_, fun w H3 s3 cw => ?_⟩
        · have := lt2 c m
          omega
        obtain ⟨c2, m2, f1, f2, f3⟩ := sig_mem sg2 mc
        have I3 := I2.same s3
        have ce3 := ce2.same s3
        refine ⟨A, R, _, _, C2, d, c2, m2, t, w, by rw [f1], I3, ce3, ro.sig sg2, db, by omega, cw.1, by show bs2.length < 900000; omega, fun bs4 H4 hl4 I4 ce4 k4 => ?_⟩
        have sg5 : (setC C2 c2.p t w).map sig = C2.map sig := setC_sig
        have hl4 : bs4.length ≤ bs2.length + 1 := hl4
        refine ⟨bs4, ws2.set (c2.p + 1 + t) w, setC C2 c2.p t w, _, _, rfl, I4, by omega, ce4, sg5.trans sg2, fun a ma w' mw => ?_, ?_, fun b o n1 n2 n3 g => ?_⟩
        · obtain ⟨b, mb, rfl⟩ := List.mem_map.mp ma
          refine ClW.sig sg5 ?_
          by_cases e : b.p = c2.p
          · rw [if_pos e] at mw
            rcases List.mem_or_eq_of_mem_set mw with mw | rfl
            · exact jw2 b mb w' mw
            · exact cw
          · rw [if_neg e] at mw
            exact jw2 b mb w' mw
        · exact k4 _ _ pl.1.1 (by rw [f2]; exact pr c mc) pl.2 (s3 _ _ jp2)
        · exact k4 b o n1 (by rw [f2]; exact n2 c mc) n3 (s3 _ _ (jf2 b o n1 n2 n3 g))
      · rintro σ H2 ⟨bs2, ws2, C2, sd, o5, rfl, I2, jb2, r2⟩
        exact ⟨bs2, ws2, C2, _, _, _, rfl, I2, by omega, r2⟩
    · rintro σ H' ⟨bs', ws', C', sd, o4, o5, rfl, I1, jb, ce1, sg, jw, jp, jf⟩
      rw [List.length_map, plc_len] at jb
      exact q bs' ws' C' H' jb I1 ce1 sg jw jf
theorem f__law_laid (T : Tx K mg) : Fn P w K mg base 9 "_law_laid" ["_law_areas", "_law_rooms", "_law_script"] (sp_laid16 K) := by
  have c__law_next := f__law_next (P := P) (w := w) (base := base) T
  have c__law_cell_at := f__law_cell_at (P := P) (w := w) (base := base) T
  have c__law_lay := f__law_lay (P := P) (w := w) (base := base) T
  have c_aged := f_aged (P := P) (w := w) (base := base) T
  refine T.mkFn 69 40 (d := d__law_laid) (N := ["_law_areas", "_law_rooms", "_law_script", "_law_cells", "_law_seed", "_law_used", "_law_k", "_law_slots", "_law_side", "_law_at"]) (k := 8) rfl rfl rfl rfl rfl sc__law_laid (fun _ _ _ _ _ _ us hl => match us, hl with | [_, _, _], _ => rfl) (fun vs H Q E h => ?len) (fun cdv A outer s H vs Q E hr h => ⟨_,
      (pss_cons (ps_set (i := 3) sc__law_laid.nd rfl (Or.inl rfl) pe_dnewK)
        (pss_cons (ps_set (i := 4) sc__law_laid.nd rfl (Or.inl rfl) (pe_fn (takes_of rfl rfl rfl rfl) c__law_next (hr.mono (by decide)) (by rfl) (pa_cons (pe_fn (takes_of rfl rfl rfl rfl) c__law_cell_at (hr.mono (by decide)) (by rfl) (pa_cons (pv 2) (pa_cons pe_int pa_nil))) pa_nil)))
        (pss_cons (ps_set (i := 5) sc__law_laid.nd rfl (Or.inl rfl) (pe_lst (pa_cons pe_int (pa_cons pe_int pa_nil))))
        (pss_cons (ps_for (passes_of rfl) rfl (pi_range1 rfl (T.free 66) (pa_cons (pe_op op_gAdd pe_int (pe_op op_mod (pe_op op_fdiv (pe_fn (takes_of rfl rfl rfl rfl) c__law_cell_at (hr.mono (by decide)) (by rfl) (pa_cons (pv 2) (pa_cons pe_int pa_nil))) pe_int) pe_int)) pa_nil)) (pg_name (i := 6) sc__law_laid.nd rfl (Or.inl rfl)) (pss_cons (ps_set (i := 4) sc__law_laid.nd rfl (Or.inl rfl) (pe_fn (takes_of rfl rfl rfl rfl) c__law_next (hr.mono (by decide)) (by rfl) (pa_cons (pe_op op_gAdd (pv 4) (pv 6)) pa_nil)))
        (pss_cons (ps_set (i := 7) sc__law_laid.nd rfl (Or.inl rfl) (pe_op op_mod (pe_op op_fdiv (pv 4) pe_int) pe_int))
        (pss_cut (ps_if (pt_cmpR (op_eqK (K := K) rfl hr.units) (pe_op op_mod (pe_op op_fdiv (pv 4) pe_int) pe_int) pe_int (nomark _)) (pss_one (ps_set (i := 7) sc__law_laid.nd rfl (Or.inl rfl) (pe_op op_mod (pe_op op_fdiv (pv 4) pe_int) pe_int))) pss_nil)
        (pss_cons (ps_set (i := 8) sc__law_laid.nd rfl (Or.inl rfl) (pe_op op_mod (pe_op op_fdiv (pv 4) pe_int) pe_int))
        (pss_one (ps_if (PW.pt (pw_and (pt_cmpR op_le (pe_op op_gAdd (pe_op op_gAdd (pe_ix (ix_seqK (K := K) rfl) (pv 5) (pv 8) (fun _ _ => rfl)) (pv 7)) pe_int) (pe_ix (ix_seqK (K := K) rfl) (pv 1) (pv 8) (fun _ _ => rfl)) (nomark _)) (pw_and1 (pt_cmpR op_le (pe_op op_gAdd (pe_op op_gAdd (pe_op op_gAdd (pe_ix (ix_seqK (K := K) rfl) (pv 5) pe_int (fun _ _ => rfl)) (pe_ix (ix_seqK (K := K) rfl) (pv 5) pe_int (fun _ _ => rfl))) (pv 7)) pe_int) (pe_ix (ix_seqK (K := K) rfl) (pv 1) pe_int (fun _ _ => rfl)) (nomark _))))) (pss_cons (ps_set (i := 9) sc__law_laid.nd rfl (Or.inl rfl) (pe_fn (takes_of rfl rfl rfl rfl) c__law_lay (hr.mono (by decide)) (by rfl) (pa_cons (pv 0) (pa_cons (pv 8) (pa_cons (pv 7) (pa_cons (pv 3) pa_nil))))))
        (pss_cons (ps_asg (pe_op op_gAdd (pe_op op_gAdd (pe_ix (ix_seqK (K := K) rfl) (pv 5) (pv 8) (fun _ _ => rfl)) (pv 7)) pe_int) (pg_sub (pv 5) (pv 8) set_list))
        (pss_one (ps_if (PW.pt (pw_and (pt_cmpR (op_eqK (K := K) rfl hr.units) (pv 8) pe_int (nomark _)) (pw_and1 (pt_cmpR (op_eqK (K := K) rfl hr.units) (pe_op op_mod (pe_op op_fdiv (pv 4) pe_int) pe_int) pe_int (nomark _))))) (pss_one (ps_expr (pe_fn (takes_of rfl rfl rfl rfl) c_aged (hr.mono (by decide)) (by rfl) (pa_cons (pe_fldC (T.cls 104) (T.noat 110) (pv 0)) (pa_cons (pv 9) (pa_cons pe_int pa_nil)))))) pss_nil)))) pss_nil)))))))
        (pss_one (ps_ret (pv 3))))))), ?rd⟩)
  case len => first | exact len__law_laid h | (repeat (first | (obtain ⟨rfl, _⟩ := h; rfl; done) | obtain ⟨_, h⟩ := h))
  case rd =>
    obtain ⟨A, R, S0, U, z, a, ns, rfl, I, eot, et, hz, hS, zl, q⟩ := h
    have sz : 10000 ≤ sizeLine := by rw [sizeLine_eq]; omega
    have hbk := I.ar.gk
    have hbn := I.ar.gn
    walk_at "w3"
    intro p np
    have sp := same_new (o := .dK []) np
    refine ⟨a, _, ns, rfl, sp.seq hS, by omega, ?_⟩
    refine ⟨_, rfl, by omega, fun u nu => ?_⟩
    have su := same_new (o := .lst [.int 0, .int 0]) nu
    have s2 := sp.trans su
    have up : upd (upd H p (.dK [])) u (.lst [.int 0, .int 0]) p = some (.dK []) := su _ _ upd_same
    have uu : upd (upd H p (.dK [])) u (.lst [.int 0, .int 0]) u = some (.lst [.int 0, .int 0]) := upd_same
    have nuH := none_of sp nu
    have pu : p ≠ u := ne_of_none upd_same nu
    have uo := ((I.same sp).offl nu).1
    have pbd := (I.offl np).2
    generalize upd (upd H p (.dK [])) u (.lst [.int 0, .int 0]) = H2 at s2 up uu ⊢
    refine ⟨a, _, ns, rfl, s2.seq hS, by omega, ?_⟩
    walk_at "w3"
    obtain ⟨N, eN, hN⟩ : ∃ N : Nat, 1 + cell ns 0 / 1037 % 10 = (N : Int) ∧ N ≤ 10 := ⟨(1 + cell ns 0 / 1037 % 10).toNat, by omega, by omega⟩
    rw [eN, Int.toNat_natCast]
    refine ⟨by omega, by omega, ?_⟩
    let J : Hp → Nat → ArS → List CeL → Prop := fun H' t S C => PairO K H' A R S U ∧ S.n = S0.n ∧ S.k = S0.k ∧ CellsO kp H' S p C ∧ (∀ c ∈ C, ∀ w ∈ c.ws, w = -1) ∧ (∀ c ∈ C, H c.r = none ∧ c.r ≠ u ∧ OffP A R c.r) ∧ sumW C + S.b S.fl = S.ot + S.t S.fl ∧ sumW C ≤ S.n ∧ C.length ≤ t ∧ H' u = some (.lst [.int S.ot, .int ((S.t S.fl : Int) - S.b S.fl)]) ∧ ∀ c o, c ≠ A.l → c ≠ A.o → c ≠ A.p → c ≠ A.q → H c = some o → H' c = some o
    refine forW_range (lo := 0) (n := N) (fun t σ H' => ∃ S C seed o6 o7 o8 o9, σ = [some (.ref A.a), some (.ref z), some (.ref a), some (.ref p), some (.int seed), some (.ref u), o6, o7, o8, o9] ∧ J H' t S C) ⟨S0, [], _, _, _, _, _, rfl, I.same s2, rfl, rfl, ⟨up, (fun c m => (List.not_mem_nil m).elim), (fun c m => (List.not_mem_nil m).elim), (fun c m => (List.not_mem_nil m).elim), (fun c m => (List.not_mem_nil m).elim), .nil, .nil⟩, (fun c m => (List.not_mem_nil m).elim), (fun c m => (List.not_mem_nil m).elim), by rw [eot, et]; show 0 + _ = _; omega, Nat.zero_le _, Nat.le_refl _, by rw [eot, et, Int.sub_self]; exact uu, fun c o _ _ _ _ g => s2 _ _ g⟩ ?_ ?_
    · rintro t σ H' ht ⟨S, C, seed, o6, o7, o8, o9, rfl, J1, jn, jk, ce, jw, jr, js, jm, jl, ju, jf⟩
      rw [Int.zero_add]
      walk_at "w3"
      refine ⟨_, rfl, ?_⟩
      walk_at "w3"
      generalize nextW (seed + (t : Int)) = sd
      refine ⟨fun σ H'' => H'' = H' ∧ ∃ s : Nat, s ≤ 8 ∧ σ = [some (.ref A.a), some (.ref z), some (.ref a), some (.ref p), some (.int sd), some (.ref u), some (.int (t : Int)), some (.int (s : Int)), o8, o9], ?_, ?_⟩
      · split
        · exact ⟨rfl, (sd / 175 % 9).toNat, by omega, by rw [Int.toNat_of_nonneg (by omega)]⟩
        · exact ⟨rfl, (sd / 5 % 5).toNat, by omega, by rw [Int.toNat_of_nonneg (by omega)]⟩
      rintro σ H'' ⟨rfl, s, s8, rfl⟩
      walk_at "w3"
      have stay : ∃ S C seed o6 o7' o8' o9', [some (V.ref A.a), some (.ref z), some (.ref a), some (.ref p), some (.int sd), some (.ref u), some (.int (t : Int)), some (.int (s : Int)), some (.int (sd / 7 % 2)), o9] = [some (V.ref A.a), some (.ref z), some (.ref a), some (.ref p), some (.int seed), some (.ref u), o6, o7', o8', o9'] ∧ J H'' (t + 1) S C := ⟨S, C, sd, _, _, _, _, rfl, J1, jn, jk, ce, jw, jr, js, jm, by omega, ju, jf⟩
      have hlt := J1.ar.lt S.fl
      have hlo := J1.ar.lo
      have hln := J1.ar.ln
      have zz := jf z _ zl (ne_of hz I.ar.so fun z => spv_lst z.symm) (ne_of hz I.ar.sp fun z => spv_lst z.symm) (ne_of hz I.ar.sq fun z => spv_lst z.symm) hz
      rw [← jn, ← jk] at zz
      obtain ⟨b, ib, ub, zb, es, eb, eu, ez, ec, eS, eT⟩ : ∃ b : Bool, ∃ ib : Nat, ∃ ub zb : Int, sd / 7 % 2 = (ib : Int) ∧ (ib : Int) = (if b then 0 else 1) ∧ ([.int (S.ot : Int), .int ((S.t S.fl : Int) - S.b S.fl)] : List V)[ib]? = some (.int ub) ∧ ([.int (S.n : Int), .int (S.k : Int)] : List V)[ib]? = some (.int zb) ∧ (ub + s + 1 ≤ zb ↔ s + 1 ≤ endA S b - topA S b) ∧
          ([.int (S.ot : Int), .int ((S.t S.fl : Int) - S.b S.fl)] : List V).set ib (.int (ub + s + 1)) = [.int ((laidS S b s).ot : Int), .int (((laidS S b s).t (laidS S b s).fl : Int) - (laidS S b s).b (laidS S b s).fl)] ∧ (laidS S b s).ot + (laidS S b s).t (laidS S b s).fl = S.ot + S.t S.fl + (s + 1) := by
        have e0 : sd / 7 % 2 = 0 ∨ sd / 7 % 2 = 1 := by omega
        rcases e0 with e0 | e0
        · refine ⟨true, 0, _, _, e0, rfl, rfl, rfl, ?_, ?_, ?_⟩
          · show _ ↔ s + 1 ≤ S.n - S.ot
            omega
          · rw [laidS_same.1, laidS_t, laidS_same.2.2.2, laidS_ot]
            show [V.int _, V.int _] = [V.int ((S.ot + (s + 1) : Nat) : Int), V.int ((S.t S.fl : Int) - S.b S.fl)]
            congr 2 <;> omega
          · rw [laidS_same.1, laidS_t, laidS_ot]
            show S.ot + (s + 1) + S.t S.fl = _
            omega
        · refine ⟨false, 1, _, _, e0, rfl, rfl, rfl, ?_, ?_, ?_⟩
          · show _ ↔ s + 1 ≤ S.b S.fl + S.k - S.t S.fl
            omega
          · rw [laidS_same.1, laidS_t, laidS_same.2.2.2, laidS_ot]
            show [V.int _, V.int _] = [V.int (S.ot : Int), V.int (((S.t S.fl + (s + 1) : Nat) : Int) - S.b S.fl)]
            congr 3 <;> omega
          · rw [laidS_same.1, laidS_t, laidS_ot]
            show S.ot + (S.t S.fl + (s + 1)) = _
            omega
      rw [es] at stay ⊢
      refine r_ixL ju eu ?_
      walk_at "w3"
      refine r_ixL zz ez ?_
      walk_at "w3"
      by_cases c1 : ub + s + 1 ≤ zb
      · rw [if_pos c1]
        have fit := ec.mp c1
        refine r_ixL (i := 0) ju rfl (r_ixL (i := 1) ju rfl ?_)
        walk_at "w3"
        refine r_ixL (i := 0) zz rfl ?_
        walk_at "w3"
        by_cases c2 : (S.ot : Int) + ((S.t S.fl : Int) - S.b S.fl) + s + 1 ≤ S.n
        · rw [if_pos c2]
          rw [show sp_lay16 K [V.ref A.a, V.int (ib : Int), V.int (s : Int), V.ref p] = sp_lay16 K [V.ref A.a, V.int (if b then 0 else 1), V.int (s : Int), V.ref p] from by rw [eb]]
          refine ⟨A, R, S, U, C, p, b, s, rfl, J1, ce, fun c m => (jr c m).2.2, pbd, by omega, s8, fit, fun r H4 I4 ce4 nr orr k4 => ?_⟩
          have newH : H r = none := by
            cases e : H r with
            | none => rfl
            | some o =>
              rw [jf r o (ne_of_none J1.ar.me.ls nr).symm (ne_of_none J1.ar.so nr).symm (ne_of_none J1.ar.sp nr).symm (ne_of_none J1.ar.sq nr).symm e] at nr
              cases nr
          obtain ⟨u1, u2, u3, u4⟩ := lst_off J1 ju uo.1
          have ju4 := k4 _ _ u1 u2 u3 u4 pu.symm ju
          refine r_ixL ju4 eu ?_
          walk_at "w3"
          refine r_setL ju4 (by omega) (by rw [← es]; show sd / 7 % 2 < 2; omega) ?_
          rw [Int.toNat_natCast, eS]
          have ru : r ≠ u := (ne_of_none ju nr).symm
          have I5 := I4.off (o := .lst [.int ((laidS S b s).ot : Int), .int (((laidS S b s).t (laidS S b s).fl : Int) - (laidS S b s).b (laidS S b s).fl)]) ju4 uo
          have rows : ∀ c ∈ C ++ [⟨topA S b, r, List.replicate s (-1)⟩], H c.r = none ∧ c.r ≠ u ∧ OffP A R c.r := fun c m => by
            rcases List.mem_append.mp m with m | m
            · exact jr c m
            · rw [List.mem_singleton.mp m]
              exact ⟨newH, ru, orr⟩
          have ce5 : CellsO kp (upd H4 u (.lst [.int ((laidS S b s).ot : Int), .int (((laidS S b s).t (laidS S b s).fl : Int) - (laidS S b s).b (laidS S b s).fl)])) (laidS S b s) p (C ++ [⟨topA S b, r, List.replicate s (-1)⟩]) := ce4.keep fun x o m g => by
            refine (upd_ne ?_).trans g
            rcases m with rfl | ⟨c, mc, rfl⟩
            · exact pu
            · exact (rows c mc).2.1
          have ju5 : upd H4 u (.lst [.int ((laidS S b s).ot : Int), .int (((laidS S b s).t (laidS S b s).fl : Int) - (laidS S b s).b (laidS S b s).fl)]) u = some (.lst [.int ((laidS S b s).ot : Int), .int (((laidS S b s).t (laidS S b s).fl : Int) - (laidS S b s).b (laidS S b s).fl)]) := upd_same
          have jf5 : ∀ c o, c ≠ A.l → c ≠ A.o → c ≠ A.p → c ≠ A.q → H c = some o → upd H4 u (.lst [.int ((laidS S b s).ot : Int), .int (((laidS S b s).t (laidS S b s).fl : Int) - (laidS S b s).b (laidS S b s).fl)]) c = some o := fun c o h1 h2 h3 h4 g => (upd_ne (ne_of_none g nuH)).trans (k4 c o h1 h2 h3 h4 (ne_of_none g np) (jf c o h1 h2 h3 h4 g))
          generalize upd H4 u (.lst [.int ((laidS S b s).ot : Int), .int (((laidS S b s).t (laidS S b s).fl : Int) - (laidS S b s).b (laidS S b s).fl)]) = H5 at I5 ce5 ju5 jf5 ⊢
          obtain ⟨f1, f2, f3, f4⟩ := laidS_same (S := S) (old := b) (s := s)
          have js5 : sumW (C ++ [⟨topA S b, r, List.replicate s (-1)⟩]) = sumW C + (s + 1) := by
            rw [sumW_app]
            show _ + ((List.replicate s (-1 : Int)).length + 1) = _
            rw [List.length_replicate]
          have nxt : ∀ H6 ws6, PairO K H6 A R { laidS S b s with ws := ws6 } U → CellsO kp H6 { laidS S b s with ws := ws6 } p (C ++ [⟨topA S b, r, List.replicate s (-1)⟩]) → H6 u = some (.lst [.int ((laidS S b s).ot : Int), .int (((laidS S b s).t (laidS S b s).fl : Int) - (laidS S b s).b (laidS S b s).fl)]) → (∀ c o, c ≠ A.l → c ≠ A.o → c ≠ A.p → c ≠ A.q → H c = some o → H6 c = some o) →
              ∃ S C seed o6 o7 o8 o9, [some (V.ref A.a), some (.ref z), some (.ref a), some (.ref p), some (.int sd), some (.ref u), some (.int (t : Int)), some (.int (s : Int)), some (.int (ib : Int)), some (.int (topA S0 b : Int))] = [some (V.ref A.a), some (.ref z), some (.ref a), some (.ref p), some (.int seed), some (.ref u), o6, o7, o8, o9] ∧ J H6 (t + 1) S C := by
            intro H6 ws6 I6 ce6 ju6 jf6
            refine ⟨_, _, _, _, _, _, _, rfl, I6, f2.trans jn, f3.trans jk, ce6, fun c m w mw => ?_, rows, ?_, ?_, by rw [List.length_append]; show C.length + 1 ≤ _; omega, ju6, jf6⟩
            · rcases List.mem_append.mp m with m | m
              · exact jw c m w mw
              · rw [List.mem_singleton.mp m] at mw
                exact (List.mem_replicate.mp mw).2
            · show sumW _ + (laidS S b s).b (laidS S b s).fl = (laidS S b s).ot + (laidS S b s).t (laidS S b s).fl
              rw [js5, eT, f1, f4]
              omega
            · show sumW _ ≤ (laidS S b s).n
              rw [js5, f2]
              omega
          have fin : ∀ H6 ws6, PairO K H6 A R { laidS S b s with ws := ws6 } U → CellsO kp H6 { laidS S b s with ws := ws6 } p (C ++ [⟨topA S b, r, List.replicate s (-1)⟩]) → H6 u = some (.lst [.int ((laidS S b s).ot : Int), .int (((laidS S b s).t (laidS S b s).fl : Int) - (laidS S b s).b (laidS S b s).fl)]) → (∀ c o, c ≠ A.l → c ≠ A.o → c ≠ A.p → c ≠ A.q → H c = some o → H6 c = some o) →
              ∃ S' C seed o6 o7 o8 o9, [some (V.ref A.a), some (.ref z), some (.ref a), some (.ref p), some (.int sd), some (.ref u), some (.int (t : Int)), some (.int (s : Int)), some (.int (ib : Int)), some (.int (topA S b : Int))] = [some (V.ref A.a), some (.ref z), some (.ref a), some (.ref p), some (.int seed), some (.ref u), o6, o7, o8, o9] ∧ J H6 (t + 1) S' C := fun H6 ws6 I6 ce6 ju6 jf6 => by
            obtain ⟨S', C', sd', a6, a7, a8, a9, e, j⟩ := nxt H6 ws6 I6 ce6 ju6 jf6
            cases e
            exact ⟨S', C', _, _, _, _, _, rfl, j⟩
          split
          · split
            · have mN : (⟨topA S b, r, List.replicate s (-1)⟩ : CeL) ∈ C ++ [⟨topA S b, r, List.replicate s (-1)⟩] := List.mem_append_right _ (List.mem_singleton.mpr rfl)
              have lt5 := ce5.lt I5.ar.ln I5.ar.lo (I5.ar.lt _).2 _ mN
              obtain ⟨k, ek, ek4, -⟩ := ce5.head mN lt5
              have ek4 : k / 4 = s := by
                rw [ek4]
                exact List.length_replicate
              refine ⟨_, fldIs I5.ar.ob, A.m, A.mx, A.l, _, _, _, rfl, I5.ar.me, I5.ar.vw, .inl ⟨_, rfl⟩, .inl ⟨_, rfl⟩, ?_⟩
              rw [ek]
              dsimp only
              rw [show ageW (.int 1) = some 1 from rfl, ek4]
              dsimp only
              have I6 := I5.wput (ws := (laidS S b s).ws.set (topA S b) (2 * ((4 * s + 1 : Nat) : Int))) (I5.ar.vw.set (by rw [word_num (by omega)]; rfl)) (List.length_set ..)
              have ce6 := ce5.age (H' := upd H5 A.l (.lst (((laidS S b s).ws.set (topA S b) (2 * ((4 * s + 1 : Nat) : Int))).map V.int))) (a := 1) mN (Nat.lt_of_le_of_lt (Nat.le_add_right _ _) lt5) (by decide) (by show (List.replicate s (-1 : Int)).length ≤ 8; rw [List.length_replicate]; exact s8) fun x o m g => by
                refine (upd_ne ?_).trans g
                rcases m with rfl | ⟨c, mc, rfl⟩
                · exact ne_of g I5.ar.me.ls (by rw [ce5.dd] at g; cases g; intro z; cases z)
                · exact (rows c mc).2.2.1
              rw [show (⟨topA S b, r, List.replicate s (-1)⟩ : CeL).ws.length = s from List.length_replicate] at ce6
              exact fin _ _ I6 ce6 ((upd_ne uo.1).trans ju5) fun c o h1 h2 h3 h4 g => (upd_ne h1).trans (jf5 c o h1 h2 h3 h4 g)
            · exact fin H5 _ I5 ce5 ju5 jf5
          · exact fin H5 _ I5 ce5 ju5 jf5
        · rw [if_neg c2]
          exact stay
      · rw [if_neg c1]
        exact stay
    · rintro σ H' ⟨S, C, seed, o6, o7, o8, o9, rfl, J1, jn, jk, ce, jw, jr, js, jm, jl, ju, jf⟩
      walk_at "w3"
      exact q p H' S C J1 jn jk ce (fun c m => (jr c m).2.2) jw (by omega) (by omega) (fun c m => (jr c m).1) np jf
end

local macro_rules | `(tactic| walk_at "w3") => `(tactic| try simp only [↓x_var0, ↓x_varS, ↓x_c, ↓x_op, ↓x_un, ↓x_cb, ↓x_nil, ↓x_cons, ↓x_test, ↓x_b, ↓x_ex, ↓x_and, ↓x_or, ↓x_not, ↓x_andV, ↓x_orV, ↓x_notV, ↓x_tif, ↓x_chain, ↓x_menu, ↓x_menuI, ↓x_lst, ↓x_tup, ↓x_dnew, ↓x_callW, ↓x_callN, ↓x_seq, ↓x_next, ↓x_ret, ↓x_retN, ↓x_drop, ↓x_ifS, ↓x_asg, ↓x_name, ↓x_raise, ↓x_fld, ↓x_setF, ↓x_meth, ↓x_make, ↓x_sub, ↓r_min, ↓r_max, ↓x_yes, ↓x_for, ↓x_lock, ↓x_keys, ↓x_cut, ↓x_lc, ↓x_rng1, ↓x_rng2, ↓x_lst1, ↓x_itup, ↓x_rng3, ↓x_three, ↓x_lstg, ↓x_tupg, ↓x_adrS, ↓x_one, ↓x_two, ↓x_adr, ↓x_sl, ↓x_np, ↓x_pt, ↓x_int, ↓x_bm, ↓x_bm0, ↓x_consg, ↓x_nilg, ↓x_dget2, ↓x_dget1, ↓x_dgetN, ↓x_dget, ↓x_din, ↓x_dni, ↓x_dput, ↓x_dpop2, ↓r_isB, ↓r_notB, ↓x_enum, ↓x_zip, ↓x_str, ↓x_strE, ↓r_inS, ↓r_ninS, wipe, List.map_cons, List.map_nil, ↓x_isT, ↓r_isiII, ↓r_isiBB, ↓r_isiIB, ↓r_isiSS, ↓r_neNS, ↓r_neSN, ↓r_neNN, ↓r_eqNS, ↓r_eqSN, ↓r_eqNN, ↓r_eqIS, ↓r_neIS, ↓r_neSI, ↓r_neBS, ↓r_eqBB, ↓r_neBB, ↓x_start, ↓x_K, ↓x_start0, ↓r_i0, ↓r_i, ↓r_u, ↓r_addI, ↓r_addS, ↓r_mulI, ↓r_mulS, ↓r_eqI, ↓r_neI, ↓r_eqS, ↓r_neS, ↓r_absI, ↓r_intI, ↓r_intB, List.length_cons, List.length_nil, List.replicate, List.set_cons_zero, List.set_cons_succ, decide_eq_true_eq, Bool.not_eq_true', decide_eq_false_iff_not, if_true, if_false, Bool.false_eq_true, Bool.true_eq_false, ite_true, ite_false, Bool.not_true, Bool.not_false, c_div, n_ten, c_pow, not_true_eq_false, not_false_eq_true, decide_true, decide_false, true_and, and_true, and_self, true_or, or_true, Int.reduceLT, Int.reduceLE, Int.reduceMul, Int.reduceAdd, Int.reduceSub, Int.reducePow, Int.reduceNeg, Int.reduceDiv, Int.reduceMod, Nat.reducePow, Int.reduceToNat, Int.reduceEq, Int.reduceNe, Nat.reduceLT, Nat.reduceLeDiff, Nat.reduceAdd, ↓x_whole, ↓x_kind, Int.natCast_one, Int.natCast_one, Int.natCast_one, Int.natCast_one, Int.natCast_one, Int.natCast_one])
/-- names by their numbers -/
def kvN : Nat → List V → List (Key × V)
  | _, [] => []
  | k, v :: r => (.inl (k : Int), v) :: kvN (k + 1) r
theorem kvN_len : ∀ {ts : List V} {k : Nat}, (kvN k ts).length = ts.length
  | [], _ => rfl
  | v :: r, k => congrArg (· + 1) kvN_len
theorem kvN_key : ∀ {ts : List V} {k : Nat} {q : Key × V}, q ∈ kvN k ts → ∃ i, q.1 = .inl ((k + i : Nat) : Int) ∧ ts[i]? = some q.2
  | [], _, _, m => (List.not_mem_nil m).elim
  | v :: r, k, q, m => by
    rcases List.mem_cons.mp m with rfl | m
    · exact ⟨0, rfl, rfl⟩
    · obtain ⟨i, h1, h2⟩ := kvN_key m
      exact ⟨i + 1, by rw [h1, show k + 1 + i = k + (i + 1) from by omega], h2⟩
theorem kvN_nd : ∀ {ts : List V} {k : Nat}, ((kvN k ts).map (·.1)).Nodup
  | [], _ => List.nodup_nil
  | v :: r, k => by
    show ((.inl (k : Int) : Key) :: (kvN (k + 1) r).map (·.1)).Nodup
    refine List.nodup_cons.mpr ⟨fun m => ?_, kvN_nd⟩
    obtain ⟨q, mq, e⟩ := List.mem_map.mp m
    obtain ⟨i, h1, -⟩ := kvN_key mq
    rw [h1] at e
    have := Sum.inl.inj e
    omega
theorem kvN_val : ∀ {ts : List V} {k i : Nat}, valV (kvN k ts) (.inl ((k + i : Nat) : Int) : Key) = ts[i]?
  | [], _, _ => rfl
  | v :: r, k, 0 => valV_pos rfl
  | v :: r, k, i + 1 => by
    have e2 : ¬ ((.inl (k : Int) : Key) = .inl ((k + (i + 1) : Nat) : Int)) := fun z => by
      have := Sum.inl.inj z
      omega
    refine (valV_neg (p := ((.inl (k : Int) : Key), v)) (r := kvN (k + 1) r) e2).trans ?_
    rw [show k + (i + 1) = k + 1 + i from by omega]
    exact kvN_val
theorem kvN_app {a b : List V} : ∀ {k : Nat}, kvN k (a ++ b) = kvN k a ++ kvN (k + a.length) b := by
  induction a with
  | nil => exact fun {k} => rfl
  | cons v r ih =>
    intro k
    show (.inl (k : Int), v) :: kvN (k + 1) (r ++ b) = (.inl (k : Int), v) :: (kvN (k + 1) r ++ kvN (k + (v :: r).length) b)
    rw [ih, List.length_cons, show k + 1 + r.length = k + (r.length + 1) from by omega]
theorem kvN_new {ts : List V} {v : V} : putK (kvN 0 ts) (.inl (ts.length : Int) : Key) v = kvN 0 (ts ++ [v]) := by
  rw [putK_new _ (by
    have := kvN_val (ts := ts) (k := 0) (i := ts.length)
    rw [Nat.zero_add, List.getElem?_eq_none (Nat.le_refl _)] at this
    exact this), kvN_app, Nat.zero_add]
  rfl
theorem kvN_map {ts : List V} {v : V} {k i : Nat} : (kvN k ts).map (fun kv => if kv.1 = (.inl ((k + i : Nat) : Int) : Key) then (kv.1, v) else kv) = kvN k (ts.set i v) := by
  induction ts generalizing k i with
  | nil => rfl
  | cons t r ih =>
    cases i with
    | zero =>
      show (if (.inl (k : Int) : Key) = .inl ((k + 0 : Nat) : Int) then ((.inl (k : Int) : Key), v) else ((.inl (k : Int) : Key), t)) :: _ = ((.inl (k : Int) : Key), v) :: kvN (k + 1) r
      rw [if_pos (show (.inl (k : Int) : Key) = .inl ((k + 0 : Nat) : Int) from rfl)]
      congr 1
      have := List.map_congr_left (l := kvN (k + 1) r) (f := fun kv => if kv.1 = (.inl ((k + 0 : Nat) : Int) : Key) then (kv.1, v) else kv) (g := id) fun q m => by
        obtain ⟨i, h1, -⟩ := kvN_key m
        show (if q.1 = (.inl ((k + 0 : Nat) : Int) : Key) then (q.1, v) else q) = q
        rw [if_neg]
        rw [h1]
        intro z
        have := Sum.inl.inj z
        omega
      rw [this, List.map_id]
    | succ i =>
      show (if (.inl (k : Int) : Key) = .inl ((k + (i + 1) : Nat) : Int) then ((.inl (k : Int) : Key), v) else ((.inl (k : Int) : Key), t)) :: _ = ((.inl (k : Int) : Key), t) :: kvN (k + 1) (r.set i v)
      rw [if_neg (fun z => by have := Sum.inl.inj z; omega), ← ih, show k + 1 + i = k + (i + 1) from by omega]
theorem kvN_set {ts : List V} {v : V} {i : Nat} (hi : i < ts.length) : putK (kvN 0 ts) (.inl (i : Int) : Key) v = kvN 0 (ts.set i v) := by
  unfold putK
  have e := kvN_val (ts := ts) (k := 0) (i := i)
  rw [Nat.zero_add, List.getElem?_eq_getElem hi] at e
  rw [if_pos (by rw [valV_any, e]; rfl)]
  have := kvN_map (ts := ts) (v := v) (k := 0) (i := i)
  rw [Nat.zero_add] at this
  exact this
def sp_tabled16 (K : PySem.W.Frag) : Sp := fun vs H Q _ => ∃ A R S U C d nd tk a, ∃ ns : List Int, vs = [.ref R.r, .ref d, .ref a, .ref nd, .ref tk] ∧ PairO K H A R S U ∧ CellsO kp H S d C ∧ C.length ≤ 1000 ∧ (∀ c ∈ C, c.p ≤ 9999) ∧ U.ts = [] ∧ U.ws = [] ∧ H nd = some (.dK []) ∧ H tk = some (.lst []) ∧ OffP A R tk ∧ nd ≠ U.bd ∧ nd ≠ d ∧ SqL K H a (ns.map V.int) ∧
  ∀ U' H' rs, PairO K H' A R S U' → U'.hs = U.hs → U'.bd = U.bd → U'.bs = U.bs → U'.ss = U.ss → (∀ t ∈ U'.ts, flatN t = true) → U'.ts.length ≤ 12 → U'.ws.length ≤ 12 → H' nd = some (.dK (kvN 0 U'.ts)) → H' tk = some (.lst rs) → TupAll H' rs (pendOf 0 U'.ws) → (∀ b o, b ≠ R.wl → b ≠ R.d → b ≠ nd → b ≠ tk → H b = some o → H' b = some o) → Q .non H'
def gPl : V → Option V
  | .int w => (placeIn w).map V.int
  | _ => none
theorem gPl_row {ws : List Int} : (ws.map V.int).filterMap gPl = (kidsL ws).map V.int := by
  unfold kidsL
  rw [List.filterMap_map, List.map_filterMap]
  rfl
theorem places_kids {ws : List Int} (h : ∀ w ∈ ws, (wordOf w).isSome = true) : placesW ws = kidsL ws := by
  unfold placesW kidsL
  induction ws with
  | nil => rfl
  | cons w r ih =>
    rw [List.filterMap_cons, List.filterMap_cons, ih fun x m => h x (List.mem_cons_of_mem _ m)]
    have := h w List.mem_cons_self
    cases e : wordOf w with
    | none => rw [e] at this; cases this
    | some x =>
      have e2 := wd_place e
      rw [e2]
      cases x <;> rfl
def sp_reached16 (K : PySem.W.Frag) : Sp := fun vs H Q _ => ∃ S d C h, ∃ hs : List Int, vs = [.ref d, .ref h] ∧ CellsO kp H S d C ∧ H h = some (.lst (hs.map V.int)) ∧ (∀ c ∈ C, c.ws.length ≤ 8) ∧ (∀ c ∈ C, ∀ w ∈ c.ws, ClW C w) ∧ (∀ w ∈ hs, ClW C w) ∧ C.length ≤ 1000 ∧ hs.length ≤ 100 ∧
  ∀ (ss : List Int) p H', ss.Perm (reachC C (placesW hs)) → ss.Pairwise (· ≤ ·) → H p = none → Same H H' → H' p = some (.lst (ss.map V.int)) → Q (.ref p) H'
def sp_turned16 (K : PySem.W.Frag) : Sp := fun vs H Q _ => ∃ w d ps, vs = [.int w, .ref d] ∧ H d = some (.dK (kvI ps)) ∧ (wordOf w).isSome = true ∧ GoW ps w ∧ Q (.int (turnW (goF ps) w)) H
section
variable {P : Program} {w : World} {K : PySem.W.Frag} {mg : Str → Option Value} {base : Heap}
theorem f__law_turned (T : Tx K mg) : Fn P w K mg base 1 "_law_turned" ["_law_word_here", "_law_where"] (sp_turned16 K) := by
  refine T.mkFn 75 46 (d := d__law_turned) (N := ["_law_word_here", "_law_where"]) (k := 0) rfl rfl rfl rfl rfl sc__law_turned (fun _ _ _ _ _ _ us hl => match us, hl with | [_, _], _ => rfl) (fun vs H Q E h => ?len) (fun cdv A outer s H vs Q E hr h => ⟨_,
      (pss_cons (ps_if (PW.pt (pw_and (pt_cmpR op_gt (pv 0) pe_int (nomark _)) (pw_and1 (pt_cmpR (op_eqK (K := K) rfl hr.units) (pe_op op_mod (pv 0) pe_int) pe_int (nomark _))))) (pss_one (ps_ret (pe_op op_gAdd (pe_op op_gMul pe_int (pe_dget (hu_of hr) (pv 1) (pe_op op_fdiv (pv 0) pe_int) (fun _ _ => rfl))) pe_int))) pss_nil)
        (pss_one (ps_ret (pv 0)))), ?rd⟩)
  case len => first | exact len__law_turned h | (repeat (first | (obtain ⟨rfl, _⟩ := h; rfl; done) | obtain ⟨_, h⟩ := h))
  case rd =>
    obtain ⟨w, d, ps, rfl, hd, hw, g, q⟩ := h
    walk_at "w3"
    obtain ⟨x, ex⟩ := Option.isSome_iff_exists.mp hw
    by_cases c : 0 < w ∧ w % 2 = 1
    · rw [if_pos c.1, if_pos c.2]
      have e2 : placeIn w = some (w / 2) := if_pos c
      have e3 := (kids_place ex).mp e2
      obtain ⟨q', eq, h0, h1⟩ := g _ e3
      have dg := dget_i (i := w / 2) hd
      rw [goG_val, eq] at dg
      refine ⟨_, dg, ?_⟩
      walk_at "w3"
      rw [turnW_place e3, show goF ps (w / 2) = q' from by unfold goF; rw [eq]; rfl] at q
      exact q
    · have e2 : placeIn w = none := if_neg c
      have e4 : turnW (goF ps) w = w := by unfold turnW; rw [e2]
      rw [e4] at q
      by_cases c1 : 0 < w
      · rw [if_pos c1, if_neg (fun z => c ⟨c1, z⟩)]
        exact q
      · rw [if_neg c1]
        exact q
theorem f__law_reached (T : Tx K mg) : Fn P w K mg base 1 "_law_reached" ["_law_cells", "_law_hands"] (sp_reached16 K) := by
  refine T.mkFn 74 45 (d := d__law_reached) (N := ["_law_cells", "_law_hands", "_law_found", "_law_row", "_law_word_here", "_law_at"]) (k := 0) rfl rfl rfl rfl rfl sc__law_reached (fun _ _ _ _ _ _ us hl => match us, hl with | [_, _], _ => rfl) (fun vs H Q E h => ?len) (fun cdv A outer s H vs Q E hr h => ⟨_,
      (pss_cons (ps_set (i := 2) sc__law_reached.nd rfl (Or.inl rfl) (pe_lst pa_nil))
        (pss_cons (ps_setLc (i := 3) (own := [("_law_word_here", 4)]) (g := gName 4) rfl sc__law_reached.nd rfl rfl (sw_true rfl rfl rfl (by decide +kernel)) (pi_listK (K := K) rfl (pv 1)) (blkOk_by (own := [("_law_word_here", 4)]) (N := ["_law_cells", "_law_hands", "_law_found", "_law_row", "_law_word_here", "_law_at"]) (sc := defScope s__law_reached) (by decide +kernel)) (fun _ _ _ _ _ => (pg_name (i := 4) sc__law_reached.nd rfl (Or.inl rfl))) (fun _ _ _ _ _ => pts_one (PW.pt (pw_and (pt_cmpR op_gt (pv 4) pe_int (nomark _)) (pw_and1 (pt_cmpR (op_eqK (K := K) rfl hr.units) (pe_op op_mod (pv 4) pe_int) pe_int (nomark _)))))) (fun _ _ _ _ _ => (pe_op op_fdiv (pv 4) pe_int)))
        (pss_cons (ps_while (passes_of rfl) (pt_cmpR (op_neK (K := K) rfl hr.units) (pv 3) (pe_lst pa_nil) (nomark _)) (pss_cons (ps_set (i := 5) sc__law_reached.nd rfl (Or.inl rfl) (pe_bm0 PySem.F.plainAttrs_list PySem.F.slot_list_pop PySem.F.type_list_pop mt_pop (pv 3)))
        (pss_one (ps_if (pt_cmpR (op_ninK (K := K) rfl) (pv 5) (pv 2) (by rfl)) (pss_cons (ps_expr (pe_bm PySem.F.plainAttrs_list PySem.F.slot_list_append PySem.F.type_list_append mt_append (pv 2) (pa_cons (pv 5) pa_nil)))
        (pss_one (ps_set (i := 3) sc__law_reached.nd rfl (Or.inl rfl) (pe_op op_gAdd (pv 3) (pe_lc (own := [("_law_word_here", 4)]) (g := gName 4) rfl sc__law_reached.nd (pi_listK (K := K) rfl (pe_dget (hu_of hr) (pv 0) (pv 5) (fun _ _ => rfl))) (blkOk_by (own := [("_law_word_here", 4)]) (N := ["_law_cells", "_law_hands", "_law_found", "_law_row", "_law_word_here", "_law_at"]) (sc := defScope s__law_reached) (by decide +kernel)) (fun _ _ _ _ _ => (pg_name (i := 4) sc__law_reached.nd rfl (Or.inl rfl))) (fun _ _ _ _ _ => pts_one (PW.pt (pw_and (pt_cmpR op_gt (pv 4) pe_int (nomark _)) (pw_and1 (pt_cmpR (op_eqK (K := K) rfl hr.units) (pe_op op_mod (pv 4) pe_int) pe_int (nomark _)))))) (fun _ _ _ _ _ => (pe_op op_fdiv (pv 4) pe_int))))))) pss_nil))))
        (pss_one (ps_ret (pe_callB (call_sortedK (K := K) rfl) (by rfl) (T.free 67) (by decide +kernel) (pa_cons (pv 2) pa_nil))))))), ?rd⟩)
  case len => first | exact len__law_reached h | (repeat (first | (obtain ⟨rfl, _⟩ := h; rfl; done) | obtain ⟨_, h⟩ := h))
  case rd =>
    obtain ⟨S, d, C, h, hs, rfl, ce, hh, h8, hw, hm, hl, hl2, q⟩ := h
    have sz : 20000 ≤ sizeLine := by rw [sizeLine_eq]; omega
    have cp := ce.cp
    walk_at "w3"
    rw [places_kids fun w m => (hm w m).1] at q
    refine ⟨by omega, fun p np => ?_⟩
    have sp := same_new (o := .lst []) np
    have hp0 : upd H p (.lst []) p = some (.lst []) := upd_same
    have hh1 := sp _ _ hh
    generalize upd H p (.lst []) = H0 at sp hp0 hh1 ⊢
    have kidI : ∀ {σ : L2.St} {Hx : Hp} {D a : Addr} {xs : List Int} {k : Nat} {vs : List Nat} {Qd : Hp → Prop}, Hx a = some (.lst (xs.map V.int)) → Hx D = none → True := fun _ _ => trivial
    have ksC : ∀ x ∈ kidsL hs, x ∈ plcC C := fun x mx => by
      obtain ⟨w, mw, e⟩ := List.mem_filterMap.mp mx
      obtain ⟨y, ey⟩ := Option.isSome_iff_exists.mp (hm w mw).1
      obtain ⟨c, mc, e⟩ := (hm w mw).2 _ ((kids_place ey).mp e)
      exact List.mem_map.mpr ⟨c, mc, e.symm⟩
    have kkC : ∀ c ∈ C, ∀ x ∈ kidsL c.ws, x ∈ plcC C := fun c mc x mx => by
      obtain ⟨w, mw, e⟩ := List.mem_filterMap.mp mx
      obtain ⟨y, ey⟩ := Option.isSome_iff_exists.mp (hw c mc w mw).1
      obtain ⟨b, mb, e⟩ := (hw c mc w mw).2 _ ((kids_place ey).mp e)
      exact List.mem_map.mpr ⟨b, mb, e.symm⟩
    have kl : ∀ ws : List Int, (kidsL ws).length ≤ ws.length := fun ws => List.length_filterMap_le ..
    have RC := reachC_is cp hw (ks := kidsL hs) ksC
    refine ⟨⟨_, .of hh1⟩, fun r nr => ?_⟩
    have gP : ∀ (ws : List Int) (i : Nat) (x : V), (ws.map V.int)[i]? = some x → ∃ w, x = .int w := fun ws i x e => by
      obtain ⟨w, -, e⟩ := List.mem_map.mp (List.mem_of_getElem? e)
      exact ⟨w, e.symm⟩
    have tst : ∀ (x : Int) (N : Bool → Hp → Prop) (Hx : Hp), ((gPl (.int x)).isSome = true → N true Hx) → ((gPl (.int x)).isSome = false → N false Hx) → (if 0 < x then N (decide (x % 2 = 1)) Hx else N false Hx) := fun x N Hx n1 n2 => by
      have e0 : gPl (.int x) = (placeIn x).map V.int := rfl
      rw [e0] at n1 n2
      by_cases c : 0 < x ∧ x % 2 = 1
      · rw [if_pos c.1, decide_eq_true c.2]
        exact n1 (by rw [show placeIn x = some (x / 2) from if_pos c]; rfl)
      · have z := n2 (by rw [show placeIn x = none from if_neg c]; rfl)
        by_cases c1 : 0 < x
        · rw [if_pos c1, decide_eq_false fun z => c ⟨c1, z⟩]
          exact z
        · rw [if_neg c1]
          exact z
    have val : ∀ (x : Int) (y : V), gPl (.int x) = some y → y = .int (x / 2) := fun x y e => by
      have e : (placeIn x).map V.int = some y := e
      unfold placeIn at e
      split at e
      · cases e
        rfl
      · cases e
    refine lc_iffL (xs := hs.map V.int) (g := gPl) (fun _ => rfl) (fun acc => .of ((upd_ne (ne_of_none hh1 nr)).trans hh1)) (by rw [List.length_map]; omega) (fun i x hx acc N n1 n2 => ?_) (fun i x y hx hy acc Q2 q2 => ?_) ?_
    · obtain ⟨x, rfl⟩ := gP _ _ _ hx
      walk_at "w3"
      exact tst x N _ n1 n2
    · obtain ⟨x, rfl⟩ := gP _ _ _ hx
      walk_at "w3"
      rw [val x y hy] at q2
      exact q2
    rw [gPl_row]
    have sr := same_new (o := .lst ((kidsL hs).map V.int)) nr
    have pr : p ≠ r := ne_of_none hp0 nr
    have hp1 := sr _ _ hp0
    have hr1 : upd H0 r (.lst ((kidsL hs).map V.int)) r = some (.lst ((kidsL hs).map V.int)) := upd_same
    have s0 := sp.trans sr
    generalize upd H0 r (.lst ((kidsL hs).map V.int)) = H1 at hp1 hr1 s0 ⊢
    walk_at "w3"
    refine whW (fun k σ H' => ∃ fd row r o4 o5, σ = [some (.ref d), some (.ref h), some (.ref p), some (.ref r), o4, o5] ∧ k = 9 * (C.length - fd.length) + row.length ∧ H' p = some (.lst (fd.map V.int)) ∧ H' r = some (.lst (row.map V.int)) ∧ p ≠ r ∧ fd.Nodup ∧ (∀ x ∈ fd, x ∈ plcC C) ∧ (∀ x ∈ row, x ∈ plcC C) ∧ row.length ≤ 100 + 8 * fd.length ∧ (∀ x ∈ kidsL hs, x ∈ fd ∨ x ∈ row) ∧ (∀ c ∈ C, (c.p : Int) ∈ fd → ∀ y ∈ kidsL c.ws, y ∈ fd ∨ y ∈ row) ∧ (∀ P : Int → Prop, (∀ x ∈ kidsL hs, P x) → (∀ c ∈ C, P c.p → ∀ y ∈ kidsL c.ws, P y) → ∀ x, x ∈ fd ∨ x ∈ row → P x) ∧ Same H H' ∧ H r = none) ⟨_, [], kidsL hs, r, _, _, rfl, rfl, hp1, hr1, pr, List.nodup_nil, (fun x m => (List.not_mem_nil m).elim), ksC, by have := kl hs; show _ ≤ 100 + 8 * 0; omega, fun x m => .inr m, (fun c _ m => (List.not_mem_nil m).elim), fun P h1 h2 x m => m.elim (fun z => (List.not_mem_nil z).elim) (h1 x), s0, none_of sp nr⟩ ?_
    rintro k σ H' ⟨fd, row, r, o4, o5, rfl, rfl, hp, hr, pr, nd, hf, hrow, lrow, i1, i2, i3, s, rH⟩
    have lf : fd.length ≤ C.length := by
      have := nd_len nd hf
      rwa [plc_len] at this
    walk_at "w3"
    refine ⟨by omega, fun e ne => ?_⟩
    have se := same_new (o := .lst []) ne
    refine r_neNil (se _ _ hr) upd_same ?_
    have hp2 := se _ _ hp
    have hr2 := se _ _ hr
    have s2 := s.trans se
    generalize upd H' e (.lst []) = H2 at hp2 hr2 s2 ⊢
    by_cases r0 : row = []
    · subst r0
      walk_at "w3"
      refine ⟨p, _, rfl, .of hp2, fun ss r5 pm so nr5 => ?_⟩
      have s5 := same_new (o := .lst (ss.map V.int)) nr5
      refine q ss r5 _ (pm.trans ((List.perm_ext_iff_of_nodup nd RC.nd).mpr fun x => ⟨fun m => ?_, fun m => ?_⟩)) so (none_of s2 nr5) (s2.trans s5) upd_same
      · exact i3 (fun x => x ∈ reachC C (kidsL hs)) RC.st RC.kd x (.inl m)
      · exact RC.mn (fun x => x ∈ fd) (fun x mx => (i1 x mx).elim id fun z => (List.not_mem_nil z).elim) (fun c mc m y my => (i2 c mc m y my).elim id fun z => (List.not_mem_nil z).elim) x m
    · rw [decide_eq_false r0]
      walk_at "w3"
      refine whB ?_
      walk_at "w3"
      have lr0 : 0 < row.length := List.length_pos_iff.mpr r0
      obtain ⟨x, ex⟩ : ∃ x, row[row.length - 1]? = some x := ⟨_, List.getElem?_eq_getElem (by omega)⟩
      have esp : row = row.dropLast ++ [x] := by
        have h1 := List.dropLast_concat_getLast r0
        rw [List.getLast_eq_getElem] at h1
        rw [List.getElem?_eq_getElem (by omega)] at ex
        rw [← Option.some.inj ex]
        exact h1.symm
      have ldl : row.dropLast.length + 1 = row.length := by rw [List.length_dropLast]; omega
      refine ⟨.inl ⟨rfl, _, .of hr2⟩, r, _, _, rfl, rfl, hr2, by rw [List.length_map, List.getElem?_map, ex]; rfl, ?_⟩
      rw [← List.map_dropLast]
      obtain ⟨row', er'⟩ : ∃ row', row' = row.dropLast := ⟨_, rfl⟩
      rw [← er'] at esp ldl ⊢
      have hr3 : upd H2 r (.lst (row'.map V.int)) r = some (.lst (row'.map V.int)) := upd_same
      have hp3 := (upd_ne (o := .lst (row'.map V.int)) pr).trans hp2
      have s3 : Same H (upd H2 r (.lst (row'.map V.int))) := fun b o g => (upd_ne (ne_of_none g rH)).trans (s2 _ _ g)
      generalize upd H2 r (.lst (row'.map V.int)) = H3 at hr3 hp3 s3 ⊢
      have mx : x ∈ plcC C := hrow x (List.mem_of_getElem? ex)
      have mrow : ∀ y, y ∈ row ↔ y ∈ row' ∨ y = x := fun y => by rw [esp, List.mem_append, List.mem_singleton]
      walk_at "w3"
      refine ⟨p, _, rfl, .inl (.of hp3), rfl, all_flat, ?_⟩
      rw [in_ints, if_pos rfl]
      by_cases cf : x ∈ fd
      · rw [decide_eq_true cf]
        walk_at "w3"
        have tr : ∀ {y}, y ∈ fd ∨ y ∈ row → y ∈ fd ∨ y ∈ row' := fun {y} h => h.elim .inl fun z => ((mrow y).mp z).elim .inr fun e => .inl (e ▸ cf)
        exact ⟨_, by omega, fd, row', r, _, _, rfl, rfl, hp3, hr3, pr, nd, hf, fun y m => hrow y ((mrow y).mpr (.inl m)), by omega, fun y m => tr (i1 y m), fun c mc m y my => tr (i2 c mc m y my), fun P h1 h2 y m => i3 P h1 h2 y (m.elim .inl fun z => .inr ((mrow y).mpr (.inl z))), s3, rH⟩
      · rw [decide_eq_false cf]
        walk_at "w3"
        refine r_app hp3 (by rw [List.length_map]; omega) ?_
        have pH : H p = none := np
        have nd' : (fd ++ [x]).Nodup := List.nodup_append.mpr ⟨nd, List.nodup_cons.mpr ⟨List.not_mem_nil, List.nodup_nil⟩, fun a ha b hb e => cf (by rw [List.mem_singleton.mp hb] at e; exact e ▸ ha)⟩
        have hf' : ∀ y ∈ fd ++ [x], y ∈ plcC C := fun y m => (List.mem_append.mp m).elim (hf y) fun z => by rw [List.mem_singleton.mp z]; exact mx
        have lf' := nd_len nd' hf'
        rw [plc_len, List.length_append] at lf'
        have lf' : fd.length + 1 ≤ C.length := lf'
        have hp4 : upd H3 p (.lst (fd.map V.int ++ [.int x])) p = some (.lst ((fd ++ [x]).map V.int)) := by rw [upd_same, List.map_append]; rfl
        have hr4 := (upd_ne (o := .lst (fd.map V.int ++ [.int x])) pr.symm).trans hr3
        have s4 : Same H (upd H3 p (.lst (fd.map V.int ++ [.int x]))) := fun b o g => (upd_ne (ne_of_none g pH)).trans (s3 _ _ g)
        generalize upd H3 p (.lst (fd.map V.int ++ [.int x])) = H4 at hp4 hr4 s4 ⊢
        obtain ⟨c, mc, ec⟩ := List.mem_map.mp mx
        have ec : (c.p : Int) = x := ec
        subst ec
        have ce4 := ce.same s4
        have kv := kvs_some (f := kp) (ce.keys fun a b (e : (a : Int) = b) => by omega) mc
        have dg := dget_i (i := (c.p : Int)) ce4.dd
        rw [show kp c.p = (c.p : Int) from rfl] at kv
        rw [kv] at dg
        walk_at "w3"
        have hcr := ce4.rw_ c mc
        refine ⟨_, dg, ?_⟩
        walk_at "w3"
        refine ⟨⟨_, .of hcr⟩, fun D nD => ?_⟩
        refine lc_iffL (xs := c.ws.map V.int) (g := gPl) (fun _ => rfl) (fun acc => .of ((upd_ne (ne_of_none hcr nD)).trans hcr)) (by rw [List.length_map]; have := h8 c mc; omega) (fun i x hx acc N n1 n2 => ?_) (fun i x y hx hy acc Q2 q2 => ?_) ?_
        · obtain ⟨x, rfl⟩ := gP _ _ _ hx
          walk_at "w3"
          exact tst x N _ n1 n2
        · obtain ⟨x, rfl⟩ := gP _ _ _ hx
          walk_at "w3"
          rw [val x y hy] at q2
          exact q2
        rw [gPl_row]
        have s5 := same_new (o := .lst ((kidsL c.ws).map V.int)) nD
        have k8 := h8 c mc
        have kk := kl c.ws
        refine ⟨_, _, s5 _ _ hr4, upd_same, by rw [List.length_map, List.length_map]; omega, fun r6 nr6 => ?_⟩
        have s6 := same_new (o := .lst (row'.map V.int ++ (kidsL c.ws).map V.int)) nr6
        have s46 := s4.trans (s5.trans s6)
        have hp6 := (s5.trans s6) _ _ hp4
        have tr : ∀ {y}, y ∈ fd ∨ y ∈ row → y ∈ fd ++ [(c.p : Int)] ∨ y ∈ row' ++ kidsL c.ws := fun {y} h => h.elim (fun z => .inl (List.mem_append_left _ z)) fun z => ((mrow y).mp z).elim (fun z => .inr (List.mem_append_left _ z)) fun e => .inl (List.mem_append_right _ (List.mem_singleton.mpr e))
        refine ⟨9 * (C.length - (fd.length + 1)) + (row'.length + (kidsL c.ws).length), by omega, fd ++ [(c.p : Int)], row' ++ kidsL c.ws, r6, _, _, rfl, by rw [List.length_append, List.length_append]; rfl, hp6, by rw [upd_same, List.map_append], ne_of_none (s5 _ _ hp4) nr6, nd', hf', fun y m => (List.mem_append.mp m).elim (fun z => hrow y ((mrow y).mpr (.inl z))) (kkC c mc y), by rw [List.length_append, List.length_append]; show _ ≤ 100 + 8 * (fd.length + 1); omega, fun y m => tr (i1 y m), fun b mb m y my => ?_, fun P h1 h2 y m => ?_, s46, none_of (s4.trans s5) nr6⟩
        · rcases List.mem_append.mp m with m | m
          · exact tr (i2 b mb m y my)
          · have e := List.mem_singleton.mp m
            have := cp.same_p mb mc (by omega)
            subst this
            exact .inr (List.mem_append_right _ my)
        · have px : P c.p := i3 P h1 h2 _ (.inr ((mrow _).mpr (.inr rfl)))
          rcases m with m | m
          · rcases List.mem_append.mp m with m | m
            · exact i3 P h1 h2 y (.inl m)
            · rw [List.mem_singleton.mp m]
              exact px
          · rcases List.mem_append.mp m with m | m
            · exact i3 P h1 h2 y (.inr ((mrow y).mpr (.inl m)))
            · exact h2 c mc px y m
theorem f__law_tabled (T : Tx K mg) : Fn P w K mg base 5 "_law_tabled" ["_law_roots", "_law_cells", "_law_script", "_law_names", "_law_tickets"] (sp_tabled16 K) := by
  have c_Weak_name := f_Weak_name (P := P) (w := w) (base := base) T
  have c_Lasts_give := f_Lasts_give (P := P) (w := w) (base := base) T
  have c_Weak_gone := f_Weak_gone (P := P) (w := w) (base := base) T
  refine T.mkFn 73 44 (d := d__law_tabled) (N := ["_law_roots", "_law_cells", "_law_script", "_law_names", "_law_tickets", "_law_some", "_law_cell", "_law_at"]) (k := 4) rfl rfl rfl rfl rfl sc__law_tabled (fun _ _ _ _ _ _ us hl => match us, hl with | [_, _, _, _, _], _ => rfl) (fun vs H Q E h => ?len) (fun cdv A outer s H vs Q E hr h => ⟨_,
      (pss_cons (ps_set (i := 5) sc__law_tabled.nd rfl (Or.inl rfl) (pe_callTy (call_listD rfl) (by rfl) (T.free 71) (by decide +kernel) (pa_cons (pv 1) pa_nil)))
        (pss_cons (ps_for (passes_of rfl) rfl (pi_listK (K := K) rfl (pe_slice (sl_listK (K := K) rfl) (pv 2) (po_some pe_int) (po_some pe_int))) (pg_name (i := 6) sc__law_tabled.nd rfl (Or.inl rfl)) (pss_cons (ps_if (pt_cmpR (op_eqK (K := K) rfl hr.units) (pv 5) (pe_lst pa_nil) (nomark _)) (pss_one ps_retN) pss_nil)
        (pss_cons (ps_set (i := 7) sc__law_tabled.nd rfl (Or.inl rfl) (pe_ix (ix_seqK (K := K) rfl) (pv 5) (pe_op op_mod (pe_op op_fdiv (pv 6) pe_int) (pe_callB (call_lenK (K := K) rfl) (by rfl) (T.free 64) PySem.boot_len (pa_cons (pv 5) pa_nil))) (fun _ _ => rfl)))
        (pss_one (ps_if (pt_cmpR (op_eqK (K := K) rfl hr.units) (pe_op op_mod (pv 6) pe_int) pe_int (nomark _)) (pss_one (ps_dput (hu_of hr) (pv 3) (pe_mt (K := K) rfl (takes_of rfl rfl rfl rfl) (pe_fldC (T.cls 149) (T.noat 154) (pv 0)) c_Weak_name (hr.mono (by decide)) (pa_cons (pv 7) pa_nil)) (pv 7) rfl)) (pss_one (ps_expr (pe_bm PySem.F.plainAttrs_list PySem.F.slot_list_append PySem.F.type_list_append mt_append (pv 4) (pa_cons (pe_tup (pa_cons (pe_mt (K := K) rfl (takes_of rfl rfl rfl rfl) (pe_fldC (T.cls 149) (T.noat 155) (pv 0)) c_Lasts_give (hr.mono (by decide)) (pa_cons (pv 7) (pa_cons (pe_op op_sub (pe_op op_mod (pe_op op_fdiv (pv 6) pe_int) pe_int) pe_int) pa_nil))) (pa_cons (pv 7) (pa_cons (pe_op op_sub (pe_op op_mod (pe_op op_fdiv (pv 6) pe_int) pe_int) pe_int) pa_nil)))) pa_nil)))))))))
        (pss_one (ps_if (pt_cmpR op_gt (pe_callB call_lenDD (by rfl) (T.free 64) PySem.boot_len (pa_cons (pv 3) pa_nil)) pe_int (nomark _)) (pss_cons (ps_expr (pe_mt (K := K) rfl (takes_of rfl rfl rfl rfl) (pe_fldC (T.cls 149) (T.noat 154) (pv 0)) c_Weak_gone (hr.mono (by decide)) (pa_cons pe_int pa_nil)))
        (pss_one (ps_dput (hu_of hr) (pv 3) pe_int pe_non rfl))) pss_nil)))), ?rd⟩)
  case len => first | exact len__law_tabled h | (repeat (first | (obtain ⟨rfl, _⟩ := h; rfl; done) | obtain ⟨_, h⟩ := h))
  case rd =>
    obtain ⟨A, R, S, U, C, d, nd, tk, a, ns, rfl, I, ce, cl, c9, ts0, ws0, hn, ht, ot, nb, ndd, hS, q⟩ := h
    have sz : 20000 ≤ sizeLine := by rw [sizeLine_eq]; omega
    walk_at "w3"
    refine ⟨d, _, rfl, .inl ce.dd, fun p np => ?_⟩
    rw [kvs_keys]
    have sp := same_new (o := .lst ((plcC C).map V.int)) np
    have hp : upd H p (.lst ((plcC C).map V.int)) p = some (.lst ((plcC C).map V.int)) := upd_same
    have po := I.offl np
    have I0 := I.same sp
    have hn0 := sp _ _ hn
    have ht0 := sp _ _ ht
    have pn : p ≠ nd ∧ p ≠ tk := ⟨(ne_of_none hn np).symm, (ne_of_none ht np).symm⟩
    have hS0 := sp.seq hS
    generalize upd H p (.lst ((plcC C).map V.int)) = H0 at sp hp I0 hn0 ht0 hS0 ⊢
    refine ⟨a, _, rfl, hS0, fun q1 nq1 => ?_⟩
    obtain ⟨cs, ec⟩ := cut_ints ns (some 8) (some 20)
    have cl2 := cut_len (xs := ns.map V.int) (a := 8) (b := 20) (by decide) (by decide)
    rw [ec] at cl2 ⊢
    rw [List.length_map] at cl2
    have s1 := same_new (o := .lst (cs.map V.int)) nq1
    have hq1 : upd H0 q1 (.lst (cs.map V.int)) q1 = some (.lst (cs.map V.int)) := upd_same
    have qo := I0.offl nq1
    have I1 := I0.same s1
    have hn1 := s1 _ _ hn0
    have ht1 := s1 _ _ ht0
    have hp1 := s1 _ _ hp
    have qn : q1 ≠ nd ∧ q1 ≠ tk := ⟨(ne_of_none hn0 nq1).symm, (ne_of_none ht0 nq1).symm⟩
    have s01 := sp.trans s1
    have ntk : nd ≠ tk := ne_of hn ht (by intro z; cases z)
    generalize upd H0 q1 (.lst (cs.map V.int)) = H1 at s1 hq1 I1 hn1 ht1 hp1 s01 ⊢
    have ndl : ∀ {xs c}, H c = some (.lst xs) → nd ≠ c := fun g => ne_of hn g (by intro z; cases z)
    have nwl : nd ≠ R.wl ∧ nd ≠ R.d ∧ nd ≠ R.e := ⟨ndl I.ro.wo.ls, ndl I.ro.lo.wa, ndl I.ro.lo.sk⟩
    walk_at "w3"
    refine ⟨⟨_, .of hq1⟩, forW_list (xs := cs.map V.int) (fun i σ H' => ∃ U' rs o6 o7, σ = [some (.ref R.r), some (.ref d), some (.ref a), some (.ref nd), some (.ref tk), some (.ref p), o6, o7] ∧ PairO K H' A R S U' ∧ U'.hs = U.hs ∧ U'.bd = U.bd ∧ U'.bs = U.bs ∧ U'.ss = U.ss ∧ (∀ t ∈ U'.ts, ∃ n : Int, t = .int n) ∧ U'.ts.length + U'.ws.length ≤ i ∧ H' nd = some (.dK (kvN 0 U'.ts)) ∧ H' tk = some (.lst rs) ∧ TupAll H' rs (pendOf 0 U'.ws) ∧ ∀ b o, b ≠ R.wl → b ≠ R.d → b ≠ nd → b ≠ tk → H1 b = some o → H' b = some o) ⟨U, [], _, _, rfl, I1, rfl, rfl, rfl, rfl, (by rw [ts0]; exact fun t m => (List.not_mem_nil m).elim), by rw [ts0, ws0]; exact Nat.le_refl _, by rw [ts0]; exact hn1, ht1, by rw [ws0]; exact .nil, fun b o _ _ _ _ g => g⟩ ?_ ?_ ?_⟩
    · rintro i σ H' _ ⟨U', rs, o6, o7, rfl, I', e1, e2, e3, e4, e5, e6, e7, e8, e9, k'⟩
      exact .of (k' _ _ qo.1.2.2.1 qo.1.2.2.2.1 qn.1 qn.2 hq1)
    · rintro i x σ H' hx ⟨U', rs, o6, o7, rfl, I', e1, e2, e3, e4, e5, e6, e7, e8, e9, k'⟩
      obtain ⟨y, hy, rfl⟩ := ints_at hx
      have i12 : i < 12 := by
        have := (List.getElem?_eq_some_iff.mp hy).1
        omega
      have hp' := k' _ _ po.1.2.2.1 po.1.2.2.2.1 pn.1 pn.2 hp1
      have flt : ∀ t ∈ U'.ts, flatN t = true := fun t m => by
        obtain ⟨n, rfl⟩ := e5 t m
        rfl
      walk_at "w3"
      refine ⟨by omega, fun e0 ne0 => ?_⟩
      have se := same_new (o := .lst []) ne0
      refine r_eqNil (se _ _ hp') upd_same ?_
      have J := I'.same se
      have hn2 := se _ _ e7
      have ht2 := se _ _ e8
      have ta2 := e9.same se
      have k2 : ∀ b o, b ≠ R.wl → b ≠ R.d → b ≠ nd → b ≠ tk → H1 b = some o → upd H' e0 (.lst []) b = some o := fun b o n1 n2 n3 n4 g => se _ _ (k' b o n1 n2 n3 n4 g)
      have hp2 := se _ _ hp'
      generalize upd H' e0 (.lst []) = H2 at J hn2 ht2 ta2 k2 hp2 ⊢
      by_cases c0 : plcC C = []
      · rw [decide_eq_true c0]
        walk_at "w3"
        exact q U' H2 rs J e1 e2 e3 e4 flt (by omega) (by omega) hn2 ht2 ta2 fun b o n1 n2 n3 n4 g => k2 b o n1 n2 n3 n4 (s01 _ _ g)
      rw [decide_eq_false c0]
      walk_at "w3"
      have lp : 0 < (plcC C).length := List.length_pos_iff.mpr c0
      refine r_lenL hp2 ?_
      walk_at "w3"
      rw [List.length_map]
      have m0 := Int.emod_nonneg (y / 3) (show ((plcC C).length : Int) ≠ 0 by omega)
      have m1 := Int.emod_lt_of_pos (y / 3) (show (0 : Int) < (plcC C).length by omega)
      obtain ⟨o, eo⟩ := Int.eq_ofNat_of_zero_le m0
      rw [eo]
      have ho : o < (plcC C).length := by omega
      refine ⟨by omega, r_ixL hp2 (by rw [List.getElem?_map, getD_at (d := 0) ho]; rfl) ?_⟩
      obtain ⟨c, mc, ecp⟩ := List.mem_map.mp (List.mem_of_getElem? (getD_at (d := 0) ho))
      have ecp : (c.p : Int) = (plcC C).getD o 0 := ecp
      rw [← ecp]
      have px : placeW (.int (c.p : Int)) = some (c.p : Int) := by rw [placeW_int, if_pos ⟨by omega, by have := c9 c mc; omega⟩]
      walk_at "w3"
      split
      · refine ⟨_, fldIs J.ro.ob, recv J.ro.wo.ob, R.w, R.wx, R.wl, U'.ts, _, rfl, J.ro.wo, by omega, .inl ⟨_, rfl⟩, ?_⟩
        rw [px]
        dsimp only
        have J3 := J.wkput (us := U'.ts ++ [.int (c.p : Int)])
        have hn3 := (upd_ne (o := .lst (U'.ts ++ [.int (c.p : Int)])) nwl.1).trans hn2
        have ht3 := (upd_ne (o := .lst (U'.ts ++ [.int (c.p : Int)])) ot.2.2.1).trans ht2
        have ta3 := ta2.put (o' := .lst (U'.ts ++ [.int (c.p : Int)])) J.ro.wo.ls (fun xs z => by cases z)
        have k3 : ∀ b o, b ≠ R.wl → b ≠ R.d → b ≠ nd → b ≠ tk → H1 b = some o → upd H2 R.wl (.lst (U'.ts ++ [.int (c.p : Int)])) b = some o := fun b o n1 n2 n3 n4 g => (upd_ne n1).trans (k2 b o n1 n2 n3 n4 g)
        generalize upd H2 R.wl (.lst (U'.ts ++ [.int (c.p : Int)])) = H3 at J3 hn3 ht3 ta3 k3 ⊢
        have dp := dput_i (i := (U'.ts.length : Int)) (v := .int (c.p : Int)) hn3 (by rw [kvN_len]; omega)
        rw [kvN_new] at dp
        refine ⟨_, dp, ?_⟩
        refine ⟨{ U' with ts := U'.ts ++ [.int (c.p : Int)] }, rs, _, _, rfl, J3.offD hn3 (by rw [show ({ U' with ts := U'.ts ++ [.int (c.p : Int)] } : RoS).bd = U.bd from e2]; exact nb), e1, e2, e3, e4, fun t m => ?_, by show (U'.ts ++ [V.int (c.p : Int)]).length + U'.ws.length ≤ i + 1; rw [List.length_append]; show U'.ts.length + 1 + U'.ws.length ≤ i + 1; omega, upd_same, (upd_ne ntk.symm).trans ht3, ta3.put hn3 (fun xs z => by cases z), fun b o n1 n2 n3 n4 g => (upd_ne n3).trans (k3 b o n1 n2 n3 n4 g)⟩
        rcases List.mem_append.mp m with m | m
        · exact e5 t m
        · exact ⟨_, List.mem_singleton.mp m⟩
      · refine ⟨.inl ⟨rfl, _, .of ht2⟩, _, fldIs J.ro.ob, recv J.ro.lo.ob, R.la, R.lax, R.d, R.e, _, U'.ws, U'.ss, _, _, rfl, J.ro.lo, by omega, .inl ⟨_, rfl⟩, .inl ⟨_, rfl⟩, ?_⟩
        have nx : numW (.int (y / 30 % 2001 - 1000)) = some (y / 30 % 2001 - 1000) := by
          show (if _ then _ else _) = _
          rw [if_pos (by omega)]
        rw [px, nx]
        intro H3 rs3 L3 k3'
        have J3 := J.lsput L3 fun c o n1 _ g => k3' c o n1 g
        have hn3 := k3' _ _ nwl.2.1 hn2
        have ht3 := k3' _ _ ot.2.2.2.1 ht2
        have ta3 : TupAll H3 rs (pendOf 0 U'.ws) := by
          have : ∀ {l : List V} {yss}, TupAll H2 l yss → TupAll H3 l yss := fun h => by
            induction h with
            | nil => exact .nil
            | cons h f t ih => exact .cons (k3' _ _ (ne_of h J.ro.lo.wa (by intro z; cases z)) h) f ih
          exact this ta2
        refine ⟨by omega, fun tp ntp => ?_⟩
        have s4 := same_new (o := .tup [.int (U'.ws.length : Int), .int (c.p : Int), .int (y / 30 % 2001 - 1000)]) ntp
        have ht4 := s4 _ _ ht3
        refine ⟨tk, _, _, rfl, rfl, ht4, by have h := ta3.len; have := pendOf_len (ws := U'.ws) 0; omega, ?_⟩
        have J5 := (J3.same s4).off (o := .lst (rs ++ [.ref tp])) ht4 ot
        have ta5 := ((ta3.same s4).snoc (tp := tp) (xs := [.int (U'.ws.length : Int), .int (c.p : Int), .int (y / 30 % 2001 - 1000)]) upd_same (by
          intro x m
          rcases List.mem_cons.mp m with rfl | m
          · rfl
          rcases List.mem_cons.mp m with rfl | m
          · rfl
          · rw [List.mem_singleton.mp m]; rfl)).put (o' := .lst (rs ++ [.ref tp])) ht4 (fun xs z => by cases z)
        have ep := pendOf_snoc (ws := U'.ws) (w := some ((c.p : Int), y / 30 % 2001 - 1000)) 0
        rw [Nat.zero_add] at ep
        refine ⟨_, rs ++ [.ref tp], _, _, rfl, J5, e1, e2, e3, e4, e5, by show U'.ts.length + (U'.ws ++ [_]).length ≤ _; rw [List.length_append]; show U'.ts.length + (U'.ws.length + 1) ≤ i + 1; omega, (upd_ne ntk).trans (s4 _ _ hn3), upd_same, by show TupAll _ _ (pendOf 0 (U'.ws ++ [some _])); rw [ep]; exact ta5, fun b o n1 n2 n3 n4 g => (upd_ne n4).trans (s4 _ _ (k3' _ _ n2 (k2 b o n1 n2 n3 n4 g)))⟩
    · rintro σ H' ⟨U', rs, o6, o7, rfl, I', e1, e2, e3, e4, e5, e6, e7, e8, e9, k'⟩
      have flt : ∀ t ∈ U'.ts, flatN t = true := fun t m => by
        obtain ⟨n, rfl⟩ := e5 t m
        rfl
      rw [List.length_map] at e6
      walk_at "w3"
      refine r_lenDD e7 ?_
      rw [kvN_len]
      walk_at "w3"
      by_cases c2 : (2 : Int) < (U'.ts.length : Int)
      · rw [if_pos c2]
        have h1 : U'.ts[1]? = some (U'.ts.getD 1 V.non) := getD_at (d := V.non) (by omega)
        obtain ⟨n1, en1⟩ := e5 _ (List.mem_of_getElem? h1)
        refine ⟨_, fldIs I'.ro.ob, recv I'.ro.wo.ob, R.w, R.wx, R.wl, U'.ts, _, rfl, I'.ro.wo, .inl ⟨_, rfl⟩, ?_⟩
        rw [placeOf_int, if_pos ⟨by omega, by omega⟩, show (1 : Int).toNat = 1 from rfl]
        dsimp only
        rw [en1, if_neg (by intro z; cases z)]
        have J3 := I'.wkput (us := U'.ts.set 1 V.non)
        have hn3 := (upd_ne (o := .lst (U'.ts.set 1 V.non)) nwl.1).trans e7
        have ht3 := (upd_ne (o := .lst (U'.ts.set 1 V.non)) ot.2.2.1).trans e8
        have ta3 := e9.put (o' := .lst (U'.ts.set 1 V.non)) I'.ro.wo.ls (fun xs z => by cases z)
        have dp := dput_i (i := ((1 : Nat) : Int)) (v := V.non) hn3 (by rw [kvN_len]; omega)
        rw [kvN_set (by omega)] at dp
        refine ⟨_, dp, ?_⟩
        refine q { U' with ts := U'.ts.set 1 V.non } _ rs (J3.offD hn3 (by rw [show ({ U' with ts := U'.ts.set 1 V.non } : RoS).bd = U.bd from e2]; exact nb)) e1 e2 e3 e4 (fun t m => ?_) (by show (U'.ts.set 1 V.non).length ≤ 12; rw [List.length_set]; omega) (by show U'.ws.length ≤ 12; omega) upd_same ((upd_ne ntk.symm).trans ht3) (ta3.put hn3 (fun xs z => by cases z)) fun b o n1 n2 n3 n4 g => (upd_ne n3).trans ((upd_ne n1).trans (k' b o n1 n2 n3 n4 (s01 _ _ g)))
        rcases List.mem_or_eq_of_mem_set m with m | rfl
        · exact flt t m
        · rfl
      · rw [if_neg c2]
        exact q U' H' rs I' e1 e2 e3 e4 flt (by omega) (by omega) e7 e8 e9 fun b o n1 n2 n3 n4 g => k' b o n1 n2 n3 n4 (s01 _ _ g)
end

local macro_rules | `(tactic| walk_at "w3") => `(tactic| try simp only [↓x_var0, ↓x_varS, ↓x_c, ↓x_op, ↓x_un, ↓x_cb, ↓x_nil, ↓x_cons, ↓x_test, ↓x_b, ↓x_ex, ↓x_and, ↓x_or, ↓x_not, ↓x_andV, ↓x_orV, ↓x_notV, ↓x_tif, ↓x_chain, ↓x_menu, ↓x_menuI, ↓x_lst, ↓x_tup, ↓x_dnew, ↓x_callW, ↓x_callN, ↓x_seq, ↓x_next, ↓x_ret, ↓x_retN, ↓x_drop, ↓x_ifS, ↓x_asg, ↓x_name, ↓x_raise, ↓x_fld, ↓x_setF, ↓x_meth, ↓x_make, ↓x_sub, ↓r_min, ↓r_max, ↓x_yes, ↓x_for, ↓x_lock, ↓x_keys, ↓x_cut, ↓x_lc, ↓x_rng1, ↓x_rng2, ↓x_lst1, ↓x_itup, ↓x_rng3, ↓x_three, ↓x_lstg, ↓x_tupg, ↓x_adrS, ↓x_one, ↓x_two, ↓x_adr, ↓x_sl, ↓x_np, ↓x_pt, ↓x_int, ↓x_bm, ↓x_bm0, ↓x_consg, ↓x_nilg, ↓x_dget2, ↓x_dget1, ↓x_dgetN, ↓x_dget, ↓x_din, ↓x_dni, ↓x_dput, ↓x_dpop2, ↓r_isB, ↓r_notB, ↓x_enum, ↓x_zip, ↓x_str, ↓x_strE, ↓r_inS, ↓r_ninS, wipe, List.map_cons, List.map_nil, ↓x_isT, ↓r_isiII, ↓r_isiBB, ↓r_isiIB, ↓r_isiSS, ↓r_neNS, ↓r_neSN, ↓r_neNN, ↓r_eqNS, ↓r_eqSN, ↓r_eqNN, ↓r_eqIS, ↓r_neIS, ↓r_neSI, ↓r_neBS, ↓r_eqBB, ↓r_neBB, ↓x_start, ↓x_K, ↓x_start0, ↓r_i0, ↓r_i, ↓r_u, ↓r_addI, ↓r_addS, ↓r_mulI, ↓r_mulS, ↓r_eqI, ↓r_neI, ↓r_eqS, ↓r_neS, ↓r_absI, ↓r_intI, ↓r_intB, List.length_cons, List.length_nil, List.replicate, List.set_cons_zero, List.set_cons_succ, decide_eq_true_eq, Bool.not_eq_true', decide_eq_false_iff_not, if_true, if_false, Bool.false_eq_true, Bool.true_eq_false, ite_true, ite_false, Bool.not_true, Bool.not_false, c_div, n_ten, c_pow, not_true_eq_false, not_false_eq_true, decide_true, decide_false, true_and, and_true, and_self, true_or, or_true, Int.reduceLT, Int.reduceLE, Int.reduceMul, Int.reduceAdd, Int.reduceSub, Int.reducePow, Int.reduceNeg, Int.reduceDiv, Int.reduceMod, Nat.reducePow, Int.reduceToNat, Int.reduceEq, Int.reduceNe, Nat.reduceLT, Nat.reduceLeDiff, Nat.reduceAdd, ↓x_whole, ↓x_kind, Int.natCast_one, Int.natCast_one, Int.natCast_one, Int.natCast_one, Int.natCast_one, Int.natCast_one, Int.natCast_one])
/-! ## the law's own record -/
abbrev kd5 (a b c d e : V) : List (Key × V) := [(.inr "cells", a), (.inr "hands", b), (.inr "names", c), (.inr "tickets", d), (.inr "said", e)]
theorem str_ne {x y : Str} (h : x ≠ y) : ¬ (.inr x : Key) = .inr y := fun z => h (Sum.inr.inj z)
section
variable {a b c d e z : V}
theorem kd_c : valV (kd5 a b c d e) (.inr "cells" : Key) = some a := valV_pos rfl
theorem kd_h : valV (kd5 a b c d e) (.inr "hands" : Key) = some b := (valV_neg (str_ne (by decide +kernel))).trans (valV_pos rfl)
theorem kd_n : valV (kd5 a b c d e) (.inr "names" : Key) = some c := (valV_neg (str_ne (by decide +kernel))).trans ((valV_neg (str_ne (by decide +kernel))).trans (valV_pos rfl))
theorem kd_t : valV (kd5 a b c d e) (.inr "tickets" : Key) = some d := (valV_neg (str_ne (by decide +kernel))).trans ((valV_neg (str_ne (by decide +kernel))).trans ((valV_neg (str_ne (by decide +kernel))).trans (valV_pos rfl)))
theorem kd_s : valV (kd5 a b c d e) (.inr "said" : Key) = some e := (valV_neg (str_ne (by decide +kernel))).trans ((valV_neg (str_ne (by decide +kernel))).trans ((valV_neg (str_ne (by decide +kernel))).trans ((valV_neg (str_ne (by decide +kernel))).trans (valV_pos rfl))))
theorem n_ch : ¬ (.inr "cells" : Key) = .inr "hands" := str_ne (by decide +kernel)
theorem n_cn : ¬ (.inr "cells" : Key) = .inr "names" := str_ne (by decide +kernel)
theorem n_ct : ¬ (.inr "cells" : Key) = .inr "tickets" := str_ne (by decide +kernel)
theorem n_cs : ¬ (.inr "cells" : Key) = .inr "said" := str_ne (by decide +kernel)
theorem n_hn : ¬ (.inr "hands" : Key) = .inr "names" := str_ne (by decide +kernel)
theorem n_ht : ¬ (.inr "hands" : Key) = .inr "tickets" := str_ne (by decide +kernel)
theorem n_hs : ¬ (.inr "hands" : Key) = .inr "said" := str_ne (by decide +kernel)
theorem n_nt : ¬ (.inr "names" : Key) = .inr "tickets" := str_ne (by decide +kernel)
theorem n_ns : ¬ (.inr "names" : Key) = .inr "said" := str_ne (by decide +kernel)
theorem n_ts : ¬ (.inr "tickets" : Key) = .inr "said" := str_ne (by decide +kernel)
theorem put5 {k : Key} {v : V} (h : valV (kd5 a b c d e) k ≠ none) : putK (kd5 a b c d e) k v = (kd5 a b c d e).map fun kv => if kv.1 = k then (kv.1, v) else kv := by
  unfold putK
  rw [if_pos]
  rw [valV_any]
  cases e : valV (kd5 a b c d e) k with
  | none => exact absurd e h
  | some x => rfl
theorem put_c : putK (kd5 a b c d e) (.inr "cells" : Key) z = kd5 z b c d e := by
  rw [put5 (by rw [kd_c]; intro z; cases z)]
  simp only [List.map_cons, List.map_nil, if_true, if_neg (Ne.symm n_ch), if_neg (Ne.symm n_cn), if_neg (Ne.symm n_ct), if_neg (Ne.symm n_cs)]
theorem put_h : putK (kd5 a b c d e) (.inr "hands" : Key) z = kd5 a z c d e := by
  rw [put5 (by rw [kd_h]; intro z; cases z)]
  simp only [List.map_cons, List.map_nil, if_true, if_neg n_ch, if_neg (Ne.symm n_hn), if_neg (Ne.symm n_ht), if_neg (Ne.symm n_hs)]
theorem put_n : putK (kd5 a b c d e) (.inr "names" : Key) z = kd5 a b z d e := by
  rw [put5 (by rw [kd_n]; intro z; cases z)]
  simp only [List.map_cons, List.map_nil, if_true, if_neg n_cn, if_neg n_hn, if_neg (Ne.symm n_nt), if_neg (Ne.symm n_ns)]
theorem put_t : putK (kd5 a b c d e) (.inr "tickets" : Key) z = kd5 a b c z e := by
  rw [put5 (by rw [kd_t]; intro z; cases z)]
  simp only [List.map_cons, List.map_nil, if_true, if_neg n_ct, if_neg n_ht, if_neg n_nt, if_neg (Ne.symm n_ts)]
theorem put_s : putK (kd5 a b c d e) (.inr "said" : Key) z = kd5 a b c d z := by
  rw [put5 (by rw [kd_s]; intro z; cases z)]
  simp only [List.map_cons, List.map_nil, if_true, if_neg n_cs, if_neg n_hs, if_neg n_ns, if_neg n_ts]
end
theorem slC_app {D : List CeL} {d : CeL} : ∀ {t : Nat}, slC t (D ++ [d]) = slC t D ++ [⟨t + sumW D, d.r, d.ws⟩] := by
  induction D with
  | nil => exact fun {t} => rfl
  | cons a r ih =>
    intro t
    show _ :: slC (t + (a.ws.length + 1)) (r ++ [d]) = _ :: (slC (t + (a.ws.length + 1)) r ++ _)
    rw [ih]
    show _ = _ :: (_ ++ [({ p := t + ((a.ws.length + 1) + sumW r), r := d.r, ws := d.ws } : CeL)])
    rw [Nat.add_assoc]
theorem slC_lt {D : List CeL} {c : CeL} (m : c ∈ slC 0 D) : c.p < sumW D := by
  obtain ⟨k, d, ek, rfl⟩ := slC_mem m
  have h1 := sum_take ek
  have h2 := sum_all (D := D) (k := k + 1)
  show 0 + sumW (D.take k) < _
  omega
theorem slC_rd : ∀ {D : List CeL} {t : Nat}, D.Pairwise (fun a b => a.r ≠ b.r) → (slC t D).Pairwise fun a b => a.r ≠ b.r
  | [], _, _ => .nil
  | d :: r, t, h => by
    obtain ⟨h1, h2⟩ := List.pairwise_cons.mp h
    refine List.pairwise_cons.mpr ⟨fun b mb => ?_, slC_rd h2⟩
    obtain ⟨k, hk⟩ := List.getElem?_of_mem mb
    have hl : k < r.length := by
      have := (List.getElem?_eq_some_iff.mp hk).1
      rwa [slC_len] at this
    rw [slC_get (List.getElem?_eq_getElem hl)] at hk
    have e : b.r = r[k].r := by rw [← Option.some.inj hk]
    rw [e]
    exact h1 _ (List.getElem_mem hl)
/-- pending ones, by what becomes of them -/
def tkP (g : Int → Option Int) : List V → Option (List V)
  | [.int a, .int p, .int n] => (g p).map fun q => [.int a, .int q, .int n]
  | _ => none
def sdP (g : Int → Option Int) : List V → List Int
  | [.int _, .int p, .int n] => if (g p).isSome then [] else [n]
  | _ => []
theorem pend_tk {g : Int → Option Int} : ∀ {ws : List (Option (Int × Int))} {k : Nat}, pendOf k (ws.map (tkG g)) = (pendOf k ws).filterMap (tkP g)
  | [], _ => rfl
  | none :: r, k => pend_tk (ws := r) (k := k + 1)
  | some (p, n) :: r, k => by
    show pendOf k ((g p).map (fun q => (q, n)) :: r.map (tkG g)) = ([V.int (k : Int), .int p, .int n] :: pendOf (k + 1) r).filterMap (tkP g)
    rw [List.filterMap_cons, show tkP g [V.int (k : Int), .int p, .int n] = (g p).map fun q => [.int (k : Int), .int q, .int n] from rfl, ← pend_tk]
    cases g p <;> rfl
theorem pend_sd {g : Int → Option Int} : ∀ {ws : List (Option (Int × Int))} {k : Nat}, saidG g ws = (pendOf k ws).flatMap (sdP g)
  | [], _ => rfl
  | none :: r, k => pend_sd (ws := r) (k := k + 1)
  | some (p, n) :: r, k => by
    show sdG g (some (p, n)) ++ saidG g r = sdP g [V.int (k : Int), .int p, .int n] ++ (pendOf (k + 1) r).flatMap (sdP g)
    rw [← pend_sd]
    rfl
theorem pend_at3 {ws : List (Option (Int × Int))} {k i : Nat} {xs : List V} (h : (pendOf k ws)[i]? = some xs) : ∃ a p n : Int, xs = [.int a, .int p, .int n] := pendOf_mem k xs (List.mem_of_getElem? h)
structure W16 where
  (d h nd tk sd : Addr)
/-- the law's record: cells, hands, names, tickets, what was said -/
structure Lo16 (s : Addr) (H : Hp) (w : W16) (C : List CeL) (hs : List Int) (ts : List V) (ws : List (Option (Int × Int))) (ss : List Int) : Prop where
  ks : H s = some (.dK (kd5 (.ref w.d) (.ref w.h) (.ref w.nd) (.ref w.tk) (.ref w.sd)))
  dd : H w.d = some (.dK (kvsOf kp C))
  rw_ : ∀ c ∈ C, H c.r = some (.lst (c.ws.map V.int))
  rd : C.Pairwise fun a b => a.r ≠ b.r
  hh : H w.h = some (.lst (hs.map V.int))
  nn : H w.nd = some (.dK (kvN 0 ts))
  tt : ∃ rs, H w.tk = some (.lst rs) ∧ TupAll H rs (pendOf 0 ws)
  sa : H w.sd = some (.lst (ss.map V.int))
  n1 : s ≠ w.d
  n2 : s ≠ w.nd
  n3 : w.d ≠ w.nd
  n4 : w.h ≠ w.tk
  n5 : w.h ≠ w.sd
  n6 : ∀ c ∈ C, c.r ≠ w.h ∧ c.r ≠ w.tk ∧ c.r ≠ w.sd
theorem Lo16.same {s H H' w C hs ts ws ss} (L : Lo16 s H w C hs ts ws ss) (m : Same H H') : Lo16 s H' w C hs ts ws ss := { L with ks := m _ _ L.ks, dd := m _ _ L.dd, rw_ := fun c h => m _ _ (L.rw_ c h), hh := m _ _ L.hh, nn := m _ _ L.nn, tt := L.tt.elim fun rs z => ⟨rs, m _ _ z.1, z.2.same m⟩, sa := m _ _ L.sa }
def sp_moved16 (K : PySem.W.Frag) : Sp := fun vs H Q _ => ∃ s w C hs ts ws ss S, vs = [.ref s] ∧ Lo16 s H w C hs ts ws ss ∧ CelP S C ∧ (∀ c ∈ C, c.ws.length ≤ 8) ∧ (∀ c ∈ C, ∀ w ∈ c.ws, ClW C w) ∧ (∀ w ∈ hs, ClW C w) ∧ C.length ≤ 1000 ∧ hs.length ≤ 100 ∧ (∀ t ∈ ts, flatN t = true) ∧ ts.length ≤ 1000 ∧ ws.length ≤ 1000 ∧ ss.length ≤ 1000 ∧ ((reachC C (placesW hs)).map (wC C)).sum ≤ 9999 ∧
  ∀ (qs : List Int) D w' H', qs.Perm (reachC C (placesW hs)) → qs.Pairwise (· ≤ ·) → D.map (fun c => (c.p : Int)) = qs → (∀ d ∈ D, ∃ c ∈ C, c.p = d.p ∧ d.ws = c.ws.map (turnW (goF (goL (wC C) 0 qs)))) →
    Lo16 s H' w' (slC 0 D) (hs.map (turnW (goF (goL (wC C) 0 qs)))) (ts.map (nmG (goG (goL (wC C) 0 qs)))) (ws.map (tkG (goG (goL (wC C) 0 qs)))) (ss ++ saidG (goG (goL (wC C) 0 qs)) ws) →
    (∀ x, x = w'.d ∨ x = w'.h ∨ x = w'.nd ∨ x = w'.tk ∨ x = w'.sd ∨ (∃ d ∈ D, x = d.r) → H x = none) → (∀ b o, b ≠ s → H b = some o → H' b = some o) → Q (.int (sumW D : Int)) H'
section
variable {P : Program} {w : World} {K : PySem.W.Frag} {mg : Str → Option Value} {base : Heap}
theorem f__law_moved (T : Tx K mg) : Fn P w K mg base 4 "_law_moved" ["_law_s"] (sp_moved16 K) := by
  have c__law_reached := f__law_reached (P := P) (w := w) (base := base) T
  have c__law_turned := f__law_turned (P := P) (w := w) (base := base) T
  refine T.mkFn 76 47 (d := d__law_moved) (N := ["_law_s", "_law_kept", "_law_where", "_law_top", "_law_at", "_law_cells", "_law_word_here", "_law_names", "_law_name", "_law_one"]) (k := 3) rfl rfl rfl rfl rfl sc__law_moved (fun _ _ _ _ _ _ us hl => match us, hl with | [_], _ => rfl) (fun vs H Q E h => ?len) (fun cdv A outer s H vs Q E hr h => ⟨_,
      (pss_cons (ps_set (i := 1) sc__law_moved.nd rfl (Or.inl rfl) (pe_fn (takes_of rfl rfl rfl rfl) c__law_reached (hr.mono (by decide)) (by rfl) (pa_cons (pe_dget (hu_of hr) (pv 0) pe_str (fun _ _ => rfl)) (pa_cons (pe_dget (hu_of hr) (pv 0) pe_str (fun _ _ => rfl)) pa_nil))))
        (pss_cons (ps_set (i := 2) sc__law_moved.nd rfl (Or.inr rfl) pe_dnewK)
        (pss_cons (ps_set (i := 3) sc__law_moved.nd rfl (Or.inl rfl) pe_int)
        (pss_cons (ps_for (passes_of rfl) rfl (pi_listK (K := K) rfl (pv 1)) (pg_name (i := 4) sc__law_moved.nd rfl (Or.inl rfl)) (pss_cons (ps_dput (hu_of hr) (pv 2) (pv 4) (pv 3) rfl)
        (pss_one (ps_set (i := 3) sc__law_moved.nd rfl (Or.inl rfl) (pe_op op_gAdd (pe_op op_gAdd (pv 3) pe_int) (pe_callB (call_lenK (K := K) rfl) (by rfl) (T.free 64) PySem.boot_len (pa_cons (pe_dget (hu_of hr) (pe_dget (hu_of hr) (pv 0) pe_str (fun _ _ => rfl)) (pv 4) (fun _ _ => rfl)) pa_nil)))))))
        (pss_cons (ps_set (i := 5) sc__law_moved.nd rfl (Or.inl rfl) pe_dnewK)
        (pss_cons (ps_for (passes_of rfl) rfl (pi_listK (K := K) rfl (pv 1)) (pg_name (i := 4) sc__law_moved.nd rfl (Or.inl rfl)) (pss_one (ps_dput (hu_of hr) (pv 5) (pe_dget (hu_of hr) (pv 2) (pv 4) (fun _ _ => rfl)) (pe_lc (own := [("_law_word_here", 6)]) (g := gName 6) rfl sc__law_moved.nd (pi_listK (K := K) rfl (pe_dget (hu_of hr) (pe_dget (hu_of hr) (pv 0) pe_str (fun _ _ => rfl)) (pv 4) (fun _ _ => rfl))) (blkOk_by (own := [("_law_word_here", 6)]) (N := ["_law_s", "_law_kept", "_law_where", "_law_top", "_law_at", "_law_cells", "_law_word_here", "_law_names", "_law_name", "_law_one"]) (sc := defScope s__law_moved) (by decide +kernel)) (fun _ _ _ _ _ => (pg_name (i := 6) sc__law_moved.nd rfl (Or.inl rfl))) (fun _ _ _ _ _ => pts_nil) (fun _ _ _ _ _ => (pe_fn takes0 c__law_turned (hr.mono (by decide)) (by rfl) (pa_cons (pv 6) (pa_cons (pv 2) pa_nil))))) rfl)))
        (pss_cons (ps_dput (hu_of hr) (pv 0) pe_str (pv 5) rfl)
        (pss_cons (ps_dput (hu_of hr) (pv 0) pe_str (pe_lc (own := [("_law_word_here", 6)]) (g := gName 6) rfl sc__law_moved.nd (pi_listK (K := K) rfl (pe_dget (hu_of hr) (pv 0) pe_str (fun _ _ => rfl))) (blkOk_by (own := [("_law_word_here", 6)]) (N := ["_law_s", "_law_kept", "_law_where", "_law_top", "_law_at", "_law_cells", "_law_word_here", "_law_names", "_law_name", "_law_one"]) (sc := defScope s__law_moved) (by decide +kernel)) (fun _ _ _ _ _ => (pg_name (i := 6) sc__law_moved.nd rfl (Or.inl rfl))) (fun _ _ _ _ _ => pts_nil) (fun _ _ _ _ _ => (pe_fn takes0 c__law_turned (hr.mono (by decide)) (by rfl) (pa_cons (pv 6) (pa_cons (pv 2) pa_nil))))) rfl)
        (pss_cons (ps_set (i := 7) sc__law_moved.nd rfl (Or.inl rfl) pe_dnewK)
        (pss_cons (ps_lock (ps_for (passes_of rfl) rfl (pi_keys (pe_dget (hu_of hr) (pv 0) pe_str (fun _ _ => rfl))) (pg_name (i := 8) sc__law_moved.nd rfl (Or.inl rfl)) (pss_one (ps_dput (hu_of hr) (pv 7) (pv 8) (pe_dgetN (hu_of hr) (pv 2) (pe_dget (hu_of hr) (pe_dget (hu_of hr) (pv 0) pe_str (fun _ _ => rfl)) (pv 8) (fun _ _ => rfl)) ⟨rfl, rfl, rfl, rfl⟩) rfl))))
        (pss_cons (ps_dput (hu_of hr) (pv 0) pe_str (pv 7) rfl)
        (pss_cons (ps_dput (hu_of hr) (pv 0) pe_str (pe_op op_gAdd (pe_dget (hu_of hr) (pv 0) pe_str (fun _ _ => rfl)) (pe_lc (own := [("_law_one", 9)]) (g := gName 9) rfl sc__law_moved.nd (pi_listK (K := K) rfl (pe_dget (hu_of hr) (pv 0) pe_str (fun _ _ => rfl))) (blkOk_by (own := [("_law_one", 9)]) (N := ["_law_s", "_law_kept", "_law_where", "_law_top", "_law_at", "_law_cells", "_law_word_here", "_law_names", "_law_name", "_law_one"]) (sc := defScope s__law_moved) (by decide +kernel)) (fun _ _ _ _ _ => (pg_name (i := 9) sc__law_moved.nd rfl (Or.inl rfl))) (fun _ _ _ _ _ => pts_one (pt_cmp (pc_dnotin (hu_of hr) (pe_ix (ix_seqK (K := K) rfl) (pv 9) pe_int (fun _ _ => rfl)) (pv 2)))) (fun _ _ _ _ _ => (pe_ix (ix_seqK (K := K) rfl) (pv 9) pe_int (fun _ _ => rfl))))) rfl)
        (pss_cons (ps_dput (hu_of hr) (pv 0) pe_str (pe_lc (own := [("_law_one", 9)]) (g := gName 9) rfl sc__law_moved.nd (pi_listK (K := K) rfl (pe_dget (hu_of hr) (pv 0) pe_str (fun _ _ => rfl))) (blkOk_by (own := [("_law_one", 9)]) (N := ["_law_s", "_law_kept", "_law_where", "_law_top", "_law_at", "_law_cells", "_law_word_here", "_law_names", "_law_name", "_law_one"]) (sc := defScope s__law_moved) (by decide +kernel)) (fun _ _ _ _ _ => (pg_name (i := 9) sc__law_moved.nd rfl (Or.inl rfl))) (fun _ _ _ _ _ => pts_one (pt_cmp (pc_din (hu_of hr) (pe_ix (ix_seqK (K := K) rfl) (pv 9) pe_int (fun _ _ => rfl)) (pv 2)))) (fun _ _ _ _ _ => (pe_tup (pa_cons (pe_ix (ix_seqK (K := K) rfl) (pv 9) pe_int (fun _ _ => rfl)) (pa_cons (pe_dget (hu_of hr) (pv 2) (pe_ix (ix_seqK (K := K) rfl) (pv 9) pe_int (fun _ _ => rfl)) (fun _ _ => rfl)) (pa_cons (pe_ix (ix_seqK (K := K) rfl) (pv 9) pe_int (fun _ _ => rfl)) pa_nil)))))) rfl)
        (pss_one (ps_ret (pv 3)))))))))))))))), ?rd⟩)
  case len => first | exact len__law_moved h | (repeat (first | (obtain ⟨rfl, _⟩ := h; rfl; done) | obtain ⟨_, h⟩ := h))
  case rd =>
    obtain ⟨s, w, C, hs, ts, ws, ss, S, rfl, L, cp, c8, cw, hw, cl, hl, fl, tl, wl, sl, sm, q⟩ := h
    have sz : 100000 ≤ sizeLine := by rw [sizeLine_eq]; omega
    have ksC : ∀ x ∈ placesW hs, x ∈ plcC C := fun x mx => by
      obtain ⟨w, mw, e⟩ := List.mem_filterMap.mp mx
      cases ew : wordOf w with
      | none => rw [ew] at e; cases e
      | some y =>
        rw [ew] at e
        cases y with
        | place p =>
          cases e
          obtain ⟨c, mc, rfl⟩ := (hw w mw).2 _ ew
          exact List.mem_map.mpr ⟨c, mc, rfl⟩
        | _ => cases e
    have RC := reachC_is cp cw ksC
    have dk : ∀ {Hx : Hp} {k : Str} {v : V} {w' : W16}, Hx s = some (.dK (kd5 (.ref w'.d) (.ref w'.h) (.ref w'.nd) (.ref w'.tk) (.ref w'.sd))) → valV (kd5 (.ref w'.d) (.ref w'.h) (.ref w'.nd) (.ref w'.tk) (.ref w'.sd)) (.inr k : Key) = some v → DGet Hx s (.str k) (some v) := fun {Hx k v w'} g e => by
      have := DGet.k (k := (.inr k : Key)) g
      rw [e] at this
      exact this
    have ceS : CellsO kp H S w.d C := ⟨L.dd, L.rw_, cp.hd, cp.sl, cp.ar, cp.dj, L.rd⟩
    walk_at "w3"
    refine ⟨_, dk L.ks kd_c, _, dk L.ks kd_h, ?_⟩
    refine ⟨S, w.d, C, w.h, hs, rfl, ceS, L.hh, c8, cw, hw, cl, hl, fun qs p1 H1 pm so np1 s1 hp1 => ?_⟩
    have L1 := L.same s1
    have nds : qs.Nodup := pm.nodup_iff.mpr RC.nd
    have kq : ∀ x ∈ qs, ∃ c ∈ C, x = (c.p : Int) := fun x mx => RC.cl x (pm.mem_iff.mp mx)
    have lq : qs.length ≤ C.length := by
      have := nd_len (U := plcC C) nds fun x mx => by
        obtain ⟨c, mc, e⟩ := kq x mx
        exact List.mem_map.mpr ⟨c, mc, e.symm⟩
      rwa [plc_len] at this
    have tot : (qs.map (wC C)).sum ≤ 9999 := by rw [sum_perm (pm.map _)]; exact sm
    walk_at "w3"
    intro p2 np2
    have s2 := same_new (o := .dK []) np2
    have hp2 : upd H1 p2 (.dK []) p2 = some (.dK []) := upd_same
    have L2 := L1.same s2
    have s12 := s1.trans s2
    have h12 := s2 _ _ hp1
    have np2H := none_of s1 np2
    generalize upd H1 p2 (.dK []) = H2 at s2 hp2 L2 s12 h12 ⊢
    obtain ⟨ps, eps⟩ : ∃ ps, ps = goL (wC C) 0 qs := ⟨_, rfl⟩
    have gK : ∀ (k : Nat) x, qs[k]? = some x → goG ps x = some (((qs.take k).map (wC C)).sum) := fun k x e => by rw [eps]; exact goP_mem cp nds e
    have gx : ∀ x ∈ reachC C (placesW hs), ∃ q, goG ps x = some q ∧ 0 ≤ q ∧ q ≤ 9999 := fun x mx => by
      obtain ⟨k, ek⟩ := List.getElem?_of_mem (pm.mem_iff.mpr mx)
      have h1 := sumI_take (w := wC C) (fun x => wC_ge) (xs := qs) (k := k)
      exact ⟨_, gK k x ek, sum_ge (fun x => wC_ge) _, by omega⟩
    have gW : ∀ c ∈ C, (c.p : Int) ∈ reachC C (placesW hs) → ∀ w ∈ c.ws, (wordOf w).isSome = true ∧ GoW ps w := fun c mc mk w mw => ⟨(cw c mc w mw).1, fun p e => gx p (RC.kd c mc mk p (List.mem_filterMap.mpr ⟨w, mw, by rw [wd_place e]⟩))⟩
    have gH : ∀ w ∈ hs, (wordOf w).isSome = true ∧ GoW ps w := fun w mw => ⟨(hw w mw).1, fun p e => gx p (RC.st p (List.mem_filterMap.mpr ⟨w, mw, by rw [e]⟩))⟩
    have q := q qs
    rw [← eps] at q
    have kvC : ∀ c ∈ C, valV (kvsOf kp C) (.inl (c.p : Int) : Key) = some (.ref c.r) := fun c mc => kvs_some (f := kp) (ceS.keys fun a b (e : (a : Int) = b) => by omega) mc
    have pk2 : p2 ≠ s ∧ p2 ≠ w.d ∧ p2 ≠ w.nd := ⟨(ne_of_none L.ks np2H).symm, (ne_of_none L.dd np2H).symm, (ne_of_none L.nn np2H).symm⟩
    refine ⟨⟨_, .of h12⟩, forW_list (xs := qs.map V.int) (fun i σ H' => ∃ o4, σ = [some (.ref s), some (.ref p1), some (.ref p2), some (.int ((qs.take i).map (wC C)).sum), o4, none, none, none, none, none] ∧ H' p2 = some (.dK (kvI (goL (wC C) 0 (qs.take i)))) ∧ ∀ b o, b ≠ p2 → H2 b = some o → H' b = some o) ⟨_, rfl, hp2, fun b o _ g => g⟩ ?_ ?_ ?_⟩
    · rintro i σ H' hi ⟨o4, rfl, hp, k⟩
      exact .of (k _ _ (ne_of h12 hp2 (by intro z; cases z)) h12)
    · rintro i x σ H' hx ⟨o4, rfl, hp, k⟩
      obtain ⟨y, hy, rfl⟩ := ints_at hx
      have my := List.mem_of_getElem? hy
      obtain ⟨c, mc, ey⟩ := kq y my
      subst ey
      have hi : i < qs.length := (List.getElem?_eq_some_iff.mp hy).1
      have tk : qs.take (i + 1) = qs.take i ++ [(c.p : Int)] := by
        rw [List.take_add_one, hy]
        rfl
      have ne : ∀ q ∈ goL (wC C) 0 (qs.take i), q.1 ≠ (c.p : Int) := fun q mq e => by
        have m1 : q.1 ∈ qs.take i := by
          have := List.mem_map_of_mem (f := (·.1)) mq
          rwa [goL_fst] at this
        have nd2 : (qs.take (i + 1)).Nodup := List.Nodup.sublist (List.take_sublist ..) nds
        rw [tk] at nd2
        exact (List.nodup_append.mp nd2).2.2 q.1 m1 _ (List.mem_singleton.mpr rfl) e
      have pk := kvI_put (p := ((c.p : Int), ((qs.take i).map (wC C)).sum)) ne
      rw [← Int.zero_add ((qs.take i).map (wC C)).sum, ← goL_app, ← tk] at pk
      rw [Int.zero_add] at pk
      walk_at "w3"
      have dp := dput_i (i := (c.p : Int)) (v := .int ((qs.take i).map (wC C)).sum) hp (by rw [kvI_len, goL_len, List.length_take]; omega)
      rw [pk] at dp
      refine ⟨_, dp, ?_⟩
      have k' : ∀ b o, b ≠ p2 → H2 b = some o → upd H' p2 (.dK (kvI (goL (wC C) 0 (qs.take (i + 1))))) b = some o := fun b o h g => (upd_ne h).trans (k b o h g)
      have hs' := k' _ _ pk2.1.symm L2.ks
      have hd' := dget_i (i := (c.p : Int)) (k' _ _ pk2.2.1.symm L2.dd)
      rw [kvC c mc] at hd'
      have hr' := k' _ _ (ne_of (L2.rw_ c mc) hp2 (by intro z; cases z)) (L2.rw_ c mc)
      refine ⟨_, dk hs' kd_c, ?_⟩
      walk_at "w3"
      refine ⟨_, hd', ?_⟩
      refine r_lenL hr' ?_
      walk_at "w3"
      rw [List.length_map]
      have es : ((qs.take i).map (wC C)).sum + 1 + (c.ws.length : Int) = ((qs.take (i + 1)).map (wC C)).sum := by
        rw [tk, List.map_append, List.sum_append]
        show _ = _ + (wC C c.p + 0)
        rw [wC_mem cp mc]
        omega
      rw [es]
      exact ⟨_, rfl, upd_same, k'⟩
    rintro σ H3 ⟨o4, rfl, hp3, k3⟩
    rw [List.length_map, List.take_length] at hp3 ⊢
    have hw3 : H3 p2 = some (.dK (kvI ps)) := by rw [eps]; exact hp3
    have L3 : Lo16 s H3 w C hs ts ws ss := by
      have kl : ∀ {b xs}, H2 b = some (.lst xs) → H3 b = some (.lst xs) := fun g => k3 _ _ (ne_of g hp2 (by intro z; cases z)) g
      refine { L2 with ks := k3 _ _ pk2.1.symm L2.ks, dd := k3 _ _ pk2.2.1.symm L2.dd, rw_ := fun c m => kl (L2.rw_ c m), hh := kl L2.hh, nn := k3 _ _ pk2.2.2.symm L2.nn, tt := ?_, sa := kl L2.sa }
      obtain ⟨rs, t1, t2⟩ := L2.tt
      have : ∀ {l : List V} {yss}, TupAll H2 l yss → TupAll H3 l yss := fun h => by
        induction h with
        | nil => exact .nil
        | cons h f t ih => exact .cons (k3 _ _ (ne_of h hp2 (by intro z; cases z)) h) f ih
      exact ⟨rs, kl t1, this t2⟩
    have s03 : Same H H3 := fun b o g => k3 b o (ne_of_none g np2H) (s12 _ _ g)
    have h13 := k3 _ _ (ne_of h12 hp2 (by intro z; cases z)) h12
    clear k3 hp3 L2 L1 h12 hp2 s12
    have sD : ∀ {D : List CeL}, (∀ d ∈ D, ∃ c ∈ C, c.p = d.p ∧ d.ws = c.ws.map (turnW (goF ps))) → ((D.map fun c => (c.p : Int)).map (wC C)).sum = (sumW D : Int) := fun {D} h => wC_D fun d md => by
      obtain ⟨c, mc, e1, e2⟩ := h d md
      rw [← e1, wC_mem cp mc, e2, List.length_map]
    walk_at "w3"
    intro p5 np5
    have s4 := same_new (o := .dK []) np5
    have L4 := L3.same s4
    have h14 := s4 _ _ h13
    have hw4 := s4 _ _ hw3
    have hp5 : upd H3 p5 (.dK []) p5 = some (.dK []) := upd_same
    have s04 := s03.trans s4
    have np5H := none_of s03 np5
    have pk5 : p5 ≠ s ∧ p5 ≠ w.d ∧ p5 ≠ p2 := ⟨(ne_of_none L3.ks np5).symm, (ne_of_none L3.dd np5).symm, (ne_of_none hw3 np5).symm⟩
    generalize upd H3 p5 (.dK []) = H4 at s4 L4 h14 hw4 hp5 s04 ⊢
    refine ⟨⟨_, .of h14⟩, forW_list (xs := qs.map V.int) (fun i σ H' => ∃ o4 D, σ = [some (.ref s), some (.ref p1), some (.ref p2), some (.int (qs.map (wC C)).sum), o4, some (.ref p5), none, none, none, none] ∧ D.map (fun c => (c.p : Int)) = qs.take i ∧ (∀ d ∈ D, ∃ c ∈ C, c.p = d.p ∧ d.ws = c.ws.map (turnW (goF ps))) ∧ H' p5 = some (.dK (kvsOf kp (slC 0 D))) ∧ (∀ d ∈ D, H' d.r = some (.lst (d.ws.map V.int)) ∧ H4 d.r = none) ∧ D.Pairwise (fun a b => a.r ≠ b.r) ∧ ∀ b o, b ≠ p5 → H4 b = some o → H' b = some o) ⟨_, [], rfl, rfl, (fun d m => (List.not_mem_nil m).elim), hp5, (fun d m => (List.not_mem_nil m).elim), .nil, fun b o _ g => g⟩ ?_ ?_ ?_⟩
    · rintro i σ H' hi ⟨o4, D, rfl, d1, d2, d3, d4, d5, k⟩
      exact .of (k _ _ (ne_of h14 hp5 (by intro z; cases z)) h14)
    · rintro i x σ H' hx ⟨o4, D, rfl, d1, d2, d3, d4, d5, k⟩
      obtain ⟨y, hy, rfl⟩ := ints_at hx
      have my := List.mem_of_getElem? hy
      obtain ⟨c, mc, ey⟩ := kq y my
      subst ey
      have mk := pm.mem_iff.mp my
      have hi : i < qs.length := (List.getElem?_eq_some_iff.mp hy).1
      have tk : qs.take (i + 1) = qs.take i ++ [(c.p : Int)] := by
        rw [List.take_add_one, hy]
        rfl
      have sd := sD d2
      rw [d1] at sd
      have gg := gK i _ hy
      rw [sd] at gg
      walk_at "w3"
      have hs' := k _ _ pk5.1.symm L4.ks
      have hd' := dget_i (i := (c.p : Int)) (k _ _ pk5.2.1.symm L4.dd)
      rw [kvC c mc] at hd'
      have hr' := k _ _ (ne_of (L4.rw_ c mc) hp5 (by intro z; cases z)) (L4.rw_ c mc)
      refine ⟨_, dk hs' kd_c, ?_⟩
      walk_at "w3"
      refine ⟨_, hd', ?_⟩
      walk_at "w3"
      refine ⟨⟨_, .of hr'⟩, fun r nr => ?_⟩
      have hw' := k _ _ pk5.2.2.symm hw4
      refine lc_mapL (xs := c.ws.map V.int) (ys := (c.ws.map (turnW (goF ps))).map V.int) (fun _ => rfl) (fun acc => .of ((upd_ne (ne_of_none hr' nr)).trans hr')) (by rw [List.length_map]; have := c8 c mc; omega) (by rw [List.length_map, List.length_map, List.length_map]) (fun j x y hx hy acc Q2 q2 => ?_) ?_
      · obtain ⟨w0, hw0, rfl⟩ := ints_at hx
        rw [List.getElem?_map, List.getElem?_map, hw0] at hy
        cases hy
        have mw := List.mem_of_getElem? hw0
        walk_at "w3"
        exact ⟨_, p2, ps, rfl, (upd_ne (ne_of_none hw' nr)).trans hw', (gW c mc mk _ mw).1, (gW c mc mk _ mw).2, q2⟩
      have sr := same_new (o := .lst ((c.ws.map (turnW (goF ps))).map V.int)) nr
      have hr5 : upd H' r (.lst ((c.ws.map (turnW (goF ps))).map V.int)) r = some (.lst ((c.ws.map (turnW (goF ps))).map V.int)) := upd_same
      have n4 : H4 r = none := by
        cases e : H4 r with
        | none => rfl
        | some o =>
          rw [k r o (ne_of_none d3 nr).symm e] at nr
          cases nr
      have d35 := sr _ _ d3
      have k5 : ∀ b o, b ≠ p5 → H4 b = some o → upd H' r (.lst ((c.ws.map (turnW (goF ps))).map V.int)) b = some o := fun b o n g => sr _ _ (k b o n g)
      have d45 : ∀ d ∈ D, upd H' r (.lst ((c.ws.map (turnW (goF ps))).map V.int)) d.r = some (.lst (d.ws.map V.int)) ∧ H4 d.r = none ∧ d.r ≠ r := fun d md => ⟨sr _ _ (d4 d md).1, (d4 d md).2, ne_of_none (d4 d md).1 nr⟩
      generalize upd H' r (.lst ((c.ws.map (turnW (goF ps))).map V.int)) = H5 at hr5 d35 k5 d45 ⊢
      have dg := dget_i (i := (c.p : Int)) (k5 _ _ pk5.2.2.symm hw4)
      rw [goG_val, gg] at dg
      refine ⟨_, dg, ?_⟩
      have pk : putK (kvsOf kp (slC 0 D)) (.inl ((sumW D : Nat) : Int) : Key) (.ref r) = kvsOf kp (slC 0 (D ++ [⟨c.p, r, c.ws.map (turnW (goF ps))⟩])) := by
        rw [slC_app, Nat.zero_add]
        exact kvs_put (f := kp) (c := ⟨sumW D, r, c.ws.map (turnW (goF ps))⟩) fun b mb e => by
          have e : (b.p : Int) = (sumW D : Int) := e
          have := slC_lt mb
          omega
      have ld : D.length ≤ C.length := by
        have := congrArg List.length d1
        rw [List.length_map, List.length_take] at this
        omega
      have dp := dput_i (i := ((sumW D : Nat) : Int)) (v := .ref r) d35 (by unfold kvsOf; rw [List.length_map, slC_len]; omega)
      rw [pk] at dp
      refine ⟨_, dp, _, D ++ [⟨c.p, r, c.ws.map (turnW (goF ps))⟩], rfl, by rw [List.map_append, d1, tk]; rfl, fun d md => ?_, upd_same, fun d md => ?_, ?_, fun b o n g => (upd_ne n).trans (k5 b o n g)⟩
      · rcases List.mem_append.mp md with md | md
        · exact d2 d md
        · rw [List.mem_singleton.mp md]
          exact ⟨c, mc, rfl, rfl⟩
      · rcases List.mem_append.mp md with md | md
        · obtain ⟨a1, a2, -⟩ := d45 d md
          exact ⟨(upd_ne (ne_of a1 d35 (by intro z; cases z))).trans a1, a2⟩
        · rw [List.mem_singleton.mp md]
          exact ⟨(upd_ne (ne_of hr5 d35 (by intro z; cases z))).trans hr5, n4⟩
      · refine List.pairwise_append.mpr ⟨d5, List.pairwise_singleton _ _, fun a ha b hb => ?_⟩
        rw [List.mem_singleton.mp hb]
        exact (d45 a ha).2.2
    rintro σ H5 ⟨o5, D, rfl, d1, d2, d3, d4, d5, k5⟩
    rw [List.length_map, List.take_length] at d1
    have sd := sD d2
    rw [d1] at sd
    rw [sd]
    walk_at "w3"
    have dkp : ∀ {Hx : Hp} {k : Str} {v : V} {kvs : List (Key × V)}, Hx s = some (.dK kvs) → kvs.length ≤ 5 → DPut Hx s (.str k) v (upd Hx s (.dK (putK kvs (.inr k : Key) v))) := fun {Hx k v kvs} g l => DPut.k (k := (.inr k : Key)) g (by omega)
    have dkg : ∀ {Hx : Hp} {k : Str} {v : V} {kvs : List (Key × V)}, Hx s = some (.dK kvs) → valV kvs (.inr k : Key) = some v → DGet Hx s (.str k) (some v) := fun {Hx k v kvs} g e => by
      have := DGet.k (k := (.inr k : Key)) g
      rw [e] at this
      exact this
    have ks5 := k5 _ _ pk5.1.symm L4.ks
    have dp5 := dkp (k := "cells") (v := .ref p5) ks5 (Nat.le_refl 5)
    rw [put_c] at dp5
    refine ⟨_, dp5, ?_⟩
    -- all the old things but s, where they stood
    have old5 : ∀ b o, b ≠ s → H b = some o → upd H5 s (.dK (kd5 (.ref p5) (.ref w.h) (.ref w.nd) (.ref w.tk) (.ref w.sd))) b = some o := fun b o n g => (upd_ne n).trans (k5 b o (ne_of_none g np5H) (s04 _ _ g))
    have ks6 : upd H5 s (.dK (kd5 (.ref p5) (.ref w.h) (.ref w.nd) (.ref w.tk) (.ref w.sd))) s = some (.dK (kd5 (.ref p5) (.ref w.h) (.ref w.nd) (.ref w.tk) (.ref w.sd))) := upd_same
    have d36 := (upd_ne (o := .dK (kd5 (.ref p5) (.ref w.h) (.ref w.nd) (.ref w.tk) (.ref w.sd))) pk5.1).trans d3
    have w26 := (upd_ne (o := .dK (kd5 (.ref p5) (.ref w.h) (.ref w.nd) (.ref w.tk) (.ref w.sd))) pk2.1).trans (k5 _ _ pk5.2.2.symm hw4)
    have rH : ∀ d ∈ D, H d.r = none := fun d md => none_of s04 (d4 d md).2
    have rs : ∀ d ∈ D, d.r ≠ s := fun d md => (ne_of_none L.ks (rH d md)).symm
    have d46 : ∀ d ∈ D, upd H5 s (.dK (kd5 (.ref p5) (.ref w.h) (.ref w.nd) (.ref w.tk) (.ref w.sd))) d.r = some (.lst (d.ws.map V.int)) := fun d md => (upd_ne (rs d md)).trans (d4 d md).1
    generalize upd H5 s (.dK (kd5 (.ref p5) (.ref w.h) (.ref w.nd) (.ref w.tk) (.ref w.sd))) = H6 at old5 ks6 d36 w26 d46 ⊢
    have ns : ∀ {b o}, H b = some o → (∀ kv, o ≠ .dK kv) → b ≠ s := fun g n => ne_of g L.ks (n _)
    have hh6 := old5 _ _ (ns L.hh (fun kv z => by cases z)) L.hh
    refine ⟨_, dkg ks6 kd_h, ?_⟩
    walk_at "w3"
    refine ⟨⟨_, .of hh6⟩, fun h' nh => ?_⟩
    refine lc_mapL (xs := hs.map V.int) (ys := (hs.map (turnW (goF ps))).map V.int) (fun _ => rfl) (fun acc => .of ((upd_ne (ne_of_none hh6 nh)).trans hh6)) (by rw [List.length_map]; omega) (by rw [List.length_map, List.length_map, List.length_map]) (fun j x y hx hy acc Q2 q2 => ?_) ?_
    · obtain ⟨w0, hw0, rfl⟩ := ints_at hx
      rw [List.getElem?_map, List.getElem?_map, hw0] at hy
      cases hy
      have mw := List.mem_of_getElem? hw0
      walk_at "w3"
      exact ⟨_, p2, ps, rfl, (upd_ne (ne_of_none w26 nh)).trans w26, (gH _ mw).1, (gH _ mw).2, q2⟩
    have s7 := same_new (o := .lst ((hs.map (turnW (goF ps))).map V.int)) nh
    have hH : ∀ {x : Addr}, H6 x = none → H x = none := fun {x} nx => by
      by_cases e : x = s
      · subst e
        rw [ks6] at nx
        cases nx
      · cases e2 : H x with
        | none => rfl
        | some o =>
          rw [old5 x o e e2] at nx
          cases nx
    have h'H := hH nh
    have hs7 : h' ≠ s := (ne_of_none ks6 nh).symm
    have dp7 := dkp (k := "hands") (v := .ref h') (s7 _ _ ks6) (Nat.le_refl 5)
    rw [put_h] at dp7
    refine ⟨_, dp7, ?_⟩
    have ks8 : upd (upd H6 h' (.lst ((hs.map (turnW (goF ps))).map V.int))) s (.dK (kd5 (.ref p5) (.ref h') (.ref w.nd) (.ref w.tk) (.ref w.sd))) s = some (.dK (kd5 (.ref p5) (.ref h') (.ref w.nd) (.ref w.tk) (.ref w.sd))) := upd_same
    have kk8 : ∀ b o, b ≠ s → H6 b = some o → upd (upd H6 h' (.lst ((hs.map (turnW (goF ps))).map V.int))) s (.dK (kd5 (.ref p5) (.ref h') (.ref w.nd) (.ref w.tk) (.ref w.sd))) b = some o := fun b o n g => (upd_ne n).trans (s7 _ _ g)
    have hh8 : upd (upd H6 h' (.lst ((hs.map (turnW (goF ps))).map V.int))) s (.dK (kd5 (.ref p5) (.ref h') (.ref w.nd) (.ref w.tk) (.ref w.sd))) h' = some (.lst ((hs.map (turnW (goF ps))).map V.int)) := (upd_ne hs7).trans upd_same
    generalize upd (upd H6 h' (.lst ((hs.map (turnW (goF ps))).map V.int))) s (.dK (kd5 (.ref p5) (.ref h') (.ref w.nd) (.ref w.tk) (.ref w.sd))) = H8 at ks8 kk8 hh8 ⊢
    walk_at "w3"
    intro p7 np7
    have s9 := same_new (o := .dK []) np7
    have ks9 := s9 _ _ ks8
    have hp7 : upd H8 p7 (.dK []) p7 = some (.dK []) := upd_same
    have kk9 : ∀ b o, b ≠ s → H6 b = some o → upd H8 p7 (.dK []) b = some o := fun b o n g => s9 _ _ (kk8 b o n g)
    have hh9 := s9 _ _ hh8
    have p7s : p7 ≠ s := (ne_of_none ks8 np7).symm
    have p7n : H p7 = none := by
      cases e2 : H p7 with
      | none => rfl
      | some o =>
        rw [kk8 p7 o p7s (old5 p7 o p7s e2)] at np7
        cases np7
    have p7k : p7 ≠ p2 ∧ p7 ≠ p5 := ⟨(ne_of_none (kk8 _ _ pk2.1 w26) np7).symm, (ne_of_none (kk8 _ _ pk5.1 d36) np7).symm⟩
    generalize upd H8 p7 (.dK []) = H9 at ks9 hp7 kk9 hh9 ⊢
    have nn9 := kk9 _ _ L.n2.symm (old5 _ _ L.n2.symm L.nn)
    have w29 := kk9 _ _ pk2.1 w26
    refine lockD nn9 fun od => ?_
    have nds_ : w.nd ≠ s := L.n2.symm
    have nd7 : w.nd ≠ p7 := (ne_of_none L.nn p7n)
    have nd2 : w.nd ≠ p2 := pk2.2.2.symm
    have fz : upd H9 w.nd (.frz od (.dK (kvN 0 ts))) w.nd = some (.frz od (.dK (kvN 0 ts))) := upd_same
    have fk : ∀ b o, b ≠ w.nd → H9 b = some o → upd H9 w.nd (.frz od (.dK (kvN 0 ts))) b = some o := fun b o n g => (upd_ne n).trans g
    generalize upd H9 w.nd (.frz od (.dK (kvN 0 ts))) = H10 at fz fk ⊢
    walk_at "w3"
    refine ⟨_, dkg (fk _ _ nds_.symm ks9) kd_n, ?_⟩
    walk_at "w3"
    refine ⟨od, .inl ⟨_, fz, ?_⟩⟩
    refine forW_keys (fun i σ H' => ∃ o8, σ = [some (.ref s), some (.ref p1), some (.ref p2), some (.int (sumW D : Int)), o5, some (.ref p5), none, some (.ref p7), o8, none] ∧ H' w.nd = some (.frz od (.dK (kvN 0 ts))) ∧ H' p7 = some (.dK (kvN 0 ((ts.map (nmG (goG ps))).take i))) ∧ ∀ b o, b ≠ p7 → H10 b = some o → H' b = some o) ⟨_, rfl, fz, fk _ _ nd7.symm hp7, fun b o _ g => g⟩ ?_ ?_ ?_
    · rintro i σ H' hi ⟨o8, rfl, h1, h2, k⟩
      exact h1
    · rintro i key v σ H' hx ⟨o8, rfl, h1, h2, k⟩
      have hl7 : i < ts.length := by
        have := (List.getElem?_eq_some_iff.mp hx).1
        rwa [kvN_len] at this
      obtain ⟨ek, ev⟩ : key = .inl (i : Int) ∧ ts[i]? = some v := by
        have : ∀ {ts : List V} {k i : Nat} {q : Key × V}, (kvN k ts)[i]? = some q → q.1 = .inl ((k + i : Nat) : Int) ∧ ts[i]? = some q.2 := by
          intro ts
          induction ts with
          | nil => intro k i q e; cases e
          | cons t r ih =>
            intro k i q e
            cases i with
            | zero => cases e; exact ⟨rfl, rfl⟩
            | succ i =>
              obtain ⟨a, b⟩ := ih (k := k + 1) (i := i) e
              exact ⟨by rw [a, show k + 1 + i = k + (i + 1) from by omega], b⟩
        have := this hx
        rw [Nat.zero_add] at this
        exact this
      subst ek
      rw [show kV (.inl (i : Int) : Key) = V.int (i : Int) from rfl]
      have dn := dget_f (i := (i : Int)) h1
      have vv := kvN_val (ts := ts) (k := 0) (i := i)
      rw [Nat.zero_add, ev] at vv
      rw [vv] at dn
      have w2' := k _ _ p7k.1.symm (fk _ _ nd2.symm w29)
      have f := fl v (List.mem_of_getElem? ev)
      have nx : (ts.map (nmG (goG ps))).take (i + 1) = (ts.map (nmG (goG ps))).take i ++ [nmG (goG ps) v] := by
        rw [List.take_add_one, List.getElem?_map, ev]
        rfl
      have lt7 : ((ts.map (nmG (goG ps))).take i).length = i := by rw [List.length_take, List.length_map]; omega
      have pn := kvN_new (ts := (ts.map (nmG (goG ps))).take i) (v := nmG (goG ps) v)
      rw [lt7, ← nx] at pn
      have dp := dput_i (i := (i : Int)) (v := nmG (goG ps) v) h2 (by rw [kvN_len]; omega)
      rw [pn] at dp
      have fin : ∃ o8, [some (V.ref s), some (.ref p1), some (.ref p2), some (.int (sumW D : Int)), o5, some (.ref p5), none, some (.ref p7), some (.int (i : Int)), none] = [some (.ref s), some (.ref p1), some (.ref p2), some (.int (sumW D : Int)), o5, some (.ref p5), none, some (.ref p7), o8, none] ∧ upd H' p7 (.dK (kvN 0 ((ts.map (nmG (goG ps))).take (i + 1)))) w.nd = some (.frz od (.dK (kvN 0 ts))) ∧ upd H' p7 (.dK (kvN 0 ((ts.map (nmG (goG ps))).take (i + 1)))) p7 = some (.dK (kvN 0 ((ts.map (nmG (goG ps))).take (i + 1)))) ∧ ∀ b o, b ≠ p7 → H10 b = some o → upd H' p7 (.dK (kvN 0 ((ts.map (nmG (goG ps))).take (i + 1)))) b = some o :=
        ⟨_, rfl, (upd_ne nd7).trans h1, upd_same, fun b o n g => (upd_ne n).trans (k b o n g)⟩
      walk_at "w3"
      refine ⟨.inl ⟨_, .inl w2'⟩, ?_⟩
      refine ⟨_, dkg (k _ _ p7s.symm (fk _ _ nds_.symm ks9)) kd_n, ?_⟩
      walk_at "w3"
      refine ⟨_, dn, ?_⟩
      cases v with
      | non => exact .inl ⟨rfl, ⟨_, .inl w2'⟩, _, dp, fin⟩
      | int p =>
        refine .inr ?_
        have dg := dget_i (i := p) w2'
        rw [goG_val] at dg
        refine ⟨_, dg, ?_⟩
        have e8 : ((goG ps p).map V.int).getD V.non = nmG (goG ps) (.int p) := by
          show _ = (match goG ps p with | some q => V.int q | none => .non)
          cases goG ps p <;> rfl
        rw [e8]
        exact ⟨_, dp, fin⟩
      | _ => cases f
    rintro σ H11 ⟨o8, rfl, h1, h2, k11⟩
    rw [kvN_len, List.take_of_length_le (by rw [List.length_map]; exact Nat.le_refl _)] at h2
    walk_at "w3"
    refine ⟨h1, ?_⟩
    have ks12 : upd H11 w.nd (.dK (kvN 0 ts)) s = some (.dK (kd5 (.ref p5) (.ref h') (.ref w.nd) (.ref w.tk) (.ref w.sd))) := (upd_ne nds_.symm).trans (k11 _ _ p7s.symm (fk _ _ nds_.symm ks9))
    have kk12 : ∀ b o, b ≠ s → b ≠ w.nd → H6 b = some o → upd H11 w.nd (.dK (kvN 0 ts)) b = some o := fun b o n1 n2 g => (upd_ne n2).trans (k11 _ _ (fun e => by
      subst e
      have := hH (x := b)
      by_cases e6 : H6 b = none
      · rw [e6] at g; cases g
      · exact absurd (by
          have := kk8 b o n1 g
          rw [this] at np7
          cases np7) id) (fk _ _ n2 (kk9 _ _ n1 g)))
    have old12 : ∀ b o, b ≠ s → H b = some o → upd H11 w.nd (.dK (kvN 0 ts)) b = some o := fun b o n g => by
      by_cases e : b = w.nd
      · subst e
        rw [L.nn] at g
        cases g
        exact upd_same
      · exact kk12 b o n e (old5 b o n g)
    have hh12 : upd H11 w.nd (.dK (kvN 0 ts)) h' = some (.lst ((hs.map (turnW (goF ps))).map V.int)) := by
      have n1 : h' ≠ w.nd := ne_of hh9 (kk9 _ _ L.n2.symm (old5 _ _ L.n2.symm L.nn)) (by intro z; cases z)
      have n2 : h' ≠ p7 := ne_of hh9 hp7 (by intro z; cases z)
      exact (upd_ne n1).trans (k11 _ _ n2 (fk _ _ n1 hh9))
    have hn12 : upd H11 w.nd (.dK (kvN 0 ts)) p7 = some (.dK (kvN 0 (ts.map (nmG (goG ps))))) := (upd_ne nd7.symm).trans h2
    have d312 : upd H11 w.nd (.dK (kvN 0 ts)) p5 = some (.dK (kvsOf kp (slC 0 D))) := kk12 _ _ pk5.1 (ne_of_none L.nn np5H).symm d36
    have w212 : upd H11 w.nd (.dK (kvN 0 ts)) p2 = some (.dK (kvI ps)) := kk12 _ _ pk2.1 nd2.symm w26
    have dr12 : ∀ d ∈ D, upd H11 w.nd (.dK (kvN 0 ts)) d.r = some (.lst (d.ws.map V.int)) := fun d md => kk12 _ _ (rs d md) (ne_of_none L.nn (rH d md)).symm (d46 d md)
    generalize upd H11 w.nd (.dK (kvN 0 ts)) = H12 at ks12 old12 hh12 hn12 d312 w212 dr12 ⊢
    clear k11 h1 h2 fz fk kk9 kk8 kk12
    have dp12 := dkp (k := "names") (v := .ref p7) ks12 (Nat.le_refl 5)
    rw [put_n] at dp12
    refine ⟨_, dp12, ?_⟩
    have ks13 : upd H12 s (.dK (kd5 (.ref p5) (.ref h') (.ref p7) (.ref w.tk) (.ref w.sd))) s = some (.dK (kd5 (.ref p5) (.ref h') (.ref p7) (.ref w.tk) (.ref w.sd))) := upd_same
    have k13 : ∀ b o, b ≠ s → H12 b = some o → upd H12 s (.dK (kd5 (.ref p5) (.ref h') (.ref p7) (.ref w.tk) (.ref w.sd))) b = some o := fun b o n g => (upd_ne n).trans g
    generalize upd H12 s (.dK (kd5 (.ref p5) (.ref h') (.ref p7) (.ref w.tk) (.ref w.sd))) = H13 at ks13 k13 ⊢
    have nsl : ∀ {b xs}, H b = some (.lst xs) → b ≠ s := fun g => ne_of g L.ks (by intro z; cases z)
    have o13 : ∀ b o, b ≠ s → H b = some o → H13 b = some o := fun b o n g => k13 b o n (old12 b o n g)
    have sa13 := o13 _ _ (nsl L.sa) L.sa
    obtain ⟨trs, tk1, tk2⟩ := L.tt
    have tk13 := o13 _ _ (nsl tk1) tk1
    have ta13 : TupAll H13 trs (pendOf 0 ws) := by
      have : ∀ {l : List V} {yss}, TupAll H l yss → TupAll H13 l yss := fun h => by
        induction h with
        | nil => exact .nil
        | cons h f t ih => exact .cons (o13 _ _ (ne_of h L.ks (by intro z; cases z)) h) f ih
      exact this tk2
    have w213 := k13 _ _ pk2.1 w212
    have tlen := tk2.len
    have plen := pendOf_len (ws := ws) 0
    refine ⟨_, dkg ks13 kd_s, ?_⟩
    refine ⟨_, dkg ks13 kd_t, ?_⟩
    walk_at "w3"
    refine ⟨⟨_, .of tk13⟩, fun e1 ne1 => ?_⟩
    refine lc_list (xs := trs) (fun i Hx => Hx = upd H13 e1 (.lst (((pendOf 0 ws).take i).flatMap (sdP (goG ps)) |>.map V.int))) rfl (fun i Hx _ e => by rw [e]; exact .of ((upd_ne (ne_of_none tk13 ne1)).trans tk13)) (fun i x Hx hx e => ?_) fun Hx e => ?_
    · subst e
      obtain ⟨tp, xs, rfl, htp, ex⟩ := tups_get ta13 hx
      obtain ⟨a, p, n, rfl⟩ := pend_at3 ex
      have htp' : ∀ {acc}, upd H13 e1 (.lst acc) tp = some (.tup [.int a, .int p, .int n]) := fun {acc} => (upd_ne (ne_of_none htp ne1)).trans htp
      have il := (List.getElem?_eq_some_iff.mp hx).1
      have stp : ((pendOf 0 ws).take (i + 1)).flatMap (sdP (goG ps)) = ((pendOf 0 ws).take i).flatMap (sdP (goG ps)) ++ (if (goG ps p).isSome then [] else [n]) := by
        rw [List.take_add_one, ex, List.flatMap_append]
        congr 1
        show sdP (goG ps) [.int a, .int p, .int n] ++ [] = _
        rw [List.append_nil]
        rfl
      have bnd : (((pendOf 0 ws).take i).flatMap (sdP (goG ps))).length ≤ i := by
        have h1 : ∀ l : List (List V), (l.flatMap (sdP (goG ps))).length ≤ l.length := by
          intro l
          induction l with
          | nil => exact Nat.le_refl _
          | cons y r ih =>
            rw [List.flatMap_cons, List.length_append, List.length_cons]
            have : (sdP (goG ps) y).length ≤ 1 := by
              unfold sdP
              split
              · split
                · exact Nat.zero_le _
                · exact Nat.le_refl _
              · exact Nat.zero_le _
            omega
        have := h1 ((pendOf 0 ws).take i)
        rw [List.length_take] at this
        omega
      walk_at "w3"
      refine r_ixT (i := 1) htp' rfl ?_
      have dg := dget_i (i := p) ((upd_ne (o := .lst ((((pendOf 0 ws).take i).flatMap (sdP (goG ps))).map V.int)) (ne_of_none w213 ne1)).trans w213)
      rw [goG_val] at dg
      walk_at "w3"
      refine ⟨_, dg, ?_⟩
      rw [Option.isSome_map]
      cases eg : (goG ps p).isSome
      · rw [eg, if_neg Bool.false_ne_true] at stp
        rw [if_pos rfl]
        refine r_ixT (i := 2) htp' rfl ?_
        refine ⟨_, upd_same, by rw [List.length_map]; omega, ?_⟩
        rw [upd_upd, stp, List.map_append]
        rfl
      · rw [eg, if_pos rfl, List.append_nil] at stp
        rw [if_neg (by decide), stp]
    subst e
    rw [tlen, List.take_length, ← pend_sd]
    have s14 := same_new (o := .lst ((saidG (goG ps) ws).map V.int)) ne1
    have sl2 := said_len (g := goG ps) (ws := ws)
    refine ⟨_, _, s14 _ _ sa13, upd_same, by rw [List.length_map, List.length_map]; omega, fun sd' nsd => ?_⟩
    have s15 := same_new (o := .lst (ss.map V.int ++ (saidG (goG ps) ws).map V.int)) nsd
    have s35 := s14.trans s15
    have hsd : upd (upd H13 e1 (.lst ((saidG (goG ps) ws).map V.int))) sd' (.lst (ss.map V.int ++ (saidG (goG ps) ws).map V.int)) sd' = some (.lst ((ss ++ saidG (goG ps) ws).map V.int)) := by rw [upd_same, List.map_append]
    have sds : sd' ≠ s := (ne_of_none (s14 _ _ ks13) nsd).symm
    have n13 : H13 sd' = none := none_of s14 nsd
    generalize upd (upd H13 e1 (.lst ((saidG (goG ps) ws).map V.int))) sd' (.lst (ss.map V.int ++ (saidG (goG ps) ws).map V.int)) = H15 at s35 hsd ⊢
    have dp15 := dkp (k := "said") (v := .ref sd') (s35 _ _ ks13) (Nat.le_refl 5)
    rw [put_s] at dp15
    refine ⟨_, dp15, ?_⟩
    have ks16 : upd H15 s (.dK (kd5 (.ref p5) (.ref h') (.ref p7) (.ref w.tk) (.ref sd'))) s = some (.dK (kd5 (.ref p5) (.ref h') (.ref p7) (.ref w.tk) (.ref sd'))) := upd_same
    have k16 : ∀ b o, b ≠ s → H13 b = some o → upd H15 s (.dK (kd5 (.ref p5) (.ref h') (.ref p7) (.ref w.tk) (.ref sd'))) b = some o := fun b o n g => (upd_ne n).trans (s35 _ _ g)
    have hsd16 := (upd_ne (o := .dK (kd5 (.ref p5) (.ref h') (.ref p7) (.ref w.tk) (.ref sd'))) sds).trans hsd
    generalize upd H15 s (.dK (kd5 (.ref p5) (.ref h') (.ref p7) (.ref w.tk) (.ref sd'))) = H16 at ks16 k16 hsd16 ⊢
    have tk16 := k16 _ _ (nsl tk1) tk13
    have ta16 : TupAll H16 trs (pendOf 0 ws) := by
      have : ∀ {l : List V} {yss}, TupAll H13 l yss → TupAll H16 l yss := fun h => by
        induction h with
        | nil => exact .nil
        | cons h f t ih => exact .cons (k16 _ _ (ne_of h ks13 (by intro z; cases z)) h) f ih
      exact this ta13
    have w216 := k16 _ _ pk2.1 w213
    walk_at "w3"
    refine ⟨_, dkg ks16 kd_t, ?_⟩
    walk_at "w3"
    refine ⟨⟨_, .of tk16⟩, fun e2 ne2 => ?_⟩
    refine lc_list (xs := trs) (fun i Hx => ∃ acc, Same H16 Hx ∧ Hx e2 = some (.lst acc) ∧ TupAll Hx acc (((pendOf 0 ws).take i).filterMap (tkP (goG ps)))) ⟨[], same_new ne2, upd_same, .nil⟩ (fun i Hx _ e => .of (e.elim fun acc z => z.1 _ _ tk16)) (fun i x Hx hx e => ?_) fun Hx e => ?_
    · obtain ⟨acc, sx, hx2, tax⟩ := e
      obtain ⟨tp, xs, rfl, htp, ex⟩ := tups_get ta16 hx
      obtain ⟨a, p, n, rfl⟩ := pend_at3 ex
      have htp' := sx _ _ htp
      have il := (List.getElem?_eq_some_iff.mp hx).1
      have stp : ((pendOf 0 ws).take (i + 1)).filterMap (tkP (goG ps)) = ((pendOf 0 ws).take i).filterMap (tkP (goG ps)) ++ (match goG ps p with | some q => [[V.int a, .int q, .int n]] | none => []) := by
        rw [List.take_add_one, ex, List.filterMap_append]
        congr 1
        show List.filterMap (tkP (goG ps)) [[.int a, .int p, .int n]] = _
        rw [List.filterMap_cons, show tkP (goG ps) [.int a, .int p, .int n] = (goG ps p).map fun q => [.int a, .int q, .int n] from rfl]
        cases goG ps p <;> rfl
      have al : acc.length ≤ i := by
        have h1 := tax.len
        have h2 := List.length_filterMap_le (tkP (goG ps)) ((pendOf 0 ws).take i)
        rw [List.length_take] at h2
        omega
      walk_at "w3"
      refine r_ixT (i := 1) htp' rfl ?_
      have dg := dget_i (i := p) (sx _ _ w216)
      rw [goG_val] at dg
      walk_at "w3"
      refine ⟨_, dg, ?_⟩
      rw [Option.isSome_map]
      cases eg : goG ps p with
      | none =>
        rw [eg, List.append_nil] at stp
        rw [show (none : Option Int).isSome = false from rfl, if_neg Bool.false_ne_true]
        exact ⟨acc, sx, hx2, by rw [stp]; exact tax⟩
      | some q' =>
        rw [eg] at stp dg
        rw [show (some q').isSome = true from rfl, if_pos rfl]
        refine r_ixT (i := 0) htp' rfl (r_ixT (i := 1) htp' rfl ?_)
        walk_at "w3"
        refine ⟨_, dg, r_ixT (i := 2) htp' rfl ?_⟩
        refine ⟨by omega, fun t' nt' => ?_⟩
        have st := same_new (o := .tup [.int a, .int q', .int n]) nt'
        refine ⟨acc, st _ _ hx2, by omega, acc ++ [.ref t'], fun b o g => (upd_ne (ne_of_none g ne2)).trans (st _ _ (sx _ _ g)), upd_same, ?_⟩
        rw [stp]
        refine ((tax.same st).snoc (tp := t') (xs := [.int a, .int q', .int n]) upd_same (by
          intro x m
          rcases List.mem_cons.mp m with rfl | m
          · rfl
          rcases List.mem_cons.mp m with rfl | m
          · rfl
          · rw [List.mem_singleton.mp m]; rfl)).put (o' := .lst (acc ++ [.ref t'])) (st _ _ hx2) (fun xs z => by cases z)
    obtain ⟨acc, sx, hx2, tax⟩ := e
    rw [tlen, List.take_length, ← pend_tk] at tax
    have dpx := dkp (k := "tickets") (v := .ref e2) (sx _ _ ks16) (Nat.le_refl 5)
    rw [put_t] at dpx
    refine ⟨_, dpx, ?_⟩
    have e2s : e2 ≠ s := (ne_of_none ks16 ne2).symm
    have to17 : ∀ b o, b ≠ s → H12 b = some o → upd Hx s (.dK (kd5 (.ref p5) (.ref h') (.ref p7) (.ref e2) (.ref sd'))) b = some o := fun b o n g => (upd_ne n).trans (sx _ _ (k16 _ _ n (k13 _ _ n g)))
    have n16 : ∀ {x : Addr}, x ≠ s → H16 x = none → H x = none := fun {x} n nx => by
      cases e2 : H x with
      | none => rfl
      | some o =>
        rw [k16 _ _ n (o13 _ _ n e2)] at nx
        cases nx
    have nsd0 : H sd' = none := by
      cases e2 : H sd' with
      | none => rfl
      | some o =>
        rw [o13 _ _ sds e2] at n13
        cases n13
    have ne20 := n16 e2s ne2
    have g16 : ∀ {b o}, b ≠ s → H12 b = some o → H16 b = some o := fun n g => k16 _ _ n (k13 _ _ n g)
    have slr : ∀ c ∈ slC 0 D, ∃ d ∈ D, c.r = d.r ∧ c.ws = d.ws := fun c mc => by
      obtain ⟨k, d, ek, rfl⟩ := slC_mem mc
      exact ⟨d, List.mem_of_getElem? ek, rfl, rfl⟩
    refine q D ⟨p5, h', p7, e2, sd'⟩ _ pm so d1 d2 { ks := upd_same, dd := to17 _ _ pk5.1 d312, rw_ := fun c mc => ?_, rd := slC_rd d5, hh := to17 _ _ hs7 hh12, nn := to17 _ _ p7s hn12, tt := ⟨acc, (upd_ne e2s).trans hx2, tax.put (sx _ _ ks16) (fun xs z => by cases z)⟩, sa := (upd_ne sds).trans (sx _ _ hsd16), n1 := pk5.1.symm, n2 := p7s.symm, n3 := p7k.2.symm, n4 := ne_of_none (g16 hs7 hh12) ne2, n5 := ne_of_none (k13 _ _ hs7 hh12) n13, n6 := fun c mc => ?_ } (fun x hx => ?_) fun b o n g => to17 b o n (old12 b o n g)
    · obtain ⟨d, md, e1, e2⟩ := slr c mc
      rw [e1, e2]
      exact to17 _ _ (rs d md) (dr12 d md)
    · obtain ⟨d, md, e1, -⟩ := slr c mc
      rw [e1]
      exact ⟨ne_of_none (d46 d md) nh, ne_of_none (g16 (rs d md) (dr12 d md)) ne2, ne_of_none (k13 _ _ (rs d md) (dr12 d md)) n13⟩
    · rcases hx with rfl | rfl | rfl | rfl | rfl | ⟨d, md, rfl⟩
      · exact np5H
      · exact h'H
      · exact p7n
      · exact ne20
      · exact nsd0
      · exact rH d md
end

local macro_rules | `(tactic| walk_at "w3") => `(tactic| try simp only [↓x_var0, ↓x_varS, ↓x_c, ↓x_op, ↓x_un, ↓x_cb, ↓x_nil, ↓x_cons, ↓x_test, ↓x_b, ↓x_ex, ↓x_and, ↓x_or, ↓x_not, ↓x_andV, ↓x_orV, ↓x_notV, ↓x_tif, ↓x_chain, ↓x_menu, ↓x_menuI, ↓x_lst, ↓x_tup, ↓x_dnew, ↓x_callW, ↓x_callN, ↓x_seq, ↓x_next, ↓x_ret, ↓x_retN, ↓x_drop, ↓x_ifS, ↓x_asg, ↓x_name, ↓x_raise, ↓x_fld, ↓x_setF, ↓x_meth, ↓x_make, ↓x_sub, ↓r_min, ↓r_max, ↓x_yes, ↓x_for, ↓x_lock, ↓x_keys, ↓x_cut, ↓x_lc, ↓x_rng1, ↓x_rng2, ↓x_lst1, ↓x_itup, ↓x_rng3, ↓x_three, ↓x_lstg, ↓x_tupg, ↓x_adrS, ↓x_one, ↓x_two, ↓x_adr, ↓x_sl, ↓x_np, ↓x_pt, ↓x_int, ↓x_bm, ↓x_bm0, ↓x_consg, ↓x_nilg, ↓x_dget2, ↓x_dget1, ↓x_dgetN, ↓x_dget, ↓x_din, ↓x_dni, ↓x_dput, ↓x_dpop2, ↓r_isB, ↓r_notB, ↓x_enum, ↓x_zip, ↓x_str, ↓x_strE, ↓r_inS, ↓r_ninS, wipe, List.map_cons, List.map_nil, ↓x_isT, ↓r_isiII, ↓r_isiBB, ↓r_isiIB, ↓r_isiSS, ↓r_neNS, ↓r_neSN, ↓r_neNN, ↓r_eqNS, ↓r_eqSN, ↓r_eqNN, ↓r_eqIS, ↓r_neIS, ↓r_neSI, ↓r_neBS, ↓r_eqBB, ↓r_neBB, ↓x_start, ↓x_K, ↓x_start0, ↓r_i0, ↓r_i, ↓r_u, ↓r_addI, ↓r_addS, ↓r_mulI, ↓r_mulS, ↓r_eqI, ↓r_neI, ↓r_eqS, ↓r_neS, ↓r_absI, ↓r_intI, ↓r_intB, List.length_cons, List.length_nil, List.replicate, List.set_cons_zero, List.set_cons_succ, decide_eq_true_eq, Bool.not_eq_true', decide_eq_false_iff_not, if_true, if_false, Bool.false_eq_true, Bool.true_eq_false, ite_true, ite_false, Bool.not_true, Bool.not_false, c_div, n_ten, c_pow, not_true_eq_false, not_false_eq_true, decide_true, decide_false, true_and, and_true, and_self, true_or, or_true, Int.reduceLT, Int.reduceLE, Int.reduceMul, Int.reduceAdd, Int.reduceSub, Int.reducePow, Int.reduceNeg, Int.reduceDiv, Int.reduceMod, Nat.reducePow, Int.reduceToNat, Int.reduceEq, Int.reduceNe, Nat.reduceLT, Nat.reduceLeDiff, Nat.reduceAdd, ↓x_whole, ↓x_kind, Int.natCast_one, Int.natCast_one, Int.natCast_one, Int.natCast_one, Int.natCast_one, Int.natCast_one, Int.natCast_one, Int.natCast_one])
theorem Lo16.cells {s H w C hs ts ws ss S} (L : Lo16 s H w C hs ts ws ss) (cp : CelP S C) : CellsO kp H S w.d C := ⟨L.dd, L.rw_, cp.hd, cp.sl, cp.ar, cp.dj, L.rd⟩
theorem CelP.pw {S : ArS} {C E : List CeL} (h : CelP S C) (e : E.map (fun c => (c.p, c.ws)) = C.map fun c => (c.p, c.ws)) : CelP S E := by
  have tr : ∀ b ∈ E, ∃ a ∈ C, b.p = a.p ∧ b.ws = a.ws := fun b mb => by
    have : (b.p, b.ws) ∈ C.map fun c => (c.p, c.ws) := by rw [← e]; exact List.mem_map.mpr ⟨b, mb, rfl⟩
    obtain ⟨a, ma, ea⟩ := List.mem_map.mp this
    exact ⟨a, ma, (congrArg Prod.fst ea).symm, (congrArg Prod.snd ea).symm⟩
  refine ⟨fun b mb => ?_, fun b mb j hj => ?_, fun b mb => ?_, ?_⟩
  · obtain ⟨a, ma, e1, e2⟩ := tr b mb
    rw [e1, e2]
    exact h.hd a ma
  · obtain ⟨a, ma, e1, e2⟩ := tr b mb
    rw [e2] at hj
    rw [e1, e2]
    exact h.sl a ma j hj
  · obtain ⟨a, ma, e1, e2⟩ := tr b mb
    rw [e1, e2]
    exact h.ar a ma
  · have h1 : (C.map fun c => (c.p, c.ws)).Pairwise fun a b => a.1 + a.2.length < b.1 ∨ b.1 + b.2.length < a.1 := List.pairwise_map.mpr h.dj
    rw [← e] at h1
    exact List.pairwise_map.mp h1
theorem chain_slC {ws : List Int} : ∀ {D : List CeL} {t : Nat}, (∀ c ∈ slC t D, headAt (ws.getD c.p 0) = some (4 * c.ws.length + 2)) → t + sumW D ≤ ws.length → Chain ws (t + sumW D) t (plcC (slC t D))
  | [], t, _, _ => .nil (Nat.le_refl _)
  | d :: r, t, h, hl => by
    have e : sumW (d :: r) = (d.ws.length + 1) + sumW r := rfl
    have h0 := h ⟨t, d.r, d.ws⟩ List.mem_cons_self
    have ih := chain_slC (ws := ws) (D := r) (t := t + (d.ws.length + 1)) (fun c m => h c (List.mem_cons_of_mem _ m)) (by omega)
    refine .cons (k := 4 * d.ws.length + 2) (by omega) (by omega) h0 ?_
    rw [show (4 * d.ws.length + 2) / 4 + 1 = d.ws.length + 1 from by omega, show t + sumW (d :: r) = t + (d.ws.length + 1) + sumW r from by omega]
    exact ih
def sp_stands16 (K : PySem.W.Frag) : Sp := fun vs H Q _ => ∃ A R S U s w D, vs = [.ref A.a, .ref R.r, .ref s, .int (sumW D : Int)] ∧ PairO K H A R S U ∧ Lo16 s H w (slC 0 D) U.hs U.ts U.ws U.ss ∧ CelP S (slC 0 D) ∧ (∀ c ∈ slC 0 D, headAt (S.ws.getD c.p 0) = some (4 * c.ws.length + 2)) ∧ S.ot = sumW D ∧ (∀ f, S.t f = S.b f) ∧ U.bs = [] ∧ (∀ d ∈ D, d.ws.length ≤ 8) ∧ D.length ≤ 1000 ∧ (∀ t ∈ U.ts, flatN t = true) ∧ U.ts.length ≤ 1000 ∧ U.ws.length ≤ 1000 ∧ U.ss.length ≤ 1000 ∧ s ≠ U.bd ∧ w.d ≠ U.bd ∧ w.nd ≠ U.bd ∧
  ∀ H', Same H H' → Q (.bl true) H'
theorem head_num {x : Int} {k : Nat} (h : headAt x = some k) : x = 2 * (k : Int) := by
  unfold headAt at h
  cases e : wordOf x with
  | none => rw [e] at h; cases h
  | some y =>
    rw [e] at h
    cases y with
    | num n =>
      dsimp only at h
      split at h
      · have e2 := Option.some.inj h
        unfold wordOf at e
        repeat' split at e
        all_goals first
          | (cases e; done)
          | (cases e; omega)
      · cases h
    | _ => cases h
theorem row_words {ws row : List Int} {p : Nat} (h0 : ws.getD p 0 = 8 * (row.length : Int) + 4) (h : ∀ j, j < row.length → ws.getD (p + 1 + j) 0 = row.getD j 0) : (List.range (row.length + 1)).map (fun i => V.int (ws.getD (p + i) 0)) = ((8 * (row.length : Int) + 4) :: row).map V.int := by
  refine List.ext_getElem (by rw [List.length_map, List.length_map, List.length_range, List.length_cons]) fun i h1 h2 => ?_
  rw [List.length_map, List.length_range] at h1
  rw [List.getElem_map, List.getElem_map, List.getElem_range]
  cases i with
  | zero =>
    show V.int (ws.getD (p + 0) 0) = V.int (8 * (row.length : Int) + 4)
    rw [Nat.add_zero, h0]
  | succ i =>
    have hi : i < row.length := by omega
    show V.int (ws.getD (p + (i + 1)) 0) = V.int (row[i]'hi)
    rw [show p + (i + 1) = p + 1 + i from by omega, h i hi, List.getD_eq_getElem?_getD, List.getElem?_eq_getElem hi]
    rfl
theorem kvN_at : ∀ {ts : List V} {k i : Nat} {q : Key × V}, (kvN k ts)[i]? = some q → q.1 = .inl ((k + i : Nat) : Int) ∧ ts[i]? = some q.2
  | [], _, _, _, e => by cases e
  | t :: r, k, 0, q, e => by cases e; exact ⟨rfl, rfl⟩
  | t :: r, k, i + 1, q, e => by
    obtain ⟨a, b⟩ := kvN_at (ts := r) (k := k + 1) (i := i) e
    exact ⟨by rw [a, show k + 1 + i = k + (i + 1) from by omega], b⟩
section
variable {P : Program} {w : World} {K : PySem.W.Frag} {mg : Str → Option Value} {base : Heap}
theorem f__law_stands (T : Tx K mg) : Fn P w K mg base 8 "_law_stands" ["_law_areas", "_law_roots", "_law_s", "_law_top"] (sp_stands16 K) := by
  have c_Book_places := f_Book_places (P := P) (w := w) (base := base) T
  have c_Space_used := f_Space_used (P := P) (w := w) (base := base) T
  have c_Hands_row := f_Hands_row (P := P) (w := w) (base := base) T
  have c_Space_cells := f_Space_cells (P := P) (w := w) (base := base) T
  have c_Memory_read := f_Memory_read (P := P) (w := w) (base := base) T
  have c_Weak_at := f_Weak_at (P := P) (w := w) (base := base) T
  have c_Lasts_pending := f_Lasts_pending (P := P) (w := w) (base := base) T
  have c_Weak_names := f_Weak_names (P := P) (w := w) (base := base) T
  have c_Lasts_said := f_Lasts_said (P := P) (w := w) (base := base) T
  refine T.mkFn 77 48 (d := d__law_stands) (N := ["_law_areas", "_law_roots", "_law_s", "_law_top", "_law_at", "_law_row", "_law_k", "_law_name", "_law_due"]) (k := 7) rfl rfl rfl rfl rfl sc__law_stands (fun _ _ _ _ _ _ us hl => match us, hl with | [_, _, _, _], _ => rfl) (fun vs H Q E h => ?len) (fun cdv A outer s H vs Q E hr h => ⟨_,
      (pss_cut (ps_if (PW.pt (pw_or (pt_cmpR (op_neK (K := K) rfl hr.units) (pe_lst (pa_cons (pe_fldC (T.cls 92) (T.noat 103) (pe_fldC (T.cls 104) (T.noat 111) (pv 0))) (pa_cons (pe_mt0 (K := K) rfl (takes_of rfl rfl rfl rfl) (pe_fldC (T.cls 104) (T.noat 112) (pv 0)) c_Space_used (hr.mono (by decide))) (pa_cons (pe_mt0 (K := K) rfl (takes_of rfl rfl rfl rfl) (pe_fldC (T.cls 104) (T.noat 113) (pv 0)) c_Space_used (hr.mono (by decide))) pa_nil)))) (pe_lst (pa_cons (pv 3) (pa_cons pe_int (pa_cons pe_int pa_nil)))) (nomark _)) (pw_or1 (pt_cmpR (op_neK (K := K) rfl hr.units) (pe_mt0 (K := K) rfl (takes_of rfl rfl rfl rfl) (pe_fldC (T.cls 149) (T.noat 153) (pv 1)) c_Book_places (hr.mono (by decide))) (pe_lst pa_nil) (nomark _))))) (pss_one (ps_ret pe_bl)) pss_nil)
        (pss_cut (ps_if (PW.pt (pw_or (pt_cmpR (op_neK (K := K) rfl hr.units) (pe_mt (K := K) rfl (takes_of rfl rfl rfl rfl) (pe_fldC (T.cls 104) (T.noat 111) (pv 0)) c_Space_cells (hr.mono (by decide)) (pa_cons (pe_fldC (T.cls 104) (T.noat 110) (pv 0)) pa_nil)) (pe_callTy (call_listD rfl) (by rfl) (T.free 71) (by decide +kernel) (pa_cons (pe_dget (hu_of hr) (pv 2) pe_str (fun _ _ => rfl)) pa_nil)) (nomark _)) (pw_or1 (pt_cmpR (op_neK (K := K) rfl hr.units) (pe_mt0 (K := K) rfl (takes_of rfl rfl rfl rfl) (pe_fldC (T.cls 149) (T.noat 152) (pv 1)) c_Hands_row (hr.mono (by decide))) (pe_dget (hu_of hr) (pv 2) pe_str (fun _ _ => rfl)) (nomark _))))) (pss_one (ps_ret pe_bl)) pss_nil)
        (pss_cons (ps_lock (ps_for (passes_of rfl) rfl (pi_keys (pe_dget (hu_of hr) (pv 2) pe_str (fun _ _ => rfl))) (pg_name (i := 4) sc__law_stands.nd rfl (Or.inr rfl)) (pss_cons (ps_set (i := 5) sc__law_stands.nd rfl (Or.inl rfl) (pe_op op_gAdd (pe_lst (pa_cons (pe_op op_gAdd (pe_op op_gMul pe_int (pe_callB (call_lenK (K := K) rfl) (by rfl) (T.free 64) PySem.boot_len (pa_cons (pe_dget (hu_of hr) (pe_dget (hu_of hr) (pv 2) pe_str (fun _ _ => rfl)) (pv 4) (fun _ _ => rfl)) pa_nil))) pe_int) pa_nil)) (pe_dget (hu_of hr) (pe_dget (hu_of hr) (pv 2) pe_str (fun _ _ => rfl)) (pv 4) (fun _ _ => rfl))))
        (pss_one (ps_if (pt_cmpR (op_neK (K := K) rfl hr.units) (pe_lc (own := [("_law_k", 6)]) (g := gName 6) rfl sc__law_stands.nd (pi_range1 rfl (T.free 66) (pa_cons (pe_callB (call_lenK (K := K) rfl) (by rfl) (T.free 64) PySem.boot_len (pa_cons (pv 5) pa_nil)) pa_nil)) (blkOk_by (own := [("_law_k", 6)]) (N := ["_law_areas", "_law_roots", "_law_s", "_law_top", "_law_at", "_law_row", "_law_k", "_law_name", "_law_due"]) (sc := defScope s__law_stands) (by decide +kernel)) (fun _ _ _ _ _ => (pg_name (i := 6) sc__law_stands.nd rfl (Or.inl rfl))) (fun _ _ _ _ _ => pts_nil) (fun _ _ _ _ _ => (pe_mt (K := K) rfl takes0 (pe_fldC (T.cls 104) (T.noat 110) (pv 0)) c_Memory_read (hr.mono (by decide)) (pa_cons (pe_op op_gAdd (pv 4) (pv 6)) pa_nil)))) (pv 5) (nomark _)) (pss_one (ps_ret pe_bl)) pss_nil)))))
        (pss_cons (ps_lock (ps_for (passes_of rfl) rfl (pi_keys (pe_dget (hu_of hr) (pv 2) pe_str (fun _ _ => rfl))) (pg_name (i := 7) sc__law_stands.nd rfl (Or.inl rfl)) (pss_one (ps_if (pt_cmpR (op_neK (K := K) rfl hr.units) (pe_mt (K := K) rfl (takes_of rfl rfl rfl rfl) (pe_fldC (T.cls 149) (T.noat 154) (pv 1)) c_Weak_at (hr.mono (by decide)) (pa_cons (pv 7) pa_nil)) (pe_dget (hu_of hr) (pe_dget (hu_of hr) (pv 2) pe_str (fun _ _ => rfl)) (pv 7) (fun _ _ => rfl)) (nomark _)) (pss_one (ps_ret pe_bl)) pss_nil))))
        (pss_cons (ps_lock (ps_setLc (i := 8) (own := [("_law_name", 7)]) (g := gName 7) rfl sc__law_stands.nd rfl rfl (sw_true rfl rfl rfl (by decide +kernel)) (pi_keys (pe_dget (hu_of hr) (pv 2) pe_str (fun _ _ => rfl))) (blkOk_by (own := [("_law_name", 7)]) (N := ["_law_areas", "_law_roots", "_law_s", "_law_top", "_law_at", "_law_row", "_law_k", "_law_name", "_law_due"]) (sc := defScope s__law_stands) (by decide +kernel)) (fun _ _ _ _ _ => (pg_name (i := 7) sc__law_stands.nd rfl (Or.inl rfl))) (fun _ _ _ _ _ => pts_one (pt_cmpR op_notN (pe_dget (hu_of hr) (pe_dget (hu_of hr) (pv 2) pe_str (fun _ _ => rfl)) (pv 7) (fun _ _ => rfl)) pe_non (nomark _))) (fun _ _ _ _ _ => (pe_tup (pa_cons (pv 7) (pa_cons (pe_dget (hu_of hr) (pe_dget (hu_of hr) (pv 2) pe_str (fun _ _ => rfl)) (pv 7) (fun _ _ => rfl)) pa_nil))))))
        (pss_cons (ps_if (PW.pt (pw_or (pt_cmpR (op_neK (K := K) rfl hr.units) (pe_mt0 (K := K) rfl (takes_of rfl rfl rfl rfl) (pe_fldC (T.cls 149) (T.noat 154) (pv 1)) c_Weak_names (hr.mono (by decide))) (pv 8) (nomark _)) (pw_or1 (pt_cmpR (op_neK (K := K) rfl hr.units) (pe_mt0 (K := K) rfl (takes_of rfl rfl rfl rfl) (pe_fldC (T.cls 149) (T.noat 155) (pv 1)) c_Lasts_pending (hr.mono (by decide))) (pe_dget (hu_of hr) (pv 2) pe_str (fun _ _ => rfl)) (nomark _))))) (pss_one (ps_ret pe_bl)) pss_nil)
        (pss_one (ps_ret (pe_cmpR (op_eqK (K := K) rfl hr.units) (pe_mt0 (K := K) rfl (takes_of rfl rfl rfl rfl) (pe_fldC (T.cls 149) (T.noat 155) (pv 1)) c_Lasts_said (hr.mono (by decide))) (pe_dget (hu_of hr) (pv 2) pe_str (fun _ _ => rfl)) (nomark _)))))))))), ?rd⟩)
  case len => first | exact len__law_stands h | (repeat (first | (obtain ⟨rfl, _⟩ := h; rfl; done) | obtain ⟨_, h⟩ := h))
  case rd =>
    obtain ⟨A, R, S, U, s, w, D, rfl, I, L, cp, ag, eo, et, eb, d8, dl, fl, tl, wl, sl, sb, db, nb, q⟩ := h
    have sz : 1000000 ≤ sizeLine := by rw [sizeLine_eq]; omega
    have dkg : ∀ {Hx : Hp} {k : Str} {v : V} {kvs : List (Key × V)}, Hx s = some (.dK kvs) → valV kvs (.inr k : Key) = some v → DGet Hx s (.str k) (some v) := fun {Hx k v kvs} g e => by
      have := DGet.k (k := (.inr k : Key)) g
      rw [e] at this
      exact this
    walk_at "w3"
    have hy := I.ar.half S.fl
    have hz := I.ar.half (!S.fl)
    refine ⟨fun σ' H' => σ' = [some (.ref A.a), some (.ref R.r), some (.ref s), some (.int (sumW D : Int)), none, none, none, none, none] ∧ Same H H', ?_, ?_⟩
    · refine ⟨_, fldIs I.ar.ob, _, fldIs I.ar.so, _, fldIs I.ar.ob, recv hy, _, _, _, _, _, rfl, hy, _, fldIs I.ar.ob, recv hz, _, _, _, _, _, rfl, hz, by omega, fun p np => ⟨by omega, fun p' np' => ?_⟩⟩
      rw [eo, et S.fl, et (!S.fl), Int.sub_self, Int.sub_self]
      have s1 := same_new (o := .lst [.int (sumW D : Int), .int 0, .int 0]) np
      have s2 := same_new (o := .lst [.int (sumW D : Int), .int 0, .int 0]) np'
      rw [eo, et S.fl, et (!S.fl), Int.sub_self, Int.sub_self] at np'
      have s2 := same_new (o := .lst [.int (sumW D : Int), .int 0, .int 0]) np'
      refine r_neInts (ns := [(sumW D : Int), 0, 0]) (s2 _ _ upd_same) upd_same ?_
      have J := I.same (s1.trans s2)
      walk_at "w3"
      refine ⟨_, fldIs J.ro.ob, recv J.ro.bo.ob, _, _, _, _, rfl, J.ro.bo, by rw [eb]; decide, fun ns r H2 pn so nr s3 hr => ?_⟩
      rw [eb] at pn
      have : ns = [] := pn.eq_nil
      subst this
      refine ⟨by omega, fun p3 np3 => ?_⟩
      have s4 := same_new (o := .lst []) np3
      refine r_neNil (ns := []) (s4 _ _ hr) upd_same ?_
      walk_at "w3"
      exact ((s1.trans s2).trans s3).trans s4
    rintro σ' H1 ⟨rfl, s1⟩
    have I1 := I.same s1
    have L1 := L.same s1
    refine ⟨fun σ' H' => σ' = [some (.ref A.a), some (.ref R.r), some (.ref s), some (.int (sumW D : Int)), none, none, none, none, none] ∧ Same H H', ?_, ?_⟩
    · walk_at "w3"
      have lo := I.ar.lo
      have ln := I.ar.ln
      have ch := chain_slC (ws := S.ws) (D := D) (t := 0) ag (by omega)
      rw [Nat.zero_add] at ch
      refine ⟨_, fldIs I1.ar.ob, recv I1.ar.so, _, fldIs I1.ar.ob, _, _, _, _, _, _, _, _, _, _, rfl, I1.ar.so, I1.ar.me, I1.ar.vw, by rw [eo]; exact ch, fun p H2 np s2 hp => ?_⟩
      have L2 := L1.same s2
      refine ⟨_, dkg L2.ks kd_c, ?_⟩
      refine ⟨w.d, _, rfl, .inl L2.dd, fun p3 np3 => ?_⟩
      rw [kvs_keys]
      have s3 := same_new (o := .lst ((plcC (slC 0 D)).map V.int)) np3
      refine r_neInts (s3 _ _ hp) upd_same ?_
      walk_at "w3"
      have s13 := (s1.trans s2).trans s3
      have J := I.same s13
      refine ⟨_, fldIs J.ro.ob, recv J.ro.ho.ob, R.h, R.hx, R.hl, U.hs, rfl, J.ro.ho, fun p4 np4 => ?_⟩
      have s4 := same_new (o := .lst (U.hs.map V.int)) np4
      have L4 := L.same (s13.trans s4)
      refine ⟨_, dkg L4.ks kd_h, ?_⟩
      refine r_neInts upd_same L4.hh ?_
      walk_at "w3"
      exact s13.trans s4
    clear s1 I1 L1
    rintro σ' H1 ⟨rfl, s1⟩
    have I1 := I.same s1
    have L1 := L.same s1
    refine lockD L1.dd fun od => ?_
    have J1 := I1.offD (o := .frz od (.dK (kvsOf kp (slC 0 D)))) L1.dd db
    have fz : upd H1 w.d (.frz od (.dK (kvsOf kp (slC 0 D)))) w.d = some (.frz od (.dK (kvsOf kp (slC 0 D)))) := upd_same
    have fk : ∀ b o, b ≠ w.d → H1 b = some o → upd H1 w.d (.frz od (.dK (kvsOf kp (slC 0 D)))) b = some o := fun b o n g => (upd_ne n).trans g
    have unf : ∀ {Hx}, Same (upd H1 w.d (.frz od (.dK (kvsOf kp (slC 0 D))))) Hx → Same H1 (upd Hx w.d (.dK (kvsOf kp (slC 0 D)))) := fun {Hx} m b o g => by
      by_cases e : b = w.d
      · subst e
        rw [L1.dd] at g
        cases g
        exact upd_same
      · exact (upd_ne e).trans (m _ _ (fk b o e g))
    generalize upd H1 w.d (.frz od (.dK (kvsOf kp (slC 0 D)))) = H2 at J1 fz fk unf ⊢
    have ks2 := fk _ _ L1.n1 L1.ks
    walk_at "w3"
    refine ⟨_, dkg ks2 kd_c, ?_⟩
    walk_at "w3"
    refine ⟨od, .inl ⟨_, fz, ?_⟩⟩
    refine forW_keys (fun i σ H' => ∃ o4 o5, σ = [some (.ref A.a), some (.ref R.r), some (.ref s), some (.int (sumW D : Int)), o4, o5, none, none, none] ∧ Same H2 H') ⟨_, _, rfl, Same.refl _⟩ ?_ ?_ ?_
    · rintro i σ H' hi ⟨o4, o5, rfl, s2⟩
      exact s2 _ _ fz
    · rintro i key v σ H' hx ⟨o4, o5, rfl, s2⟩
      obtain ⟨c, hc, ek, ev⟩ : ∃ c, (slC 0 D)[i]? = some c ∧ key = .inl (kp c.p) ∧ v = .ref c.r := by
        unfold kvsOf at hx
        rw [List.getElem?_map] at hx
        cases e : (slC 0 D)[i]? with
        | none => rw [e] at hx; cases hx
        | some c => rw [e] at hx; cases hx; exact ⟨c, rfl, rfl, rfl⟩
      subst ek ev
      have mc := List.mem_of_getElem? hc
      rw [show kV (.inl (kp c.p) : Key) = V.int (c.p : Int) from rfl]
      have kv := kvs_some (f := kp) ((L.cells cp).keys fun a b (e : (a : Int) = b) => by omega) mc
      have dg := fun {Hx : Hp} (m : Same H2 Hx) => dget_f (i := (c.p : Int)) (m _ _ fz)
      rw [show (.inl (c.p : Int) : Key) = .inl (kp c.p) from rfl, kv] at dg
      have hr2 : H2 c.r = some (.lst (c.ws.map V.int)) := fk _ _ (ne_of (L1.rw_ c mc) L1.dd (by intro z; cases z)) (L1.rw_ c mc)
      have c8 : c.ws.length ≤ 8 := by
        obtain ⟨k, d, ek, rfl⟩ := slC_mem mc
        exact d8 d (List.mem_of_getElem? ek)
      walk_at "w3"
      refine ⟨_, dkg (s2 _ _ ks2) kd_c, ?_⟩
      walk_at "w3"
      refine ⟨_, dg s2, ?_⟩
      refine r_lenL (s2 _ _ hr2) ?_
      walk_at "w3"
      rw [List.length_map]
      refine ⟨by omega, fun p np => ?_⟩
      have s3 := s2.trans (same_new (o := .lst [.int (8 * (c.ws.length : Int) + 4)]) np)
      have hp3 : upd H' p (.lst [.int (8 * (c.ws.length : Int) + 4)]) p = some (.lst [.int (8 * (c.ws.length : Int) + 4)]) := upd_same
      generalize upd H' p (.lst [.int (8 * (c.ws.length : Int) + 4)]) = H3 at s3 hp3 ⊢
      refine ⟨_, dkg (s3 _ _ ks2) kd_c, ?_⟩
      walk_at "w3"
      refine ⟨_, dg s3, ?_⟩
      refine ⟨_, _, hp3, s3 _ _ hr2, by rw [List.length_map]; show 1 + _ ≤ _; omega, fun r nr => ?_⟩
      have s4 := s3.trans (same_new (o := .lst ([.int (8 * (c.ws.length : Int) + 4)] ++ c.ws.map V.int)) nr)
      have hr4 : upd H3 r (.lst ([.int (8 * (c.ws.length : Int) + 4)] ++ c.ws.map V.int)) r = some (.lst (((8 * (c.ws.length : Int) + 4) :: c.ws).map V.int)) := upd_same
      generalize upd H3 r (.lst ([.int (8 * (c.ws.length : Int) + 4)] ++ c.ws.map V.int)) = H4 at s4 hr4 ⊢
      refine r_lenL hr4 ?_
      walk_at "w3"
      rw [List.length_map]
      refine ⟨by omega, by omega, fun q1 nq1 => ?_⟩
      rw [Int.toNat_natCast]
      have lt := cp.lt I.ar.ln I.ar.lo (I.ar.lt _).2 c mc
      refine lc_mapR (fun i => .int (S.ws.getD (c.p + i) 0)) (fun _ => rfl) (by omega) (fun j hj acc Q2 q2 => ?_) ?_
      · rw [Int.zero_add]
        walk_at "w3"
        have J5 := J1.same (s4.trans (same_new (o := .lst acc) nq1))
        refine ⟨_, fldIs J5.ar.ob, recv J5.ar.me.ob, A.m, A.mx, A.l, S.ws, _, rfl, J5.ar.me, .inl ⟨_, rfl⟩, ?_⟩
        rw [show (c.p : Int) + (j : Int) = ((c.p + j : Nat) : Int) from by omega, placeOf_int, if_pos ⟨by omega, by omega⟩, Int.toNat_natCast]
        exact q2
      have hd := head_num (ag c mc)
      rw [row_words (by rw [hd]; omega) (cp.sl c mc)]
      have s5 := s4.trans (same_new (o := .lst (((8 * (c.ws.length : Int) + 4) :: c.ws).map V.int)) nq1)
      refine r_neInts upd_same ((same_new nq1) _ _ hr4) ?_
      walk_at "w3"
      exact ⟨_, _, rfl, s5⟩
    rintro σ H3 ⟨o4, o5, rfl, s3⟩
    have s4 := unf s3
    walk_at "w3"
    refine ⟨s3 _ _ fz, ?_⟩
    have s14 := s1.trans s4
    clear unf fk fz ks2 J1 s1 I1 L1
    generalize upd H3 w.d (.dK (kvsOf kp (slC 0 D))) = H4 at s4 s14 ⊢
    have I4 := I.same s14
    have L4 := L.same s14
    refine lockD L4.nn fun od2 => ?_
    have J1 := I4.offD (o := .frz od2 (.dK (kvN 0 U.ts))) L4.nn nb
    have fz : upd H4 w.nd (.frz od2 (.dK (kvN 0 U.ts))) w.nd = some (.frz od2 (.dK (kvN 0 U.ts))) := upd_same
    have fk : ∀ b o, b ≠ w.nd → H4 b = some o → upd H4 w.nd (.frz od2 (.dK (kvN 0 U.ts))) b = some o := fun b o n g => (upd_ne n).trans g
    have unf : ∀ {Hx}, Same (upd H4 w.nd (.frz od2 (.dK (kvN 0 U.ts)))) Hx → Same H4 (upd Hx w.nd (.dK (kvN 0 U.ts))) := fun {Hx} m b o g => by
      by_cases e : b = w.nd
      · subst e
        rw [L4.nn] at g
        cases g
        exact upd_same
      · exact (upd_ne e).trans (m _ _ (fk b o e g))
    generalize upd H4 w.nd (.frz od2 (.dK (kvN 0 U.ts))) = H5 at J1 fz fk unf ⊢
    have ks5 := fk _ _ L4.n2 L4.ks
    walk_at "w3"
    refine ⟨_, dkg ks5 kd_n, ?_⟩
    walk_at "w3"
    refine ⟨od2, .inl ⟨_, fz, ?_⟩⟩
    refine forW_keys (fun i σ H' => ∃ o7, σ = [some (.ref A.a), some (.ref R.r), some (.ref s), some (.int (sumW D : Int)), o4, o5, none, o7, none] ∧ Same H5 H') ⟨_, rfl, Same.refl _⟩ ?_ ?_ ?_
    · rintro i σ H' hi ⟨o7, rfl, s2⟩
      exact s2 _ _ fz
    · rintro i key v σ H' hx ⟨o7, rfl, s2⟩
      obtain ⟨ek, ev⟩ := kvN_at hx
      rw [Nat.zero_add] at ek
      have ek : key = .inl (i : Int) := ek
      have ev : U.ts[i]? = some v := ev
      subst ek
      have il := (List.getElem?_eq_some_iff.mp ev).1
      rw [show kV (.inl (i : Int) : Key) = V.int (i : Int) from rfl]
      have dn := dget_f (i := (i : Int)) (s2 _ _ fz)
      have vv := kvN_val (ts := U.ts) (k := 0) (i := i)
      rw [Nat.zero_add, ev] at vv
      rw [vv] at dn
      have J := J1.same s2
      walk_at "w3"
      refine ⟨_, fldIs J.ro.ob, recv J.ro.wo.ob, R.w, R.wx, R.wl, U.ts, _, rfl, J.ro.wo, .inl ⟨_, rfl⟩, ?_⟩
      rw [placeOf_int, if_pos ⟨by omega, by omega⟩, Int.toNat_natCast]
      dsimp only
      rw [show U.ts.getD i .non = v from by rw [List.getD_eq_getElem?_getD, ev]; rfl]
      refine ⟨_, dkg (s2 _ _ ks5) kd_n, ?_⟩
      walk_at "w3"
      refine ⟨_, dn, ?_⟩
      have f := fl v (List.mem_of_getElem? ev)
      have ve : (flatV v = true) ∧ eqV v v = true := by
        cases v with
        | non => exact ⟨rfl, rfl⟩
        | int n => exact ⟨rfl, by show (n == n) = true; exact beq_self_eq_true n⟩
        | _ => cases f
      rw [r_neF ve.1 ve.1, ve.2]
      walk_at "w3"
      exact ⟨_, rfl, s2⟩
    rintro σ H6 ⟨o7, rfl, s6⟩
    have s46 := unf s6
    walk_at "w3"
    refine ⟨s6 _ _ fz, ?_⟩
    have s16 := s14.trans s46
    clear unf fk fz ks5 J1 s4 s14 I4 L4 s46
    generalize upd H6 w.nd (.dK (kvN 0 U.ts)) = H7 at s16 ⊢
    have I7 := I.same s16
    have L7 := L.same s16
    refine lockD L7.nn fun od3 => ?_
    have fz : upd H7 w.nd (.frz od3 (.dK (kvN 0 U.ts))) w.nd = some (.frz od3 (.dK (kvN 0 U.ts))) := upd_same
    have fk : ∀ b o, b ≠ w.nd → H7 b = some o → upd H7 w.nd (.frz od3 (.dK (kvN 0 U.ts))) b = some o := fun b o n g => (upd_ne n).trans g
    have unf : ∀ {Hx}, Same (upd H7 w.nd (.frz od3 (.dK (kvN 0 U.ts)))) Hx → Same H7 (upd Hx w.nd (.dK (kvN 0 U.ts))) := fun {Hx} m b o g => by
      by_cases e : b = w.nd
      · subst e
        rw [L7.nn] at g
        cases g
        exact upd_same
      · exact (upd_ne e).trans (m _ _ (fk b o e g))
    generalize upd H7 w.nd (.frz od3 (.dK (kvN 0 U.ts))) = H8 at fz fk unf ⊢
    have ks8 := fk _ _ L7.n2 L7.ks
    walk_at "w3"
    refine ⟨_, dkg ks8 kd_n, ?_⟩
    walk_at "w3"
    refine ⟨od3, .inl ⟨_, fz, fun D1 nD => ?_⟩⟩
    refine lc_it walk_keys (fun i Hx => ∃ acc, Same H8 Hx ∧ Hx D1 = some (.lst acc) ∧ TupAll Hx acc (pairsOf 0 (U.ts.take i))) ⟨[], same_new nD, upd_same, .nil⟩ (fun i Hx _ e => e.elim fun acc z => z.1 _ _ fz) (fun i x Hx Hy hi e y => ?_) fun Hx e => ?_
    · obtain ⟨rfl, key, v, hx, rfl⟩ := y
      obtain ⟨acc, sx, hD, ta⟩ := e
      obtain ⟨ek, ev⟩ := kvN_at hx
      rw [Nat.zero_add] at ek
      have ek : key = .inl (i : Int) := ek
      have ev : U.ts[i]? = some v := ev
      subst ek
      have il := (List.getElem?_eq_some_iff.mp ev).1
      rw [show kV (.inl (i : Int) : Key) = V.int (i : Int) from rfl]
      have dn := fun {Hz : Hp} (m : Same H8 Hz) => dget_f (i := (i : Int)) (m _ _ fz)
      have vv := kvN_val (ts := U.ts) (k := 0) (i := i)
      rw [Nat.zero_add, ev] at vv
      rw [vv] at dn
      have al : acc.length ≤ 1000 := by
        have h1 := ta.len
        have h2 := pairsOf_len (ts := U.ts.take i) 0
        rw [List.length_take] at h2
        omega
      have stp : pairsOf 0 (U.ts.take (i + 1)) = pairsOf 0 (U.ts.take i) ++ (if v = .non then [] else [[.int (i : Int), v]]) := by
        rw [List.take_add_one, ev]
        show pairsOf 0 (U.ts.take i ++ [v]) = _
        rw [pairsOf_snoc, Nat.zero_add, show (U.ts.take i).length = i from by rw [List.length_take]; omega]
      walk_at "w3"
      refine ⟨_, dkg (sx _ _ ks8) kd_n, ?_⟩
      walk_at "w3"
      refine ⟨_, dn sx, ?_⟩
      have f := fl v (List.mem_of_getElem? ev)
      by_cases vn : v = .non
      · rw [if_pos vn, List.append_nil] at stp
        rw [if_neg (fun z => z vn)]
        exact ⟨acc, sx, hD, by rw [stp]; exact ta⟩
      · rw [if_neg vn] at stp
        rw [if_pos vn]
        refine ⟨_, dkg (sx _ _ ks8) kd_n, ?_⟩
        walk_at "w3"
        refine ⟨_, dn sx, by omega, fun t' nt' => ?_⟩
        have st := same_new (o := .tup [.int (i : Int), v]) nt'
        refine ⟨acc, st _ _ hD, by omega, acc ++ [.ref t'], fun b o g => (upd_ne (ne_of_none g nD)).trans (st _ _ (sx _ _ g)), upd_same, ?_⟩
        rw [stp]
        refine ((ta.same st).snoc (tp := t') (xs := [.int (i : Int), v]) upd_same (by
          intro x m
          rcases List.mem_cons.mp m with rfl | m
          · rfl
          · rw [List.mem_singleton.mp m]; exact flatN_I f)).put (o' := .lst (acc ++ [.ref t'])) (st _ _ hD) (fun xs z => by cases z)
    obtain ⟨acc, sx, hD, ta⟩ := e
    rw [kvN_len, List.take_length] at ta
    walk_at "w3"
    refine ⟨sx _ _ fz, ?_⟩
    have s78 := unf sx
    have nDn : D1 ≠ w.nd := (ne_of_none fz nD).symm
    have hD9 := (upd_ne (o := .dK (kvN 0 U.ts)) nDn).trans hD
    have ta9 := ta.put (o' := .dK (kvN 0 U.ts)) (sx _ _ fz) (fun xs z => by cases z)
    have s19 := s16.trans s78
    generalize upd Hx w.nd (.dK (kvN 0 U.ts)) = H9 at hD9 ta9 s19 ⊢
    have I9 := I.same s19
    have L9 := L.same s19
    refine ⟨_, fldIs I9.ro.ob, recv I9.ro.wo.ob, R.w, R.wx, R.wl, U.ts, rfl, I9.ro.wo, by omega, fl, fun r rs H10 nr s10 hr tr => ?_⟩
    refine r_neSame (dp_tups hr tr) (dp_tups (s10 _ _ hD9) (ta9.same s10)) sh_tups ?_
    walk_at "w3"
    have I10 := I9.same s10
    refine ⟨_, fldIs I10.ro.ob, recv I10.ro.lo.ob, R.la, R.lax, R.d, R.e, _, U.ws, U.ss, rfl, I10.ro.lo, by omega, fun r2 rs2 H11 nr2 s11 hr2 tr2 => ?_⟩
    have L11 := (L9.same s10).same s11
    refine ⟨_, dkg L11.ks kd_t, ?_⟩
    obtain ⟨trs, tk1, tk2⟩ := L11.tt
    refine r_neSame (dp_tups hr2 tr2) (dp_tups tk1 tk2) sh_tups ?_
    walk_at "w3"
    have I11 := I10.same s11
    refine ⟨_, fldIs I11.ro.ob, recv I11.ro.lo.ob, R.la, R.lax, R.d, R.e, _, U.ws, U.ss, rfl, I11.ro.lo, fun r3 nr3 => ?_⟩
    have s12 := same_new (o := .lst (U.ss.map V.int)) nr3
    have L12 := L11.same s12
    refine ⟨_, dkg L12.ks kd_s, ?_⟩
    exact r_eqInts upd_same L12.sa (q _ (((s19.trans s10).trans s11).trans s12))
end

local macro_rules | `(tactic| walk_at "w3") => `(tactic| try simp only [↓x_var0, ↓x_varS, ↓x_c, ↓x_op, ↓x_un, ↓x_cb, ↓x_nil, ↓x_cons, ↓x_test, ↓x_b, ↓x_ex, ↓x_and, ↓x_or, ↓x_not, ↓x_andV, ↓x_orV, ↓x_notV, ↓x_tif, ↓x_chain, ↓x_menu, ↓x_menuI, ↓x_lst, ↓x_tup, ↓x_dnew, ↓x_callW, ↓x_callN, ↓x_seq, ↓x_next, ↓x_ret, ↓x_retN, ↓x_drop, ↓x_ifS, ↓x_asg, ↓x_name, ↓x_raise, ↓x_fld, ↓x_setF, ↓x_meth, ↓x_make, ↓x_sub, ↓r_min, ↓r_max, ↓x_yes, ↓x_for, ↓x_lock, ↓x_keys, ↓x_cut, ↓x_lc, ↓x_rng1, ↓x_rng2, ↓x_lst1, ↓x_itup, ↓x_rng3, ↓x_three, ↓x_lstg, ↓x_tupg, ↓x_adrS, ↓x_one, ↓x_two, ↓x_adr, ↓x_sl, ↓x_np, ↓x_pt, ↓x_int, ↓x_bm, ↓x_bm0, ↓x_consg, ↓x_nilg, ↓x_dget2, ↓x_dget1, ↓x_dgetN, ↓x_dget, ↓x_din, ↓x_dni, ↓x_dput, ↓x_dpop2, ↓r_isB, ↓r_notB, ↓x_enum, ↓x_zip, ↓x_str, ↓x_strE, ↓r_inS, ↓r_ninS, wipe, List.map_cons, List.map_nil, ↓x_isT, ↓r_isiII, ↓r_isiBB, ↓r_isiIB, ↓r_isiSS, ↓r_neNS, ↓r_neSN, ↓r_neNN, ↓r_eqNS, ↓r_eqSN, ↓r_eqNN, ↓r_eqIS, ↓r_neIS, ↓r_neSI, ↓r_neBS, ↓r_eqBB, ↓r_neBB, ↓x_start, ↓x_K, ↓x_start0, ↓r_i0, ↓r_i, ↓r_u, ↓r_addI, ↓r_addS, ↓r_mulI, ↓r_mulS, ↓r_eqI, ↓r_neI, ↓r_eqS, ↓r_neS, ↓r_absI, ↓r_intI, ↓r_intB, List.length_cons, List.length_nil, List.replicate, List.set_cons_zero, List.set_cons_succ, decide_eq_true_eq, Bool.not_eq_true', decide_eq_false_iff_not, if_true, if_false, Bool.false_eq_true, Bool.true_eq_false, ite_true, ite_false, Bool.not_true, Bool.not_false, c_div, n_ten, c_pow, not_true_eq_false, not_false_eq_true, decide_true, decide_false, true_and, and_true, and_self, true_or, or_true, Int.reduceLT, Int.reduceLE, Int.reduceMul, Int.reduceAdd, Int.reduceSub, Int.reducePow, Int.reduceNeg, Int.reduceDiv, Int.reduceMod, Nat.reducePow, Int.reduceToNat, Int.reduceEq, Int.reduceNe, Nat.reduceLT, Nat.reduceLeDiff, Nat.reduceAdd, ↓x_whole, ↓x_kind, Int.natCast_one, Int.natCast_one, Int.natCast_one, Int.natCast_one, Int.natCast_one, Int.natCast_one, Int.natCast_one, Int.natCast_one, Int.natCast_one])
theorem sum_sub {w : Int → Int} (h : ∀ x, 0 ≤ w x) : ∀ {xs U : List Int}, xs.Nodup → (∀ x ∈ xs, x ∈ U) → (xs.map w).sum ≤ (U.map w).sum
  | [], U, _, _ => sum_ge h U
  | x :: r, U, nd, hs => by
    obtain ⟨n1, n2⟩ := List.nodup_cons.mp nd
    have hx := hs x List.mem_cons_self
    have e := sum_perm ((List.perm_cons_erase hx).map w)
    have ih := sum_sub h (xs := r) (U := U.erase x) n2 fun y m => (List.mem_erase_of_ne (fun z => n1 (by rw [← z]; exact m))).mpr (hs y (List.mem_cons_of_mem _ m))
    rw [e, List.map_cons, List.map_cons, List.sum_cons, List.sum_cons]
    omega
theorem kept_sum {S : ArS} {C : List CeL} (cp : CelP S C) {ks kept : List Int} (RC : ReC C ks kept) : (kept.map (wC C)).sum ≤ (sumW C : Int) := by
  rw [← wC_sum cp]
  exact sum_sub (fun x => wC_ge) RC.nd fun x mx => by
    obtain ⟨c, mc, e⟩ := RC.cl x mx
    exact List.mem_map.mpr ⟨c, mc, e.symm⟩
theorem sumW_slC : ∀ {D : List CeL} {t : Nat}, sumW (slC t D) = sumW D
  | [], _ => rfl
  | d :: r, t => by
    show (d.ws.length + 1) + sumW (slC _ r) = (d.ws.length + 1) + sumW r
    rw [sumW_slC]
theorem slC_pw : ∀ {D E : List CeL} {t : Nat}, D.map (·.ws) = E.map (·.ws) → (slC t D).map (fun c => (c.p, c.ws)) = (slC t E).map fun c => (c.p, c.ws)
  | [], [], _, _ => rfl
  | [], e :: r, _, h => by cases h
  | d :: r, [], _, h => by cases h
  | d :: r, e :: r', t, h => by
    have h1 : d.ws = e.ws := (List.cons.inj h).1
    have h2 : r.map (·.ws) = r'.map (·.ws) := (List.cons.inj h).2
    show (t, d.ws) :: (slC (t + (d.ws.length + 1)) r).map _ = (t, e.ws) :: (slC (t + (e.ws.length + 1)) r').map _
    rw [h1, slC_pw h2]
theorem turn_cl {S : ArS} {C D : List CeL} {qs : List Int} (cp : CelP S C) (nd : qs.Nodup) (dp : D.map (fun c => (c.p : Int)) = qs) (dl : ∀ d ∈ D, wC C d.p = (d.ws.length : Int) + 1) (tot : sumW D ≤ 9999) {w : Int} (hw : (wordOf w).isSome = true) (hk : ∀ p, wordOf w = some (.place p) → p ∈ qs) : ClW (slC 0 D) (turnW (goF (goL (wC C) 0 qs)) w) := by
  obtain ⟨x, ex⟩ := Option.isSome_iff_exists.mp hw
  cases x with
  | place p =>
    obtain ⟨k, ek⟩ := List.getElem?_of_mem (hk p ex)
    have gk := goP_mem cp nd ek
    obtain ⟨d, ed, epd⟩ : ∃ d, D[k]? = some d ∧ p = (d.p : Int) := by
      rw [← dp, List.getElem?_map] at ek
      cases e : D[k]? with
      | none => rw [e] at ek; cases ek
      | some d => rw [e] at ek; cases ek; exact ⟨d, rfl, rfl⟩
    have sd : ((qs.take k).map (wC C)).sum = (sumW (D.take k) : Int) := by
      rw [← dp, ← List.map_take]
      exact wC_D fun d m => dl d (List.mem_of_mem_take m)
    rw [turnW_place ex, show goF (goL (wC C) 0 qs) p = (sumW (D.take k) : Int) from by unfold goF; rw [show goG (goL (wC C) 0 qs) p = some _ from gk, ← sd]; rfl]
    have m := List.mem_of_getElem? (slC_get (t := 0) ed)
    have b := sum_all (D := D) (k := k)
    have := ClW.cell m (by show 0 + sumW (D.take k) ≤ 9999; omega)
    rw [show ((⟨0 + sumW (D.take k), d.r, d.ws⟩ : CeL).p : Int) = (sumW (D.take k) : Int) from by show ((0 + sumW (D.take k) : Nat) : Int) = _; rw [Nat.zero_add]] at this
    exact this
  | num n =>
    rw [turnW_other ex fun p z => by cases z]
    exact ⟨hw, fun p e => by rw [ex] at e; cases e⟩
  | nothing =>
    rw [turnW_other ex fun p z => by cases z]
    exact ⟨hw, fun p e => by rw [ex] at e; cases e⟩
theorem PairO.butD {K : PySem.W.Frag} {H H' : Hp} {A : ArA} {R : RoA} {S : ArS} {U : RoS} {c : Addr} {kv : List (Key × V)} (h : PairO K H A R S U) (e : H c = some (.dK kv)) (n : c ≠ U.bd) (k : ∀ b o, b ≠ c → H b = some o → H' b = some o) : PairO K H' A R S U := by
  have nl : ∀ {b xs}, H b = some (.lst xs) → b ≠ c := fun g => ne_of g e (by intro z; cases z)
  have ni : ∀ {b C d fs}, H b = some (.ins C d fs) → b ≠ c := fun g => ne_of g e (by intro z; cases z)
  refine h.fr (fun b o m g => k b o ?_ g) fun b xs g => k _ _ (ne_of g e (by intro z; cases z)) g
  rcases m with rfl | rfl | rfl | rfl | rfl | rfl | rfl | rfl | rfl | rfl | rfl | rfl | rfl | rfl | rfl | rfl
  · exact ni h.ar.ob
  · exact ni h.ar.me.ob
  · exact nl h.ar.me.ls
  · exact ni h.ar.so
  · exact ni h.ar.sp
  · exact ni h.ar.sq
  · exact ni h.ro.ob
  · exact ni h.ro.ho.ob
  · exact nl h.ro.ho.ls
  · exact ni h.ro.bo.ob
  · exact n.symm
  · exact ni h.ro.wo.ob
  · exact nl h.ro.wo.ls
  · exact ni h.ro.lo.ob
  · exact nl h.ro.lo.wa
  · exact nl h.ro.lo.sk
/-- what belongs to areas, roots and the law's record -/
def Own16 (A : ArA) (R : RoA) (bd s : Addr) (w : W16) (C : List CeL) (x : Addr) : Prop :=
  (x = A.a ∨ x = A.l ∨ x = A.o ∨ x = A.p ∨ x = A.q ∨ x = R.hl ∨ x = R.wl ∨ x = R.d ∨ x = R.e ∨ x = R.b ∨ x = bd) ∨ (x = s ∨ x = w.d ∨ x = w.h ∨ x = w.nd ∨ x = w.tk ∨ x = w.sd) ∨ ∃ c ∈ C, x = c.r
structure I16g (K : PySem.W.Frag) (A : ArA) (R : RoA) (s : Addr) (H0 H : Hp) (S : ArS) (U : RoS) (w : W16) (C : List CeL) (m : Nat) (hs : List Int) : Prop where
  I : PairO K H A R S U
  L : Lo16 s H w C hs U.ts U.ws U.ss
  cp : CelP S C
  cw : ∀ c ∈ C, ∀ w ∈ c.ws, ClW C w
  hw : ∀ w ∈ U.hs, ClW C w
  cl : C.length ≤ m
  sw : sumW C ≤ S.n
  fl : ∀ t ∈ U.ts, flatN t = true
  tl : U.ts.length ≤ 12
  wl : U.ws.length ≤ 12
  sl : U.ss.length ≤ 12 * m
  bl : U.bs.length ≤ 100 * m
  hl : U.hs.length ≤ 6
  ro : RowsOff A R C
  oh : OffP A R w.h ∧ OffP A R w.tk ∧ OffP A R w.sd
  ob : s ≠ U.bd ∧ w.d ≠ U.bd ∧ w.nd ≠ U.bd
  n0 : ∀ x, Own16 A R U.bd s w C x → H0 x = none
  s0 : Same H0 H
abbrev I16 (K : PySem.W.Frag) (A : ArA) (R : RoA) (s : Addr) (H0 H : Hp) (S : ArS) (U : RoS) (w : W16) (C : List CeL) (m : Nat) : Prop := I16g K A R s H0 H S U w C m U.hs
section
variable {P : Program} {w : World} {K : PySem.W.Frag} {mg : Str → Option Value} {base : Heap}
end

local macro_rules | `(tactic| walk_at "w3") => `(tactic| try simp only [↓x_var0, ↓x_varS, ↓x_c, ↓x_op, ↓x_un, ↓x_cb, ↓x_nil, ↓x_cons, ↓x_test, ↓x_b, ↓x_ex, ↓x_and, ↓x_or, ↓x_not, ↓x_andV, ↓x_orV, ↓x_notV, ↓x_tif, ↓x_chain, ↓x_menu, ↓x_menuI, ↓x_lst, ↓x_tup, ↓x_dnew, ↓x_callW, ↓x_callN, ↓x_seq, ↓x_next, ↓x_ret, ↓x_retN, ↓x_drop, ↓x_ifS, ↓x_asg, ↓x_name, ↓x_raise, ↓x_fld, ↓x_setF, ↓x_meth, ↓x_make, ↓x_sub, ↓r_min, ↓r_max, ↓x_yes, ↓x_for, ↓x_lock, ↓x_keys, ↓x_cut, ↓x_lc, ↓x_rng1, ↓x_rng2, ↓x_lst1, ↓x_itup, ↓x_rng3, ↓x_three, ↓x_lstg, ↓x_tupg, ↓x_adrS, ↓x_one, ↓x_two, ↓x_adr, ↓x_sl, ↓x_np, ↓x_pt, ↓x_int, ↓x_bm, ↓x_bm0, ↓x_consg, ↓x_nilg, ↓x_dget2, ↓x_dget1, ↓x_dgetN, ↓x_dget, ↓x_din, ↓x_dni, ↓x_dput, ↓x_dpop2, ↓r_isB, ↓r_notB, ↓x_enum, ↓x_zip, ↓x_str, ↓x_strE, ↓r_inS, ↓r_ninS, wipe, List.map_cons, List.map_nil, ↓x_isT, ↓r_isiII, ↓r_isiBB, ↓r_isiIB, ↓r_isiSS, ↓r_neNS, ↓r_neSN, ↓r_neNN, ↓r_eqNS, ↓r_eqSN, ↓r_eqNN, ↓r_eqIS, ↓r_neIS, ↓r_neSI, ↓r_neBS, ↓r_eqBB, ↓r_neBB, ↓x_start, ↓x_K, ↓x_start0, ↓r_i0, ↓r_i, ↓r_u, ↓r_addI, ↓r_addS, ↓r_mulI, ↓r_mulS, ↓r_eqI, ↓r_neI, ↓r_eqS, ↓r_neS, ↓r_absI, ↓r_intI, ↓r_intB, List.length_cons, List.length_nil, List.replicate, List.set_cons_zero, List.set_cons_succ, decide_eq_true_eq, Bool.not_eq_true', decide_eq_false_iff_not, if_true, if_false, Bool.false_eq_true, Bool.true_eq_false, ite_true, ite_false, Bool.not_true, Bool.not_false, c_div, n_ten, c_pow, not_true_eq_false, not_false_eq_true, decide_true, decide_false, true_and, and_true, and_self, true_or, or_true, Int.reduceLT, Int.reduceLE, Int.reduceMul, Int.reduceAdd, Int.reduceSub, Int.reducePow, Int.reduceNeg, Int.reduceDiv, Int.reduceMod, Nat.reducePow, Int.reduceToNat, Int.reduceEq, Int.reduceNe, Nat.reduceLT, Nat.reduceLeDiff, Nat.reduceAdd, ↓x_whole, ↓x_kind, Int.natCast_one, Int.natCast_one, Int.natCast_one, Int.natCast_one, Int.natCast_one, Int.natCast_one, Int.natCast_one, Int.natCast_one, Int.natCast_one, Int.natCast_one])
def sp_collected16 (K : PySem.W.Frag) : Sp := fun vs H Q _ => ∃ A R s H0 S U w C m, vs = [.ref A.a, .ref R.r, .ref s] ∧ I16 K A R s H0 H S U w C m ∧ m ≤ 50 ∧
  ∀ S' U' w' C' H', I16 K A R s H0 H' S' U' w' C' (m + 1) → S'.n = S.n → S'.k = S.k → (∀ f, S'.t f = S'.b f) → S'.ot = sumW C' → U'.hs.length = U.hs.length → Q (.bl true) H'
theorem Own16.off {K : PySem.W.Frag} {A : ArA} {R : RoA} {S : ArS} {U : RoS} {H : Hp} (h : PairO K H A R S U) {x : Addr} (e : H x = none) : ∀ y, (y = A.a ∨ y = A.l ∨ y = A.o ∨ y = A.p ∨ y = A.q ∨ y = R.hl ∨ y = R.wl ∨ y = R.d ∨ y = R.e ∨ y = R.b ∨ y = U.bd) → x ≠ y := by
  rintro y (rfl | rfl | rfl | rfl | rfl | rfl | rfl | rfl | rfl | rfl | rfl)
  · exact (ne_of_none h.ar.ob e).symm
  · exact (ne_of_none h.ar.me.ls e).symm
  · exact (ne_of_none h.ar.so e).symm
  · exact (ne_of_none h.ar.sp e).symm
  · exact (ne_of_none h.ar.sq e).symm
  · exact (ne_of_none h.ro.ho.ls e).symm
  · exact (ne_of_none h.ro.wo.ls e).symm
  · exact (ne_of_none h.ro.lo.wa e).symm
  · exact (ne_of_none h.ro.lo.sk e).symm
  · exact (ne_of_none h.ro.bo.ob e).symm
  · exact (ne_of_none h.ro.bo.ds e).symm
theorem Lo16.fr {s : Addr} {H H' : Hp} {w : W16} {C : List CeL} {hs : List Int} {ts : List V} {ws : List (Option (Int × Int))} {ss : List Int} (L : Lo16 s H w C hs ts ws ss) (k : ∀ b o, (b = s ∨ b = w.d ∨ b = w.h ∨ b = w.nd ∨ b = w.tk ∨ b = w.sd ∨ ∃ c ∈ C, b = c.r) → H b = some o → H' b = some o) (kt : ∀ b xs, H b = some (.tup xs) → H' b = some (.tup xs)) : Lo16 s H' w C hs ts ws ss := by
  refine { L with ks := k _ _ (.inl rfl) L.ks, dd := k _ _ (.inr (.inl rfl)) L.dd, rw_ := fun c m => k _ _ (.inr (.inr (.inr (.inr (.inr (.inr ⟨c, m, rfl⟩)))))) (L.rw_ c m), hh := k _ _ (.inr (.inr (.inl rfl))) L.hh, nn := k _ _ (.inr (.inr (.inr (.inl rfl)))) L.nn, tt := ?_, sa := k _ _ (.inr (.inr (.inr (.inr (.inr (.inl rfl)))))) L.sa }
  obtain ⟨rs, t1, t2⟩ := L.tt
  have : ∀ {l : List V} {yss}, TupAll H l yss → TupAll H' l yss := fun h => by
    induction h with
    | nil => exact .nil
    | cons h f t ih => exact .cons (kt _ _ h) f ih
  exact ⟨rs, k _ _ (.inr (.inr (.inr (.inr (.inl rfl))))) t1, this t2⟩
section
variable {P : Program} {w : World} {K : PySem.W.Frag} {mg : Str → Option Value} {base : Heap}
theorem f__law_collected (T : Tx K mg) : Fn P w K mg base 9 "_law_collected" ["_law_areas", "_law_roots", "_law_s"] (sp_collected16 K) := by
  have c__law_moved := f__law_moved (P := P) (w := w) (base := base) T
  have c_collect_all := f_collect_all (P := P) (w := w) (base := base) T
  have c__law_stands := f__law_stands (P := P) (w := w) (base := base) T
  refine T.mkFn 78 49 (d := d__law_collected) (N := ["_law_areas", "_law_roots", "_law_s", "_law_top", "_law_found"]) (k := 8) rfl rfl rfl rfl rfl sc__law_collected (fun _ _ _ _ _ _ us hl => match us, hl with | [_, _, _], _ => rfl) (fun vs H Q E h => ?len) (fun cdv A outer s H vs Q E hr h => ⟨_,
      (pss_cons (ps_set (i := 3) sc__law_collected.nd rfl (Or.inl rfl) (pe_fn (takes_of rfl rfl rfl rfl) c__law_moved (hr.mono (by decide)) (by rfl) (pa_cons (pv 2) pa_nil)))
        (pss_cons (ps_set (i := 4) sc__law_collected.nd rfl (Or.inl rfl) (pe_fn (takes_of rfl rfl rfl rfl) c_collect_all (hr.mono (by decide)) (by rfl) (pa_cons (pv 0) (pa_cons (pv 1) pa_nil))))
        (pss_cons (ps_if (PW.pt (pw_or (pt_not (pt_val (pe_callB call_gIsi (by rfl) (T.free 63) (by decide +kernel) (pa_cons (pv 4) (pa_cons (pe_ty (T := "int") (T.free 69) (by decide +kernel) (by rfl)) pa_nil))))) (pw_or (pt_val (pe_callB call_gIsi (by rfl) (T.free 63) (by decide +kernel) (pa_cons (pv 4) (pa_cons (pe_ty (T := "bool") (T.free 70) (by decide +kernel) (by rfl)) pa_nil)))) (pw_or1 (pt_cmpR (op_neK (K := K) rfl hr.units) (pv 4) (pv 3) (nomark _)))))) (pss_one (ps_ret pe_bl)) pss_nil)
        (pss_one (ps_ret (pe_fn (takes_of rfl rfl rfl rfl) c__law_stands (hr.mono (by decide)) (by rfl) (pa_cons (pv 0) (pa_cons (pv 1) (pa_cons (pv 2) (pa_cons (pv 3) pa_nil)))))))))), ?rd⟩)
  case len => first | exact len__law_collected h | (repeat (first | (obtain ⟨rfl, _⟩ := h; rfl; done) | obtain ⟨_, h⟩ := h))
  case rd =>
    obtain ⟨A, R, s, H0, S, U, w, C, m, rfl, J, hm, q⟩ := h
    have sz : 1000000 ≤ sizeLine := by rw [sizeLine_eq]; omega
    have I := J.I
    have L := J.L
    have cp := J.cp
    have gn := I.ar.gn
    have gk := I.ar.gk
    have ln := I.ar.ln
    have lo := I.ar.lo
    have clt := cp.lt ln lo (I.ar.lt S.fl).2
    have c8 : ∀ c ∈ C, c.ws.length ≤ 8 := fun c mc => by
      obtain ⟨k, -, h1, h2⟩ := cp.head mc (clt c mc)
      omega
    have ksC : ∀ x ∈ placesW U.hs, x ∈ plcC C := fun x mx => by
      obtain ⟨w, mw, e⟩ := List.mem_filterMap.mp mx
      cases ew : wordOf w with
      | none => rw [ew] at e; cases e
      | some y =>
        rw [ew] at e
        cases y with
        | place p =>
          cases e
          obtain ⟨c, mc, rfl⟩ := (J.hw w mw).2 _ ew
          exact List.mem_map.mpr ⟨c, mc, rfl⟩
        | _ => cases e
    have RC := reachC_is cp J.cw ksC
    have ksum := kept_sum cp RC
    have jsw := J.sw
    have jcl := J.cl
    have jhl := J.hl
    have jtl := J.tl
    have jwl := J.wl
    have jsl := J.sl
    walk_at "w3"
    refine ⟨s, w, C, U.hs, U.ts, U.ws, U.ss, S, rfl, L, cp, c8, J.cw, J.hw, by omega, by omega, J.fl, by omega, by omega, by omega, by omega, fun qs D w1 H1 pm so dp dw L1 fresh k1 => ?_⟩
    walk_at "w3"
    have nds : qs.Nodup := pm.nodup_iff.mpr RC.nd
    have I1 := I.butD L.ks J.ob.1 k1
    refine ⟨A, R, S, U, C, rfl, I1, cp, J.cw, J.hw, by omega, by omega, by omega, J.fl, by omega, by omega, fun ss D2 S2 U2 H2 SR I2 nb2 k2 => ?_⟩
    obtain rfl : qs = ss := sort_one RC.nd RC.nd (fun i => Iff.rfl) pm SR.pm so SR.so
    have eD : D2.map (·.ws) = D.map (·.ws) := by
      have h1 : ∀ (k : Nat) a b, D2[k]? = some a → D[k]? = some b → a.ws = b.ws := fun k a b ea eb => by
        obtain ⟨c1, m1, e1, -, e2⟩ := SR.dw a (List.mem_of_getElem? ea)
        obtain ⟨c2, m2, e3, e4⟩ := dw b (List.mem_of_getElem? eb)
        have p1 : qs[k]? = some (a.p : Int) := by rw [← SR.dp, List.getElem?_map, ea]; rfl
        have p2 : qs[k]? = some (b.p : Int) := by rw [← dp, List.getElem?_map, eb]; rfl
        rw [p1] at p2
        have p3 := Option.some.inj p2
        have := cp.same_p m1 m2 (by omega)
        subst this
        rw [e2, e4]
      have hl : D2.length = D.length := by
        have h2 := congrArg List.length SR.dp
        have h3 := congrArg List.length dp
        rw [List.length_map] at h2 h3
        omega
      refine List.ext_getElem (by rw [List.length_map, List.length_map, hl]) fun i i1 i2 => ?_
      rw [List.length_map] at i1 i2
      rw [List.getElem_map, List.getElem_map]
      exact h1 i _ _ (List.getElem?_eq_getElem i1) (List.getElem?_eq_getElem i2)
    have epw := slC_pw (t := 0) eD
    have cp2 : CelP S2 (slC 0 D) := SR.ce.pw epw.symm
    have sumE : sumW D2 = sumW D := by
      have : ∀ E : List CeL, sumW E = ((E.map (·.ws)).map fun r => r.length + 1).sum := fun E => by
        unfold sumW
        rw [List.map_map]
        rfl
      rw [this D2, this D, eD]
    have ag2 : ∀ c ∈ slC 0 D, headAt (S2.ws.getD c.p 0) = some (4 * c.ws.length + 2) := fun b mb => by
      have : (b.p, b.ws) ∈ (slC 0 D2).map fun c => (c.p, c.ws) := by rw [epw]; exact List.mem_map.mpr ⟨b, mb, rfl⟩
      obtain ⟨a, ma, ea⟩ := List.mem_map.mp this
      have e1 : a.p = b.p := congrArg Prod.fst ea
      have e2 : a.ws = b.ws := congrArg Prod.snd ea
      rw [← e1, ← e2]
      exact SR.ag a ma
    have dl : ∀ d ∈ D, wC C d.p = (d.ws.length : Int) + 1 := fun d md => by
      obtain ⟨c, mc, e1, e2⟩ := dw d md
      rw [← e1, wC_mem cp mc, e2, List.length_map]
    have d8 : ∀ d ∈ D, d.ws.length ≤ 8 := fun d md => by
      obtain ⟨c, mc, e1, e2⟩ := dw d md
      rw [e2, List.length_map]
      exact c8 c mc
    have lD : D.length ≤ C.length := by
      have h3 := congrArg List.length dp
      rw [List.length_map] at h3
      have := nd_len (U := plcC C) nds fun x mx => by
        obtain ⟨c, mc, e⟩ := RC.cl x (pm.mem_iff.mp mx)
        exact List.mem_map.mpr ⟨c, mc, e.symm⟩
      rw [plc_len] at this
      omega
    have sD : (sumW D : Int) ≤ (sumW C : Int) := by
      have h := wC_D dl
      rw [dp, sum_perm (pm.map _)] at h
      omega
    -- the law's record stays
    have fn : ∀ x, (x = w1.d ∨ x = w1.h ∨ x = w1.nd ∨ x = w1.tk ∨ x = w1.sd ∨ ∃ d ∈ D, x = d.r) → H x = none := fresh
    have offO : ∀ x, H x = none → ∀ y, (y = A.a ∨ y = A.l ∨ y = A.o ∨ y = A.p ∨ y = A.q ∨ y = R.hl ∨ y = R.wl ∨ y = R.d ∨ y = R.e ∨ y = R.b ∨ y = U.bd) → x ≠ y := fun x e => Own16.off I e
    have keep : ∀ b o, (∀ y, (y = A.a ∨ y = A.l ∨ y = A.o ∨ y = A.p ∨ y = A.q ∨ y = R.hl ∨ y = R.wl ∨ y = R.d ∨ y = R.e ∨ y = R.b ∨ y = U.bd) → b ≠ y) → H1 b = some o → H2 b = some o := fun b o h g => k2 b o (h _ (.inl rfl)) (h _ (.inr (.inl rfl))) (h _ (.inr (.inr (.inl rfl)))) (h _ (.inr (.inr (.inr (.inl rfl))))) (h _ (.inr (.inr (.inr (.inr (.inl rfl)))))) (h _ (.inr (.inr (.inr (.inr (.inr (.inl rfl))))))) (h _ (.inr (.inr (.inr (.inr (.inr (.inr (.inl rfl)))))))) (h _ (.inr (.inr (.inr (.inr (.inr (.inr (.inr (.inl rfl))))))))) (h _ (.inr (.inr (.inr (.inr (.inr (.inr (.inr (.inr (.inl rfl)))))))))) (h _ (.inr (.inr (.inr (.inr (.inr (.inr (.inr (.inr (.inr (.inl rfl))))))))))) (h _ (.inr (.inr (.inr (.inr (.inr (.inr (.inr (.inr (.inr (.inr rfl))))))))))) g
    have sO : ∀ y, (y = A.a ∨ y = A.l ∨ y = A.o ∨ y = A.p ∨ y = A.q ∨ y = R.hl ∨ y = R.wl ∨ y = R.d ∨ y = R.e ∨ y = R.b ∨ y = U.bd) → s ≠ y := by
      have g := L.ks
      rintro y (rfl | rfl | rfl | rfl | rfl | rfl | rfl | rfl | rfl | rfl | rfl)
      · exact ne_of g I.ar.ob (by intro z; cases z)
      · exact ne_of g I.ar.me.ls (by intro z; cases z)
      · exact ne_of g I.ar.so (by intro z; cases z)
      · exact ne_of g I.ar.sp (by intro z; cases z)
      · exact ne_of g I.ar.sq (by intro z; cases z)
      · exact ne_of g I.ro.ho.ls (by intro z; cases z)
      · exact ne_of g I.ro.wo.ls (by intro z; cases z)
      · exact ne_of g I.ro.lo.wa (by intro z; cases z)
      · exact ne_of g I.ro.lo.sk (by intro z; cases z)
      · exact ne_of g I.ro.bo.ob (by intro z; cases z)
      · exact J.ob.1
    have rowF : ∀ c ∈ slC 0 D, H c.r = none := fun c mc => by
      obtain ⟨k, d, ek, rfl⟩ := slC_mem mc
      exact fn _ (.inr (.inr (.inr (.inr (.inr ⟨d, List.mem_of_getElem? ek, rfl⟩)))))
    have tO : ∀ b xs, H1 b = some (.tup xs) → H2 b = some (.tup xs) := fun b xs g => keep b _ (by
      rintro y (rfl | rfl | rfl | rfl | rfl | rfl | rfl | rfl | rfl | rfl | rfl)
      · exact ne_of g I1.ar.ob (by intro z; cases z)
      · exact ne_of g I1.ar.me.ls (by intro z; cases z)
      · exact ne_of g I1.ar.so (by intro z; cases z)
      · exact ne_of g I1.ar.sp (by intro z; cases z)
      · exact ne_of g I1.ar.sq (by intro z; cases z)
      · exact ne_of g I1.ro.ho.ls (by intro z; cases z)
      · exact ne_of g I1.ro.wo.ls (by intro z; cases z)
      · exact ne_of g I1.ro.lo.wa (by intro z; cases z)
      · exact ne_of g I1.ro.lo.sk (by intro z; cases z)
      · exact ne_of g I1.ro.bo.ob (by intro z; cases z)
      · exact ne_of g I1.ro.bo.ds (by intro z; cases z)) g
    have L2 : Lo16 s H2 w1 (slC 0 D) U2.hs U2.ts U2.ws U2.ss := by
      rw [SR.hs, SR.ts, SR.ws, SR.ss]
      refine L1.fr (fun b o hb g => keep b o (fun y hy => ?_) g) tO
      rcases hb with rfl | rfl | rfl | rfl | rfl | rfl | ⟨c, mc, rfl⟩
      · exact sO y hy
      · exact offO _ (fn _ (.inl rfl)) y hy
      · exact offO _ (fn _ (.inr (.inl rfl))) y hy
      · exact offO _ (fn _ (.inr (.inr (.inl rfl)))) y hy
      · exact offO _ (fn _ (.inr (.inr (.inr (.inl rfl))))) y hy
      · exact offO _ (fn _ (.inr (.inr (.inr (.inr (.inl rfl)))))) y hy
      · exact offO _ (rowF c mc) y hy
    have fl2 : ∀ t ∈ U2.ts, flatN t = true := by
      rw [SR.ts]
      intro t mt
      obtain ⟨v, mv, rfl⟩ := List.mem_map.mp mt
      have f := J.fl v mv
      cases v with
      | non => rfl
      | int p =>
        show flatN (match goG _ p with | some q => V.int q | none => .non) = true
        cases goG (goP C qs) p <;> rfl
      | _ => cases f
    have tl2 : U2.ts.length ≤ 12 := by rw [SR.ts, List.length_map]; exact J.tl
    have wl2 : U2.ws.length ≤ 12 := by rw [SR.ws, List.length_map]; exact J.wl
    have sl2 : U2.ss.length ≤ 12 * (m + 1) := by
      have := said_len (g := goG (goP C qs)) (ws := U.ws)
      rw [SR.ss, List.length_append]
      omega
    have gn2 := I2.ar.gn
    -- what is known behind it
    have J2 : I16 K A R s H0 H2 S2 U2 w1 (slC 0 D) (m + 1) := by
      have offP : ∀ x, H x = none → OffP A R x := fun x e => ⟨offO x e _ (.inr (.inl rfl)), offO x e _ (.inr (.inr (.inr (.inr (.inr (.inl rfl)))))), offO x e _ (.inr (.inr (.inr (.inr (.inr (.inr (.inl rfl))))))), offO x e _ (.inr (.inr (.inr (.inr (.inr (.inr (.inr (.inl rfl)))))))), offO x e _ (.inr (.inr (.inr (.inr (.inr (.inr (.inr (.inr (.inl rfl)))))))))⟩
      have n0H : ∀ x, H x = none → H0 x = none := fun x e => none_of J.s0 e
      refine { I := I2, L := L2, cp := cp2, cw := fun c mc w mw => ?_, hw := fun w mw => ?_, cl := by rw [slC_len]; omega, sw := by rw [sumW_slC, SR.n]; omega, fl := fl2, tl := tl2, wl := wl2, sl := sl2, bl := by rw [SR.bs]; exact Nat.zero_le _, hl := by rw [SR.hs, List.length_map]; exact J.hl, ro := fun c mc => offP _ (rowF c mc), oh := ⟨offP _ (fn _ (.inr (.inl rfl))), offP _ (fn _ (.inr (.inr (.inr (.inl rfl))))), offP _ (fn _ (.inr (.inr (.inr (.inr (.inl rfl))))))⟩, ob := ⟨?_, ?_, ?_⟩, n0 := fun x hx => ?_, s0 := fun b o g => ?_ }
      · obtain ⟨k, d, ek, rfl⟩ := slC_mem mc
        obtain ⟨c0, m0, e1, e2⟩ := dw d (List.mem_of_getElem? ek)
        rw [show (⟨0 + sumW (D.take k), d.r, d.ws⟩ : CeL).ws = d.ws from rfl, e2] at mw
        obtain ⟨w0, mw0, rfl⟩ := List.mem_map.mp mw
        have mk : (c0.p : Int) ∈ reachC C (placesW U.hs) := by
          rw [← pm.mem_iff, ← dp, e1]
          exact List.mem_map.mpr ⟨d, List.mem_of_getElem? ek, rfl⟩
        exact turn_cl cp nds dp dl (by omega) (J.cw c0 m0 w0 mw0).1 fun p ep => pm.mem_iff.mpr (RC.kd c0 m0 mk p (List.mem_filterMap.mpr ⟨w0, mw0, by rw [wd_place ep]⟩))
      · rw [SR.hs] at mw
        obtain ⟨w0, mw0, rfl⟩ := List.mem_map.mp mw
        exact turn_cl cp nds dp dl (by omega) (J.hw w0 mw0).1 fun p ep => pm.mem_iff.mpr (RC.st p (List.mem_filterMap.mpr ⟨w0, mw0, by rw [ep]⟩))
      · exact ne_of_none L1.ks nb2
      · exact ne_of_none L1.dd nb2
      · exact ne_of_none L1.nn nb2
      · rcases hx with hx | hx | ⟨c, mc, rfl⟩
        · by_cases eb : x = U2.bd
          · subst eb
            refine n0H _ ?_
            cases e : H U2.bd with
            | none => rfl
            | some o =>
              rw [k1 _ o (ne_of_none L1.ks nb2).symm e] at nb2
              cases nb2
          · refine J.n0 x (.inl ?_)
            rcases hx with h | h | h | h | h | h | h | h | h | h | h
            · exact .inl h
            · exact .inr (.inl h)
            · exact .inr (.inr (.inl h))
            · exact .inr (.inr (.inr (.inl h)))
            · exact .inr (.inr (.inr (.inr (.inl h))))
            · exact .inr (.inr (.inr (.inr (.inr (.inl h)))))
            · exact .inr (.inr (.inr (.inr (.inr (.inr (.inl h))))))
            · exact .inr (.inr (.inr (.inr (.inr (.inr (.inr (.inl h)))))))
            · exact .inr (.inr (.inr (.inr (.inr (.inr (.inr (.inr (.inl h))))))))
            · exact .inr (.inr (.inr (.inr (.inr (.inr (.inr (.inr (.inr (.inl h)))))))))
            · exact absurd h eb
        · rcases hx with h | h | h | h | h | h
          · exact J.n0 x (.inr (.inl (.inl h)))
          · exact n0H _ (fn _ (.inl h))
          · exact n0H _ (fn _ (.inr (.inl h)))
          · exact n0H _ (fn _ (.inr (.inr (.inl h))))
          · exact n0H _ (fn _ (.inr (.inr (.inr (.inl h)))))
          · exact n0H _ (fn _ (.inr (.inr (.inr (.inr (.inl h))))))
        · exact n0H _ (rowF c mc)
      · refine keep b o (fun y hy => ne_of_none g (J.n0 y (.inl hy))) (k1 b o (ne_of_none g (J.n0 s (.inr (.inl (.inl rfl))))) (J.s0 _ _ g))
    have hl2 : U2.hs.length = U.hs.length := by rw [SR.hs, List.length_map]
    rw [sumE]
    walk_at "w3"
    refine ⟨A, R, S2, U2, s, w1, D, rfl, I2, L2, cp2, ag2, by rw [SR.ot, sumE], SR.t, SR.bs, d8, by omega, fl2, by omega, by omega, by omega, J2.ob.1, J2.ob.2.1, J2.ob.2.2, fun H3 s3 => ?_⟩
    refine q S2 U2 w1 (slC 0 D) H3 { J2 with I := I2.same s3, L := L2.same s3, s0 := J2.s0.trans s3 } SR.n SR.k SR.t (by rw [SR.ot, sumE, sumW_slC]) hl2
end

local macro_rules | `(tactic| walk_at "w3") => `(tactic| try simp only [↓x_var0, ↓x_varS, ↓x_c, ↓x_op, ↓x_un, ↓x_cb, ↓x_nil, ↓x_cons, ↓x_test, ↓x_b, ↓x_ex, ↓x_and, ↓x_or, ↓x_not, ↓x_andV, ↓x_orV, ↓x_notV, ↓x_tif, ↓x_chain, ↓x_menu, ↓x_menuI, ↓x_lst, ↓x_tup, ↓x_dnew, ↓x_callW, ↓x_callN, ↓x_seq, ↓x_next, ↓x_ret, ↓x_retN, ↓x_drop, ↓x_ifS, ↓x_asg, ↓x_name, ↓x_raise, ↓x_fld, ↓x_setF, ↓x_meth, ↓x_make, ↓x_sub, ↓r_min, ↓r_max, ↓x_yes, ↓x_for, ↓x_lock, ↓x_keys, ↓x_cut, ↓x_lc, ↓x_rng1, ↓x_rng2, ↓x_lst1, ↓x_itup, ↓x_rng3, ↓x_three, ↓x_lstg, ↓x_tupg, ↓x_adrS, ↓x_one, ↓x_two, ↓x_adr, ↓x_sl, ↓x_np, ↓x_pt, ↓x_int, ↓x_bm, ↓x_bm0, ↓x_consg, ↓x_nilg, ↓x_dget2, ↓x_dget1, ↓x_dgetN, ↓x_dget, ↓x_din, ↓x_dni, ↓x_dput, ↓x_dpop2, ↓r_isB, ↓r_notB, ↓x_enum, ↓x_zip, ↓x_str, ↓x_strE, ↓r_inS, ↓r_ninS, wipe, List.map_cons, List.map_nil, ↓x_isT, ↓r_isiII, ↓r_isiBB, ↓r_isiIB, ↓r_isiSS, ↓r_neNS, ↓r_neSN, ↓r_neNN, ↓r_eqNS, ↓r_eqSN, ↓r_eqNN, ↓r_eqIS, ↓r_neIS, ↓r_neSI, ↓r_neBS, ↓r_eqBB, ↓r_neBB, ↓x_start, ↓x_K, ↓x_start0, ↓r_i0, ↓r_i, ↓r_u, ↓r_addI, ↓r_addS, ↓r_mulI, ↓r_mulS, ↓r_eqI, ↓r_neI, ↓r_eqS, ↓r_neS, ↓r_absI, ↓r_intI, ↓r_intB, List.length_cons, List.length_nil, List.replicate, List.set_cons_zero, List.set_cons_succ, decide_eq_true_eq, Bool.not_eq_true', decide_eq_false_iff_not, if_true, if_false, Bool.false_eq_true, Bool.true_eq_false, ite_true, ite_false, Bool.not_true, Bool.not_false, c_div, n_ten, c_pow, not_true_eq_false, not_false_eq_true, decide_true, decide_false, true_and, and_true, and_self, true_or, or_true, Int.reduceLT, Int.reduceLE, Int.reduceMul, Int.reduceAdd, Int.reduceSub, Int.reducePow, Int.reduceNeg, Int.reduceDiv, Int.reduceMod, Nat.reducePow, Int.reduceToNat, Int.reduceEq, Int.reduceNe, Nat.reduceLT, Nat.reduceLeDiff, Nat.reduceAdd, ↓x_whole, ↓x_kind, Int.natCast_one, Int.natCast_one, Int.natCast_one, Int.natCast_one, Int.natCast_one, Int.natCast_one, Int.natCast_one, Int.natCast_one, Int.natCast_one, Int.natCast_one, Int.natCast_one])
section
variable {K : PySem.W.Frag} {A : ArA} {R : RoA} {s : Addr} {H0 H H' : Hp} {S S' : ArS} {U : RoS} {w : W16} {C C' : List CeL} {m m' : Nat} {hs : List Int}
theorem I16g.same (J : I16g K A R s H0 H S U w C m hs) (z : Same H H') : I16g K A R s H0 H' S U w C m hs := { J with I := J.I.same z, L := J.L.same z, s0 := J.s0.trans z }
theorem I16g.lt (J : I16g K A R s H0 H S U w C m hs) : ∀ c ∈ C, c.p + c.ws.length < S.ws.length := J.cp.lt J.I.ar.ln J.I.ar.lo (J.I.ar.lt _).2
theorem I16g.c8 (J : I16g K A R s H0 H S U w C m hs) : ∀ c ∈ C, c.ws.length ≤ 8 := fun c mc => by
  obtain ⟨k, -, h1, h2⟩ := J.cp.head mc (J.lt c mc)
  omega
theorem I16g.c9 (J : I16g K A R s H0 H S U w C m hs) : ∀ c ∈ C, c.p ≤ 9999 := fun c mc => by
  have := J.lt c mc
  have := J.I.ar.ln
  have := J.I.ar.gn
  have := J.I.ar.gk
  omega
theorem I16g.ce (J : I16g K A R s H0 H S U w C m hs) : CellsO kp H S w.d C := J.L.cells J.cp
theorem I16g.cells {bs' : List Int} (J : I16g K A R s H0 H S U w C m hs) (hm : m ≤ m') (I' : PairO K H' A R S' { U with bs := bs' }) (ce : CellsO kp H' S' w.d C') (cw : ∀ c ∈ C', ∀ w ∈ c.ws, ClW C' w) (cc : ∀ c ∈ C, ∃ d ∈ C', d.p = c.p) (cl : C'.length ≤ m') (sw : sumW C' ≤ S'.n) (bl : bs'.length ≤ 100 * m')
    (k : ∀ b o, b ≠ A.l → b ≠ A.o → b ≠ A.p → b ≠ A.q → b ≠ w.d → (∀ c ∈ C, b ≠ c.r) → b ≠ U.bd → H b = some o → H' b = some o) (rn : ∀ c ∈ C', (∃ a ∈ C, c.r = a.r) ∨ H c.r = none) : I16g K A R s H0 H' S' { U with bs := bs' } w C' m' hs := by
  have I := J.I
  have L := J.L
  have kd : ∀ {b kv}, b ≠ w.d → b ≠ U.bd → H b = some (.dK kv) → H' b = some (.dK kv) := fun n1 n2 g => k _ _ (ne_of g I.ar.me.ls (by intro z; cases z)) (ne_of g I.ar.so (by intro z; cases z)) (ne_of g I.ar.sp (by intro z; cases z)) (ne_of g I.ar.sq (by intro z; cases z)) n1 (fun c mc => ne_of g (L.rw_ c mc) (by intro z; cases z)) n2 g
  have kl : ∀ {b xs}, b ≠ A.l → (∀ c ∈ C, c.r ≠ b) → H b = some (.lst xs) → H' b = some (.lst xs) := fun n1 n2 g => k _ _ n1 (ne_of g I.ar.so fun z => spv_lst z.symm) (ne_of g I.ar.sp fun z => spv_lst z.symm) (ne_of g I.ar.sq fun z => spv_lst z.symm) (ne_of g L.dd (by intro z; cases z)) (fun c mc => (n2 c mc).symm) (ne_of g I.ro.bo.ds (by intro z; cases z)) g
  have kt : ∀ b xs, H b = some (.tup xs) → H' b = some (.tup xs) := fun b xs g => k _ _ (ne_of g I.ar.me.ls (by intro z; cases z)) (ne_of g I.ar.so (by intro z; cases z)) (ne_of g I.ar.sp (by intro z; cases z)) (ne_of g I.ar.sq (by intro z; cases z)) (ne_of g L.dd (by intro z; cases z)) (fun c mc => ne_of g (L.rw_ c mc) (by intro z; cases z)) (ne_of g I.ro.bo.ds (by intro z; cases z)) g
  have tt' : ∃ rs, H' w.tk = some (.lst rs) ∧ TupAll H' rs (pendOf 0 U.ws) := by
    obtain ⟨rs, t1, t2⟩ := L.tt
    have : ∀ {l : List V} {yss}, TupAll H l yss → TupAll H' l yss := fun h => by
      induction h with
      | nil => exact .nil
      | cons h f t ih => exact .cons (kt _ _ h) f ih
    exact ⟨rs, kl J.oh.2.1.1 (fun c mc => (L.n6 c mc).2.1) t1, this t2⟩
  have n6' : ∀ c ∈ C', c.r ≠ w.h ∧ c.r ≠ w.tk ∧ c.r ≠ w.sd := fun c mc => by
    rcases rn c mc with ⟨a, ma, e⟩ | e
    · rw [e]
      exact L.n6 a ma
    · obtain ⟨rs, t1, -⟩ := L.tt
      exact ⟨(ne_of_none L.hh e).symm, (ne_of_none t1 e).symm, (ne_of_none L.sa e).symm⟩
  have ro' : RowsOff A R C' := fun c mc => by
    rcases rn c mc with ⟨a, ma, e⟩ | e
    · rw [e]
      exact J.ro a ma
    · exact (I.offl e).1
  have L' : Lo16 s H' w C' hs U.ts U.ws U.ss := { ks := kd L.n1 J.ob.1 L.ks, dd := ce.dd, rw_ := ce.rw_, rd := ce.rd, hh := kl J.oh.1.1 (fun c mc => (L.n6 c mc).1) L.hh, nn := kd L.n3.symm J.ob.2.2 L.nn, tt := tt', sa := kl J.oh.2.2.1 (fun c mc => (L.n6 c mc).2.2) L.sa, n1 := L.n1, n2 := L.n2, n3 := L.n3, n4 := L.n4, n5 := L.n5, n6 := n6' }
  have n0' : ∀ x, Own16 A R U.bd s w C' x → H0 x = none := fun x hx => by
    rcases hx with hx | hx | ⟨c, mc, rfl⟩
    · exact J.n0 x (.inl hx)
    · exact J.n0 x (.inr (.inl hx))
    · rcases rn c mc with ⟨a, ma, e⟩ | e
      · rw [e]
        exact J.n0 _ (.inr (.inr ⟨a, ma, rfl⟩))
      · exact none_of J.s0 e
  exact { I := I', L := L', cp := ce.cp, cw := cw, hw := fun w' mw => (J.hw w' mw).mono cc, cl := cl, sw := sw, fl := J.fl, tl := J.tl, wl := J.wl, sl := (Nat.le_trans J.sl (Nat.mul_le_mul_left 12 hm)), bl := bl, hl := J.hl, ro := ro', oh := J.oh, ob := J.ob, n0 := n0', s0 := fun b o g => k b o (ne_of_none g (J.n0 _ (.inl (.inr (.inl rfl))))) (ne_of_none g (J.n0 _ (.inl (.inr (.inr (.inl rfl)))))) (ne_of_none g (J.n0 _ (.inl (.inr (.inr (.inr (.inl rfl))))))) (ne_of_none g (J.n0 _ (.inl (.inr (.inr (.inr (.inr (.inl rfl)))))))) (ne_of_none g (J.n0 _ (.inr (.inl (.inr (.inl rfl)))))) (fun c mc => ne_of_none g (J.n0 _ (.inr (.inr ⟨c, mc, rfl⟩)))) (ne_of_none g (J.n0 _ (.inl (.inr (.inr (.inr (.inr (.inr (.inr (.inr (.inr (.inr (.inr rfl))))))))))))) (J.s0 _ _ g) }
/-- a hand holds another word, in the law's row too -/
theorem I16g.hand (J : I16g K A R s H0 H S U w C m hs) {i : Nat} {n : Int} {hs' : List Int} (cn : ClW C n) : I16g K A R s H0 (upd (upd H w.h (.lst (hs'.map V.int))) R.hl (.lst ((U.hs.set i n).map V.int))) S { U with hs := U.hs.set i n } w C m hs' := by
  have I := J.I
  have L := J.L
  have ks : ∀ b o, b ≠ w.h → b ≠ R.hl → H b = some o → upd (upd H w.h (.lst (hs'.map V.int))) R.hl (.lst ((U.hs.set i n).map V.int)) b = some o := fun b o n1 n2 g => (upd_ne n2).trans ((upd_ne n1).trans g)
  have nd : ∀ {b o}, H b = some o → (∀ xs, o ≠ .lst xs) → b ≠ w.h ∧ b ≠ R.hl := fun g h => ⟨ne_of g L.hh (h _), ne_of g I.ro.ho.ls (h _)⟩
  have kk : ∀ {b o}, H b = some o → (∀ xs, o ≠ .lst xs) → upd (upd H w.h (.lst (hs'.map V.int))) R.hl (.lst ((U.hs.set i n).map V.int)) b = some o := fun g h => ks _ _ (nd g h).1 (nd g h).2 g
  obtain ⟨rs, t1, t2⟩ := L.tt
  have tt' : ∃ rs, upd (upd H w.h (.lst (hs'.map V.int))) R.hl (.lst ((U.hs.set i n).map V.int)) w.tk = some (.lst rs) ∧ TupAll (upd (upd H w.h (.lst (hs'.map V.int))) R.hl (.lst ((U.hs.set i n).map V.int))) rs (pendOf 0 U.ws) :=
    ⟨rs, ks _ _ L.n4.symm J.oh.2.1.2.1 t1, (t2.put L.hh (fun xs z => by cases z)).put ((upd_ne J.oh.1.2.1.symm).trans I.ro.ho.ls) (fun xs z => by cases z)⟩
  refine { J with I := (I.off (o := .lst (hs'.map V.int)) L.hh J.oh.1).hput cn.1, L := { L with ks := kk L.ks (fun _ z => by cases z), dd := kk L.dd (fun _ z => by cases z), rw_ := fun c mc => ks _ _ (L.n6 c mc).1 (J.ro c mc).2.1 (L.rw_ c mc), hh := (upd_ne J.oh.1.2.1).trans upd_same, nn := kk L.nn (fun _ z => by cases z), tt := tt', sa := ks _ _ L.n5.symm J.oh.2.2.2.1 L.sa }, hw := fun w' mw => ?_, hl := by show (U.hs.set i n).length ≤ 6; rw [List.length_set]; exact J.hl, s0 := fun b o g => ks b o (ne_of_none g (J.n0 _ (.inr (.inl (.inr (.inr (.inl rfl))))))) (ne_of_none g (J.n0 _ (.inl (.inr (.inr (.inr (.inr (.inr (.inl rfl))))))))) (J.s0 _ _ g) }
  rcases List.mem_or_eq_of_mem_set mw with mw | rfl
  · exact J.hw w' mw
  · exact cn
end
def sp_changed16 (K : PySem.W.Frag) : Sp := fun vs H Q _ => ∃ A R s H0 S U w C m c z, vs = [.ref A.a, .ref R.r, .ref s, .int c, .ref z] ∧ I16 K A R s H0 H S U w C m ∧ m ≤ 50 ∧ (∀ f, S.t f = S.b f) ∧ S.ot = sumW C ∧ H0 z = some (.lst [.int S.n, .int S.k]) ∧
  ∀ S' U' C' H', I16 K A R s H0 H' S' U' w C' (m + 1) → S'.n = S.n → S'.k = S.k → U'.hs.length = U.hs.length → Q .non H'
section
variable {P : Program} {w : World} {K : PySem.W.Frag} {mg : Str → Option Value} {base : Heap}
theorem f__law_changed (T : Tx K mg) : Fn P w K mg base 9 "_law_changed" ["_law_areas", "_law_roots", "_law_s", "_law_cell", "_law_rooms"] (sp_changed16 K) := by
  have c__law_next := f__law_next (P := P) (w := w) (base := base) T
  have c__law_word := f__law_word (P := P) (w := w) (base := base) T
  have c_Hands_put := f_Hands_put (P := P) (w := w) (base := base) T
  have c_Space_used := f_Space_used (P := P) (w := w) (base := base) T
  have c__law_lay := f__law_lay (P := P) (w := w) (base := base) T
  have c__law_write := f__law_write (P := P) (w := w) (base := base) T
  refine T.mkFn 79 50 (d := d__law_changed) (N := ["_law_areas", "_law_roots", "_law_s", "_law_cell", "_law_rooms", "_law_seed", "_law_hand", "_law_slots", "_law_wide", "_law_at", "_law_slot"]) (k := 8) rfl rfl rfl rfl rfl sc__law_changed (fun _ _ _ _ _ _ us hl => match us, hl with | [_, _, _, _, _], _ => rfl) (fun vs H Q E h => ?len) (fun cdv A outer s H vs Q E hr h => ⟨_,
      (pss_cons (ps_set (i := 5) sc__law_changed.nd rfl (Or.inl rfl) (pe_fn (takes_of rfl rfl rfl rfl) c__law_next (hr.mono (by decide)) (by rfl) (pa_cons (pv 3) pa_nil)))
        (pss_cut (ps_for (passes_of rfl) rfl (pi_range1 rfl (T.free 66) (pa_cons (pe_callB (call_lenK (K := K) rfl) (by rfl) (T.free 64) PySem.boot_len (pa_cons (pe_dget (hu_of hr) (pv 2) pe_str (fun _ _ => rfl)) pa_nil)) pa_nil)) (pg_name (i := 6) sc__law_changed.nd rfl (Or.inl rfl)) (pss_cons (ps_set (i := 5) sc__law_changed.nd rfl (Or.inl rfl) (pe_fn (takes_of rfl rfl rfl rfl) c__law_next (hr.mono (by decide)) (by rfl) (pa_cons (pe_op op_gAdd (pv 5) (pv 6)) pa_nil)))
        (pss_one (ps_if (pt_cmpR (op_eqK (K := K) rfl hr.units) (pe_op op_mod (pe_op op_fdiv (pv 5) pe_int) pe_int) pe_int (nomark _)) (pss_cons (ps_asg (pe_fn (takes_of rfl rfl rfl rfl) c__law_word (hr.mono (by decide)) (by rfl) (pa_cons (pe_dget (hu_of hr) (pv 2) pe_str (fun _ _ => rfl)) (pa_cons (pv 5) pa_nil))) (pg_sub (pe_dget (hu_of hr) (pv 2) pe_str (fun _ _ => rfl)) (pv 6) set_list))
        (pss_one (ps_expr (pe_mt (K := K) rfl (takes_of rfl rfl rfl rfl) (pe_fldC (T.cls 149) (T.noat 152) (pv 1)) c_Hands_put (hr.mono (by decide)) (pa_cons (pv 6) (pa_cons (pe_ix (ix_seqK (K := K) rfl) (pe_dget (hu_of hr) (pv 2) pe_str (fun _ _ => rfl)) (pv 6) (fun _ _ => rfl)) pa_nil)))))) pss_nil))))
        (pss_cons (ps_set (i := 7) sc__law_changed.nd rfl (Or.inl rfl) (pe_op op_mod (pe_op op_fdiv (pv 5) pe_int) pe_int))
        (pss_cut (ps_if (PW.pt (pw_and (pt_cmpR op_le (pe_op op_gAdd (pv 7) pe_int) (pe_ix (ix_seqK (K := K) rfl) (pv 4) pe_int (fun _ _ => rfl)) (nomark _)) (pw_and1 (pt_cmpR op_le (pe_op op_gAdd (pe_op op_gAdd (pe_mt0 (K := K) rfl (takes_of rfl rfl rfl rfl) (pe_fldC (T.cls 104) (T.noat 111) (pv 0)) c_Space_used (hr.mono (by decide))) (pv 7)) pe_int) (pe_ix (ix_seqK (K := K) rfl) (pv 4) pe_int (fun _ _ => rfl)) (nomark _))))) (pss_one (ps_expr (pe_fn (takes_of rfl rfl rfl rfl) c__law_lay (hr.mono (by decide)) (by rfl) (pa_cons (pv 0) (pa_cons pe_int (pa_cons (pv 7) (pa_cons (pe_dget (hu_of hr) (pv 2) pe_str (fun _ _ => rfl)) pa_nil))))))) pss_nil)
        (pss_cons (ps_lock (ps_setLc (i := 8) (own := [("_law_at", 9)]) (g := gName 9) rfl sc__law_changed.nd rfl rfl (sw_true rfl rfl rfl (by decide +kernel)) (pi_keys (pe_dget (hu_of hr) (pv 2) pe_str (fun _ _ => rfl))) (blkOk_by (own := [("_law_at", 9)]) (N := ["_law_areas", "_law_roots", "_law_s", "_law_cell", "_law_rooms", "_law_seed", "_law_hand", "_law_slots", "_law_wide", "_law_at", "_law_slot"]) (sc := defScope s__law_changed) (by decide +kernel)) (fun _ _ _ _ _ => (pg_name (i := 9) sc__law_changed.nd rfl (Or.inl rfl))) (fun _ _ _ _ _ => pts_one (pt_cmpR (op_neK (K := K) rfl hr.units) (pe_dget (hu_of hr) (pe_dget (hu_of hr) (pv 2) pe_str (fun _ _ => rfl)) (pv 9) (fun _ _ => rfl)) (pe_lst pa_nil) (nomark _))) (fun _ _ _ _ _ => (pv 9))))
        (pss_one (ps_if (pt_cmpR (op_neK (K := K) rfl hr.units) (pv 8) (pe_lst pa_nil) (nomark _)) (pss_cons (ps_set (i := 9) sc__law_changed.nd rfl (Or.inl rfl) (pe_ix (ix_seqK (K := K) rfl) (pv 8) (pe_op op_mod (pe_op op_fdiv (pv 5) pe_int) (pe_callB (call_lenK (K := K) rfl) (by rfl) (T.free 64) PySem.boot_len (pa_cons (pv 8) pa_nil))) (fun _ _ => rfl)))
        (pss_cons (ps_set (i := 10) sc__law_changed.nd rfl (Or.inl rfl) (pe_op op_mod (pe_op op_fdiv (pv 5) pe_int) (pe_callB (call_lenK (K := K) rfl) (by rfl) (T.free 64) PySem.boot_len (pa_cons (pe_dget (hu_of hr) (pe_dget (hu_of hr) (pv 2) pe_str (fun _ _ => rfl)) (pv 9) (fun _ _ => rfl)) pa_nil))))
        (pss_one (ps_expr (pe_fn (takes_of rfl rfl rfl rfl) c__law_write (hr.mono (by decide)) (by rfl) (pa_cons (pv 0) (pa_cons (pv 1) (pa_cons (pe_dget (hu_of hr) (pv 2) pe_str (fun _ _ => rfl)) (pa_cons (pv 9) (pa_cons (pv 10) (pa_cons (pe_fn (takes_of rfl rfl rfl rfl) c__law_word (hr.mono (by decide)) (by rfl) (pa_cons (pe_dget (hu_of hr) (pv 2) pe_str (fun _ _ => rfl)) (pa_cons (pe_fn (takes_of rfl rfl rfl rfl) c__law_next (hr.mono (by decide)) (by rfl) (pa_cons (pv 5) pa_nil)) pa_nil))) pa_nil))))))))))) pss_nil))))))), ?rd⟩)
  case len => first | exact len__law_changed h | (repeat (first | (obtain ⟨rfl, _⟩ := h; rfl; done) | obtain ⟨_, h⟩ := h))
  case rd =>
    obtain ⟨A, R, s, H0, S, U, w, C, m, c, z, rfl, J, hm, et, eo, hz, q⟩ := h
    have sz : 1000000 ≤ sizeLine := by rw [sizeLine_eq]; omega
    have dkg : ∀ {Hx : Hp} {k : Str} {v : V} {kvs : List (Key × V)}, Hx s = some (.dK kvs) → valV kvs (.inr k : Key) = some v → DGet Hx s (.str k) (some v) := fun {Hx k v kvs} g e => by
      have := DGet.k (k := (.inr k : Key)) g
      rw [e] at this
      exact this
    have jhl := J.hl
    have jcl := J.cl
    walk_at "w3"
    refine ⟨_, rfl, ?_⟩
    walk_at "w3"
    refine ⟨fun σ' H' => ∃ hs' sd o6, σ' = [some (.ref A.a), some (.ref R.r), some (.ref s), some (.int c), some (.ref z), some (.int sd), o6, none, none, none, none] ∧ I16 K A R s H0 H' S { U with hs := hs' } w C m ∧ hs'.length = U.hs.length, ?_, ?_⟩
    · refine ⟨_, dkg J.L.ks kd_h, ?_⟩
      refine r_lenL J.L.hh ?_
      walk_at "w3"
      rw [List.length_map]
      refine ⟨by omega, by omega, ?_⟩
      rw [Int.toNat_natCast]
      refine forW_range (lo := 0) (fun i σ H' => ∃ hs' sd o6, σ = [some (.ref A.a), some (.ref R.r), some (.ref s), some (.int c), some (.ref z), some (.int sd), o6, none, none, none, none] ∧ I16 K A R s H0 H' S { U with hs := hs' } w C m ∧ hs'.length = U.hs.length) ⟨U.hs, _, _, rfl, J, rfl⟩ ?_ ?_
      · rintro i σ H1 hi ⟨hs', sd, o6, rfl, J1, l1⟩
        rw [Int.zero_add]
        have hi' : i < hs'.length := by omega
        walk_at "w3"
        refine ⟨_, rfl, ?_⟩
        walk_at "w3"
        generalize nextW (sd + (i : Int)) = sd2
        split
        · refine ⟨_, dkg J1.L.ks kd_c, ?_⟩
          refine ⟨S, w.d, C, _, rfl, J1.ce, by omega, J1.c9, fun n H2 s2 cn => ?_⟩
          have J2 := J1.same s2
          walk_at "w3"
          refine ⟨_, dkg J2.L.ks kd_h, ?_⟩
          refine r_setL J2.L.hh (by omega) (by rw [List.length_map]; show (i : Int) < (hs'.length : Nat); omega) ?_
          rw [Int.toNat_natCast, ← List.map_set]
          have I2 := J2.I
          have I3 := I2.off (o := .lst ((hs'.set i n).map V.int)) J2.L.hh J2.oh.1
          have ks3 : upd H2 w.h (.lst ((hs'.set i n).map V.int)) s = _ := (upd_ne (ne_of J2.L.ks J2.L.hh (by intro z; cases z))).trans J2.L.ks
          refine ⟨_, fldIs I3.ro.ob, recv I3.ro.ho.ob, _, dkg ks3 kd_h, ?_⟩
          refine r_ixL upd_same (i := i) (v := .int n) (by rw [List.getElem?_map, List.getElem?_set_self hi']; rfl) ?_
          refine ⟨R.h, R.hx, R.hl, hs', _, _, rfl, I3.ro.ho, .inl ⟨_, rfl⟩, .inl ⟨_, rfl⟩, ?_⟩
          rw [placeOf_int, if_pos ⟨by omega, by omega⟩, wordV_int, if_pos cn.1, Int.toNat_natCast]
          dsimp only
          have J4 := J2.hand (i := i) (n := n) (hs' := hs'.set i n) cn
          exact ⟨hs'.set i n, _, _, rfl, J4, by rw [List.length_set]; exact l1⟩
        · exact ⟨hs', _, _, rfl, J1, l1⟩
      · rintro σ H1 ⟨hs', sd, o6, rfl, J1, l1⟩
        exact ⟨hs', sd, o6, rfl, J1, l1⟩
    rintro σ' H1 ⟨hs', sd, o6, rfl, J1, l1⟩
    walk_at "w3"
    obtain ⟨sl, esl, hsl⟩ : ∃ sl : Nat, sd / 21 % 4 = (sl : Int) ∧ sl ≤ 3 := ⟨(sd / 21 % 4).toNat, by omega, by omega⟩
    rw [esl]
    have gn := J.I.ar.gn
    have gk := J.I.ar.gk
    have lo := J.I.ar.lo
    refine ⟨fun σ' H' => ∃ S' C', σ' = [some (.ref A.a), some (.ref R.r), some (.ref s), some (.int c), some (.ref z), some (.int sd), o6, some (.int (sl : Int)), none, none, none] ∧ I16 K A R s H0 H' S' { U with hs := hs' } w C' (m + 1) ∧ S'.n = S.n ∧ S'.k = S.k ∧ U.bs.length ≤ 100 * m, ?_, ?_⟩
    · have stay : ∃ S' C', I16 K A R s H0 H1 S' { U with hs := hs' } w C' (m + 1) ∧ S'.n = S.n ∧ S'.k = S.k ∧ U.bs.length ≤ 100 * m :=
        ⟨S, C, { J1 with cl := Nat.le_succ_of_le J1.cl, sl := Nat.le_trans J1.sl (by omega), bl := Nat.le_trans J1.bl (by omega) }, rfl, rfl, J1.bl⟩
      have hz1 := J1.s0 _ _ hz
      refine r_ixL (i := 1) hz1 rfl ?_
      walk_at "w3"
      split
      · rename_i c1
        refine ⟨_, fldIs J1.I.ar.ob, recv J1.I.ar.so, _, _, _, _, _, rfl, J1.I.ar.so, ?_⟩
        walk_at "w3"
        refine r_ixL (i := 0) hz1 rfl ?_
        walk_at "w3"
        split
        · rename_i c2
          refine ⟨_, dkg J1.L.ks kd_c, ?_⟩
          have fit : sl + 1 ≤ endA S false - topA S false := by
            show sl + 1 ≤ S.b S.fl + S.k - S.t S.fl
            rw [et]
            omega
          refine ⟨A, R, S, _, C, w.d, false, sl, rfl, J1.I, J1.ce, J1.ro, J1.ob.2.1, by omega, by omega, fit, fun r H2 I2 ce2 nr or_ k2 => ?_⟩
          obtain ⟨f1, f2, f3, f4⟩ := laidS_same (S := S) (old := false) (s := sl)
          refine ⟨laidS S false sl, C ++ [⟨topA S false, r, List.replicate sl (-1)⟩], J1.cells (m' := m + 1) (by omega) I2 ce2 (fun b mb w' mw => ?_) (fun b mb => ⟨b, List.mem_append_left _ mb, rfl⟩) (by rw [List.length_append]; show C.length + 1 ≤ _; omega) ?_ (by show U.bs.length ≤ _; have : U.bs.length ≤ 100 * m := J1.bl; omega) (fun b o n1 n2 n3 n4 n5 _ _ g => k2 b o n1 n2 n3 n4 n5 g) (fun b mb => ?_), f2, f3, J1.bl⟩
          · rcases List.mem_append.mp mb with mb | mb
            · exact (J1.cw b mb w' mw).mono fun c mc => ⟨c, List.mem_append_left _ mc, rfl⟩
            · rw [List.mem_singleton.mp mb] at mw
              rw [(List.mem_replicate.mp mw).2]
              exact ClW.non
          · rw [sumW_app, f2]
            show sumW C + ((List.replicate sl (-1 : Int)).length + 1) ≤ S.n
            rw [List.length_replicate]
            omega
          · rcases List.mem_append.mp mb with mb | mb
            · exact .inl ⟨b, mb, rfl⟩
            · rw [List.mem_singleton.mp mb]
              exact .inr nr
        · exact stay
      · exact stay
    clear J1
    rintro σ' H2 ⟨S2, C2, rfl, J2, en2, ek2, bl2⟩
    have L2 := J2.L
    have cl2 := J2.cl
    refine lockD L2.dd fun od => ?_
    have fz : upd H2 w.d (.frz od (.dK (kvsOf kp C2))) w.d = some (.frz od (.dK (kvsOf kp C2))) := upd_same
    have fk : ∀ b o, b ≠ w.d → H2 b = some o → upd H2 w.d (.frz od (.dK (kvsOf kp C2))) b = some o := fun b o n g => (upd_ne n).trans g
    have unf : ∀ {Hx}, Same (upd H2 w.d (.frz od (.dK (kvsOf kp C2)))) Hx → Same H2 (upd Hx w.d (.dK (kvsOf kp C2))) := fun {Hx} m b o g => by
      by_cases e : b = w.d
      · subst e
        rw [L2.dd] at g
        cases g
        exact upd_same
      · exact (upd_ne e).trans (m _ _ (fk b o e g))
    generalize upd H2 w.d (.frz od (.dK (kvsOf kp C2))) = H3 at fz fk unf ⊢
    have ks3 := fk _ _ L2.n1 L2.ks
    walk_at "w3"
    refine ⟨_, dkg ks3 kd_c, ?_⟩
    walk_at "w3"
    refine ⟨od, .inl ⟨_, fz, fun D1 nD => ?_⟩⟩
    refine lc_it walk_keys (fun i Hx => ∃ acc : List Int, Same H3 Hx ∧ Hx D1 = some (.lst (acc.map V.int)) ∧ acc.length ≤ i ∧ ∀ x ∈ acc, ∃ c ∈ C2, x = (c.p : Int) ∧ c.ws ≠ []) ⟨[], same_new nD, upd_same, Nat.le_refl _, (fun x m => (List.not_mem_nil m).elim)⟩ (fun i Hx _ e => e.elim fun acc z => z.1 _ _ fz) (fun i x Hx Hy hi e y => ?_) fun Hx e => ?_
    · obtain ⟨rfl, key, v, hx, rfl⟩ := y
      obtain ⟨acc, sx, hD, al, am⟩ := e
      obtain ⟨b, hb, ek, ev⟩ : ∃ b, C2[i]? = some b ∧ key = .inl (kp b.p) ∧ v = .ref b.r := by
        unfold kvsOf at hx
        rw [List.getElem?_map] at hx
        cases e : C2[i]? with
        | none => rw [e] at hx; cases hx
        | some c => rw [e] at hx; cases hx; exact ⟨c, rfl, rfl, rfl⟩
      subst ek ev
      have mb := List.mem_of_getElem? hb
      have il := (List.getElem?_eq_some_iff.mp hb).1
      rw [show kV (.inl (kp b.p) : Key) = V.int (b.p : Int) from rfl]
      have kv := kvs_some (f := kp) (J2.ce.keys fun a b (e : (a : Int) = b) => by omega) mb
      have dg := dget_f (i := (b.p : Int)) (sx _ _ fz)
      rw [show (.inl (b.p : Int) : Key) = .inl (kp b.p) from rfl, kv] at dg
      have hr := sx _ _ (fk _ _ (ne_of (L2.rw_ b mb) L2.dd (by intro z; cases z)) (L2.rw_ b mb))
      walk_at "w3"
      refine ⟨_, dkg (sx _ _ ks3) kd_c, ?_⟩
      walk_at "w3"
      refine ⟨_, dg, by omega, fun e ne => ?_⟩
      have se := same_new (o := .lst []) ne
      refine r_neNil (se _ _ hr) upd_same ?_
      walk_at "w3"
      by_cases e0 : b.ws = []
      · rw [if_neg (fun z => z e0)]
        exact ⟨acc, sx.trans se, se _ _ hD, by omega, am⟩
      · rw [if_pos e0]
        refine ⟨_, se _ _ hD, by rw [List.length_map]; omega, acc ++ [(b.p : Int)], fun x o g => (upd_ne (ne_of_none g nD)).trans (se _ _ (sx _ _ g)), by rw [upd_same, List.map_append]; rfl, by rw [List.length_append]; show acc.length + 1 ≤ _; omega, fun x m => ?_⟩
        rcases List.mem_append.mp m with m | m
        · exact am x m
        · rw [List.mem_singleton.mp m]
          exact ⟨b, mb, rfl, e0⟩
    obtain ⟨acc, sx, hD, al, am⟩ := e
    walk_at "w3"
    refine ⟨sx _ _ fz, ?_⟩
    have s23 := unf sx
    have nDn : D1 ≠ w.d := (ne_of_none fz nD).symm
    have hD4 := (upd_ne (o := .dK (kvsOf kp C2)) nDn).trans hD
    have J4 := J2.same s23
    generalize upd Hx w.d (.dK (kvsOf kp C2)) = H4 at hD4 J4 ⊢
    refine ⟨by omega, fun e ne => ?_⟩
    have se := same_new (o := .lst []) ne
    refine r_neNil (se _ _ hD4) upd_same ?_
    have J5 := J4.same se
    have hD5 := se _ _ hD4
    generalize upd H4 e (.lst []) = H5 at J5 hD5 ⊢
    by_cases e0 : acc = []
    · rw [decide_eq_true e0]
      walk_at "w3"
      exact q S2 _ C2 H5 J5 en2 ek2 l1
    rw [decide_eq_false e0]
    walk_at "w3"
    have la : 0 < acc.length := List.length_pos_iff.mpr e0
    rw [show (kvsOf kp C2).length = C2.length from List.length_map ..] at al
    refine r_lenL hD5 ?_
    walk_at "w3"
    rw [List.length_map]
    have m0 := Int.emod_nonneg (sd / 84) (show (acc.length : Int) ≠ 0 by omega)
    have m1 := Int.emod_lt_of_pos (sd / 84) (show (0 : Int) < acc.length by omega)
    obtain ⟨ix, eix⟩ := Int.eq_ofNat_of_zero_le m0
    rw [eix]
    have hix : ix < acc.length := by omega
    obtain ⟨b, mb, eb, nb⟩ := am (acc.getD ix 0) (List.mem_of_getElem? (getD_at (d := 0) hix))
    refine ⟨by omega, r_ixL hD5 (by rw [List.getElem?_map, getD_at (d := 0) hix]; rfl) ?_⟩
    rw [eb]
    have kv := kvs_some (f := kp) (J5.ce.keys fun a b (e : (a : Int) = b) => by omega) mb
    have dg := dget_i (i := (b.p : Int)) J5.L.dd
    rw [show (.inl (b.p : Int) : Key) = .inl (kp b.p) from rfl, kv] at dg
    have lb : 0 < b.ws.length := List.length_pos_iff.mpr nb
    have b8 := J5.c8 b mb
    walk_at "w3"
    refine ⟨_, dkg J5.L.ks kd_c, ?_⟩
    walk_at "w3"
    refine ⟨_, dg, ?_⟩
    refine r_lenL (J5.L.rw_ b mb) ?_
    walk_at "w3"
    rw [List.length_map]
    have t0 := Int.emod_nonneg (sd / 5) (show (b.ws.length : Int) ≠ 0 by omega)
    have t1 := Int.emod_lt_of_pos (sd / 5) (show (0 : Int) < b.ws.length by omega)
    obtain ⟨t, et'⟩ := Int.eq_ofNat_of_zero_le t0
    rw [et']
    refine ⟨by omega, ?_⟩
    refine ⟨_, dkg J5.L.ks kd_c, ?_⟩
    walk_at "w3"
    refine ⟨_, dkg J5.L.ks kd_c, ?_⟩
    refine ⟨_, rfl, S2, w.d, C2, _, rfl, J5.ce, by omega, J5.c9, fun n H6 s6 cn => ?_⟩
    have J6 := J5.same s6
    have ht : t < b.ws.length := by omega
    have bl6 : U.bs.length ≤ 100 * m := bl2
    refine ⟨A, R, S2, _, C2, w.d, b, mb, t, n, rfl, J6.I, J6.ce, J6.ro, J6.ob.2.1, ht, cn.1, by show U.bs.length < 900000; omega, fun bs' H7 hl7 I7 ce7 k7 => ?_⟩
    have hl7 : bs'.length ≤ U.bs.length + 1 := hl7
    have sg : (setC C2 b.p t n).map sig = C2.map sig := setC_sig
    have J7 := J6.cells (m' := m + 1) (Nat.le_refl _) I7 ce7 (fun a ma w' mw => ?_) (fun a ma => by
      obtain ⟨d, md, e1, -, -⟩ := sig_mem sg ma
      exact ⟨d, md, e1⟩) (by rw [setC_len]; exact J6.cl) ?_ (by omega) (fun x o n1 n2 n3 n4 n5 n6 n7 g => k7 x o n1 (n6 b mb) n7 g) (fun a ma => by
      obtain ⟨a', ma', -, e, -⟩ := setC_mem ma
      exact .inl ⟨a', ma', e⟩)
    · exact q { S2 with ws := S2.ws.set (b.p + 1 + t) n } _ _ H7 J7 en2 ek2 l1
    · obtain ⟨x, mx, rfl⟩ := List.mem_map.mp ma
      refine ClW.sig sg ?_
      by_cases e : x.p = b.p
      · rw [if_pos e] at mw
        rcases List.mem_or_eq_of_mem_set mw with mw | rfl
        · exact J6.cw x mx w' mw
        · exact cn
      · rw [if_neg e] at mw
        exact J6.cw x mx w' mw
    · have : sumW (setC C2 b.p t n) = sumW C2 := by
        unfold sumW setC
        rw [List.map_map]
        congr 1
        refine List.map_congr_left fun x mx => ?_
        show (if x.p = b.p then ({ x with ws := x.ws.set t n } : CeL) else x).ws.length + 1 = x.ws.length + 1
        split
        · rw [List.length_set]
        · rfl
      rw [this]
      exact J6.sw
end

local macro_rules | `(tactic| walk_at "w3") => `(tactic| try simp only [↓x_var0, ↓x_varS, ↓x_c, ↓x_op, ↓x_un, ↓x_cb, ↓x_nil, ↓x_cons, ↓x_test, ↓x_b, ↓x_ex, ↓x_and, ↓x_or, ↓x_not, ↓x_andV, ↓x_orV, ↓x_notV, ↓x_tif, ↓x_chain, ↓x_menu, ↓x_menuI, ↓x_lst, ↓x_tup, ↓x_dnew, ↓x_callW, ↓x_callN, ↓x_seq, ↓x_next, ↓x_ret, ↓x_retN, ↓x_drop, ↓x_ifS, ↓x_asg, ↓x_name, ↓x_raise, ↓x_fld, ↓x_setF, ↓x_meth, ↓x_make, ↓x_sub, ↓r_min, ↓r_max, ↓x_yes, ↓x_for, ↓x_lock, ↓x_keys, ↓x_cut, ↓x_lc, ↓x_rng1, ↓x_rng2, ↓x_lst1, ↓x_itup, ↓x_rng3, ↓x_three, ↓x_lstg, ↓x_tupg, ↓x_adrS, ↓x_one, ↓x_two, ↓x_adr, ↓x_sl, ↓x_np, ↓x_pt, ↓x_int, ↓x_bm, ↓x_bm0, ↓x_consg, ↓x_nilg, ↓x_dget2, ↓x_dget1, ↓x_dgetN, ↓x_dget, ↓x_din, ↓x_dni, ↓x_dput, ↓x_dpop2, ↓r_isB, ↓r_notB, ↓x_enum, ↓x_zip, ↓x_str, ↓x_strE, ↓r_inS, ↓r_ninS, wipe, List.map_cons, List.map_nil, ↓x_isT, ↓r_isiII, ↓r_isiBB, ↓r_isiIB, ↓r_isiSS, ↓r_neNS, ↓r_neSN, ↓r_neNN, ↓r_eqNS, ↓r_eqSN, ↓r_eqNN, ↓r_eqIS, ↓r_neIS, ↓r_neSI, ↓r_neBS, ↓r_eqBB, ↓r_neBB, ↓x_start, ↓x_K, ↓x_start0, ↓r_i0, ↓r_i, ↓r_u, ↓r_addI, ↓r_addS, ↓r_mulI, ↓r_mulS, ↓r_eqI, ↓r_neI, ↓r_eqS, ↓r_neS, ↓r_absI, ↓r_intI, ↓r_intB, List.length_cons, List.length_nil, List.replicate, List.set_cons_zero, List.set_cons_succ, decide_eq_true_eq, Bool.not_eq_true', decide_eq_false_iff_not, if_true, if_false, Bool.false_eq_true, Bool.true_eq_false, ite_true, ite_false, Bool.not_true, Bool.not_false, c_div, n_ten, c_pow, not_true_eq_false, not_false_eq_true, decide_true, decide_false, true_and, and_true, and_self, true_or, or_true, Int.reduceLT, Int.reduceLE, Int.reduceMul, Int.reduceAdd, Int.reduceSub, Int.reducePow, Int.reduceNeg, Int.reduceDiv, Int.reduceMod, Nat.reducePow, Int.reduceToNat, Int.reduceEq, Int.reduceNe, Nat.reduceLT, Nat.reduceLeDiff, Nat.reduceAdd, ↓x_whole, ↓x_kind, Int.natCast_one, Int.natCast_one, Int.natCast_one, Int.natCast_one, Int.natCast_one, Int.natCast_one, Int.natCast_one, Int.natCast_one, Int.natCast_one, Int.natCast_one, Int.natCast_one, Int.natCast_one, ↓x_disp, ↓x_pnil, ↓x_pcons])
def sp_law (K : PySem.W.Frag) : Sp := fun vs H Q _ => ∃ (a : Addr) (ns : List Int), vs = [.ref a] ∧ SqL K H a (ns.map V.int) ∧ ns.length ≤ 63 ∧ ∀ H', Q (.bl true) H'
theorem merge_kd5 {a b c d e : V} : mergeK [] (kd5 a b c d e) = kd5 a b c d e := by
  simp [-Sum.inr.injEq, mergeK, kd5, putK, n_ch, n_cn, n_ct, n_cs, n_hn, n_ht, n_hs, n_nt, n_ns, n_ts]
theorem sumW_sig {C D : List CeL} (e : D.map sig = C.map sig) : sumW D = sumW C := by
  have f : ∀ E : List CeL, sumW E = ((E.map sig).map fun x => x.2.2 + 1).sum := fun E => by
    unfold sumW
    rw [List.map_map]
    rfl
  rw [f D, f C, e]
section
variable {P : Program} {w : World} {K : PySem.W.Frag} {mg : Str → Option Value} {base : Heap}
theorem f_law (T : Tx K mg) : Fn P w K mg base 10 "law" ["_law_script"] (sp_law K) := by
  have c__law_cell_at := f__law_cell_at (P := P) (w := w) (base := base) T
  have c_Areas___init__ := f_Areas___init__ (P := P) (w := w) (base := base) T
  have c_Areas_flip := f_Areas_flip (P := P) (w := w) (base := base) T
  have c_Roots___init__ := f_Roots___init__ (P := P) (w := w) (base := base) T
  have c__law_laid := f__law_laid (P := P) (w := w) (base := base) T
  have c__law_filled := f__law_filled (P := P) (w := w) (base := base) T
  have c__law_next := f__law_next (P := P) (w := w) (base := base) T
  have c__law_word := f__law_word (P := P) (w := w) (base := base) T
  have c_Hands_put := f_Hands_put (P := P) (w := w) (base := base) T
  have c__law_tabled := f__law_tabled (P := P) (w := w) (base := base) T
  have c__law_collected := f__law_collected (P := P) (w := w) (base := base) T
  have c__law_changed := f__law_changed (P := P) (w := w) (base := base) T
  refine T.mkFn 80 51 (d := d_law) (N := ["_law_script", "_law_rooms", "_law_areas", "_law_many", "_law_roots", "_law_s", "_law_hand", "_law_k"]) (k := 9) rfl rfl rfl rfl rfl sc_law (fun _ _ _ _ _ _ us hl => match us, hl with | [_], _ => rfl) (fun vs H Q E h => ?len) (fun cdv A outer s H vs Q E hr h => ⟨_,
      (pss_cons (ps_set (i := 1) sc_law.nd rfl (Or.inl rfl) (pe_lst (pa_cons (pe_op op_gAdd pe_int (pe_op op_mod (pe_fn (takes_of rfl rfl rfl rfl) c__law_cell_at (hr.mono (by decide)) (by rfl) (pa_cons (pv 0) (pa_cons pe_int pa_nil))) pe_int)) (pa_cons (pe_op op_gAdd pe_int (pe_op op_mod (pe_op op_fdiv (pe_fn (takes_of rfl rfl rfl rfl) c__law_cell_at (hr.mono (by decide)) (by rfl) (pa_cons (pv 0) (pa_cons pe_int pa_nil))) pe_int) pe_int)) pa_nil))))
        (pss_cons (ps_set (i := 2) sc_law.nd rfl (Or.inl rfl) (pe_mk (K := K) rfl (takes_of rfl rfl rfl rfl) c_Areas___init__ (hr.mono (by decide)) (by rfl) (pa_cons (pe_ix (ix_seqK (K := K) rfl) (pv 1) pe_int (fun _ _ => rfl)) (pa_cons (pe_ix (ix_seqK (K := K) rfl) (pv 1) pe_int (fun _ _ => rfl)) pa_nil))))
        (pss_cut (ps_if (pt_cmpR (op_eqK (K := K) rfl hr.units) (pe_op op_mod (pe_fn (takes_of rfl rfl rfl rfl) c__law_cell_at (hr.mono (by decide)) (by rfl) (pa_cons (pv 0) (pa_cons pe_int pa_nil))) pe_int) pe_int (nomark _)) (pss_one (ps_expr (pe_mt0 (K := K) rfl (takes_of rfl rfl rfl rfl) (pv 2) c_Areas_flip (hr.mono (by decide))))) pss_nil)
        (pss_cons (ps_set (i := 3) sc_law.nd rfl (Or.inl rfl) (pe_op op_gAdd pe_int (pe_op op_mod (pe_fn (takes_of rfl rfl rfl rfl) c__law_cell_at (hr.mono (by decide)) (by rfl) (pa_cons (pv 0) (pa_cons pe_int pa_nil))) pe_int)))
        (pss_cons (ps_set (i := 4) sc_law.nd rfl (Or.inl rfl) (pe_mk (K := K) rfl (takes_of rfl rfl rfl rfl) c_Roots___init__ (hr.mono (by decide)) (by rfl) (pa_cons (pv 3) pa_nil)))
        (pss_cons (ps_set (i := 5) sc_law.nd rfl (Or.inl rfl) (pe_disp (pps_cons pe_str (pe_fn (takes_of rfl rfl rfl rfl) c__law_laid (hr.mono (by decide)) (by rfl) (pa_cons (pv 2) (pa_cons (pv 1) (pa_cons (pv 0) pa_nil)))) (pps_cons pe_str (pe_lst pa_nil) (pps_cons pe_str pe_dnewK (pps_cons pe_str (pe_lst pa_nil) (pps_cons pe_str (pe_lst pa_nil) pps_nil))))) rfl rfl (by decide) (by decide)))
        (pss_cons (ps_expr (pe_fn (takes_of rfl rfl rfl rfl) c__law_filled (hr.mono (by decide)) (by rfl) (pa_cons (pv 2) (pa_cons (pv 4) (pa_cons (pe_dget (hu_of hr) (pv 5) pe_str (fun _ _ => rfl)) (pa_cons (pe_fn (takes_of rfl rfl rfl rfl) c__law_next (hr.mono (by decide)) (by rfl) (pa_cons (pe_fn (takes_of rfl rfl rfl rfl) c__law_cell_at (hr.mono (by decide)) (by rfl) (pa_cons (pv 0) (pa_cons pe_int pa_nil))) pa_nil)) pa_nil))))))
        (pss_cons (ps_for (passes_of rfl) rfl (pi_range1 rfl (T.free 66) (pa_cons (pv 3) pa_nil)) (pg_name (i := 6) sc_law.nd rfl (Or.inl rfl)) (pss_cons (ps_expr (pe_bm PySem.F.plainAttrs_list PySem.F.slot_list_append PySem.F.type_list_append mt_append (pe_dget (hu_of hr) (pv 5) pe_str (fun _ _ => rfl)) (pa_cons (pe_fn (takes_of rfl rfl rfl rfl) c__law_word (hr.mono (by decide)) (by rfl) (pa_cons (pe_dget (hu_of hr) (pv 5) pe_str (fun _ _ => rfl)) (pa_cons (pe_fn (takes_of rfl rfl rfl rfl) c__law_next (hr.mono (by decide)) (by rfl) (pa_cons (pe_op op_gAdd (pe_fn (takes_of rfl rfl rfl rfl) c__law_cell_at (hr.mono (by decide)) (by rfl) (pa_cons (pv 0) (pa_cons pe_int pa_nil))) (pe_op op_gMul pe_int (pv 6))) pa_nil)) pa_nil))) pa_nil)))
        (pss_one (ps_expr (pe_mt (K := K) rfl (takes_of rfl rfl rfl rfl) (pe_fldC (T.cls 149) (T.noat 152) (pv 4)) c_Hands_put (hr.mono (by decide)) (pa_cons (pv 6) (pa_cons (pe_ix (ix_seqK (K := K) rfl) (pe_dget (hu_of hr) (pv 5) pe_str (fun _ _ => rfl)) (pv 6) (fun _ _ => rfl)) pa_nil)))))))
        (pss_cons (ps_expr (pe_fn (takes_of rfl rfl rfl rfl) c__law_tabled (hr.mono (by decide)) (by rfl) (pa_cons (pv 4) (pa_cons (pe_dget (hu_of hr) (pv 5) pe_str (fun _ _ => rfl)) (pa_cons (pv 0) (pa_cons (pe_dget (hu_of hr) (pv 5) pe_str (fun _ _ => rfl)) (pa_cons (pe_dget (hu_of hr) (pv 5) pe_str (fun _ _ => rfl)) pa_nil)))))))
        (pss_cons (ps_if (pt_not (pt_val (pe_fn (takes_of rfl rfl rfl rfl) c__law_collected (hr.mono (by decide)) (by rfl) (pa_cons (pv 2) (pa_cons (pv 4) (pa_cons (pv 5) pa_nil)))))) (pss_one (ps_ret pe_bl)) pss_nil)
        (pss_cons (ps_for (passes_of rfl) rfl (pi_range1 rfl (T.free 66) (pa_cons pe_int pa_nil)) (pg_name (i := 7) sc_law.nd rfl (Or.inl rfl)) (pss_cons (ps_if (pt_not (pt_val (pe_fn (takes_of rfl rfl rfl rfl) c__law_collected (hr.mono (by decide)) (by rfl) (pa_cons (pv 2) (pa_cons (pv 4) (pa_cons (pv 5) pa_nil)))))) (pss_one (ps_ret pe_bl)) pss_nil)
        (pss_cons (ps_expr (pe_fn (takes_of rfl rfl rfl rfl) c__law_changed (hr.mono (by decide)) (by rfl) (pa_cons (pv 2) (pa_cons (pv 4) (pa_cons (pv 5) (pa_cons (pe_fn (takes_of rfl rfl rfl rfl) c__law_cell_at (hr.mono (by decide)) (by rfl) (pa_cons (pv 0) (pa_cons (pe_op op_gAdd pe_int (pv 7)) pa_nil))) (pa_cons (pv 1) pa_nil)))))))
        (pss_one (ps_if (pt_not (pt_val (pe_fn (takes_of rfl rfl rfl rfl) c__law_collected (hr.mono (by decide)) (by rfl) (pa_cons (pv 2) (pa_cons (pv 4) (pa_cons (pv 5) pa_nil)))))) (pss_one (ps_ret pe_bl)) pss_nil)))))
        (pss_one (ps_ret pe_bl))))))))))))), ?rd⟩)
  case len => first | exact len_law h | (repeat (first | (obtain ⟨rfl, _⟩ := h; rfl; done) | obtain ⟨_, h⟩ := h))
  case rd =>
    obtain ⟨a, ns, rfl, hS, hl, q⟩ := h
    have sz : 1000000 ≤ sizeLine := by rw [sizeLine_eq]; omega
    have dkg : ∀ {Hx : Hp} {s : Addr} {k : Str} {v : V} {kvs : List (Key × V)}, Hx s = some (.dK kvs) → valV kvs (.inr k : Key) = some v → DGet Hx s (.str k) (some v) := fun {Hx s k v kvs} g e => by
      have := DGet.k (k := (.inr k : Key)) g
      rw [e] at this
      exact this
    walk_at "w3"
    refine ⟨a, _, ns, rfl, hS, by omega, ?_⟩
    walk_at "w3"
    refine ⟨a, _, ns, rfl, hS, by omega, ?_⟩
    walk_at "w3"
    obtain ⟨n, en, hn⟩ : ∃ n : Nat, 20 + cell ns 0 % 61 = (n : Int) ∧ 20 ≤ n ∧ n ≤ 80 := ⟨(20 + cell ns 0 % 61).toNat, by omega, by omega⟩
    obtain ⟨k, ek, hk⟩ : ∃ k : Nat, 4 + cell ns 0 / 61 % 17 = (k : Int) ∧ 4 ≤ k ∧ k ≤ 20 := ⟨(4 + cell ns 0 / 61 % 17).toNat, by omega, by omega⟩
    rw [en, ek]
    refine ⟨by omega, fun z nz => ?_⟩
    have s1 := same_new (o := .lst [.int (n : Int), .int (k : Int)]) nz
    have hz1 : upd H z (.lst [.int (n : Int), .int (k : Int)]) z = some (.lst [.int (n : Int), .int (k : Int)]) := upd_same
    have hS1 := s1.seq hS
    generalize upd H z (.lst [.int (n : Int), .int (k : Int)]) = H0 at hz1 hS1 ⊢
    refine r_ixL (i := 0) hz1 rfl ?_
    refine r_ixL (i := 1) hz1 rfl ?_
    intro g gx ng ngx nge
    have ev2 : oldV (.int (n : Int)) = some n := by rw [oldV_int, if_pos (by omega), Int.toNat_natCast]
    have ev3 : youngV (.int (k : Int)) = some k := by rw [youngV_int, if_pos (by omega), Int.toNat_natCast]
    refine ⟨g, gx, _, _, rfl, upd_same, .inl ⟨_, rfl⟩, .inl ⟨_, rfl⟩, ?_⟩
    rw [ev2]
    dsimp only
    rw [ev3]
    intro A H2 eg I2 nl no np nq nm k2
    subst eg
    have sm := same_mk (C := He.ga K "Areas") ng ngx nge
    have s02 : Same H0 H2 := fun b o e => k2 _ _ (ne_of_none e ng) (sm _ _ e)
    have nl0 := none_of sm nl
    have no0 := none_of sm no
    have np0 := none_of sm np
    have nq0 := none_of sm nq
    refine ⟨rfl, ?_⟩
    refine ⟨fun σ' H' => ∃ fl, σ' = [some (.ref a), some (.ref z), some (.ref A.a), none, none, none, none, none] ∧ ArO K H' A { arS n k with fl := fl } ∧ Same H0 H', ?_, ?_⟩
    · refine ⟨a, _, ns, rfl, s02.seq hS1, by omega, ?_⟩
      walk_at "w3"
      split
      · refine ⟨recv I2.ob, A, _, rfl, I2, fun H3 I3 k3 => ?_⟩
        exact ⟨_, I3, fun b o e => k3 _ _ (ne_of_none e ng) (s02 _ _ e)⟩
      · exact ⟨false, I2, s02⟩
    clear I2 s02 k2
    rintro σ' H3 ⟨fl, rfl, I3, s03⟩
    walk_at "w3"
    refine ⟨a, _, ns, rfl, s03.seq hS1, by omega, ?_⟩
    walk_at "w3"
    obtain ⟨m, em, hm⟩ : ∃ m : Nat, 1 + cell ns 3 % 6 = (m : Int) ∧ 1 ≤ m ∧ m ≤ 6 := ⟨(1 + cell ns 3 % 6).toNat, by omega, by omega⟩
    rw [em]
    intro r rx nr nrx nre
    have ev1 : handsV (.int (m : Int)) = some m := by rw [handsV_int, if_pos (by omega), Int.toNat_natCast]
    refine ⟨r, rx, _, rfl, upd_same, .inl ⟨_, rfl⟩, ?_⟩
    rw [ev1]
    intro R U H4 er eU R4 zz k4
    subst er
    have sr := same_mk (C := He.ga K "Roots") nr nrx nre
    have s34 : Same H3 H4 := fun b o e => k4 _ _ (ne_of_none e nr) (sr _ _ e)
    have zn : ∀ c, c = R.h ∨ c = R.hl ∨ c = R.b ∨ c = U.bd ∨ c = R.w ∨ c = R.wl ∨ c = R.la ∨ c = R.d ∨ c = R.e → H3 c = none := fun c mc => none_of sr (zz c mc)
    have s04 := s03.trans s34
    have hhl := zn R.hl (.inr (.inl rfl))
    have hb := zn R.b (.inr (.inr (.inl rfl)))
    have hbd := zn U.bd (.inr (.inr (.inr (.inl rfl))))
    have hwl := zn R.wl (.inr (.inr (.inr (.inr (.inr (.inl rfl))))))
    have hd := zn R.d (.inr (.inr (.inr (.inr (.inr (.inr (.inr (.inl rfl))))))))
    have he := zn R.e (.inr (.inr (.inr (.inr (.inr (.inr (.inr (.inr rfl))))))))
    have I4 : PairO K H4 A R { arS n k with fl := fl } U := ⟨I3.same s34, R4, ne_of_none I3.me.ls hhl, ne_of_none I3.me.ls hwl, ne_of_none I3.me.ls hd, ne_of_none I3.me.ls he⟩
    have ehs : U.hs = List.replicate m (-1) := by rw [eU]
    have ets : U.ts = [] := by rw [eU]
    have ews : U.ws = [] := by rw [eU]
    have ess : U.ss = [] := by rw [eU]
    have ebs : U.bs = [] := by rw [eU]
    refine ⟨rfl, ?_⟩
    -- the record
    intro s ns_
    have s5 := same_new (o := .dK []) ns_
    have I5 := I4.same s5
    have s05 := s04.trans s5
    have hs5 : upd H4 s (.dK []) s = some (.dK []) := upd_same
    have sbd := (I4.offl ns_).2
    have snA := fun y hy => Own16.off I4 ns_ y hy
    have s0n := none_of s04 ns_
    clear s5
    generalize upd H4 s (.dK []) = H5 at I5 s05 hs5 ⊢
    walk_at "w3"
    refine ⟨A, R, _, U, z, a, ns, rfl, I5, rfl, (by cases fl <;> rfl), s05 _ _ hz1, s05.seq hS1, (ne_of_none hz1 nl0), fun d H6 S6 C6 I6 n6 k6 ce6 ro6 w6 cl6 sw6 rr6 dn6 kf6 => ?_⟩
    dsimp only
    have s06 : Same H0 H6 := fun b o g => kf6 b o (ne_of_none g nl0) (ne_of_none g no0) (ne_of_none g np0) (ne_of_none g nq0) (s05 _ _ g)
    have hs6 : H6 s = some (.dK []) := kf6 _ _ (snA _ (.inr (.inl rfl))) (snA _ (.inr (.inr (.inl rfl)))) (snA _ (.inr (.inr (.inr (.inl rfl))))) (snA _ (.inr (.inr (.inr (.inr (.inl rfl)))))) hs5
    have sd_ : s ≠ d := ne_of_none hs5 dn6
    have dbd : d ≠ U.bd := (ne_of_none I5.ro.bo.ds dn6).symm
    have d0n := none_of s05 dn6
    refine ⟨by omega, fun h nh nd nnd => ⟨by omega, fun tk ntk => ⟨by omega, fun sd nsd => ?_⟩⟩⟩
    have h0n := none_of s06 nh
    have oh := (I6.offl nh).1
    have sh := ne_of_none hs6 nh
    have rh : ∀ c ∈ C6, c.r ≠ h := fun c mc => ne_of_none (ce6.rw_ c mc) nh
    have s7 := same_new (o := .lst []) nh
    have hh7 : upd H6 h (.lst []) h = some (.lst []) := upd_same
    have I7 := I6.same s7
    have ce7 := ce6.same s7
    have s07 := s06.trans s7
    have hs7 := s7 _ _ hs6
    clear s7
    generalize upd H6 h (.lst []) = H7 at *
    have nd0n := none_of s07 nnd
    have nbd := (I7.offl nnd).2
    have snd := ne_of_none hs7 nnd
    have dnd := ne_of_none ce7.dd nnd
    have s8 := same_new (o := .dK []) nnd
    have hn8 : upd H7 nd (.dK []) nd = some (.dK []) := upd_same
    have hh8 := s8 _ _ hh7
    have I8 := I7.same s8
    have ce8 := ce7.same s8
    have s08 := s07.trans s8
    have hs8 := s8 _ _ hs7
    clear s8
    generalize upd H7 nd (.dK []) = H8 at *
    have tk0n := none_of s08 ntk
    have ot := (I8.offl ntk).1
    have htk := ne_of_none hh8 ntk
    have rt : ∀ c ∈ C6, c.r ≠ tk := fun c mc => ne_of_none (ce8.rw_ c mc) ntk
    have s9 := same_new (o := .lst []) ntk
    have ht9 : upd H8 tk (.lst []) tk = some (.lst []) := upd_same
    have hn9 := s9 _ _ hn8
    have hh9 := s9 _ _ hh8
    have I9 := I8.same s9
    have ce9 := ce8.same s9
    have s09 := s08.trans s9
    have hs9 := s9 _ _ hs8
    clear s9
    generalize upd H8 tk (.lst []) = H9 at *
    have sd0n := none_of s09 nsd
    have od := (I9.offl nsd).1
    have hsd := ne_of_none hh9 nsd
    have tsd := ne_of_none ht9 nsd
    have rd : ∀ c ∈ C6, c.r ≠ sd := fun c mc => ne_of_none (ce9.rw_ c mc) nsd
    have sA := same_new (o := .lst []) nsd
    have hdA : upd H9 sd (.lst []) sd = some (.lst []) := upd_same
    have htA := sA _ _ ht9
    have hnA := sA _ _ hn9
    have hhA := sA _ _ hh9
    have IA := I9.same sA
    have ceA := ce9.same sA
    have s0A := s09.trans sA
    have hsA := sA _ _ hs9
    clear sA
    generalize upd H9 sd (.lst []) = HA at *
    clear hs9 s09 ce9 I9 hh9 hn9 ht9 hs8 s08 ce8 I8 hh8 hn8 hs7 s07 ce7 I7 hh7 hs6 s06 kf6
    refine ⟨hsA, kd5 (.ref d) (.ref h) (.ref nd) (.ref tk) (.ref sd), rfl, by show 5 ≤ 15; omega, ?_⟩
    rw [merge_kd5]
    have IB := IA.offD (o := .dK (kd5 (.ref d) (.ref h) (.ref nd) (.ref tk) (.ref sd))) hsA sbd
    have kB : ∀ b o, b ≠ s → HA b = some o → upd HA s (.dK (kd5 (.ref d) (.ref h) (.ref nd) (.ref tk) (.ref sd))) b = some o := fun b o n g => (upd_ne n).trans g
    have kL : ∀ {b xs}, HA b = some (.lst xs) → upd HA s (.dK (kd5 (.ref d) (.ref h) (.ref nd) (.ref tk) (.ref sd))) b = some (.lst xs) := fun g => kB _ _ (ne_of g hsA (by intro z; cases z)) g
    have hsB : upd HA s (.dK (kd5 (.ref d) (.ref h) (.ref nd) (.ref tk) (.ref sd))) s = some (.dK (kd5 (.ref d) (.ref h) (.ref nd) (.ref tk) (.ref sd))) := upd_same
    have ceB : CellsO kp (upd HA s (.dK (kd5 (.ref d) (.ref h) (.ref nd) (.ref tk) (.ref sd)))) S6 d C6 := { ceA with dd := kB _ _ sd_.symm ceA.dd, rw_ := fun c mc => kL (ceA.rw_ c mc) }
    have s0B : Same H0 (upd HA s (.dK (kd5 (.ref d) (.ref h) (.ref nd) (.ref tk) (.ref sd)))) := fun b o g => kB _ _ (ne_of_none g s0n) (s0A _ _ g)
    have n0 : ∀ x, Own16 A R U.bd s ⟨d, h, nd, tk, sd⟩ C6 x → H0 x = none := by
      rintro x ((rfl | rfl | rfl | rfl | rfl | rfl | rfl | rfl | rfl | rfl | rfl) | (rfl | rfl | rfl | rfl | rfl | rfl) | ⟨c, mc, rfl⟩)
      · exact ng
      · exact nl0
      · exact no0
      · exact np0
      · exact nq0
      · exact none_of s03 hhl
      · exact none_of s03 hwl
      · exact none_of s03 hd
      · exact none_of s03 he
      · exact none_of s03 hb
      · exact none_of s03 hbd
      · exact s0n
      · exact d0n
      · exact h0n
      · exact nd0n
      · exact tk0n
      · exact sd0n
      · exact none_of s05 (rr6 c mc)
    have J : I16g K A R s H0 (upd HA s (.dK (kd5 (.ref d) (.ref h) (.ref nd) (.ref tk) (.ref sd)))) S6 U ⟨d, h, nd, tk, sd⟩ C6 10 [] :=
      { I := IB, L := { ks := hsB, dd := ceB.dd, rw_ := ceB.rw_, rd := ceB.rd, hh := kL hhA, nn := by rw [ets]; exact kB _ _ snd.symm hnA, tt := ⟨[], kL htA, by rw [ews]; exact .nil⟩, sa := by rw [ess]; exact kL hdA, n1 := sd_, n2 := snd, n3 := dnd, n4 := htk, n5 := hsd, n6 := fun c mc => ⟨rh c mc, rt c mc, rd c mc⟩ }, cp := ceB.cp, cw := fun c mc w mw => by rw [w6 c mc w mw]; exact ClW.non, hw := fun w mw => by rw [ehs] at mw; rw [(List.mem_replicate.mp mw).2]; exact ClW.non, cl := cl6, sw := by rw [n6]; exact sw6, fl := fun t m => by (rw [ets] at m; cases m), tl := by rw [ets]; exact Nat.zero_le _, wl := by rw [ews]; exact Nat.zero_le _, sl := by rw [ess]; exact Nat.zero_le _, bl := by rw [ebs]; exact Nat.zero_le _, hl := by rw [ehs, List.length_replicate]; omega, ro := ro6, oh := ⟨oh, ot, od⟩, ob := ⟨sbd, dbd, nbd⟩, n0 := n0, s0 := s0B }
    generalize upd HA s (.dK (kd5 (.ref d) (.ref h) (.ref nd) (.ref tk) (.ref sd))) = HB at J ⊢
    have so := s0B.seq hS1
    clear n0 kB kL IA hsA s0A ceA hhA hnA htA hdA IB hsB
    have s0J := J.s0
    refine ⟨_, dkg J.L.ks kd_c, ?_⟩
    refine ⟨a, _, ns, rfl, (s0J.seq hS1), by omega, ?_⟩
    refine ⟨_, rfl, ?_⟩
    refine ⟨A, R, S6, U, C6, d, _, rfl, J.I, J.ce, J.ro, J.ob.2.1, by omega, by rw [ebs]; exact Nat.zero_le _, J.cw, fun bs' ws' C' HC hb' IC ceC sg cwC kC => ?_⟩
    have JC := J.cells (bs' := bs') (m' := 10) (Nat.le_refl _) IC ceC cwC (fun c mc => by
      obtain ⟨x, mx, e1, -, -⟩ := sig_mem sg mc
      exact ⟨x, mx, e1⟩) (by rw [← List.length_map (f := sig), sg, List.length_map]; exact cl6) (by rw [sumW_sig sg]; exact J.sw) (by rw [show U.bs = [] from ebs] at hb'; exact Nat.le_trans hb' (by show 0 + 8 * C6.length ≤ 1000; omega)) (fun b o m1 _ _ _ _ m2 m3 g => kC b o m1 m2 m3 g) (fun c mc => by
      obtain ⟨x, mx, -, e2, -⟩ := sig_mem sg.symm mc
      exact .inl ⟨x, mx, e2.symm⟩)
    clear J kC ceC cwC IC ceB s0B s0J so
    obtain ⟨S7, eS7⟩ : ∃ x, x = ({ S6 with ws := ws' } : ArS) := ⟨_, rfl⟩
    have n7 : S7.n = S6.n := by rw [eS7]
    have k7 : S7.k = S6.k := by rw [eS7]
    obtain ⟨U7, eU7⟩ : ∃ x, x = ({ U with bs := bs' } : RoS) := ⟨_, rfl⟩
    have hs7 : U7.hs = List.replicate m (-1) := by rw [eU7, ← ehs]
    have ts7 : U7.ts = [] := by rw [eU7, ← ets]
    have ws7 : U7.ws = [] := by rw [eU7, ← ews]
    have bd7 : U7.bd = U.bd := by rw [eU7]
    rw [← eS7, ← eU7] at JC
    have hm7 : U7.hs.length = m := by rw [hs7, List.length_replicate]
    dsimp only
    refine ⟨by omega, by omega, ?_⟩
    rw [Int.toNat_natCast]
    refine forW_range (lo := 0) (fun i σ H' => ∃ hs' o6, σ = [some (.ref a), some (.ref z), some (.ref A.a), some (.int (m : Int)), some (.ref R.r), some (.ref s), o6, none] ∧ I16g K A R s H0 H' S7 { U7 with hs := hs' } ⟨d, h, nd, tk, sd⟩ C' 10 (hs'.take i) ∧ hs'.length = m) ⟨U7.hs, _, rfl, JC, hm7⟩ ?_ ?_
    · rintro i σ H1 hi ⟨hs', o6, rfl, J1, l1⟩
      rw [Int.zero_add]
      have hi' : i < hs'.length := by omega
      have c1 := J1.cl
      have sS := J1.s0.seq hS1
      walk_at "w3"
      refine ⟨_, dkg J1.L.ks kd_h, ?_⟩
      refine ⟨.inl ⟨rfl, _, .of J1.L.hh⟩, _, dkg J1.L.ks kd_c, ?_⟩
      refine ⟨a, _, ns, rfl, sS, by omega, ?_⟩
      walk_at "w3"
      refine ⟨_, rfl, ?_⟩
      refine ⟨S7, _, C', _, rfl, J1.ce, by omega, J1.c9, fun n H2 s2 cn => ?_⟩
      have J2 := J1.same s2
      refine ⟨_, _, _, rfl, rfl, J2.L.hh, by rw [List.length_map, List.length_take]; omega, ?_⟩
      have I3 := J2.I.off (o := .lst ((hs'.take i).map V.int ++ [.int n])) J2.L.hh J2.oh.1
      have ks3 := (upd_ne (o := .lst ((hs'.take i).map V.int ++ [.int n])) (ne_of J2.L.ks J2.L.hh (by intro z; cases z))).trans J2.L.ks
      refine ⟨_, fldIs I3.ro.ob, recv I3.ro.ho.ob, _, dkg ks3 kd_h, ?_⟩
      have li : (hs'.take i).length = i := by rw [List.length_take]; omega
      refine r_ixL upd_same (i := i) (v := .int n) (by rw [List.getElem?_append_right (by rw [List.length_map]; omega), List.length_map, li, Nat.sub_self]; rfl) ?_
      refine ⟨R.h, R.hx, R.hl, hs', _, _, rfl, I3.ro.ho, .inl ⟨_, rfl⟩, .inl ⟨_, rfl⟩, ?_⟩
      rw [placeOf_int, if_pos ⟨by omega, by omega⟩, wordV_int, if_pos cn.1, Int.toNat_natCast]
      dsimp only
      have J4 := J2.hand (i := i) (n := n) (hs' := hs'.take i ++ [n]) cn
      have e4 : (hs'.set i n).take (i + 1) = hs'.take i ++ [n] := by
        rw [List.take_add_one, List.getElem?_set_self hi', List.take_set_of_le (Nat.le_refl _)]
        rfl
      refine ⟨hs'.set i n, _, rfl, ?_, by rw [List.length_set]; exact l1⟩
      rw [e4]
      rw [show (hs'.take i ++ [n]).map V.int = (hs'.take i).map V.int ++ [.int n] from by rw [List.map_append]; rfl] at J4
      exact J4
    rintro σ H1 ⟨hs', o6, rfl, J1, l1⟩
    rw [show hs'.take m = hs' from by rw [← l1]; exact List.take_length] at J1
    walk_at "w3"
    have c1 := J1.cl
    have rs0 : H1 tk = some (.lst []) := by
      obtain ⟨rs, t1, t2⟩ := J1.L.tt
      rw [show ({ U7 with hs := hs' } : RoS).ws = [] from ws7] at t2
      cases t2
      exact t1
    have nn0 : H1 nd = some (.dK []) := by
      have := J1.L.nn
      rw [show ({ U7 with hs := hs' } : RoS).ts = [] from ts7] at this
      exact this
    refine ⟨_, dkg J1.L.ks kd_c, _, dkg J1.L.ks kd_n, _, dkg J1.L.ks kd_t, ?_⟩
    refine ⟨A, R, S7, _, C', d, nd, tk, a, ns, rfl, J1.I, J1.ce, by omega, J1.c9, ts7, ws7, nn0, rs0, J1.oh.2.1, J1.ob.2.2, dnd.symm, J1.s0.seq hS1, fun U8 H8 rs I8 h8 b8 q8 s8 fl8 tl8 wl8 nn8 tk8 ta8 kT => ?_⟩
    have J8 : I16 K A R s H0 H8 S7 U8 ⟨d, h, nd, tk, sd⟩ C' 10 := by
      have oh := J1.oh
      have kl : ∀ {b xs}, b ≠ R.wl → b ≠ R.d → b ≠ tk → H1 b = some (.lst xs) → H8 b = some (.lst xs) := fun n1 n2 n3 g => kT _ _ n1 n2 (ne_of g nn0 (by intro z; cases z)) n3 g
      have kd : ∀ {b kv}, b ≠ nd → H1 b = some (.dK kv) → H8 b = some (.dK kv) := fun n g => kT _ _ (ne_of g J1.I.ro.wo.ls (by intro z; cases z)) (ne_of g J1.I.ro.lo.wa (by intro z; cases z)) n (ne_of g rs0 (by intro z; cases z)) g
      have L8 : Lo16 s H8 ⟨d, h, nd, tk, sd⟩ C' U8.hs U8.ts U8.ws U8.ss := { J1.L with ks := kd snd J1.L.ks, dd := kd dnd J1.L.dd, rw_ := fun c mc => kl (J1.ro c mc).2.2.1 (J1.ro c mc).2.2.2.1 (J1.L.n6 c mc).2.1 (J1.L.rw_ c mc), hh := by rw [h8]; exact kl oh.1.2.2.1 oh.1.2.2.2.1 htk J1.L.hh, nn := nn8, tt := ⟨rs, tk8, ta8⟩, sa := by rw [s8]; exact kl oh.2.2.2.2.1 oh.2.2.2.2.2.1 tsd.symm J1.L.sa }
      exact { J1 with I := I8, L := L8, hw := fun w mw => J1.hw w (by rw [← h8]; exact mw), fl := fl8, tl := tl8, wl := wl8, sl := by rw [s8]; exact J1.sl, bl := by rw [q8]; exact J1.bl, hl := by rw [h8]; exact J1.hl, ob := by rw [b8]; exact J1.ob, n0 := by rw [b8]; exact J1.n0, s0 := fun b o g => kT b o (ne_of_none g (J1.n0 _ (.inl (.inr (.inr (.inr (.inr (.inr (.inr (.inl rfl))))))))) ) (ne_of_none g (J1.n0 _ (.inl (.inr (.inr (.inr (.inr (.inr (.inr (.inr (.inl rfl))))))))))) (ne_of_none g (J1.n0 _ (.inr (.inl (.inr (.inr (.inr (.inl rfl)))))))) (ne_of_none g (J1.n0 _ (.inr (.inl (.inr (.inr (.inr (.inr (.inl rfl))))))))) (J1.s0 _ _ g) }
    clear kT J1
    refine ⟨A, R, s, H0, S7, U8, _, C', 10, rfl, J8, by omega, fun S9 U9 w9 C9 H9 J9 n9 k9 et9 eo9 l9 => ?_⟩
    refine ⟨true, rfl, ?_⟩
    rw [if_neg (by intro z; cases z)]
    clear J8
    refine forW_range (lo := 0) (fun i σ H' => ∃ S U w C o7, σ = [some (.ref a), some (.ref z), some (.ref A.a), some (.int (m : Int)), some (.ref R.r), some (.ref s), o6, o7] ∧ I16 K A R s H0 H' S U w C (11 + 3 * i) ∧ S.n = n ∧ S.k = k) ⟨S9, U9, w9, C9, _, rfl, J9, (n9.trans n7).trans n6, (k9.trans k7).trans k6⟩ ?_ ?_
    · rintro i σ H10 hi ⟨Sa, Ua, wa, Ca, o7, rfl, Ja, na, ka⟩
      rw [Int.zero_add]
      have hi2 : i < 2 := hi
      walk_at "w3"
      refine ⟨A, R, s, H0, Sa, Ua, wa, Ca, _, rfl, Ja, by omega, fun Sb Ub wb Cb Hb Jb nb kb et eo lb => ?_⟩
      refine ⟨true, rfl, ?_⟩
      rw [if_neg (by intro z; cases z)]
      walk_at "w3"
      refine ⟨a, _, ns, rfl, Jb.s0.seq hS1, by omega, ?_⟩
      refine ⟨A, R, s, H0, Sb, Ub, wb, Cb, _, _, z, rfl, Jb, by omega, et, eo, by rw [nb, kb, na, ka]; exact hz1, fun Sc Uc Cc Hc Jc nc kc lc => ?_⟩
      refine ⟨A, R, s, H0, Sc, Uc, wb, Cc, _, rfl, Jc, by omega, fun Sd Ud wd Cd Hd Jd nd_ kd_ _ _ ld => ?_⟩
      refine ⟨true, rfl, ?_⟩
      rw [if_neg (by intro z; cases z)]
      exact ⟨Sd, Ud, wd, Cd, _, rfl, Jd, by rw [nd_, nc, nb, na], by rw [kd_, kc, kb, ka]⟩
    rintro σ H10 ⟨Sa, Ua, wa, Ca, o7, rfl, Ja, na, ka⟩
    walk_at "w3"
    exact q H10
end

theorem facts {w : World} {K : PySem.W.Frag} {h : Heap} {mg : Str → Option Value} {f : Addr} (X : K.In h) (G : h.Ns mainGlobals mg) (hfa : mg ("law" : Str) = some (.ref f)) (c : He.SaysD fa fn K) (ce : exOk exL K = true) :
    ∃ fd : FuncData, (∀ (s : Shared) (v : Value), BindsTo s fd ⟨[v], []⟩ [("_law_script", v)]) ∧ ∀ base : Heap, K.In base → base.Ns mainGlobals mg → FnOk (PySem.Challenge.rw_cellkeep_k16_whole_slid).prog w K mg base CX0 10 f fd ["_law_script"] (sp_law K) := by
  have T : Tx K mg := ⟨⟨h, X, G⟩, c, ce⟩
  have e := hfa.symm.trans (T.glo 51)
  cases e
  have F : ∀ base : Heap, Fn (PySem.Challenge.rw_cellkeep_k16_whole_slid).prog w K mg base 10 "law" ["_law_script"] (sp_law K) := fun base => f_law T
  exact ⟨_, fun s v => (F h).bd s [v] rfl, fun base _ _ => quiet (F base).ok fun _ _ _ _ z => z⟩

end Pr
open PySem PySem.W PySem.Calls PyProof.Rows
theorem PySem.Challenge.cw_cellkeep_k16_whole_slid_holds : PySem.Challenge.rw_cellkeep_k16_whole_slid.Holds := by
  w_on; o_law
  refine HandSHeadRun.head_any (r := OpenLaw.row PySem.Challenge.rw_cellkeep_k16_whole_slid) (q := view (OpenLaw.row PySem.Challenge.rw_cellkeep_k16_whole_slid).prog [76]) (H := Pr.hk) (ob := Pr.ob) (M := 16000) (loose := Pr.loose) (d := HandSHeadRun.topDef (OpenLaw.row PySem.Challenge.rw_cellkeep_k16_whole_slid).prog 76) (kwd := []) Pr.ob_eq
    (by kernel_rfl) (fun s => by kernel_rfl) Pr.run (by kernel_rfl) (by kernel_rfl) (by kernel_rfl) (by rfl) (by first | assumption | decide +kernel) (by decide +kernel) ⟨rfl, rfl, rfl, rfl, rfl, by decide +kernel⟩ ?hw ?hc
  case hw => w_witness2
  case hc =>
    refine L2.walk_ofE (l := PySem.Challenge.rw_cellkeep_k16_whole_slid) (n := 63) (k := 10) (x := "_law_script") (CX := L2.CX0) rfl (by decide) (by kernel_rfl) ⟨rfl, by decide, by decide⟩ ?F (fun _ _ _ _ z => z)
    case F =>
      intro w mg fa h Y G hmg0
      obtain ⟨K, KX, c, ce⟩ := Y
      have hmg : mg ("law" : PySem.Str) = some (.ref fa) := by
        have e : (HandSHeadRun.topDef (OpenLaw.row PySem.Challenge.rw_cellkeep_k16_whole_slid).prog 76).name = ("law" : PySem.Str) := by kernel_rfl
        rw [← e]
        exact hmg0
      obtain ⟨fd, hb, hF⟩ := Pr.facts (w := w) KX G hmg c ce
      exact ⟨K, fd, Pr.sp_law K, KX, hb, fun H a ns hl _ hS => ⟨a, ns, rfl, hS, hl, fun _ => rfl⟩, hF⟩
#print axioms PySem.Challenge.cw_cellkeep_k16_whole_slid_holds

