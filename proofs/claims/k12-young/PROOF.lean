import PyProof.Rows.All
import Wide.All
import OpenK.AllK
import Wide.FinOn
import KE.KStateDown
import HandS.Base
import HandS.Call
import HandS.List
import HandS.Comp
import HandS.Ends
import HandS.Dict
import HandS.Iter
import HandS.Walk
import HandS.Text
import HandS.Words
import HandS.WordsList
import HandS.WordsDict
import HandS.Exc
import HandS.TryOnly
import HandS.TryMany
import HandS.ExcOwn
import HandS.WordsExc
import HandS.IsInst
import HandS.ExcIs
import HandS.Flow
import HandS.More
import HandS.Wide
import HandS.SortInts
import HandS.SortRule
import HandS.Defaults
import HandS.Head0
import HandS.Head1
import HandS.Head2
import HandS.HeadEnd
import HandS.HeadHook1
import HandS.HeadHook2
import KE.KDictCopyH
import PySem.Challenge.RW_cellkeep_k12_whole_young
set_option Elab.async false
set_option linter.all false
set_option maxRecDepth 100000
set_option maxHeartbeats 4000000
namespace G
open PySem PySem.Spec PyProof.Rows L2

/-! ## a caught exception as a tracked thing -/
/-- an exception object of class cls stands at a -/
def ExA (cls : Value) (a : Addr) : HO := .ext fun h => ∃ (o : Obj) (fv : Array Value), h.get? a = some o ∧ Zc cls none o ∧ o.data = .fields fv
theorem exA_ok {P : Program} {w : World} {H : Hp} {h : Heap} {a : Addr} {cls : Value} {o : Obj} {fv : Array Value} (e : h.get? a = some o) (z : Zc cls none o) (d : o.data = .fields fv) : ObjOk P w H h a (ExA cls a) :=
  ⟨⟨o, fv, e, z, d⟩, ⟨o, e⟩, fun _ _ ⟨o', fv', e', z', d'⟩ k => ⟨o', fv', k _ e', z', d'⟩⟩

section
variable {X : Cx} {pins : List (Addr × Obj)} {σ : L2.St} {H : Hp} {s : Shared}
/-- an object that stands untracked is tracked from now on -/
theorem track {a : Addr} {u : HO} (I : Inv X pins σ H s) (na : H a = none) (n0 : X.s_0.heap.get? a = none) (nL : a ≠ X.env.locals) (nC : ∀ x c, X.env.cells.lookup x = some c → c ≠ a)
    (nP : ∀ p ∈ X.pn ++ pins, p.1 ≠ a) (new : ObjOk X.prog X.w (upd H a u) s.heap a u) : Inv X pins σ (upd H a u) s := by
  have ne0 : ∀ b o, X.s_0.heap.get? b = some o → b ≠ a := fun b o e z => by rw [z, n0] at e; cases e
  have neH : ∀ b o, H b = some o → b ≠ a := fun b o e z => by rw [z, na] at e; cases e
  refine ⟨I.ok, I.os, I.bare, ⟨I.base.keep, I.base.slot, ?_, I.base.there, ?_, ?_, ?_⟩, I.loc, I.cell, ?_, ?_, ?_, ?_, I.len⟩
  · intro b o e n hx
    rw [upd_ne (ne0 b o e)]
    exact I.base.free b o e n hx
  · intro b xs e
    have q := I.base.tups b xs e
    rw [upd_ne (neH b _ q)]
    exact q
  · intro b o u' e
    have q := I.base.frzs b o u' e
    rw [upd_ne (neH b _ q)]
    exact q
  · intro b ps e
    obtain ⟨m, q⟩ := I.base.tbls b ps e
    exact ⟨m, by rw [upd_ne (neH b _ q)]; exact q⟩
  · rw [upd_ne (Ne.symm nL)]
    exact I.free
  · intro x c e
    rw [upd_ne (nC x c e)]
    exact I.freeC x c e
  · intro p hp
    obtain ⟨e, n, ne, nf, d⟩ := I.pin p hp
    exact ⟨e, by rw [upd_ne (nP p hp)]; exact n, ne, nf, d⟩
  · intro b o e
    by_cases hb : b = a
    · subst hb
      rw [upd_same] at e
      cases e
      exact new
    · rw [upd_ne hb] at e
      refine (I.hok b o e).stay (fun _ _ _ z => z) (fun c z => ?_) fun c xs z => ?_
      · rw [upd_ne (neH c _ z)]
        exact z
      · rw [upd_ne (neH c _ z)]
        exact z
/-- a list that was laid since the def began is forgotten -/
theorem forget {a : Addr} {xs : List V} (I : Inv X pins σ (upd H a (.lst xs)) s) (na : H a = none) (n0 : X.H_0 a = none) : Inv X pins σ H s := by
  have back : ∀ b, b ≠ a → upd H a (.lst xs) b = H b := fun b hb => upd_ne hb
  have nn : ∀ b, upd H a (.lst xs) b = none → H b = none := fun b e => by
    by_cases hb : b = a
    · rw [hb, upd_same] at e
      cases e
    · rw [upd_ne hb] at e
      exact e
  refine ⟨I.ok, I.os, I.bare, ⟨I.base.keep, I.base.slot, fun b o e n hx => nn b (I.base.free b o e n hx), I.base.there, ?_, ?_, ?_⟩, I.loc, I.cell, nn _ I.free, fun x c e => nn _ (I.freeC x c e), fun p hp => ?_, ?_, I.len⟩
  · intro b ys e
    rw [← back b (fun z => by rw [z, n0] at e; cases e)]
    exact I.base.tups b ys e
  · intro b o u' e
    rw [← back b (fun z => by rw [z, n0] at e; cases e)]
    exact I.base.frzs b o u' e
  · intro b ps e
    rw [← back b (fun z => by rw [z, n0] at e; cases e)]
    exact I.base.tbls b ps e
  · obtain ⟨e, n, r⟩ := I.pin p hp
    exact ⟨e, nn _ n, r⟩
  · intro b o e
    have hb : b ≠ a := fun z => by rw [z, na] at e; cases e
    have q : upd H a (.lst xs) b = some o := by rw [upd_ne hb]; exact e
    refine (I.hok b o q).stay (fun _ _ _ z => z) (fun c z => ?_) fun c ys z => ?_
    · rw [← back c (fun y => by rw [y, upd_same] at z; cases z)]
      exact z
    · rw [← back c (fun y => by rw [y, upd_same] at z; cases z)]
      exact z
/-- what a fresh address of now was ahead of the def -/
theorem fresh0 {a : Addr} (I : Inv X pins σ H s) (na : H a = none) (nt : ∀ o, X.H_0 a = some o → ∃ ob, X.s_0.heap.get? a = some ob) (hs : s.heap.objs.size ≤ a) : X.H_0 a = none := by
  cases e : X.H_0 a with
  | none => rfl
  | some o =>
    obtain ⟨ob, q⟩ := nt o e
    exact absurd (Nat.lt_of_lt_of_le (Heap.lt_size q) (Nat.le_trans I.sz hs)) (Nat.lt_irrefl _)
end
end G
namespace G
open PySem PySem.Spec PyProof.Rows L2
/-! ## a display that is subscripted at once -/
section
variable {X : Cx} {pins : List (Addr × Obj)} {σ : L2.St} {H : Hp} {s : Shared}
theorem itemAt {value slice : Expr} {E : Value → Shared → Prop} {Q : Value → Shared → Prop} {p : Addr} {xs : List V} {its : List Value} {i : Int} {t : Tok} {z : V} (r : Vals xs its) (pl : PlainL s.heap p its.toArray) (hz : xs.length ≤ sizeLine) (he : atI xs i = some z)
    (fin : ∀ w, RelV z w → Q w s) (hs : subscripted slice false (.ref p) (.int i t) = operate [.ref p, .int i t] (getItem (.ref p) (.int i t))) :
    wpAny (model X.prog X.w) X.A (subscriptTail value slice (.ref p) (.int i t)) Q E s := by
  obtain ⟨j, g1, g2, g3, g4, g5⟩ := atI_get he
  obtain ⟨u, eu, ru⟩ := r.get g2
  have ln := r.length
  have big := line63
  by_cases c : 0 ≤ i
  · have ej : i.toNat = j := Option.some.inj ((seqIndex_of c g5).symm.trans g1)
    exact item_listR pl.isList c (by omega) (by subst ej; simpa using eu) (fin u ru) hs
  · have ej : (i + (its.toArray.size : Int)).toNat = j := by
      have z1 := (seqIndex_neg (by omega) g4).symm.trans g1
      simp only [List.size_toArray, ← ln]
      exact Option.some.inj z1
    refine subscriptTail_builtinR (x := u) pl.isList.typeIs slot_list_getitem.lookup ?_ hs
    refine wpAny_getItem_list_neg (Q := fun r s' => r = u ∧ Q r s') pl.isList (by omega) ?_ (by omega) (by subst ej; simpa using eu) ⟨rfl, fin u ru⟩
    simp only [List.size_toArray]
    omega
/-- [a, b, ..][i]: the list is never seen again -/
def tMenu (ta : TA) (ti : TE) : TE := fun σ H Q => ta σ H fun xs H1 => xs.length ≤ sizeLine ∧ ti σ H1 fun y H2 => ∃ i v, y = .int i ∧ atI xs i = some v ∧ Q v H2
theorem pe_menu {es : List Expr} {b : Expr} {ta : TA} {tb : TE} {p1 pos : Pos} (ha : PA X es ta) (hb : PE X b tb) (hs : PlainIx b) : PE X (.Subscript (.List es p1) b pos) (tMenu ta tb) := by
  refine ⟨fun pins s σ H Q I h => ?_⟩
  refine Subscript_ (wpAny_List_spliced (thn (ha.run p1 pins s σ H _ I h) fun us s1 ⟨xs, H1, I1, r, z, q⟩ => ⟨by rw [← r.length]; exact z, ?_⟩))
  have hf : H1 s1.heap.objs.size = none := I1.hok.fresh (Nat.le_refl _)
  have I2 : Inv X pins σ H1 { s1 with heap := s1.heap.push { cls := .type "list", data := .seq us.toArray } } := I1.kept (t' := s1.toks) fun _ _ e => Heap.get?_push_of_some _ e
  have eo : (s1.heap.push { cls := .type "list", data := .seq us.toArray }).get? s1.heap.objs.size = some { cls := .type "list", data := .seq us.toArray } := Heap.get?_push_size _ rfl
  have I3 := I2.pinned (fp := [s1.heap.objs.size]) (fun b hb => by
    have e : b = s1.heap.objs.size := by simpa using hb
    subst e
    exact I1.fpOk (Nat.le_refl _) hf) fun b hb => by
    have e : b = s1.heap.objs.size := by simpa using hb
    subst e
    exact ⟨_, eo, fun v z => by cases z⟩
  refine thn (hb.run _ _ σ H1 _ I3 q) fun u s2 ⟨y, H2, I4, ry, i, v, ey, hv, q2⟩ => ?_
  subst ey
  obtain ⟨t, rfl⟩ := ry
  have e2 : s2.heap.get? s1.heap.objs.size = some { cls := .type "list", data := .seq us.toArray } :=
    (I4.pin (s1.heap.objs.size, _) (List.mem_append_right _ (List.mem_append_right _ (mem_pinsAt (List.mem_cons_self) eo)))).1
  exact itemAt r ⟨_, _, e2, rfl, rfl, rfl⟩ z hv (fun w rw' => ⟨v, H2, I4.unpinned, rw', q2⟩) (hs _ _)
end
/-! ## defs that may be called while an exception is handled: they raise nothing -/
structure RoomN (k : Nat) (A : Around) : Prop where
  dp : A.depth + 3 * k + 5 < recursionLimit
  un : A.units + 16 * k + 200 < cLine
theorem roomN_of {k : Nat} {A : Around} (r : Room k A) : RoomN k A := ⟨r.dp, r.un⟩
theorem roomN_mark {k : Nat} {A : Around} {v : Option Value} (r : Room k A) : RoomN k (A.mark v) := ⟨r.dp, r.un⟩
theorem RoomN.mono {j k : Nat} {A : Around} (r : RoomN k A) (h : j ≤ k) : RoomN j A := ⟨by have := r.dp; omega, by have := r.un; omega⟩
theorem RoomN.deeper {k : Nat} {A : Around} (r : RoomN (k + 1) A) (env : Env) : RoomN k (A.deeper env) :=
  ⟨by have h := r.dp; show A.depth + 1 + (3 * k + 5) < _; omega, by have h := r.un; show A.units + 3 + (16 * k + 200) < _; omega⟩
abbrev cxN (P : Program) (w : World) (K : PySem.W.Frag) (mg : Str → Option Value) (base : Heap) (N : List Str) (qual : Str) (scope : Scope) (f : Addr) (cd : Value) (A : Around) (outer : List Env) (s : Shared) (H : Hp) : Cx :=
  { cxOf CX0 P w K mg base N qual scope f cd A outer s H E0 with calm := false }
structure FnN (P : Program) (w : World) (K : PySem.W.Frag) (mg : Str → Option Value) (base : Heap) (k : Nat) (f : Addr) (fd : FuncData) (ps : List Str) (sp : Sp) : Prop where
  len : ∀ vs H Q E, sp vs H Q E → vs.length = ps.length
  run : ∀ (A : Around) (outer : List Env) (s : Shared) (H : Hp) (args : Args) (us : List Value) (vs : List V) (Q : VK), RoomN k A → Env0 P w K mg base A outer s H → BindsTo s fd args (ps.zip us) → Vals vs us → sp vs H Q E0 →
    codeAny (model P w) A (.call (.ref f) args) (CR CX0 outer P w H s Q E0) s
theorem FnN.mono {P : Program} {w : World} {K : PySem.W.Frag} {mg : Str → Option Value} {base : Heap} {j k : Nat} {f : Addr} {fd : FuncData} {ps : List Str} {sp : Sp} (F : FnN P w K mg base j f fd ps sp) (h : j ≤ k) : FnN P w K mg base k f fd ps sp :=
  ⟨F.len, fun A outer s H args us vs Q hr => F.run A outer s H args us vs Q (hr.mono h)⟩
section
variable {P : Program} {w : World} {K : PySem.W.Frag} {mg : Str → Option Value} {base : Heap}
theorem fn_ofN {x qual : Str} {params : Arguments} {body : List Stmt} {scope : Scope} {dvs : List V} {kws : List (Str × V)} {f : Addr} {fd : FuncData} {N ps : List Str} {k : Nat} {sp : Sp} (F : FunD K x qual params body scope dvs kws f fd) (S : FnScope N ps scope)
    (len : ∀ vs H Q E, sp vs H Q E → vs.length = ps.length)
    (hbody : ∀ (cdv : Value) (A : Around) (outer : List Env) (s : Shared) (H : Hp) (vs : List V) (Q : VK), RoomN k (A.deeper (envOfC qual scope s.heap.objs.size f cdv)) → sp vs H Q E0 →
      ∃ t, PSs (cxN P w K mg base N qual scope f cdv A outer s H) body t ∧ t { nx := fun _ H' => Q .non H', rt := Q } (start N vs) H) : FnN P w K mg base (k + 1) f fd ps sp := by
  obtain ⟨oc, od, dV, kV, doc, pm, an, cdv, ct, osl, rfl, lk, hcd, -, -⟩ := F.ex
  refine ⟨len, fun A outer s H args us vs Q hr e0 hb r hsp => ?_⟩
  have hl := len _ _ _ _ hsp
  have st : ∀ b o, base.get? b = some o → s.heap.get? b = some o := fun b o e => (e0.bs b o e).1
  have KX : K.In s.heap := e0.mod.kin.keeps st
  refine codeAny_call_function (by have := hr.dp; omega) (KX _ _ lk) rfl S.co S.gen rfl (PySem.W.codeRec_of KX hcd) (hb _ _ _ _ ?_)
  refine wpAny_newFunctionEnv_cells S.kind (fun y hy => ?_) fun env he s1 x => ?_
  · rcases S.par y.1 (List.of_mem_zip hy).1 with q | q
    · exact .inl q
    · exact .inr ⟨q, PySem.W.cellsFrom_some _ _ _ (.inl q)⟩
  subst he
  refine ⟨(e0.mod.nolimit.keeps st).keeps x.toInCall.keep, codeAny_func ?_⟩
  obtain ⟨t, ht, hq⟩ := hbody cdv A outer s H vs Q (hr.deeper _) hsp
  have J : Inv (cxOf CX0 P w K mg base N qual scope f cdv { A with handled := none } outer s H E0) [] (start N vs) H s1 := inv_start S rfl ⟨e0.frames, e0.mod, e0.bs, e0.bsz, e0.funs, e0.frf, e0.hok, e0.bare⟩ hl r x
  have I : Inv (cxN P w K mg base N qual scope f cdv A outer s H) [] (start N vs) H s1 :=
    ⟨⟨J.ok.mod, J.ok.kind, J.ok.glob, J.ok.blt, J.ok.above, J.ok.inj, J.ok.has, J.ok.cab, fun z => Bool.noConfusion (show false = true from z), Around.frames_deeper e0.frames, J.ok.stk, J.ok.exf, J.ok.bs, J.ok.bsz, J.ok.noex, J.ok.exfs, J.ok.funs, J.ok.frf⟩,
      J.os, J.bare, J.base, J.loc, J.cell, J.free, J.freeC, J.pin, J.hok, J.len⟩
  refine wpAny_mono (ht.run [] s1 (start N vs) H _ I hq) (fun fl s' hs => ?_) fun e s' hs => hs
  cases fl with
  | ret u =>
    obtain ⟨v, σ', H', J', rv, q⟩ := hs
    exact ⟨v, H', J'.os, J'.bare, J'.base, J'.hok, rv, q⟩
  | next =>
    obtain ⟨σ', H', J', q⟩ := hs
    exact ⟨.non, H', J'.os, J'.bare, J'.base, J'.hok, rfl, q⟩
  | brk => exact hs.elim fun _ z => z.elim fun _ y => y.2.elim
  | cont => exact hs.elim fun _ z => z.elim fun _ y => y.2.elim
/-- as any def -/
theorem FnN.ok {k : Nat} {f : Addr} {fd : FuncData} {ps : List Str} {sp : Sp} (F : FnN P w K mg base k f fd ps sp) (h0 : ∀ vs H Q E, sp vs H Q E → sp vs H Q E0) : FnOk P w K mg base (L2.CX P w) k f fd ps sp :=
  ⟨F.len, fun A outer s H args us vs Q E hr e0 hb r hsp => codeAny_mono (F.run A outer s H args us vs Q (roomN_of hr) e0 hb r (h0 _ _ _ _ hsp)) fun r s' hq => by
    cases r with
    | error e => exact hq.elim
    | ok fl => cases fl with
      | ret u => exact hq
      | next => exact hq.elim
      | brk => exact hq.elim
      | cont => exact hq.elim⟩
end
section
variable {X : Cx} {k : Nat} {f : Addr} {fd : FuncData} {ps : List Str} {sp : Sp} {x : Str} {q pos : Pos} {e : Expr} {es : List Expr} {t : TA}
def tCallN (sp : Sp) (t : TA) : TE := fun σ H Q => t σ H fun vs H1 => sp vs H1 Q E0
theorem pe_callN (F : FnN X.prog X.w X.K X.mg X.base k f fd ps sp) (hr : RoomN k X.A) (hg : Gl X x) (hm : X.mg x = some (.ref f)) (hk : PySem.W.keepIn X.K (.ref f) = true) (hb : Binds X.K fd ps [])
    (ha : PA X (e :: es) t) (hdb : (x == ("__debug__" : Str)) = false := by decide) (he : starEach (e :: es) X.env = (false, eval e X.env) :: starEach es X.env := by rfl) (hpl : (backTo pos (starEach es X.env)).any (·.1) = false := by rfl) :
    PE X (.Call (.Name x q) (e :: es) [] pos) (tCallN sp t) := by
  refine ⟨fun pins s σ H Q I h => ?_⟩
  refine wpAny_Call_Name_kw (ld_glob I hg hm ?_ hdb)
  refine PySem.W.callWith_K (h₀ := X.base) I.ok.mod.kin hk (thn (ha.run pos pins s σ H _ I h) fun us s1 hh => ?_) he hpl
  obtain ⟨vs, H1, I1, r, h2⟩ := hh
  refine ⟨I1.kIn, ?_⟩
  have hl : us.length = ps.length := by rw [← r.length]; exact F.len _ _ _ _ h2
  have b := hb s1 us I1.kIn (by rw [List.append_nil]; exact hl)
  rw [List.append_nil] at b
  refine wpAny_call (codeAny_mono (F.run X.A X.stack s1 H1 ⟨us, []⟩ us vs Q hr I1.env0 b r h2) fun r s' hq => ?_)
  cases r with
  | error e => exact hq.elim
  | ok fl => cases fl with
    | ret u => exact I1.after hq
    | next => exact hq.elim
    | brk => exact hq.elim
    | cont => exact hq.elim
end
end G
namespace G
open PySem PySem.Spec PyProof.Rows L2
/-! ## calls whose exceptions the surroundings take (W) -/
section
variable {X : Cx} {k : Nat} {f C : Addr} {fd : FuncData} {ps : List Str} {sp : Sp} {W : WX} {x m : Str} {p pos apos : Pos} {e o : Expr} {es : List Expr} {ta : TE} {t : TA}
/-- f(..) -/
def tCallW (sp : Sp) (W : WX) (t : TA) : TE := fun σ H Q => t σ H fun vs H1 => sp vs H1 Q fun c d H2 => W c d σ H2
theorem pe_callW (tk : Takes X W) (F : FnOk X.prog X.w X.K X.mg X.base (L2.CX X.prog X.w) k f fd ps sp) (hr : Room k X.A) (hg : Gl X x) (hm : X.mg x = some (.ref f)) (hk : PySem.W.keepIn X.K (.ref f) = true) (hb : Binds X.K fd ps [])
    (ha : PA X (e :: es) t) (hdb : (x == ("__debug__" : Str)) = false := by decide) (he : starEach (e :: es) X.env = (false, eval e X.env) :: starEach es X.env := by rfl) (hpl : (backTo pos (starEach es X.env)).any (·.1) = false := by rfl) :
    PE X (.Call (.Name x p) (e :: es) [] pos) (tCallW sp W t) := pe_callS F hr hg hm hk hb (fun σ => passAt tk σ) ha hdb he hpl
theorem pe_callW0 (tk : Takes X W) (F : FnOk X.prog X.w X.K X.mg X.base (L2.CX X.prog X.w) k f fd ps sp) (hr : Room k X.A) (hg : Gl X x) (hm : X.mg x = some (.ref f)) (hk : PySem.W.keepIn X.K (.ref f) = true) (hb : Binds X.K fd ps [])
    (hdb : (x == ("__debug__" : Str)) = false := by decide) : PE X (.Call (.Name x p) [] [] pos) (tCallW sp W tNil) := by
  refine ⟨fun pins s σ H Q I h => wpAny_Call_Name_kw (ld_glob I hg hm ?_ hdb)⟩
  exact PySem.W.callWith_K0 I.kIn hk (run_fnS (us := []) (E := WE W) F hr hb (passAt tk σ) I .nil h)
/-- o.m(..) -/
def tMethW (C : Addr) (m : Str) (sp : Sp) (W : WX) (ta : TE) (t : TA) : TE := fun σ H Q => ta σ H fun x H1 => ∃ a dx fs, x = .ref a ∧ H1 a = some (.ins C dx fs) ∧ fs.lookup m = none ∧ t σ H1 fun vs H2 => sp (x :: vs) H2 Q fun c d H3 => W c d σ H3
theorem pe_methW {pl : Sem Bool} (tk : Takes X W) (he : PE X o ta) (c : Cls X.K C) (hm : Meth X.K C m f) (F : FnOk X.prog X.w X.K X.mg X.base (L2.CX X.prog X.w) k f fd ps sp) (hr : Room k X.A) (hb : Binds X.K fd ps []) (ha : PA X (e :: es) t)
    (hst : starEach (e :: es) X.env = (false, eval e X.env) :: starEach es X.env := by rfl) (hpl : (backTo pos (starEach es X.env)).any (·.1) = false := by rfl)
    (ht : eval (.Call (.Attribute o m apos) (e :: es) [] pos) X.env = (do
      let z ← eval o X.env
      standAt apos.atName
      let (g, one) ← holding [z] (getMethod z m pl)
      callWith pos g one (backTo pos (starEach (e :: es) X.env)) (backToKw pos (keywordEach [] X.env))) := by rfl) :
    PE X (.Call (.Attribute o m apos) (e :: es) [] pos) (tMethW C m sp W ta t) := by
  refine ⟨fun pins s σ H Q I h => ?_⟩
  refine PySem.W.methodCall_KW (pl := pl) (thn (he.run pins s σ H _ I h) fun u s1 hh => ?_) ht
  obtain ⟨y, H1, I1, ry, a, dx, fs, ey, ea, l, q⟩ := hh
  subst ey
  obtain rfl : u = Value.ref a := ry
  refine getmeth_ok I1 ea c hm l ?_
  refine PySem.W.callWith_K (first := [.ref a]) (h₀ := X.base) I.ok.mod.kin hm.kp (thn (ha.run pos pins s1 σ H1 _ I1 q) fun us s2 h2 => ?_) hst hpl
  obtain ⟨vs, H2, I2, r, q2⟩ := h2
  exact ⟨I2.kIn, run_fnS (us := .ref a :: us) (vs := .ref a :: vs) (E := WE W) F hr hb (passAt tk σ) I2 (.cons rfl r) q2⟩
theorem pe_methW0 {pl : Sem Bool} (tk : Takes X W) (he : PE X o ta) (c : Cls X.K C) (hm : Meth X.K C m f) (F : FnOk X.prog X.w X.K X.mg X.base (L2.CX X.prog X.w) k f fd ps sp) (hr : Room k X.A) (hb : Binds X.K fd ps [])
    (ht : eval (.Call (.Attribute o m apos) [] [] pos) X.env = (do
      let z ← eval o X.env
      standAt apos.atName
      let (g, one) ← holding [z] (getMethod z m pl)
      callWith pos g one (backTo pos (starEach [] X.env)) (backToKw pos (keywordEach [] X.env))) := by rfl) :
    PE X (.Call (.Attribute o m apos) [] [] pos) (tMethW C m sp W ta tNil) := by
  refine ⟨fun pins s σ H Q I h => ?_⟩
  refine PySem.W.methodCall_KW (pl := pl) (thn (he.run pins s σ H _ I h) fun u s1 hh => ?_) ht
  obtain ⟨y, H1, I1, ry, a, dx, fs, ey, ea, l, q⟩ := hh
  subst ey
  obtain rfl : u = Value.ref a := ry
  refine getmeth_ok I1 ea c hm l ?_
  exact PySem.W.callWith_K0 (first := [.ref a]) I1.kIn hm.kp (run_fnS (us := [.ref a]) (vs := [.ref a]) (E := WE W) F hr hb (passAt tk σ) I1 (.cons rfl .nil) q)
/-- C(..) -/
def tMakeW (C : Addr) (sp : Sp) (W : WX) (t : TA) : TE := fun σ H Q => t σ H fun vs H1 => ∀ x dx, H1 x = none → H1 dx = none → dx ≠ x →
  sp (.ref x :: vs) (upd (upd H1 dx (.own x)) x (.ins C dx [])) (fun v H2 => v = .non ∧ Q (.ref x) H2) fun c d H3 => W c d σ H3
theorem run_makeW {pins : List (Addr × Obj)} {σ : L2.St} {H : Hp} {s : Shared} {Q : VK} {us : List Value} {vs : List V} (tk : Takes X W) (M : Mk X.K C f) (F : FnOk X.prog X.w X.K X.mg X.base (L2.CX X.prog X.w) k f fd ps sp) (hr : Room (k + 1) X.A) (hb : Binds X.K fd ps [])
    (I : Inv X pins σ H s) (r : Vals vs us)
    (h : ∀ x dx, H x = none → H dx = none → dx ≠ x → sp (.ref x :: vs) (upd (upd H dx (.own x)) x (.ins C dx [])) (fun v H2 => v = .non ∧ Q (.ref x) H2) fun c d H3 => W c d σ H3) :
    wpAny (model X.prog X.w) X.A (call (.ref C) us) (EP X pins σ Q) X.xe s := by
  have go := h (s.heap.objs.size + 1) s.heap.objs.size (I.hok.fresh (Nat.le_succ _)) (I.hok.fresh (Nat.le_refl _)) (Nat.ne_of_lt (Nat.lt_succ_self _))
  have J := Inv.made (C := C) I
  have r2 : Vals (V.ref (s.heap.objs.size + 1) :: vs) (Value.ref (s.heap.objs.size + 1) :: us) := .cons rfl r
  have hl : (Value.ref (s.heap.objs.size + 1) :: us).length = ps.length := r2.length.symm.trans (F.len _ _ _ _ go)
  have b := hb { s with heap := (s.heap.push PySem.W.emptyDict).push (PySem.W.instObj C s.heap.objs.size) } (Value.ref (s.heap.objs.size + 1) :: us) J.kIn (by rw [List.append_nil]; exact hl)
  rw [List.append_nil] at b
  refine wpAny_call (make_map (f := f) I.kIn M.makes M.init (beq_iff_eq.mp M.fn) (codeAny_mono (F.run _ X.stack _ _ ⟨Value.ref (s.heap.objs.size + 1) :: us, []⟩ _ _ _ _ (hr.make C us []) (J.env0.make C us []) b r2 go) fun r s' hq => ?_))
  cases r with
  | error e => exact passAt tk σ pins _ _ e s' J hq
  | ok fl =>
    cases fl with
    | ret u =>
      obtain ⟨v, H', I3, rv, ev, q3⟩ := J.after hq
      subst ev
      exact ⟨rv, V.ref (s.heap.objs.size + 1), H', I3, rfl, q3⟩
    | next => exact hq.elim
    | brk => exact hq.elim
    | cont => exact hq.elim
theorem pe_makeW (tk : Takes X W) (M : Mk X.K C f) (F : FnOk X.prog X.w X.K X.mg X.base (L2.CX X.prog X.w) k f fd ps sp) (hr : Room (k + 1) X.A) (hg : Gl X x) (hm : X.mg x = some (.ref C)) (hb : Binds X.K fd ps [])
    (ha : PA X (e :: es) t) (hdb : (x == ("__debug__" : Str)) = false := by decide) (he : starEach (e :: es) X.env = (false, eval e X.env) :: starEach es X.env := by rfl) (hpl : (backTo pos (starEach es X.env)).any (·.1) = false := by rfl) :
    PE X (.Call (.Name x p) (e :: es) [] pos) (tMakeW C sp W t) := by
  refine ⟨fun pins s σ H Q I h => wpAny_Call_Name_kw (ld_glob I hg hm ?_ hdb)⟩
  refine PySem.W.callWith_K (h₀ := X.base) I.ok.mod.kin M.kp (thn (ha.run pos pins s σ H _ I h) fun us s1 hh => ?_) he hpl
  obtain ⟨vs, H1, I1, r, q⟩ := hh
  exact ⟨I1.kIn, run_makeW tk M F hr hb I1 r q⟩
theorem pe_makeW0 (tk : Takes X W) (M : Mk X.K C f) (F : FnOk X.prog X.w X.K X.mg X.base (L2.CX X.prog X.w) k f fd ps sp) (hr : Room (k + 1) X.A) (hg : Gl X x) (hm : X.mg x = some (.ref C)) (hb : Binds X.K fd ps [])
    (hdb : (x == ("__debug__" : Str)) = false := by decide) : PE X (.Call (.Name x p) [] [] pos) (tMakeW C sp W tNil) := by
  refine ⟨fun pins s σ H Q I h => wpAny_Call_Name_kw (ld_glob I hg hm ?_ hdb)⟩
  exact PySem.W.callWith_K0 I.kIn M.kp (run_makeW (us := []) tk M F hr hb I .nil h)
end

/-! ## try .. except x as n, the exception a tracked thing in the suite -/
/-- what the clause wishes; slot i is n's -/
def wTr (K : PySem.W.Frag) (c : Value) (i : Nat) (ts : TS) (Wo : WX) (D : Ends) : WX := fun cls d σ H => ∃ b, PySem.W.exmOne K cls c = some b ∧
  (b = true → d = none ∧ ∀ a, H a = none → ts { nx := fun σ' H' => D.nx (σ'.set i none) H', rt := D.rt, bk := fun σ' H' => D.bk (σ'.set i none) H', ct := fun σ' H' => D.ct (σ'.set i none) H' } (σ.set i (some (.ref a))) (upd H a (ExA cls a))) ∧ (b = false → Wo cls d σ H)
section
variable {X : Cx} {x n : Str} {c : Value} {i : Nat} {body suite : List Stmt} {b0 : Stmt} {np pos pos' : Pos} {tb : WX → TS} {ts : TS} {Wo : WX}
theorem toSuite {pins : List (Addr × Obj)} {σ : L2.St} {H : Hp} {s : Shared} (I : Inv X pins σ H s) (a : Addr) : Inv (X.suite a (X.pn ++ pins)) [] σ H s :=
  ⟨I.ok.suite _ _, I.os, I.bare, I.base, I.loc, I.cell, I.free, I.freeC, fun p hp => I.pin p (by simpa using hp), I.hok, I.len⟩
theorem ofSuite {pins pl : List (Addr × Obj)} {σ : L2.St} {H : Hp} {s : Shared} {a : Addr} (ok : X.Ok) (I : Inv (X.suite a (X.pn ++ pins)) pl σ H s) : Inv X pins σ H s :=
  ⟨ok, I.os, I.bare, I.base, I.loc, I.cell, I.free, I.freeC, fun p hp => I.pin p (List.mem_append_left _ hp), I.hok, I.len⟩
theorem ps_tryT (hs : X.stack = X.env :: X.outer) (hf : X.env.frame = some X.env.locals) (hex : X.ex = []) (hN : X.N.Nodup) (hi : X.N[i]? = some n) (hln : X.env.kindOf n = some .local) (hc : Names X x c) (tk : Takes X Wo)
    (hb : ∀ (W : WX) (pn : List (Addr × Obj)) (xe : Value → Shared → Prop), Takes (X.tr pn xe) W → PassesOwn (model X.prog X.w) X.A X.env xe → PSs (X.tr pn xe) body (tb W))
    (hsu : ∀ (a : Addr) (pn : List (Addr × Obj)), PSs (X.suite a pn) (b0 :: suite) ts) :
    PS X (.Try body [.ExceptHandler (some (.Name x np)) (some n) (b0 :: suite) pos'] [] [] pos) (fun D σ H => tb (wTr X.K c i ts Wo D) D σ H) := by
  refine ⟨fun pins s σ H D I h => ?_⟩
  have ok := I.ok
  have hfr : X.A.frames = some (X.env :: X.outer) := by rw [ok.frames, hs]
  have lo : Loc X.env.scope n := .inl hln
  let rest : List ExceptHandler := [.ExceptHandler (some (.Name x np)) (some n) (b0 :: suite) pos']
  let M := model X.prog X.w
  let wish : Value → Shared → Prop := fun e u1 => wpAny M X.A (noteFrame e X.env) (fun _ u2 => wpAny M X.A (setFlight e none) (fun _ u3 => wpAny M X.A (handleBy e X.env rest) (SP X pins D) X.xe u3) X.xe u2) X.xe u1
  refine wpAny_Try_except (wpAny_mono ((hb (wTr X.K c i ts Wo D) (X.pn ++ pins) wish (fun u s' air => ?_) PassesOwn.looking).run [] s σ H D (I.toTry _) h) (fun fl s1 hsp => ?_) (fun e s1 he => he))
  · obtain ⟨a, B, sg, pi', σ1, H1, cls, d, rfl, Jt, nb, up, sky, na, os, ag, b, e1, yes, no⟩ := air
    have J : Inv X pins σ1 H1 sg := Jt.ofTry ok
    have sky' : Sky B (X.env :: X.outer) a (Zc cls d) X.env.locals s'.heap := by rw [← hs]; exact sky
    show wpAny M X.A (noteFrame (.ref a) X.env) _ _ _
    refine Sky.land Zc.steady hfr hf sky' fun h3 fl3 up3 => ?_
    have u3 := up.trans up3
    have J3 : Inv X pins σ1 H1 { s' with heap := h3 } := J.landed nb fl3.1 u3 os ag
    obtain ⟨o3, f3, g3, z3, d3⟩ := fl3.there
    have nfr : a ∉ frs (X.env :: X.outer) := fun hm => by
      obtain ⟨-, o', g', nf⟩ := fl3.2.2.1.mem hm
      rw [g3] at g'
      cases g'
      exact nf _ d3
    have nL : a ≠ X.env.locals := fun z => nfr (List.mem_filterMap.mpr ⟨X.env, List.mem_cons_self, by rw [hf, z]⟩)
    have nst : a ∉ frs X.stack := by rw [hs]; exact nfr
    have nB : B.get? a = none := fl3.2.1
    have ng : sg.heap.get? a = none := by
      cases e : sg.heap.get? a with
      | none => rfl
      | some o =>
        rw [nb a o e nst] at nB
        cases nB
    have n0 : X.s_0.heap.get? a = none := by
      cases e : X.s_0.heap.get? a with
      | none => rfl
      | some o =>
        obtain ⟨o', q⟩ := J.base.there a o e (by rw [hex]; exact List.not_mem_nil)
        rw [ng] at q
        cases q
    have nC : ∀ y z, X.env.cells.lookup y = some z → z ≠ a := fun y z e q => by
      obtain ⟨v, ob, e2, -⟩ := J.cell y z e
      rw [q, ng] at e2
      cases e2
    have nP : ∀ p ∈ X.pn ++ pins, p.1 ≠ a := fun p hp q => by
      have e2 := (J.pin p hp).1
      rw [q, ng] at e2
      cases e2
    have S3 := toSuite J3 a
    refine wpAny_handleBy_cons (codeAny_handlers_test ?_) (by intro q; cases q)
    have LT : PySem.W.Looks M h3 (typeOf (.ref a)) cls := fun _ _ _ _ k q => wpAny_typeOf_ref (k _ _ g3) (by rw [z3.1]; exact q)
    have LM := PySem.W.exm_one (M := M) J3.kIn LT e1
    have test : ∀ {Q : Value → Shared → Prop} {E : Value → Shared → Prop}, Q c { s' with heap := h3 } → wpAny M (X.A.mark (some (.ref a))) (eval (.Name x np) X.env) Q E { s' with heap := h3 } := fun {Q E} q => by
      obtain ⟨hg, hdb, hm | ⟨hm, hv, hnn⟩⟩ := hc
      · exact ld_glob (X := X.suite a (X.pn ++ pins)) S3 hg hm q hdb
      · exact ld_blt (X := X.suite a (X.pn ++ pins)) S3 hg hm hv q hnn hdb
    refine test (LM.here ?_)
    cases b with
    | true =>
      refine codeAny_handlers_suite_as (HandSPX.lands_againZ fl3 fun h4 fl4 up4 => ?_)
      have J4 : Inv X pins σ1 H1 { s' with heap := h4 } := J.landed nb fl4.1 (u3.trans up4) os ag
      obtain ⟨o4, f4, g4, z4, d4⟩ := fl4.there
      obtain ⟨ed, go⟩ := yes rfl
      subst ed
      have J5 := track (u := ExA cls a) J4 na n0 nL nC nP (exA_ok g4 z4 d4)
      refine store_ok (X := X.suite a (X.pn ++ pins)) (v := .ref a) (toSuite J5 a) hN hi lo rfl (fun s5 S5 => ?_) (.inr hln)
      refine wpAny_mono ((hsu a (X.pn ++ pins)).run [] s5 _ _ _ S5 (go a na)) (fun fl s6 hsp => ?_) (fun _ _ z => False.elim z)
      have out : ∀ {σ6 : L2.St} {H6 : Hp} {Q : Shared → Prop}, Inv (X.suite a (X.pn ++ pins)) [] σ6 H6 s6 → (∀ s7, Inv X pins (σ6.set i none) H6 s7 → Q s7) →
          wpAny M X.A (do bindName X.env n .none; unbindBehindTheSuite X.env n pos') (fun _ s7 => Q s7) X.xe s6 := fun S6 hq => gone_ok (ofSuite ok S6) hN hi hln hq
      cases fl with
      | next => exact hsp.elim fun _ z => z.elim fun _ q => out q.1 fun s7 J7 => ⟨_, _, J7, q.2⟩
      | brk => exact hsp.elim fun _ z => z.elim fun _ q => out q.1 fun s7 J7 => ⟨_, _, J7, q.2⟩
      | cont => exact hsp.elim fun _ z => z.elim fun _ q => out q.1 fun s7 J7 => ⟨_, _, J7, q.2⟩
      | ret u =>
        obtain ⟨v6, σ6, H6, S6, r6, q6⟩ := hsp
        exact out S6 fun s7 J7 => ⟨_, _, _, J7, r6, q6⟩
    | false =>
      show wpAny M X.A (handleBy (.ref a) X.env []) _ _ _
      refine wpAny_handleBy_nil ?_
      obtain ⟨-, -, -, oe, vs, T, oT, ts', he, hz, hd, h1, hr⟩ := id fl3
      unfold PySem.passOn
      refine wpAny_bind (wpAny_field he hd h1 ?_)
      rw [if_neg (show ¬ ((Value.ref T == Value.none) = true) from by simp)]
      have fin : wpAny M X.A (setFlight (.ref a) X.env.frame) (fun _ u4 => wpAny M X.A (throw (.ref a) : Sem Flow) (SP X pins D) X.xe u4) X.xe { s' with heap := h3 } := by
        rw [hf]
        refine HandSPX.setFlight_upZ fl3 fun h4 hh4 up4 => wpAny_throw (tk _ _ ?_)
        exact ⟨a, B, sg, pins, σ1, H1, cls, d, rfl, J, nb, u3.trans up4, .inr (.inr (by rw [hs]; exact hh4)), na, os, ag, no rfl⟩
      first
        | exact wpAny_bind (wpAny_pure (wpAny_bind fin))
        | exact wpAny_bind fin
  · cases fl with
    | next => exact hsp.elim fun σ1 z => z.elim fun H1 q => wpAny_execs_nil ⟨σ1, H1, q.1.ofTry ok, q.2⟩
    | brk => exact hsp.elim fun σ1 z => z.elim fun H1 q => ⟨σ1, H1, q.1.ofTry ok, q.2⟩
    | cont => exact hsp.elim fun σ1 z => z.elim fun H1 q => ⟨σ1, H1, q.1.ofTry ok, q.2⟩
    | ret u =>
      obtain ⟨v, σ1, H1, J, r, q⟩ := hsp
      exact ⟨v, σ1, H1, J.ofTry ok, r, q⟩
end
end G
namespace G
open PySem PySem.Spec PyProof.Rows L2
/-! ## isinstance -/
def tyO : Option HO → Option String
  | some (.lst _) => some "list"
  | some (.frz _ (.lst _)) => some "list"
  | some (.tup _) => some "tuple"
  | some (.dK _) => some "dict"
  | some (.dT _) => some "dict"
  | _ => none
def tyOf : V → Hp → Option String
  | .non, _ => some "NoneType"
  | .bl _, _ => some "bool"
  | .int _, _ => some "int"
  | .str _, _ => some "str"
  | .ref a, H => tyO (H a)
  | _, _ => none
theorem tyOf_ok {K : PySem.W.Frag} {x : V} {H : Hp} {t : String} (h : tyOf x H = some t) : TyX K H x (.type t) := by
  cases x with
  | non => cases h; exact .base .non
  | bl b => cases h; exact .base (.bl b)
  | int i => cases h; exact .base (.int i)
  | str z => cases h; exact .base (.str z)
  | byt z => cases h
  | flt z => cases h
  | ty z => cases h
  | ref a =>
    have h1 : tyO (H a) = some t := h
    unfold tyO at h1
    split at h1
    · rename_i e; cases h1; exact .base (.lst e)
    · rename_i e; cases h1; exact .base (.frz e)
    · rename_i e; cases h1; exact .base (.tup e)
    · rename_i e; cases h1; exact .base (.dK e)
    · rename_i e; cases h1; exact .base (.dT e)
    · cases h1
/-- the classes that are asked of plain things, and the answer -/
def isB (t n : String) : Bool := t == n || (t == "bool" && n == "int")
def tys : List String := ["NoneType", "bool", "int", "str", "list", "tuple", "dict"]
theorem isB_all : ∀ t ∈ tys, ∀ n ∈ (["int", "bool", "str", "list", "tuple", "dict"] : List String), kitB t n = some (isB t n) := by decide +kernel
theorem tyOf_in {x : V} {H : Hp} {t : String} (h : tyOf x H = some t) : t ∈ tys := by
  unfold tyOf at h
  split at h
  all_goals first
    | (cases h; decide)
    | (unfold tyO at h; split at h <;> first | (cases h; decide) | (cases h))
    | (cases h)
/-- isinstance(x, T) of a plain thing -/
def gIsi : List V → Hp → VK → Prop
  | [x, .ty n], H, Q => n ∈ (["int", "bool", "str", "list", "tuple", "dict"] : List String) ∧ ∃ t, tyOf x H = some t ∧ Q (.bl (isB t n)) H
  | _, _, _ => False
section
variable {X : Cx}
theorem call_gIsi : CallR X (.builtin "isinstance") gIsi := by
  intro pins s σ H xs us Q I r h
  unfold gIsi at h
  split at h
  · obtain ⟨hn, t, ht, q⟩ := h
    exact call_isi pins s σ _ _ us Q I r ⟨_, _, .type t, .type _, _, rfl, .ty _, tyOf_ok ht, kit_ty (isB_all t (tyOf_in ht) _ hn), q⟩
  · exact h.elim
/-- isinstance(e, C) of a caught error -/
def gIsE (K : PySem.W.Frag) : List V → Hp → VK → Prop
  | [.ref a, c], H, Q => ∃ D u b, H a = some (ExA (.ref D) a) ∧ ExcC K D ∧ ClsV c u ∧ PySem.W.kitOne K (.ref D) u = some b ∧ Q (.bl b) H
  | _, _, _ => False
theorem exA_kit {pins : List (Addr × Obj)} {σ : L2.St} {H : Hp} {s : Shared} {a D : Addr} (I : Inv X pins σ H s) (h : H a = some (ExA (.ref D) a)) (C : ExcC X.K D) : ∃ P : Heap → Prop, PySem.W.KitX X.K (.ref a) (.ref D) P ∧ P s.heap := by
  obtain ⟨⟨o, fv, e, z, d⟩, -, -⟩ := I.hok a _ h
  have J : PySem.W.InstAt s.heap a o D none := by
    obtain ⟨oc, od, dt, sl⟩ := o
    obtain ⟨z1, z2⟩ := z
    dsimp only at z1 z2 d
    subst z1 z2 d
    exact ⟨e, rfl, rfl, trivial⟩
  exact ⟨_, PySem.W.handS_kitx_exc C.hg C.hk C.hs C.hd C.ha C.hn C.ht C.hm, J⟩
theorem call_gIsE : CallR X (.builtin "isinstance") (gIsE X.K) := by
  intro pins s σ H xs us Q I r h
  unfold gIsE at h
  split at h
  · obtain ⟨D, u, b, ha, C, hc, hk, q⟩ := h
    obtain ⟨u1, u2, rfl, r1, r2⟩ := vals2 r
    have e2 := hc.eq r2
    subst e2
    cases (show u1 = Value.ref _ from r1)
    obtain ⟨P, Z, p⟩ := exA_kit I ha C
    exact PySem.W.kia_one Z I.kIn p hk (fun z => nomatch z) fun tk => ⟨.bl b, _, I.tok tk, rfl, q⟩
  · exact h.elim
/-- isinstance(e, (C1, C2, ..)) of a caught error: the tuple is never seen again -/
def tIsT (K : PySem.W.Frag) (ta : TE) (tc : TA) : TE := fun σ H Q => ta σ H fun x H1 => tc σ H1 fun cs H2 => cs.length ≤ sizeLine ∧ ∃ a D us b, x = .ref a ∧ H2 a = some (ExA (.ref D) a) ∧ ExcC K D ∧ Paired ClsV cs us ∧ PySem.W.kitAny K (.ref D) us = some b ∧ Q (.bl b) H2
theorem pe_isT {a : Expr} {es : List Expr} {x1} {ta : TE} {tc : TA} {p tp pos : Pos} (hg : Gl X "isinstance") (hm : X.mg "isinstance" = none) (ha : PE X a ta) (hc : PA X es tc)
    (he : starEach [a, .Tuple es x1 tp] X.env = [(false, eval a X.env), (false, eval (.Tuple es x1 tp) X.env)] := by rfl) : PE X (.Call (.Name "isinstance" p) [a, .Tuple es x1 tp] [] pos) (tIsT X.K ta tc) := by
  refine ⟨fun pins s σ H Q I h => ?_⟩
  refine wpAny_Call_Name_kw (ld_blt I hg hm (by decide +kernel : bootBuiltins "isinstance" = some (.builtin "isinstance")) ?_ (by decide) (by decide))
  refine PyProof.Rows.callWith_builtin1 (rest := [.Tuple es x1 tp]) ?_ he rfl
  rw [he]
  show wpAny _ _ (spliced [(false, eval a X.env), (false, eval (.Tuple es x1 tp) X.env)]) _ _ _
  refine Calls.spliced_cons (thn (ha.run pins s σ H _ I h) fun u s1 ⟨x, H1, I1, rx, q1⟩ => ?_)
  refine Calls.spliced_cons (wpAny_Tuple_spliced (x1 := x1) (thn (hc.run tp pins s1 σ H1 _ I1 q1) fun us s2 hh => ?_))
  obtain ⟨cs, H2, I2, rc, hz, y, D, ws, b, ex, hy, C, hcl, hk, q⟩ := hh
  subst ex
  cases (show u = Value.ref y from rx)
  refine ⟨by rw [← rc.length]; exact hz, Calls.spliced_nil ?_⟩
  have e3 := ClsV.all hcl rc
  subst e3
  have I3 : Inv X pins σ H2 { s2 with heap := s2.heap.push { cls := .type "tuple", data := .seq us.toArray } } := I2.kept (t' := s2.toks) fun _ _ e => Heap.get?_push_of_some _ e
  obtain ⟨P, Z, p⟩ := exA_kit I3 hy C
  exact PySem.W.kia_tup Z I3.kIn p (Heap.get?_push_size _ rfl) hk (fun z => nomatch z) fun tk => ⟨.bl b, H2, I3.tok tk, rfl, q⟩

/-! ## operators by the kinds of their values -/
def gAdd : R2
  | .int i, .int j, H, Q => Q (.int (i + j)) H
  | .str i, .str j, H, Q => i.length + j.length ≤ sizeLine ∧ Q (.str (i ++ j)) H
  | .ref a, .ref b, H, Q => ∃ xs zs, H a = some (.lst xs) ∧ H b = some (.lst zs) ∧ xs.length + zs.length ≤ sizeLine ∧ ∀ p, H p = none → Q (.ref p) (upd H p (.lst (xs ++ zs)))
  | _, _, _, _ => False
theorem op_gAdd : OpR X (binaryOp .Add) gAdd := by
  intro pins s σ H x y v u Q I rx ry h
  unfold gAdd at h
  split at h
  · exact op_add pins s σ _ _ _ v u Q I rx ry ⟨_, _, rfl, rfl, h⟩
  · exact op_add_str pins s σ _ _ _ v u Q I rx ry ⟨_, _, rfl, rfl, h.1, h.2⟩
  · obtain ⟨xs, zs, h1, h2, h3, h4⟩ := h
    exact op_cat pins s σ _ _ _ v u Q I rx ry ⟨_, _, xs, zs, rfl, rfl, h1, h2, h3, h4⟩
  · exact h.elim
def gMul : R2
  | .int i, .int j, H, Q => ((-(2 ^ 64) < i ∧ i < 2 ^ 64) ∨ (-(2 ^ 64) < j ∧ j < 2 ^ 64)) ∧ Q (.int (i * j)) H
  | .str z, .int n, H, Q => (n = 0 ∨ n = 1) ∧ Q (.str (if n = 1 then z else Str.empty)) H
  | .ref a, .int k, H, Q => ∃ xs, H a = some (.lst xs) ∧ -(2 ^ 63) ≤ k ∧ k < 2 ^ 63 ∧ xs.length * k.toNat ≤ sizeLine ∧ ∀ p, H p = none → Q (.ref p) (upd H p (.lst ((List.replicate k.toNat xs).flatten)))
  | _, _, _, _ => False
theorem op_gMul : OpR X (binaryOp .Mult) gMul := by
  intro pins s σ H x y v u Q I rx ry h
  unfold gMul at h
  split at h
  · exact op_mul pins s σ _ _ _ v u Q I rx ry ⟨_, _, rfl, rfl, h.1, h.2⟩
  · rename_i z n
    obtain ⟨hn, q⟩ := h
    obtain ⟨t, rfl⟩ := rx
    obtain ⟨t', rfl⟩ := ry
    rcases hn with rfl | rfl
    · exact PySem.P.mul_str_none (by decide) (by decide) ⟨.str Str.empty, _, I.tok _, ⟨_, rfl⟩, q⟩
    · refine PySem.P.mul_str (by decide) (fun _ z => by simp at z) (fun _ z => by simp at z) ?_
      exact ⟨.str z, _, I, ⟨_, rfl⟩, q⟩
  · obtain ⟨xs, h1, h2, h3, h4, h5⟩ := h
    exact op_rep pins s σ _ _ _ v u Q I rx ry ⟨_, _, xs, rfl, rfl, h1, h2, h3, h4, h5⟩
  · exact h.elim
/-- == : flat values; else data of any depth -/
def gEq (K : PySem.W.Frag) : R2 := fun x y H Q => if flatV x && flatV y then Q (.bl (eqV x y)) H else rEqD K x y H Q
def gNe (K : PySem.W.Frag) : R2 := fun x y H Q => if flatV x && flatV y then Q (.bl (!eqV x y)) H else rNeD K x y H Q
theorem flat_eqv {K : PySem.W.Frag} {H : Hp} {x y : V} (hx : flatV x = true) (hy : flatV y = true) :
    (scal x y = true ∧ decide (x = y) = eqV x y) ∨ ∃ d e, Dp K H x d ∧ Dp K H y e ∧ SeqAt.shaped d = true ∧ SeqAt.shaped e = true ∧ PyData.eqv d e = eqV x y := by
  cases x <;> first | (cases hx; done) | skip
  all_goals (cases y <;> first | (cases hy; done) | skip)
  case bl.int b i => exact .inr ⟨_, _, .bl b, .int i, by cases b <;> decide, rfl, rfl⟩
  case int.bl i b => exact .inr ⟨_, _, .int i, .bl b, rfl, by cases b <;> decide, rfl⟩
  all_goals refine .inl ⟨rfl, ?_⟩
  all_goals first
    | rfl
    | exact dec_int
    | exact dec_bl
    | exact dec_str
theorem op_gEq (hu : X.A.units + 64 < cLine) : OpR X (compareOp .Eq) (gEq X.K) := by
  intro pins s σ H x y v u Q I rx ry h
  unfold gEq at h
  split at h
  · rename_i c
    obtain ⟨c1, c2⟩ := Bool.and_eq_true_iff.mp c
    rcases flat_eqv (K := X.K) (H := H) c1 c2 with ⟨h1, h2⟩ | ⟨d, e, h1, h2, h3, h4, h5⟩
    · exact op_eq pins s σ _ _ _ v u Q I rx ry ⟨h1, by rw [h2]; exact h⟩
    · exact op_eqD hu pins s σ _ _ _ v u Q I rx ry ⟨d, e, h1, h2, h3, h4, by rw [h5]; exact h⟩
  · exact op_eqD hu pins s σ _ _ _ v u Q I rx ry h
theorem op_gNe (hu : X.A.units + 64 < cLine) : OpR X (compareOp .NotEq) (gNe X.K) := by
  intro pins s σ H x y v u Q I rx ry h
  unfold gNe at h
  split at h
  · rename_i c
    obtain ⟨c1, c2⟩ := Bool.and_eq_true_iff.mp c
    rcases flat_eqv (K := X.K) (H := H) c1 c2 with ⟨h1, h2⟩ | ⟨d, e, h1, h2, h3, h4, h5⟩
    · exact op_ne pins s σ _ _ _ v u Q I rx ry ⟨h1, by rw [h2]; exact h⟩
    · exact op_neD hu pins s σ _ _ _ v u Q I rx ry ⟨d, e, h1, h2, h3, h4, by rw [h5]; exact h⟩
  · exact op_neD hu pins s σ _ _ _ v u Q I rx ry h
/-- abs, int(..) -/
def gAbs : List V → Hp → VK → Prop
  | [.int i], H, Q => Q (.int (i.natAbs : Int)) H
  | _, _, _ => False
theorem call_gAbs : CallR X (.builtin "abs") gAbs := by
  intro pins s σ H xs us Q I r h
  unfold gAbs at h
  split at h
  · rename_i i
    refine call_abs pins s σ _ _ us Q I r ⟨i, rfl, ?_⟩
    have e : (if i < 0 then -i else i) = (i.natAbs : Int) := by split <;> omega
    rw [e]
    exact h
  · exact h.elim
def gInt : List V → Hp → VK → Prop
  | [.int i], H, Q => Q (.int i) H
  | [.bl k], H, Q => Q (.int (if k then 1 else 0)) H
  | _, _, _ => False
theorem call_gInt : CallR X (.type "int") gInt := by
  intro pins s σ H xs us Q I r h
  unfold gInt at h
  split at h
  · exact call_int1 pins s σ _ _ us Q I r (.inl ⟨_, rfl, h⟩)
  · exact call_int1 pins s σ _ _ us Q I r (.inr ⟨_, rfl, h⟩)
  · exact h.elim
end
end G
namespace G
open PySem PySem.Spec PyProof.Rows L2
open He (ga ma fAd Fa DefD SaysD)
/-! ## what the top has written, by names -/
/-- what isinstance asks of an error's class -/
def excB (K : PySem.W.Frag) (D : Addr) : Bool :=
  (decide (PySem.W.findIn K (.ref D) "__getattribute__" = some (some (.builtin "BaseException.__getattribute__"))) && (decide (PySem.W.findIn K (.ref D) "__getattr__" = some none) && (decide (PySem.W.subIn K (.ref D) (.type "BaseException") = some true) && PySem.W.hasDictIn K D))) &&
  (decide (PySem.W.findIn K (.ref D) "__class__" = some (some (.builtin "object.__class__"))) && (decide (PySem.W.specialIn K (.builtin "object.__class__") "__get__" = some (some (.builtin "getset_descriptor.__get__"))) &&
    (decide (PySem.W.takesIn K (.builtin "object.__class__") = some true) && decide (PySem.W.mroIn K D (.type "object") = some true))))
theorem excB_ok {K : PySem.W.Frag} {D : Addr} (h : excB K D = true) : ExcC K D := by
  obtain ⟨h1, h2⟩ := He.ba h
  obtain ⟨a1, h1⟩ := He.ba h1
  obtain ⟨a2, h1⟩ := He.ba h1
  obtain ⟨a3, a4⟩ := He.ba h1
  obtain ⟨b1, h2⟩ := He.ba h2
  obtain ⟨b2, h2⟩ := He.ba h2
  obtain ⟨b3, b4⟩ := He.ba h2
  exact ⟨of_decide_eq_true a1, of_decide_eq_true a2, of_decide_eq_true a3, a4, of_decide_eq_true b1, of_decide_eq_true b2, of_decide_eq_true b3, of_decide_eq_true b4⟩
/-- d is a class under c -/
def under (d c : Str) : Bool := d == c || c == "KeepError"
/-- a class of the module, no text -/
structure ClN (K : PySem.W.Frag) (C : Addr) : Prop where
  ha : PySem.W.findIn K (.ref C) "__class__" = some (some (.builtin "object.__class__"))
  hn : PySem.W.specialIn K (.builtin "object.__class__") "__get__" = some (some (.builtin "getset_descriptor.__get__"))
  htk : PySem.W.takesIn K (.builtin "object.__class__") = some true
  hm : PySem.W.mroIn K C (.type "object") = some true
  no : PySem.W.kitOne K (.ref C) (.type "str") = some false
def clB (K : PySem.W.Frag) (C : Addr) : Bool := (decide (PySem.W.findIn K (.ref C) "__class__" = some (some (.builtin "object.__class__"))) && (decide (PySem.W.specialIn K (.builtin "object.__class__") "__get__" = some (some (.builtin "getset_descriptor.__get__"))) &&
  (decide (PySem.W.takesIn K (.builtin "object.__class__") = some true) && (decide (PySem.W.mroIn K C (.type "object") = some true) && decide (PySem.W.kitOne K (.ref C) (.type "str") = some false)))))
theorem clB_ok {K : PySem.W.Frag} {C : Addr} (h : clB K C = true) : ClN K C := by
  obtain ⟨h1, h⟩ := He.ba h
  obtain ⟨h2, h⟩ := He.ba h
  obtain ⟨h3, h⟩ := He.ba h
  obtain ⟨h4, h5⟩ := He.ba h
  exact ⟨of_decide_eq_true h1, of_decide_eq_true h2, of_decide_eq_true h3, of_decide_eq_true h4, of_decide_eq_true h5⟩
structure XL where
  (ex cl : List Str)
/-- the errors' classes, and others -/
def exOk1 (L : List Str) (K : PySem.W.Frag) : Bool := L.all fun d => excB K (ga K d) && (decide (PySem.W.kitOne K (.ref (ga K d)) (.type "ValueError") = some true) &&
  (L.all fun c => decide (PySem.W.kitOne K (.ref (ga K d)) (.ref (ga K c)) = some (under d c)) && decide (PySem.W.exmOne K (.ref (ga K d)) (.ref (ga K c)) = some (under d c))))
def exOk (L : XL) (K : PySem.W.Frag) : Bool := exOk1 L.ex K && L.cl.all fun c => clB K (ga K c)
structure Told (fa : List Fa) (fn : List DefD) (xl : XL) (K : PySem.W.Frag) (mg : Str → Option Value) : Prop where
  ex : ∃ h : Heap, K.In h ∧ h.Ns mainGlobals mg
  says : SaysD fa fn K
  errs : exOk xl K = true
/-- what an object names, but for its class and the classes over it -/
def refsX (o : Obj) : List Addr := (match o.data with
  | .seq its _ => its.toList.flatMap He.refV
  | .dict es _ => es.toList.flatMap fun e => He.refV e.val
  | .func fd => He.refV fd.code ++ He.refV fd.defaults ++ He.refV fd.kwdefaults ++ fd.closure.map (·.2)
  | .cls cd => [cd.ns]
  | .fields vs => vs.toList.flatMap He.refV
  | .cell (some v) => He.refV v
  | _ => []) ++ match o.dict with
  | some d => [d]
  | none => []
def nextX (g : Addr → Option Obj) (as : List Addr) : List Addr := as.flatMap fun a => match g a with
  | some o => refsX o
  | none => []
/-- what the module's names lead to, level by level -/
def asX (g : Addr → Option Obj) : Nat → List Addr → List Addr
  | 0, as => as
  | n + 1, as => as ++ asX g n (nextX g as)
/-- the head's look -/
def lookG (n : Nat) (fa : List Fa) (fn : List DefD) (xl : XL) (g : Addr → Option Obj) : He.AlD × Bool := (He.obsD fa fn (He.frG g (asX g n [mainGlobals])), exOk xl (He.frG g (asX g n [mainGlobals])))
def hookG (n : Nat) (fa : List Fa) (fn : List DefD) (xl : XL) : PySem.W.Hook where
  α := He.AlD × Bool
  obs := fun s => lookG n fa fn xl s.heap.get?
  val := fun _ => (He.valD fn, true)
  says := fun _ h => ∃ K : PySem.W.Frag, K.In h ∧ SaysD fa fn K ∧ exOk xl K = true
  of := fun _ _ e => ⟨_, He.frG_in, congrArg (fun z : He.AlD × Bool => z.1) e, congrArg (fun z : He.AlD × Bool => z.2) e⟩
  keeps := fun _ _ _ ⟨K, hK, c⟩ k => ⟨K, PySem.W.Frag.In.keeps hK k, c⟩
theorem lookG_eq {n : Nat} {fa : List Fa} {fn : List DefD} {xl : XL} {g : Addr → Option Obj} {s : Shared} (h : ∀ a, g a = s.heap.get? a) : lookG n fa fn xl g = (hookG n fa fn xl).obs s := by
  have e : g = s.heap.get? := funext h
  rw [e]
  rfl
section
variable {fa : List Fa} {fn : List DefD} {xl : XL} {K : PySem.W.Frag} {mg : Str → Option Value}
theorem Told.glo (T : Told fa fn xl K mg) (i : Nat) {x : Str} (h : fa[i]? = some (.glo x) := by rfl) : mg x = some (.ref (ga K x)) := let ⟨_, X, N⟩ := T.ex; He.glo_ok X N (T.says.fact i h)
theorem Told.free (T : Told fa fn xl K mg) (i : Nat) {x : Str} (h : fa[i]? = some (.free x) := by rfl) : mg x = none := let ⟨_, X, N⟩ := T.ex; He.free_ok X N (T.says.fact i h)
theorem Told.num (T : Told fa fn xl K mg) (i : Nat) {x : Str} {n : Int} (h : fa[i]? = some (.int x n) := by rfl) : ∃ t, mg x = some (.int n t) := let ⟨_, X, N⟩ := T.ex; He.int_ok X N (T.says.fact i h)
theorem Told.txt (T : Told fa fn xl K mg) (i : Nat) {x z : Str} (h : fa[i]? = some (.str x z) := by rfl) : ∃ t, mg x = some (.str z t) := let ⟨_, X, N⟩ := T.ex; He.str_ok X N (T.says.fact i h)
theorem Told.err (T : Told fa fn xl K mg) {d : Str} (h : d ∈ xl.ex) : ExcC K (ga K d) ∧ PySem.W.kitOne K (.ref (ga K d)) (.type "ValueError") = some true ∧
    ∀ c ∈ xl.ex, PySem.W.kitOne K (.ref (ga K d)) (.ref (ga K c)) = some (under d c) ∧ PySem.W.exmOne K (.ref (ga K d)) (.ref (ga K c)) = some (under d c) := by
  obtain ⟨h1, h2⟩ := He.ba (List.all_eq_true.mp (He.ba T.errs).1 d h)
  obtain ⟨h3, h4⟩ := He.ba h2
  refine ⟨excB_ok h1, of_decide_eq_true h3, fun c hc => ?_⟩
  obtain ⟨h5, h6⟩ := He.ba (List.all_eq_true.mp h4 c hc)
  exact ⟨of_decide_eq_true h5, of_decide_eq_true h6⟩
theorem Told.cln (T : Told fa fn xl K mg) {c : Str} (h : c ∈ xl.cl) : ClN K (ga K c) := clB_ok (List.all_eq_true.mp (He.ba T.errs).2 c h)
/-- isinstance(e, c) of an error of class d -/
theorem Told.isE (T : Told fa fn xl K mg) {d c : Str} {a : Addr} {H : Hp} {Q : VK} (ha : H a = some (ExA (.ref (ga K d)) a)) (hd : d ∈ xl.ex) (hc : c ∈ xl.ex) (q : Q (.bl (under d c)) H) : gIsE K [.ref a, .ref (ga K c)] H Q :=
  ⟨_, _, _, ha, (T.err hd).1, .own _, ((T.err hd).2.2 c hc).1, q⟩
theorem Told.isY (T : Told fa fn xl K mg) {d c : Str} {a : Addr} {H : Hp} {Q : VK} (ha : H a = some (ExA (.ref (ga K d)) a)) (hd : d ∈ xl.ex) (hc : c ∈ xl.ex) (e : under d c = true) (q : Q (.bl true) H) : gIsE K [.ref a, .ref (ga K c)] H Q := T.isE ha hd hc (e ▸ q)
theorem Told.isN (T : Told fa fn xl K mg) {d c : Str} {a : Addr} {H : Hp} {Q : VK} (ha : H a = some (ExA (.ref (ga K d)) a)) (hd : d ∈ xl.ex) (hc : c ∈ xl.ex) (e : under d c = false) (q : Q (.bl false) H) : gIsE K [.ref a, .ref (ga K c)] H Q := T.isE ha hd hc (e ▸ q)
theorem Told.isV (T : Told fa fn xl K mg) {d : Str} {a : Addr} {H : Hp} {Q : VK} (ha : H a = some (ExA (.ref (ga K d)) a)) (hd : d ∈ xl.ex) (q : Q (.bl true) H) : gIsE K [.ref a, .ty "ValueError"] H Q :=
  ⟨_, _, _, ha, (T.err hd).1, .ty _, (T.err hd).2.1, q⟩
end
section
variable {fa : List Fa} {fn : List DefD} {xl : XL} {K : PySem.W.Frag} {mg : Str → Option Value}
/-- an error of class d reaches «except c», c over it -/
theorem Told.caught (T : Told fa fn xl K mg) {d c : Str} {i : Nat} {ts : TS} {Wo : WX} {D : Ends} {σ : L2.St} {H : Hp} (hd : d ∈ xl.ex) (hc : c ∈ xl.ex) (hu : under d c = true)
    (h : ∀ a, H a = none → ts { nx := fun σ' H' => D.nx (σ'.set i none) H', rt := D.rt, bk := fun σ' H' => D.bk (σ'.set i none) H', ct := fun σ' H' => D.ct (σ'.set i none) H' } (σ.set i (some (.ref a))) (upd H a (ExA (.ref (ga K d)) a))) :
    wTr K (.ref (ga K c)) i ts Wo D (.ref (ga K d)) none σ H :=
  ⟨true, by rw [((T.err hd).2.2 c hc).2, hu], fun _ => ⟨rfl, h⟩, fun z => by cases z⟩
end
/-- the function object at f -/
def fdAt (K : PySem.W.Frag) (f : Addr) : FuncData := match K.lookup f with
  | some ⟨_, _, .func fd, _⟩ => fd
  | _ => PySem.W.fnOf "" "" { posonlyargs := [], args := [], vararg := none, kwonlyargs := [], kw_defaults := [], kwarg := none, defaults := [] } [] { kind := .function, names := [], isGenerator := false, isCoroutine := false } .none .none .none .none none .none .none
theorem fdAt_of {K : PySem.W.Frag} {x qual : Str} {params : Arguments} {body : List Stmt} {scope : Scope} {dvs : List V} {kws : List (Str × V)} {f : Addr} {fd : FuncData} (F : FunD K x qual params body scope dvs kws f fd) : fd = fdAt K f := by
  obtain ⟨oc, od, dV, kV, doc, pm, an, cdv, ct, osl, rfl, lk, -⟩ := F.ex
  unfold fdAt
  rw [lk]
/-- every argument is given -/
def Bnd (fd : FuncData) (ps : List Str) : Prop := ∀ (s : Shared) (us : List Value), us.length = ps.length → BindsTo s fd ⟨us, []⟩ (ps.zip us)
theorem Bnd.to {K : PySem.W.Frag} {fd : FuncData} {ps : List Str} (b : Bnd fd ps) : Binds K fd ps [] := fun s us _ hl => by
  rw [List.append_nil] at hl ⊢
  exact b s us hl
/-- a def of the module: its promise sp -/
structure Fn (P : Program) (w : World) (K : PySem.W.Frag) (mg : Str → Option Value) (base : Heap) (k : Nat) (x : Str) (ps : List Str) (sp : Sp) : Prop where
  ok : FnOk P w K mg base (L2.CX P w) k (ga K x) (fdAt K (ga K x)) ps sp
  bd : Bnd (fdAt K (ga K x)) ps
  kp : PySem.W.keepIn K (.ref (ga K x)) = true
  at_ : mg x = some (.ref (ga K x))
/-- nothing is raised -/
theorem quiet {P : Program} {w : World} {K : PySem.W.Frag} {mg : Str → Option Value} {base : Heap} {k : Nat} {f : Addr} {fd : FuncData} {ps : List Str} {sp : Sp} (F : FnOk P w K mg base (L2.CX P w) k f fd ps sp) (h0 : ∀ vs H Q E, sp vs H Q E → sp vs H Q E0) : FnOk P w K mg base CX0 k f fd ps sp :=
  ⟨F.len, fun A outer s H args us vs Q E hr e0 hb r hsp => codeAny_mono (F.run A outer s H args us vs Q E0 hr e0 hb r (h0 _ _ _ _ hsp)) fun r s' hq => by
    cases r with
    | error e =>
      obtain ⟨_, _, _, _, _, _, _, _, _, _, _, _, y⟩ := hq
      exact y.elim
    | ok fl => cases fl with
      | ret u => exact hq
      | next => exact hq.elim
      | brk => exact hq.elim
      | cont => exact hq.elim⟩
/-- .. that may be called in an except suite, too -/
structure FnH (P : Program) (w : World) (K : PySem.W.Frag) (mg : Str → Option Value) (base : Heap) (k : Nat) (x : Str) (ps : List Str) (sp : Sp) : Prop where
  ok : FnN P w K mg base k (ga K x) (fdAt K (ga K x)) ps sp
  bd : Bnd (fdAt K (ga K x)) ps
  kp : PySem.W.keepIn K (.ref (ga K x)) = true
  at_ : mg x = some (.ref (ga K x))
section
variable {fa : List Fa} {fn : List DefD} {xl : XL} {P : Program} {w : World} {K : PySem.W.Frag} {mg : Str → Option Value} {base : Heap}
theorem Told.mkFn (T : Told fa fn xl K mg) (i j : Nat) {d : DefD} {x : Str} {N ps : List Str} {k : Nat} {sp : Sp} (hd : fn[i]? = some d) (hx : d.at_ = (x, none)) (h0 : d.dfl = []) (h1 : d.kwd = []) (hg : fa[j]? = some (.glo x)) (S : FnScope N ps d.scope)
    (bnd : ∀ (kV doc pm : Value) (an : Option Addr) (cdv ct : Value) (us : List Value), us.length = ps.length → bindArgs (PySem.W.fnOf d.name d.qual d.params d.body d.scope .none kV doc pm an cdv ct) ⟨us, []⟩ = pure (ps.zip us))
    (len : ∀ vs H Q E, sp vs H Q E → vs.length = ps.length)
    (body : ∀ (cdv : Value) (A : Around) (outer : List Env) (s : Shared) (H : Hp) (vs : List V) (Q : VK) (E : XK), Room k (A.deeper (envOfC d.qual d.scope s.heap.objs.size (ga K x) cdv)) → sp vs H Q E →
      ∃ t, PSs (cxOf (L2.CX P w) P w K mg base N d.qual d.scope (ga K x) cdv A outer s H E) d.body t ∧ t { nx := fun _ H' => Q .non H', rt := Q } (start N vs) H) : Fn P w K mg base (k + 1) x ps sp := by
  obtain ⟨fd, F⟩ := T.says.def_ i hd
  have e : fAd K d.at_ = ga K x := by rw [hx]; rfl
  have e0 : d.dvs K = [] := by unfold DefD.dvs; rw [h0]; rfl
  have e1 : d.kws K = [] := by unfold DefD.kws; rw [h1]; rfl
  rw [e, e0, e1] at F
  have ef := fdAt_of F
  subst ef
  exact ⟨F.ok S len body, F.bindsA bnd, F.kp, T.glo j hg⟩
theorem Told.mkFnH (T : Told fa fn xl K mg) (i j : Nat) {d : DefD} {x : Str} {N ps : List Str} {k : Nat} {sp : Sp} (hd : fn[i]? = some d) (hx : d.at_ = (x, none)) (h0 : d.dfl = []) (h1 : d.kwd = []) (hg : fa[j]? = some (.glo x)) (S : FnScope N ps d.scope)
    (bnd : ∀ (kV doc pm : Value) (an : Option Addr) (cdv ct : Value) (us : List Value), us.length = ps.length → bindArgs (PySem.W.fnOf d.name d.qual d.params d.body d.scope .none kV doc pm an cdv ct) ⟨us, []⟩ = pure (ps.zip us))
    (len : ∀ vs H Q E, sp vs H Q E → vs.length = ps.length)
    (body : ∀ (cdv : Value) (A : Around) (outer : List Env) (s : Shared) (H : Hp) (vs : List V) (Q : VK), RoomN k (A.deeper (envOfC d.qual d.scope s.heap.objs.size (ga K x) cdv)) → sp vs H Q E0 →
      ∃ t, PSs (cxN P w K mg base N d.qual d.scope (ga K x) cdv A outer s H) d.body t ∧ t { nx := fun _ H' => Q .non H', rt := Q } (start N vs) H) : FnH P w K mg base (k + 1) x ps sp := by
  obtain ⟨fd, F⟩ := T.says.def_ i hd
  have e : fAd K d.at_ = ga K x := by rw [hx]; rfl
  have e0 : d.dvs K = [] := by unfold DefD.dvs; rw [h0]; rfl
  have e1 : d.kws K = [] := by unfold DefD.kws; rw [h1]; rfl
  rw [e, e0, e1] at F
  have ef := fdAt_of F
  subst ef
  exact ⟨fn_ofN F S len body, F.bindsA bnd, F.kp, T.glo j hg⟩
end
section
variable {X : Cx} {k : Nat} {ps : List Str} {sp : Sp} {W : WX} {x : Str} {p pos : Pos} {e : Expr} {es : List Expr} {t : TA}
theorem pe_fn (tk : Takes X W) (F : Fn X.prog X.w X.K X.mg X.base k x ps sp) (hr : Room k X.A) (hg : Gl X x) (ha : PA X (e :: es) t) (hdb : (x == ("__debug__" : Str)) = false := by decide)
    (he : starEach (e :: es) X.env = (false, eval e X.env) :: starEach es X.env := by rfl) (hpl : (backTo pos (starEach es X.env)).any (·.1) = false := by rfl) : PE X (.Call (.Name x p) (e :: es) [] pos) (tCallW sp W t) := by
  exact pe_callW tk F.ok hr hg F.at_ F.kp F.bd.to ha hdb he hpl
theorem pe_fn0 (tk : Takes X W) (F : Fn X.prog X.w X.K X.mg X.base k x ps sp) (hr : Room k X.A) (hg : Gl X x) (hdb : (x == ("__debug__" : Str)) = false := by decide) : PE X (.Call (.Name x p) [] [] pos) (tCallW sp W tNil) := by
  exact pe_callW0 tk F.ok hr hg F.at_ F.kp F.bd.to hdb
theorem pe_fnH (F : FnH X.prog X.w X.K X.mg X.base k x ps sp) (hr : RoomN k X.A) (hg : Gl X x) (ha : PA X (e :: es) t) (hdb : (x == ("__debug__" : Str)) = false := by decide)
    (he : starEach (e :: es) X.env = (false, eval e X.env) :: starEach es X.env := by rfl) (hpl : (backTo pos (starEach es X.env)).any (·.1) = false := by rfl) : PE X (.Call (.Name x p) (e :: es) [] pos) (tCallN sp t) := by
  exact pe_callN F.ok hr hg F.at_ F.kp F.bd.to ha hdb he hpl
theorem call_gLen : CallR X (.builtin "len") (L2.rLen X.K) := call_len
theorem call_lenK {K : PySem.W.Frag} (hK : X.K = K) : CallR X (.builtin "len") (L2.rLen K) := hK ▸ call_len
theorem op_eqK {K : PySem.W.Frag} (hK : X.K = K) (hu : X.A.units + 64 < cLine) : OpR X (compareOp .Eq) (gEq K) := hK ▸ op_gEq hu
theorem op_neK {K : PySem.W.Frag} (hK : X.K = K) (hu : X.A.units + 64 < cLine) : OpR X (compareOp .NotEq) (gNe K) := hK ▸ op_gNe hu
theorem ix_seqK {K : PySem.W.Frag} (hK : X.K = K) : IxR X (rIx K) := hK ▸ ix_seq
theorem call_isEK {K : PySem.W.Frag} (hK : X.K = K) : CallR X (.builtin "isinstance") (gIsE K) := hK ▸ call_gIsE
theorem sl_listK {K : PySem.W.Frag} (hK : X.K = K) : SlR X (rSlL K) := hK ▸ sl_list
theorem pi_listK {K : PySem.W.Frag} {tg l : Expr} {tl : TE} (hK : X.K = K) (h : PE X l tl) : PI X tg l (iList K tl) := hK ▸ pi_list h
def rListG (K : PySem.W.Frag) : List V → Hp → VK → Prop := fun xs H Q => ∃ p ys, xs = [.ref p] ∧ (SqL K H p ys ∨ SqT K H p ys) ∧ ∀ l, H l = none → Q (.ref l) (upd H l (.lst ys))
theorem call_listK {K : PySem.W.Frag} (hK : X.K = K) : CallR X (.type "list") (rListG K) := hK ▸ call_list_of
theorem pe_clsK {K : PySem.W.Frag} (hK : X.K = K) (h : X.mg x = some (.ref (ga K x))) (hg : Gl X x) (hdb : (x == ("__debug__" : Str)) = false := by decide) : PE X (.Name x pos) (tC (.ref (ga K x))) := pe_glob hg h rfl hdb
/-- a constant of the module -/
theorem pe_num {n : Int} (h : ∃ t, X.mg x = some (.int n t)) (hg : Gl X x) (hdb : (x == ("__debug__" : Str)) = false := by decide) : PE X (.Name x pos) (tC (.int n)) := by
  obtain ⟨t, e⟩ := h
  exact pe_glob hg e ⟨t, rfl⟩ hdb
theorem pe_txt {z : Str} (h : ∃ t, X.mg x = some (.str z t)) (hg : Gl X x) (hdb : (x == ("__debug__" : Str)) = false := by decide) : PE X (.Name x pos) (tC (.str z)) := by
  obtain ⟨t, e⟩ := h
  exact pe_glob hg e ⟨t, rfl⟩ hdb
/-- a class of the module as a value; a built-in class -/
theorem pe_cls (h : X.mg x = some (.ref (ga X.K x))) (hg : Gl X x) (hdb : (x == ("__debug__" : Str)) = false := by decide) : PE X (.Name x pos) (tC (.ref (ga X.K x))) := pe_glob hg h rfl hdb
theorem pe_ty {T : String} (hm : X.mg x = none) (hv : bootBuiltins x = some (.type T)) (hg : Gl X x) (hn : x ≠ "__name__" := by decide) (hdb : (x == ("__debug__" : Str)) = false := by decide) : PE X (.Name x pos) (tC (.ty T)) := pe_bltn hg hm hv rfl hn hdb
/-- raise C('..') -/
def tRaise (C : Addr) (W : WX) : TS := fun _ σ H => W (.ref C) none σ H
theorem ps_raiseK {K : PySem.W.Frag} {m : Str} {j : Nat} {p2 pos2 : Pos} (hK : X.K = K) (hc : X.calm = true) (tk : Takes X W) (h : (Fa.exc x).ok K = true) (hm : X.mg x = some (.ref (ga K x))) (hg : Gl X x) (hdb : (x == ("__debug__" : Str)) = false := by decide) :
    PS X (.Raise (some (.Call (.Name x p) [.Constant (.str m) j p2] [] pos)) none pos2) (tRaise (ga K x) W) := by
  subst hK
  obtain ⟨h1, h2, h3, h4⟩ := He.exc_ok h
  exact ps_raise hc tk (pmk_own PySem.F.excBase_ValueError h1 hm h2 (raises_own h3 h4) hg hdb)
theorem ps_raiseW {m : Str} {j : Nat} {p2 pos2 : Pos} (hc : X.calm = true) (tk : Takes X W) (h : (Fa.exc x).ok X.K = true) (hm : X.mg x = some (.ref (ga X.K x))) (hg : Gl X x) (hdb : (x == ("__debug__" : Str)) = false := by decide) :
    PS X (.Raise (some (.Call (.Name x p) [.Constant (.str m) j p2] [] pos)) none pos2) (tRaise (ga X.K x) W) := by
  obtain ⟨h1, h2, h3, h4⟩ := He.exc_ok h
  exact ps_raise hc tk (pmk_own PySem.F.excBase_ValueError h1 hm h2 (raises_own h3 h4) hg hdb)
end

/-! ## readings, step by step -/
section
variable {σ : L2.St} {H : Hp} {Q : VK} {QT : Bool → Hp → Prop} {QA : List V → Hp → Prop} {D : Ends} {v x y z : V} {i : Nat} {o : Option V} {ta tb te tc : TE} {t u c : TT} {ts us : TS} {as : TA} {r r' : R2} {g : TG} {b : Bool}
theorem x_K {CX : CXT} {P : Program} {w : World} {K : PySem.W.Frag} {mg : Str → Option Value} {base : Heap} {N : List Str} {qual : Str} {scope : Scope} {f : Addr} {cd : Value} {A : Around} {outer : List Env} {s : Shared} {E : XK} : (cxOf CX P w K mg base N qual scope f cd A outer s H E).K = K := rfl
theorem x_var0 : tVar 0 (some v :: σ) H Q = Q v H := propext ⟨fun ⟨_, e, q⟩ => by cases e; exact q, fun q => ⟨v, rfl, q⟩⟩
theorem x_varS : tVar (i + 1) (o :: σ) H Q = tVar i σ H Q := rfl
theorem x_c : tC v σ H Q = Q v H := rfl
theorem x_op : tOp r ta tb σ H Q = ta σ H fun x H1 => tb σ H1 fun y H2 => r x y H2 Q := rfl
theorem x_un {r : V → Hp → VK → Prop} : tUn r ta σ H Q = ta σ H fun x H1 => r x H1 Q := rfl
theorem x_cb {r : List V → Hp → VK → Prop} : tCB r as σ H Q = as σ H fun vs H1 => r vs H1 Q := rfl
theorem x_nil : tNil σ H QA = QA [] H := rfl
theorem x_cons : tCons te as σ H QA = te σ H fun x H1 => as σ H1 fun xs H2 => QA (x :: xs) H2 := rfl
theorem x_test : tTest te σ H QT = te σ H fun x H1 => ∃ k, x = .bl k ∧ QT k H1 := rfl
theorem x_b : tB te σ H QT = te σ H fun x H1 => ∃ k, x = .bl k ∧ QT k H1 := rfl
theorem x_ex {P : Bool → Prop} : (∃ k, V.bl b = .bl k ∧ P k) = P b := propext ⟨fun ⟨_, e, q⟩ => by cases e; exact q, fun q => ⟨b, rfl, q⟩⟩
theorem x_and : tAnd t u σ H QT = t σ H fun c H1 => if c = true then u σ H1 QT else QT false H1 := rfl
theorem x_or : tOr t u σ H QT = t σ H fun c H1 => if c = true then QT true H1 else u σ H1 QT := rfl
theorem x_not : tNot t σ H QT = t σ H fun c H1 => QT (!c) H1 := rfl
theorem x_andV : tAndV ta tb σ H Q = ta σ H fun x H1 => ∃ c, x = .bl c ∧ if c = true then tb σ H1 Q else Q (.bl false) H1 := rfl
theorem x_orV : tOrV ta tb σ H Q = ta σ H fun x H1 => ∃ c, x = .bl c ∧ if c = true then Q (.bl true) H1 else tb σ H1 Q := rfl
theorem x_notV : tNotV ta σ H Q = ta σ H fun x H1 => ∃ c, x = .bl c ∧ Q (.bl (!c)) H1 := rfl
theorem x_tif : tIf t ta tb σ H Q = t σ H fun c H1 => if c = true then ta σ H1 Q else tb σ H1 Q := rfl
theorem x_chain : tChain r r' ta tb tc σ H Q = ta σ H fun x H1 => tb σ H1 fun y H2 => r x y H2 fun z H3 => ∃ k, z = .bl k ∧ (if k = true then tc σ H3 fun u H4 => r' y u H4 Q else Q (.bl false) H3) := rfl
theorem x_menu : tMenu as te σ H Q = as σ H fun xs H1 => xs.length ≤ sizeLine ∧ te σ H1 fun y H2 => ∃ i v, y = .int i ∧ atI xs i = some v ∧ Q v H2 := rfl
theorem x_menuI {xs : List V} {n : Int} {P : V → Prop} : (∃ i v, V.int n = .int i ∧ atI xs i = some v ∧ P v) = ∃ v, atI xs n = some v ∧ P v := propext ⟨fun ⟨_, w, e, q⟩ => by cases e; exact ⟨w, q⟩, fun ⟨w, q⟩ => ⟨n, w, rfl, q⟩⟩
theorem x_lst : tLst as σ H Q = as σ H fun xs H1 => xs.length ≤ sizeLine ∧ ∀ p, H1 p = none → Q (.ref p) (upd H1 p (.lst xs)) := rfl
theorem x_tup : tTup as σ H Q = as σ H fun xs H1 => xs.length ≤ sizeLine ∧ ∀ p, H1 p = none → Q (.ref p) (upd H1 p (.tup xs)) := rfl
theorem x_dnew : tDNewK σ H Q = ∀ p, H p = none → Q (.ref p) (upd H p (.dK [])) := rfl
theorem x_callW {sp : Sp} {W : WX} : tCallW sp W as σ H Q = as σ H fun vs H1 => sp vs H1 Q fun c d H2 => W c d σ H2 := rfl
theorem x_callN {sp : Sp} : tCallN sp as σ H Q = as σ H fun vs H1 => sp vs H1 Q E0 := rfl
theorem x_seq : tSeq ts us D σ H = ts { D with nx := us D } σ H := rfl
theorem x_next : tNext D σ H = D.nx σ H := rfl
theorem x_ret : tRet te D σ H = te σ H D.rt := rfl
theorem x_retN : tRetN D σ H = D.rt .non H := rfl
theorem x_drop : tDrop te D σ H = te σ H fun _ H1 => D.nx σ H1 := rfl
theorem x_ifS : tIfS c ts us D σ H = c σ H fun b H1 => if b = true then ts D σ H1 else us D σ H1 := rfl
theorem x_asg : tAsg te g D σ H = te σ H fun x H1 => g x σ H1 D.nx := rfl
theorem x_name {N : L2.St → Hp → Prop} : gName i v σ H N = N (σ.set i (some v)) H := rfl
theorem x_raise {C : Addr} {W : WX} : tRaise C W D σ H = W (.ref C) none σ H := rfl
theorem x_start {N : List Str} {n : Str} {vs : List V} : start (n :: N) (v :: vs) = some v :: start N vs := by
  unfold L2.start
  simp only [List.map_cons, List.length_cons, List.cons_append, Nat.add_sub_add_right]
theorem x_start0 {N : List Str} : start N [] = List.replicate N.length none := by
  unfold L2.start
  simp
theorem q_str {a b : Str} (q : Q (.str a) H) (e : a = b) : Q (.str b) H := e ▸ q
theorem r_i0 {g : Int → Int → V} {a b : Int} : rI0 g (.int a) (.int b) H Q = Q (g a b) H := propext ⟨fun ⟨_, _, e, e', q⟩ => by cases e; cases e'; exact q, fun q => ⟨a, b, rfl, rfl, q⟩⟩
theorem r_i {C : Int → Int → Prop} {g : Int → Int → V} {a b : Int} : rI C g (.int a) (.int b) H Q = (C a b ∧ Q (g a b) H) := propext ⟨fun ⟨_, _, e, e', q⟩ => by cases e; cases e'; exact q, fun q => ⟨a, b, rfl, rfl, q⟩⟩
theorem r_u {g : Int → V} {a : Int} : rU g (.int a) H Q = Q (g a) H := propext ⟨fun ⟨_, e, q⟩ => by cases e; exact q, fun q => ⟨a, rfl, q⟩⟩
theorem r_addI {a b : Int} : gAdd (.int a) (.int b) H Q = Q (.int (a + b)) H := rfl
theorem r_addS {a b : Str} : gAdd (.str a) (.str b) H Q = (a.length + b.length ≤ sizeLine ∧ Q (.str (a ++ b)) H) := rfl
theorem r_mulI {a b : Int} : gMul (.int a) (.int b) H Q = (((-(2 ^ 64) < a ∧ a < 2 ^ 64) ∨ (-(2 ^ 64) < b ∧ b < 2 ^ 64)) ∧ Q (.int (a * b)) H) := rfl
theorem r_mulS {a : Str} {b : Int} : gMul (.str a) (.int b) H Q = ((b = 0 ∨ b = 1) ∧ Q (.str (if b = 1 then a else Str.empty)) H) := rfl
theorem r_eqI {K : PySem.W.Frag} {a b : Int} : gEq K (.int a) (.int b) H Q = Q (.bl (decide (a = b))) H := by
  show (if true = true then Q (.bl (a == b)) H else rEqD K (.int a) (.int b) H Q) = _
  rw [if_pos (rfl : true = true), Bool.beq_eq_decide_eq]
theorem r_neI {K : PySem.W.Frag} {a b : Int} : gNe K (.int a) (.int b) H Q = Q (.bl (!decide (a = b))) H := by
  show (if true = true then Q (.bl (!(a == b))) H else rNeD K (.int a) (.int b) H Q) = _
  rw [if_pos (rfl : true = true), Bool.beq_eq_decide_eq]
theorem r_eqF {K : PySem.W.Frag} (hx : flatV x = true) (hy : flatV y = true) : gEq K x y H Q = Q (.bl (eqV x y)) H := by unfold gEq; rw [hx, hy]; rfl
theorem r_neF {K : PySem.W.Frag} (hx : flatV x = true) (hy : flatV y = true) : gNe K x y H Q = Q (.bl (!eqV x y)) H := by unfold gNe; rw [hx, hy]; rfl
theorem r_eqS {K : PySem.W.Frag} {a b : Str} : gEq K (.str a) (.str b) H Q = Q (.bl (decide (a = b))) H := by
  show (if true = true then Q (.bl (a == b)) H else rEqD K (.str a) (.str b) H Q) = _
  rw [if_pos (rfl : true = true), Bool.beq_eq_decide_eq]
theorem r_neS {K : PySem.W.Frag} {a b : Str} : gNe K (.str a) (.str b) H Q = Q (.bl (!decide (a = b))) H := by
  show (if true = true then Q (.bl (!(a == b))) H else rNeD K (.str a) (.str b) H Q) = _
  rw [if_pos (rfl : true = true), Bool.beq_eq_decide_eq]
theorem n_ten : Int.natAbs 10 < 18446744073709551616 := by decide
theorem c_div {i j : Int} : CDiv i j = (0 < j ∧ j < 1073741824) := rfl
theorem c_pow {i j : Int} : CPow i j = (0 ≤ j ∧ j ≤ 1000000 ∧ i.natAbs < 2 ^ 64) := rfl
theorem r_absI {a : Int} : gAbs [.int a] H Q = Q (.int (a.natAbs : Int)) H := rfl
theorem r_intI {a : Int} : gInt [.int a] H Q = Q (.int a) H := rfl
theorem r_intB {k : Bool} : gInt [.bl k] H Q = Q (.int (if k then 1 else 0)) H := rfl
theorem r_lenL {K : PySem.W.Frag} {a : Addr} {xs : List V} (h : H a = some (.lst xs)) (q : Q (.int (xs.length : Int)) H) : L2.rLen K [.ref a] H Q := ⟨_, _, rfl, .inl ⟨_, SqL.of h, rfl⟩, q⟩
end
end G
namespace G
open PySem PySem.Spec PyProof.Rows L2
open He (ga ma fAd Fa DefD SaysD)
/-! ## classes of the module: fields, methods, instances -/
section
variable {fa : List Fa} {fn : List DefD} {xl : XL} {K : PySem.W.Frag} {mg : Str → Option Value}
theorem Told.cls (T : Told fa fn xl K mg) (i : Nat) {x : Str} (h : fa[i]? = some (.cls x) := by rfl) : Cls K (ga K x) := He.cls_ok (T.says.fact i h)
theorem Told.noat (T : Told fa fn xl K mg) (i : Nat) {x f : Str} (h : fa[i]? = some (.noat x f) := by rfl) : NoAttr K (ga K x) f := He.noat_ok (T.says.fact i h)
end
/-- x holds v in its field f, an instance of the class at C -/
def FldIs (C : Addr) (f : Str) (x : V) (H : Hp) (v : V) : Prop := ∃ a dx fs, x = .ref a ∧ H a = some (.ins C dx fs) ∧ fs.lookup f = some v
theorem fldIs {C : Addr} {f : Str} {a dx : Addr} {H : Hp} {fs : List (Str × V)} {v : V} (h : H a = some (.ins C dx fs)) (e : fs.lookup f = some v := by rfl) : FldIs C f (.ref a) H v := ⟨a, dx, fs, rfl, h, e⟩
def gFld (C : Addr) (ta : TE) (f : Str) : TE := fun σ H Q => ta σ H fun x H1 => ∃ v, FldIs C f x H1 v ∧ Q v H1
def gSetF (C : Addr) (ta tv : TE) (f : Str) : TS := fun D σ H => tv σ H fun y H1 => ta σ H1 fun x H2 => ∃ a dx fs, x = .ref a ∧ H2 a = some (.ins C dx fs) ∧ fs.length < 1000 ∧ D.nx σ (upd H2 a (.ins C dx (putF f y fs)))
section
variable {X : Cx} {C : Addr} {o e value : Expr} {f : Str} {pos pos' : Pos} {ta tv : TE}
theorem pe_fldC (c : Cls X.K C) (n : NoAttr X.K C f) (he : PE X e ta) (hb : attributeBase e f X.env (eval e X.env) = eval e X.env := by rfl) : PE X (.Attribute e f pos) (gFld C ta f) := by
  refine ⟨fun pins s σ H Q I h => attr_of hb (thn (he.run pins s σ H _ I h) fun u s1 hh => ?_)⟩
  obtain ⟨x, H1, I1, rx, v, ⟨a, dx, fs, ex, ea, l⟩, q⟩ := hh
  subst ex
  obtain rfl : u = Value.ref a := rx
  exact getattr_ok I1 ea c n l fun _ _ I2 ru => ⟨v, H1, I2, ru, q⟩
theorem ps_fldC (c : Cls X.K C) (n : NoAttr X.K C f) (ha : PE X o ta) (hv : PE X value tv) (hs : swapsWith value (some (.Attribute o f pos')) pos.line X.env = pure false := by rfl) : PS X (.Assign [.Attribute o f pos'] value pos) (gSetF C ta tv f) := by
  refine ⟨fun pins s σ H D I h => plainObj_wpAny_Assign_Attribute (thn (hv.run pins s σ H _ I h) fun u s1 hh => ?_) hs⟩
  obtain ⟨y, H1, I1, ry, q⟩ := hh
  refine thn (ha.run pins s1 σ H1 _ I1 q) fun ov s2 h2 => ?_
  obtain ⟨x, H2, I2, rx, a, dx, fs, ex, ea, l, q2⟩ := h2
  subst ex
  obtain rfl : ov = Value.ref a := rx
  exact setattr_ok I2 ea c n l ry fun _ I3 => ⟨σ, _, I3, q2⟩
end
/-- a method of a class of the module: its promise -/
structure Mt (P : Program) (w : World) (K : PySem.W.Frag) (mg : Str → Option Value) (base : Heap) (k : Nat) (C m : Str) (ps : List Str) (sp : Sp) : Prop where
  ok : FnOk P w K mg base (L2.CX P w) k (ma K (ga K C) m) (fdAt K (ma K (ga K C) m)) ps sp
  bd : Bnd (fdAt K (ma K (ga K C) m)) ps
  me : Meth K (ga K C) m (ma K (ga K C) m)
  cl : Cls K (ga K C)
/-- the __init__ of a class -/
structure Mi (P : Program) (w : World) (K : PySem.W.Frag) (mg : Str → Option Value) (base : Heap) (k : Nat) (C : Str) (ps : List Str) (sp : Sp) : Prop where
  ok : FnOk P w K mg base (L2.CX P w) k (ma K (ga K C) "__init__") (fdAt K (ma K (ga K C) "__init__")) ps sp
  bd : Bnd (fdAt K (ma K (ga K C) "__init__")) ps
  mkr : Mk K (ga K C) (ma K (ga K C) "__init__")
  at_ : mg C = some (.ref (ga K C))
section
variable {fa : List Fa} {fn : List DefD} {xl : XL} {P : Program} {w : World} {K : PySem.W.Frag} {mg : Str → Option Value} {base : Heap}
theorem Told.mkAny (T : Told fa fn xl K mg) (i : Nat) {d : DefD} {f : Addr} {N ps : List Str} {k : Nat} {sp : Sp} (hd : fn[i]? = some d) (hx : fAd K d.at_ = f) (h0 : d.dfl = []) (h1 : d.kwd = []) (S : FnScope N ps d.scope)
    (bnd : ∀ (kV doc pm : Value) (an : Option Addr) (cdv ct : Value) (us : List Value), us.length = ps.length → bindArgs (PySem.W.fnOf d.name d.qual d.params d.body d.scope .none kV doc pm an cdv ct) ⟨us, []⟩ = pure (ps.zip us))
    (len : ∀ vs H Q E, sp vs H Q E → vs.length = ps.length)
    (body : ∀ (cdv : Value) (A : Around) (outer : List Env) (s : Shared) (H : Hp) (vs : List V) (Q : VK) (E : XK), Room k (A.deeper (envOfC d.qual d.scope s.heap.objs.size f cdv)) → sp vs H Q E →
      ∃ t, PSs (cxOf (L2.CX P w) P w K mg base N d.qual d.scope f cdv A outer s H E) d.body t ∧ t { nx := fun _ H' => Q .non H', rt := Q } (start N vs) H) : FnOk P w K mg base (L2.CX P w) (k + 1) f (fdAt K f) ps sp ∧ Bnd (fdAt K f) ps := by
  obtain ⟨fd, F⟩ := T.says.def_ i hd
  have e0 : d.dvs K = [] := by unfold DefD.dvs; rw [h0]; rfl
  have e1 : d.kws K = [] := by unfold DefD.kws; rw [h1]; rfl
  rw [hx, e0, e1] at F
  have ef := fdAt_of F
  subst ef
  exact ⟨F.ok S len body, F.bindsA bnd⟩
theorem Told.mkMt (T : Told fa fn xl K mg) (i j l : Nat) {d : DefD} {C m : Str} {N ps : List Str} {k : Nat} {sp : Sp} (hd : fn[i]? = some d) (hx : d.at_ = (C, some m)) (h0 : d.dfl = []) (h1 : d.kwd = []) (hg : fa[j]? = some (.meth C m)) (hc : fa[l]? = some (.cls C)) (S : FnScope N ps d.scope)
    (bnd : ∀ (kV doc pm : Value) (an : Option Addr) (cdv ct : Value) (us : List Value), us.length = ps.length → bindArgs (PySem.W.fnOf d.name d.qual d.params d.body d.scope .none kV doc pm an cdv ct) ⟨us, []⟩ = pure (ps.zip us))
    (len : ∀ vs H Q E, sp vs H Q E → vs.length = ps.length)
    (body : ∀ (cdv : Value) (A : Around) (outer : List Env) (s : Shared) (H : Hp) (vs : List V) (Q : VK) (E : XK), Room k (A.deeper (envOfC d.qual d.scope s.heap.objs.size (ma K (ga K C) m) cdv)) → sp vs H Q E →
      ∃ t, PSs (cxOf (L2.CX P w) P w K mg base N d.qual d.scope (ma K (ga K C) m) cdv A outer s H E) d.body t ∧ t { nx := fun _ H' => Q .non H', rt := Q } (start N vs) H) : Mt P w K mg base (k + 1) C m ps sp := by
  obtain ⟨a, b⟩ := T.mkAny (P := P) (w := w) (base := base) i hd (by rw [hx]; rfl) h0 h1 S bnd len body
  exact ⟨a, b, He.meth_ok (T.says.fact j hg), T.cls l hc⟩
theorem Told.mkMi (T : Told fa fn xl K mg) (i j l : Nat) {d : DefD} {C : Str} {N ps : List Str} {k : Nat} {sp : Sp} (hd : fn[i]? = some d) (hx : d.at_ = (C, some ("__init__" : Str))) (h0 : d.dfl = []) (h1 : d.kwd = []) (hg : fa[j]? = some (.mkr C)) (hc : fa[l]? = some (.glo C)) (S : FnScope N ps d.scope)
    (bnd : ∀ (kV doc pm : Value) (an : Option Addr) (cdv ct : Value) (us : List Value), us.length = ps.length → bindArgs (PySem.W.fnOf d.name d.qual d.params d.body d.scope .none kV doc pm an cdv ct) ⟨us, []⟩ = pure (ps.zip us))
    (len : ∀ vs H Q E, sp vs H Q E → vs.length = ps.length)
    (body : ∀ (cdv : Value) (A : Around) (outer : List Env) (s : Shared) (H : Hp) (vs : List V) (Q : VK) (E : XK), Room k (A.deeper (envOfC d.qual d.scope s.heap.objs.size (ma K (ga K C) "__init__") cdv)) → sp vs H Q E →
      ∃ t, PSs (cxOf (L2.CX P w) P w K mg base N d.qual d.scope (ma K (ga K C) "__init__") cdv A outer s H E) d.body t ∧ t { nx := fun _ H' => Q .non H', rt := Q } (start N vs) H) : Mi P w K mg base (k + 1) C ps sp := by
  obtain ⟨a, b⟩ := T.mkAny (P := P) (w := w) (base := base) i hd (by rw [hx]; rfl) h0 h1 S bnd len body
  exact ⟨a, b, He.mkr_ok (T.says.fact j hg), T.glo l hc⟩
end
/-- x is an instance of the class at C, its attributes none of the name m -/
def Recv (C : Addr) (m : Str) (x : V) (H : Hp) : Prop := ∃ a dx fs, x = .ref a ∧ H a = some (.ins C dx fs) ∧ fs.lookup m = none
theorem recv {C : Addr} {m : Str} {a dx : Addr} {H : Hp} {fs : List (Str × V)} (h : H a = some (.ins C dx fs)) (e : fs.lookup m = none := by rfl) : Recv C m (.ref a) H := ⟨a, dx, fs, rfl, h, e⟩
section
variable {X : Cx} {k : Nat} {C m : Str} {ps : List Str} {sp : Sp} {W : WX} {p pos apos : Pos} {o e : Expr} {es : List Expr} {ta : TE} {t : TA}
def gMeth (C : Addr) (m : Str) (sp : Sp) (W : WX) (ta : TE) (t : TA) : TE := fun σ H Q => ta σ H fun x H1 => Recv C m x H1 ∧ t σ H1 fun vs H2 => sp (x :: vs) H2 Q fun c d H3 => W c d σ H3
theorem pe_mt {pl : Sem Bool} {K : PySem.W.Frag} (hK : X.K = K) (tk : Takes X W) (he : PE X o ta) (F : Mt X.prog X.w K X.mg X.base k C m ps sp) (hr : Room k X.A) (ha : PA X (e :: es) t)
    (hst : starEach (e :: es) X.env = (false, eval e X.env) :: starEach es X.env := by rfl) (hpl : (backTo pos (starEach es X.env)).any (·.1) = false := by rfl)
    (ht : eval (.Call (.Attribute o m apos) (e :: es) [] pos) X.env = (do
      let z ← eval o X.env
      standAt apos.atName
      let (g, one) ← holding [z] (getMethod z m pl)
      callWith pos g one (backTo pos (starEach (e :: es) X.env)) (backToKw pos (keywordEach [] X.env))) := by rfl) :
    PE X (.Call (.Attribute o m apos) (e :: es) [] pos) (gMeth (ga K C) m sp W ta t) := by
  subst hK
  refine ⟨fun pins s σ H Q I h => ?_⟩
  refine PySem.W.methodCall_KW (pl := pl) (thn (he.run pins s σ H _ I h) fun u s1 hh => ?_) ht
  obtain ⟨y, H1, I1, ry, ⟨a, dx, fs, ey, ea, l⟩, q⟩ := hh
  subst ey
  obtain rfl : u = Value.ref a := ry
  refine getmeth_ok I1 ea F.cl F.me l ?_
  refine PySem.W.callWith_K (first := [.ref a]) (h₀ := X.base) I.ok.mod.kin F.me.kp (thn (ha.run pos pins s1 σ H1 _ I1 q) fun us s2 h2 => ?_) hst hpl
  obtain ⟨vs, H2, I2, r, q2⟩ := h2
  exact ⟨I2.kIn, run_fnS (us := .ref a :: us) (vs := .ref a :: vs) (E := WE W) F.ok hr F.bd.to (passAt tk σ) I2 (.cons rfl r) q2⟩
theorem pe_mt0 {pl : Sem Bool} {K : PySem.W.Frag} (hK : X.K = K) (tk : Takes X W) (he : PE X o ta) (F : Mt X.prog X.w K X.mg X.base k C m ps sp) (hr : Room k X.A)
    (ht : eval (.Call (.Attribute o m apos) [] [] pos) X.env = (do
      let z ← eval o X.env
      standAt apos.atName
      let (g, one) ← holding [z] (getMethod z m pl)
      callWith pos g one (backTo pos (starEach [] X.env)) (backToKw pos (keywordEach [] X.env))) := by rfl) :
    PE X (.Call (.Attribute o m apos) [] [] pos) (gMeth (ga K C) m sp W ta tNil) := by
  subst hK
  refine ⟨fun pins s σ H Q I h => ?_⟩
  refine PySem.W.methodCall_KW (pl := pl) (thn (he.run pins s σ H _ I h) fun u s1 hh => ?_) ht
  obtain ⟨y, H1, I1, ry, ⟨a, dx, fs, ey, ea, l⟩, q⟩ := hh
  subst ey
  obtain rfl : u = Value.ref a := ry
  refine getmeth_ok I1 ea F.cl F.me l ?_
  exact PySem.W.callWith_K0 (first := [.ref a]) I1.kIn F.me.kp (run_fnS (us := [.ref a]) (vs := [.ref a]) (E := WE W) F.ok hr F.bd.to (passAt tk σ) I1 (.cons rfl .nil) q)
theorem pe_mk {K : PySem.W.Frag} (hK : X.K = K) (tk : Takes X W) (F : Mi X.prog X.w K X.mg X.base k C ps sp) (hr : Room (k + 1) X.A) (hg : Gl X C) (ha : PA X (e :: es) t) (hdb : (C == ("__debug__" : Str)) = false := by decide)
    (he : starEach (e :: es) X.env = (false, eval e X.env) :: starEach es X.env := by rfl) (hpl : (backTo pos (starEach es X.env)).any (·.1) = false := by rfl) : PE X (.Call (.Name C p) (e :: es) [] pos) (tMakeW (ga K C) sp W t) := by
  subst hK
  exact pe_makeW tk F.mkr F.ok hr hg F.at_ F.bd.to ha hdb he hpl
theorem pe_mk0 {K : PySem.W.Frag} (hK : X.K = K) (tk : Takes X W) (F : Mi X.prog X.w K X.mg X.base k C ps sp) (hr : Room (k + 1) X.A) (hg : Gl X C) (hdb : (C == ("__debug__" : Str)) = false := by decide) : PE X (.Call (.Name C p) [] [] pos) (tMakeW (ga K C) sp W tNil) := by
  subst hK
  exact pe_makeW0 tk F.mkr F.ok hr hg F.at_ F.bd.to hdb
/-- least, greatest of two -/
def gMin : List V → Hp → VK → Prop
  | [.int i, .int j], H, Q => Q (.int (min i j)) H
  | _, _, _ => False
def gMax : List V → Hp → VK → Prop
  | [.int i, .int j], H, Q => Q (.int (max i j)) H
  | _, _, _ => False
theorem call_gMin (hc : X.calm = true) : CallR X (.builtin "min") gMin := by
  intro pins s σ H xs us Q I r h
  unfold gMin at h
  split at h
  · rename_i i j
    refine call_min2 hc pins s σ _ _ us Q I r ⟨i, j, rfl, ?_⟩
    have e : (if j < i then j else i) = min i j := by split <;> omega
    rw [e]
    exact h
  · exact h.elim
theorem call_gMax (hc : X.calm = true) : CallR X (.builtin "max") gMax := by
  intro pins s σ H xs us Q I r h
  unfold gMax at h
  split at h
  · rename_i i j
    refine call_max2 hc pins s σ _ _ us Q I r ⟨i, j, rfl, ?_⟩
    have e : (if j > i then j else i) = max i j := by split <;> omega
    rw [e]
    exact h
  · exact h.elim
end
section
variable {σ : L2.St} {H : Hp} {Q : VK} {D : Ends} {C : Addr} {f m : Str} {ta tv : TE} {as : TA} {sp : Sp} {W : WX} {a b : Int} {y x i : V} {S : TSet}
theorem x_fld : gFld C ta f σ H Q = ta σ H fun x H1 => ∃ v, FldIs C f x H1 v ∧ Q v H1 := rfl
theorem x_setF : gSetF C ta tv f D σ H = tv σ H fun y H1 => ta σ H1 fun x H2 => ∃ a dx fs, x = .ref a ∧ H2 a = some (.ins C dx fs) ∧ fs.length < 1000 ∧ D.nx σ (upd H2 a (.ins C dx (putF f y fs))) := rfl
theorem x_meth : gMeth C m sp W ta as σ H Q = ta σ H fun x H1 => Recv C m x H1 ∧ as σ H1 fun vs H2 => sp (x :: vs) H2 Q fun c d H3 => W c d σ H3 := rfl
theorem x_make : tMakeW C sp W as σ H Q = as σ H fun vs H1 => ∀ x dx, H1 x = none → H1 dx = none → dx ≠ x → sp (.ref x :: vs) (upd (upd H1 dx (.own x)) x (.ins C dx [])) (fun v H2 => v = .non ∧ Q (.ref x) H2) fun c d H3 => W c d σ H3 := rfl
theorem x_sub {to ti : TE} {N : L2.St → Hp → Prop} : gSub to ti S y σ H N = to σ H fun o H1 => ti σ H1 fun i H2 => S o i y H2 fun H3 => N σ H3 := rfl
theorem r_min : gMin [.int a, .int b] H Q = Q (.int (min a b)) H := rfl
theorem r_max : gMax [.int a, .int b] H Q = Q (.int (max a b)) H := rfl
/-- a store to a list at i -/
theorem r_setL {p : Addr} {xs : List V} {k : Int} {N : Hp → Prop} (h : H p = some (.lst xs)) (h0 : 0 ≤ k) (h1 : k < xs.length) (q : N (upd H p (.lst (xs.set k.toNat y)))) : rSetL (.ref p) (.int k) y H N :=
  ⟨p, xs, k, k.toNat, rfl, rfl, h, by unfold ixN; rw [if_pos h0, if_pos h1], q⟩
end
end G
namespace G
open PySem PySem.Spec PyProof.Rows L2
/-! ## comprehensions whose parts leave the heap as it is -/
section
variable {σ : L2.St} {vs : List Nat} {H1 : Hp} {D : Addr} {Qd : Hp → Prop} {te : TE} {tt : TT} {k : Nat} {f : Nat → V} {K : PySem.W.Frag} {a : Addr} {xs : List V}
theorem tYes_on {σ2 : L2.St} {H : Hp} {A B : Hp → Prop} (h : A H) : tYes σ2 H fun b H3 => if b = true then A H3 else B H3 := by
  show (if true = true then A H else B H)
  rw [if_pos (rfl : true = true)]
  exact h
/-- [e for x in range(..)] -/
theorem lc_mapR {lo : Int} {n : Nat} (f : Nat → V) (hw : ∀ v, wipe ((wipe σ vs).set k (some v)) vs = wipe σ vs) (hn : n ≤ sizeLine)
    (he : ∀ i, i < n → ∀ acc (Q : VK), Q (f i) (upd H1 D (.lst acc)) → te ((wipe σ vs).set k (some (.int (lo + i)))) (upd H1 D (.lst acc)) Q) (hd : Qd (upd H1 D (.lst ((List.range n).map f)))) :
    ∃ W : Nat → Nat → Hp → Prop, (∃ m, W 0 m (upd H1 D (.lst []))) ∧ ∀ i m H, W i m H →
      ((Itr lo n).stop i H ∧ Qd H) ∨ ((Itr lo n).go i H ∧ ∃ Nx : Hp → Prop, (∀ H', Nx H' → ∃ m', m' < m ∧ W (i + 1) m' H') ∧ ∀ x H', (Itr lo n).yld i H x H' → gName k x (wipe σ vs) H' fun σ2 H2 => wipe σ2 vs = wipe σ vs ∧ tYes σ2 H2 fun b H3 =>
        if b = true then te σ2 H3 fun y H4 => ∃ acc, H4 D = some (.lst acc) ∧ acc.length < sizeLine ∧ Nx (upd H4 D (.lst (acc ++ [y]))) else Nx H3) := by
  refine lc_range (Qd := Qd) (fun i H => H = upd H1 D (.lst ((List.range i).map f))) rfl ?_ fun H e => by rw [e]; exact hd
  rintro i H hi rfl
  refine ⟨hw _, tYes_on (he i hi _ _ ⟨_, upd_same, by rw [List.length_map, List.length_range]; omega, ?_⟩)⟩
  rw [upd_upd, List.range_succ, List.map_append]
  rfl
/-- [e for x in xs] -/
theorem lc_mapL {ys : List V} (hw : ∀ v, wipe ((wipe σ vs).set k (some v)) vs = wipe σ vs) (hl : ∀ acc, SqL K (upd H1 D (.lst acc)) a xs) (hn : xs.length ≤ sizeLine) (hy : ys.length = xs.length)
    (he : ∀ (i : Nat) (x y : V), xs[i]? = some x → ys[i]? = some y → ∀ acc (Q : VK), Q y (upd H1 D (.lst acc)) → te ((wipe σ vs).set k (some x)) (upd H1 D (.lst acc)) Q) (hd : Qd (upd H1 D (.lst ys))) :
    ∃ W : Nat → Nat → Hp → Prop, (∃ m, W 0 m (upd H1 D (.lst []))) ∧ ∀ i m H, W i m H →
      ((Itl K a).stop i H ∧ Qd H) ∨ ((Itl K a).go i H ∧ ∃ Nx : Hp → Prop, (∀ H', Nx H' → ∃ m', m' < m ∧ W (i + 1) m' H') ∧ ∀ x H', (Itl K a).yld i H x H' → gName k x (wipe σ vs) H' fun σ2 H2 => wipe σ2 vs = wipe σ vs ∧ tYes σ2 H2 fun b H3 =>
        if b = true then te σ2 H3 fun y H4 => ∃ acc, H4 D = some (.lst acc) ∧ acc.length < sizeLine ∧ Nx (upd H4 D (.lst (acc ++ [y]))) else Nx H3) := by
  refine lc_list (Qd := Qd) (xs := xs) (fun i H => H = upd H1 D (.lst (ys.take i))) (by rfl) (fun i H _ e => by rw [e]; exact hl _) ?_ fun H e => by
    rw [e, ← hy, List.take_length]
    exact hd
  rintro i x H hi rfl
  have hlt : i < ys.length := by rw [hy]; exact (List.getElem?_eq_some_iff.mp hi).1
  refine ⟨hw _, tYes_on (he i x ys[i] hi (List.getElem?_eq_getElem hlt) _ _ ⟨_, upd_same, by rw [List.length_take]; omega, ?_⟩)⟩
  rw [upd_upd, List.take_succ_eq_append_getElem hlt]
/-- [e for x in xs if t], ys the kept ones, by the places of what is kept -/
theorem lc_iffL {g : V → Option V} (hw : ∀ v, wipe ((wipe σ vs).set k (some v)) vs = wipe σ vs) (hl : ∀ acc, SqL K (upd H1 D (.lst acc)) a xs) (hn : xs.length ≤ sizeLine)
    (he : ∀ (i : Nat) (x : V), xs[i]? = some x → ∀ acc (N : Bool → Hp → Prop), ((g x).isSome = true → N true (upd H1 D (.lst acc))) → ((g x).isSome = false → N false (upd H1 D (.lst acc))) → tt ((wipe σ vs).set k (some x)) (upd H1 D (.lst acc)) N)
    (hy : ∀ (i : Nat) (x y : V), xs[i]? = some x → g x = some y → ∀ acc (Q : VK), Q y (upd H1 D (.lst acc)) → te ((wipe σ vs).set k (some x)) (upd H1 D (.lst acc)) Q) (hd : Qd (upd H1 D (.lst (xs.filterMap g)))) :
    ∃ W : Nat → Nat → Hp → Prop, (∃ m, W 0 m (upd H1 D (.lst []))) ∧ ∀ i m H, W i m H →
      ((Itl K a).stop i H ∧ Qd H) ∨ ((Itl K a).go i H ∧ ∃ Nx : Hp → Prop, (∀ H', Nx H' → ∃ m', m' < m ∧ W (i + 1) m' H') ∧ ∀ x H', (Itl K a).yld i H x H' → gName k x (wipe σ vs) H' fun σ2 H2 => wipe σ2 vs = wipe σ vs ∧ tt σ2 H2 fun b H3 =>
        if b = true then te σ2 H3 fun y H4 => ∃ acc, H4 D = some (.lst acc) ∧ acc.length < sizeLine ∧ Nx (upd H4 D (.lst (acc ++ [y]))) else Nx H3) := by
  refine lc_list (Qd := Qd) (xs := xs) (fun i H => H = upd H1 D (.lst ((xs.take i).filterMap g))) (by rfl) (fun i H _ e => by rw [e]; exact hl _) ?_ fun H e => by
    rw [e, List.take_length]
    exact hd
  rintro i x H hi rfl
  have hlt : i < xs.length := (List.getElem?_eq_some_iff.mp hi).1
  have ex : xs[i] = x := by rw [List.getElem?_eq_getElem hlt] at hi; exact Option.some.inj hi
  have small : ((xs.take i).filterMap g).length < sizeLine := Nat.lt_of_le_of_lt (List.length_filterMap_le _ _) (by rw [List.length_take]; omega)
  refine ⟨hw _, he i x hi _ _ (fun c => ?_) fun c => ?_⟩
  · obtain ⟨y, ey⟩ := Option.isSome_iff_exists.mp c
    rw [if_pos (rfl : true = true)]
    refine hy i x y hi ey _ _ ⟨_, upd_same, small, ?_⟩
    rw [upd_upd, List.take_succ_eq_append_getElem hlt, List.filterMap_append, ex]
    simp only [List.filterMap_cons, ey, List.filterMap_nil]
  · rw [if_neg Bool.false_ne_true, List.take_succ_eq_append_getElem hlt, List.filterMap_append, ex]
    have e0 : g x = none := by cases e : g x with
      | none => rfl
      | some y => rw [e] at c; cases c
    simp only [List.filterMap_cons, e0, List.filterMap_nil, List.append_nil]
end
/-- a statement, then the rest, by what holds between them -/
def tCut (t u : TS) : TS := fun D σ H => ∃ M : L2.St → Hp → Prop, t { D with nx := M } σ H ∧ ∀ σ' H', M σ' H' → u D σ' H'
theorem pss_cut {X : Cx} {st : Stmt} {rest : List Stmt} {t u : TS} (h1 : PS X st t) (h2 : PSs X rest u) : PSs X (st :: rest) (tCut t u) := by
  refine ⟨fun pins s σ H D I h => ?_⟩
  obtain ⟨M, a, b⟩ := h
  refine wpAny_execs_cons (thn (h1.run pins s σ H { D with nx := M } I a) fun f s1 q => ?_)
  cases f with
  | next => exact q.elim fun σ1 z => z.elim fun H1 y => h2.run pins s1 σ1 H1 D y.1 (b σ1 H1 y.2)
  | ret v => exact q
  | brk => exact q
  | cont => exact q
/-- what is wanted of a loop over J; of a comprehension -/
def ForW (J : It) (g : TG) (tb : TS) (D : Ends) (σ : L2.St) (H : Hp) : Prop := ∃ W : Nat → Nat → L2.St → Hp → Prop, (∃ m, W 0 m σ H) ∧ ∀ i m σ H, W i m σ H →
  (J.stop i H ∧ D.nx σ H) ∨ (J.go i H ∧ ∃ N : L2.St → Hp → Prop, (∀ σ' H', N σ' H' → ∃ m', m' < m ∧ W (i + 1) m' σ' H') ∧ ∀ x H', J.yld i H x H' → g x σ H' fun σ2 H2 => tb { D with nx := N, ct := N, bk := D.nx } σ2 H2)
def LcW (J : It) (g : TG) (tt : TT) (te : TE) (vs : List Nat) (σ : L2.St) (H1 : Hp) (Q : VK) : Prop := ∀ D, H1 D = none → ∃ W : Nat → Nat → Hp → Prop, (∃ m, W 0 m (upd H1 D (.lst []))) ∧ ∀ i m H, W i m H →
  (J.stop i H ∧ Q (.ref D) H) ∨ (J.go i H ∧ ∃ Nx : Hp → Prop, (∀ H', Nx H' → ∃ m', m' < m ∧ W (i + 1) m' H') ∧ ∀ x H', J.yld i H x H' → g x (wipe σ vs) H' fun σ2 H2 => wipe σ2 vs = wipe σ vs ∧ tt σ2 H2 fun b H3 =>
    if b = true then te σ2 H3 fun y H4 => ∃ acc, H4 D = some (.lst acc) ∧ acc.length < sizeLine ∧ Nx (upd H4 D (.lst (acc ++ [y]))) else Nx H3)
section
variable {σ : L2.St} {H : Hp} {Q : VK} {D : Ends} {wi : TI} {g : TG} {tb : TS} {tt : TT} {te : TE} {ta : TA} {vs : List Nat} {R : It → Hp → Prop} {K : PySem.W.Frag} {a b : Addr} {n m : Int}
theorem x_for : tFor wi g tb D σ H = wi σ H fun J H1 => ForW J g tb D σ H1 := rfl
theorem x_lc : tLc wi g tt te vs σ H Q = wi σ H fun J H1 => LcW J g tt te vs σ H1 Q := rfl
theorem x_rng1 : iRng1 ta σ H R = ta σ H fun vs H1 => ∃ j : Int, vs = [.int j] ∧ -(2 ^ 62) ≤ j ∧ j < 2 ^ 62 ∧ R (Itr 0 j.toNat) H1 := rfl
theorem x_rng2 : iRng2 ta σ H R = ta σ H fun vs H1 => ∃ i j : Int, vs = [.int i, .int j] ∧ (-(2 ^ 62) ≤ i ∧ i < 2 ^ 62 ∧ -(2 ^ 62) ≤ j ∧ j < 2 ^ 62) ∧ R (Itr i (j - i).toNat) H1 := rfl
theorem x_lst1 {tl : TE} : iList K tl σ H R = tl σ H fun x H1 => ∃ a, x = .ref a ∧ (∃ xs, SqL K H1 a xs) ∧ R (Itl K a) H1 := rfl
theorem x_one {P : Int → Prop} : (∃ j : Int, [V.int n] = [V.int j] ∧ P j) = P n := propext ⟨fun ⟨_, e, q⟩ => by cases e; exact q, fun q => ⟨n, rfl, q⟩⟩
theorem x_two {P : Int → Int → Prop} : (∃ i j : Int, [V.int n, V.int m] = [V.int i, V.int j] ∧ P i j) = P n m := propext ⟨fun ⟨_, _, e, q⟩ => by cases e; exact q, fun q => ⟨n, m, rfl, q⟩⟩
theorem x_adr {P : Addr → Prop} : (∃ b, V.ref a = V.ref b ∧ P b) = P a := propext ⟨fun ⟨_, e, q⟩ => by cases e; exact q, fun q => ⟨a, rfl, q⟩⟩
theorem x_sl {r : V → Option Int → Option Int → Hp → VK → Prop} {tl th : TO} : tSl r te tl th σ H Q = te σ H fun x H1 => tl σ H1 fun l H2 => th σ H2 fun u H3 => r x l u H3 Q := rfl
theorem x_np {QO : Option Int → Hp → Prop} : tNoPart σ H QO = QO none H := rfl
theorem x_pt {QO : Option Int → Hp → Prop} : tPart te σ H QO = te σ H fun x H1 => ∃ i, x = .int i ∧ QO (some i) H1 := rfl
theorem x_int {P : Int → Prop} : (∃ j : Int, V.int n = V.int j ∧ P j) = P n := propext ⟨fun ⟨_, e, q⟩ => by cases e; exact q, fun q => ⟨n, rfl, q⟩⟩
theorem x_bm {T : String} {r : V → List V → Hp → VK → Prop} : tBM K T r te ta σ H Q = te σ H fun x H1 => tyV K T x H1 ∧ ta σ H1 fun xs H2 => r x xs H2 Q := rfl
theorem x_bm0 {T : String} {r : V → List V → Hp → VK → Prop} : tBM0 K T r te σ H Q = te σ H fun x H1 => tyV K T x H1 ∧ r x [] H1 Q := rfl
theorem x_tupg {ts : TGs} {n : Nat} {v : V} {N : L2.St → Hp → Prop} : gTup K n ts v σ H N = ∃ a xs, v = .ref a ∧ SqT K H a xs ∧ xs.length = n ∧ ts xs σ H N := rfl
theorem x_consg {t : TG} {u : TGs} {v : V} {r : List V} {N : L2.St → Hp → Prop} : gCons t u (v :: r) σ H N = t v σ H fun σ' H' => u r σ' H' N := propext ⟨fun ⟨_, _, e, q⟩ => by cases e; exact q, fun q => ⟨v, r, rfl, q⟩⟩
theorem x_nilg {N : L2.St → Hp → Prop} : gNil [] σ H N = N σ H := propext ⟨fun z => z.2, fun z => ⟨rfl, z⟩⟩
theorem x_cut {t u : TS} : tCut t u D σ H = ∃ M : L2.St → Hp → Prop, t { D with nx := M } σ H ∧ ∀ σ' H', M σ' H' → u D σ' H' := rfl
theorem x_dget2 {td ty tx : TE} : tDGet2 td ty tx σ H Q = td σ H fun x H1 => ∃ a, x = .ref a ∧ IsD H1 a ∧ ty σ H1 fun y H2 => tx σ H2 fun z H3 => ∃ o, DGet H3 a y o ∧ Q (o.getD z) H3 := rfl
theorem x_dget1 {td ty : TE} : tDGet1 td ty σ H Q = td σ H fun x H1 => ∃ a, x = .ref a ∧ IsD H1 a ∧ ty σ H1 fun y H2 => ∃ o, DGet H2 a y o ∧ Q (o.getD .non) H2 := rfl
theorem x_dget {td ty : TE} : tDGet td ty σ H Q = td σ H fun x H1 => ty σ H1 fun y H2 => ∃ a v, x = .ref a ∧ DGet H2 a y (some v) ∧ Q v H2 := rfl
theorem x_din {td ty : TE} : tDIn ty td σ H Q = ty σ H fun y H1 => td σ H1 fun x H2 => ∃ a o, x = .ref a ∧ DGet H2 a y o ∧ Q (.bl o.isSome) H2 := rfl
theorem x_dni {td ty : TE} : tDNotIn ty td σ H Q = ty σ H fun y H1 => td σ H1 fun x H2 => ∃ a o, x = .ref a ∧ DGet H2 a y o ∧ Q (.bl (!o.isSome)) H2 := rfl
theorem x_dput {td ty tv : TE} : sDPut td ty tv D σ H = tv σ H fun v H1 => td σ H1 fun x H2 => ty σ H2 fun y H3 => ∃ a H4, x = .ref a ∧ DPut H3 a y v H4 ∧ D.nx σ H4 := rfl
theorem isD_k {kvs : List (Key × V)} (h : H a = some (.dK kvs)) : IsD H a := .inl ⟨kvs, .inl h⟩
theorem dget_i {kvs : List (Key × V)} {i : Int} (h : H a = some (.dK kvs)) : DGet H a (.int i) (valV kvs (.inl i : Key)) := DGet.k (k := .inl i) h
theorem dput_i {kvs : List (Key × V)} {i : Int} {v : V} (h : H a = some (.dK kvs)) (hl : kvs.length < sizeLine) : DPut H a (.int i) v (upd H a (.dK (putK kvs (.inl i : Key) v))) := DPut.k (k := .inl i) h hl
theorem forW_range {lo : Int} {n : Nat} (Pv : Nat → L2.St → Hp → Prop) (h0 : Pv 0 σ H) (hs : ∀ i σ H, i < n → Pv i σ H → g (.int (lo + i)) σ H fun σ2 H2 => tb { D with nx := Pv (i + 1), ct := Pv (i + 1), bk := D.nx } σ2 H2) (hd : ∀ σ H, Pv n σ H → D.nx σ H) : ForW (Itr lo n) g tb D σ H := for_range Pv h0 hs hd
theorem forW_list {xs : List V} (Pv : Nat → L2.St → Hp → Prop) (h0 : Pv 0 σ H) (hl : ∀ i σ H, i ≤ xs.length → Pv i σ H → SqL K H a xs) (hs : ∀ i x σ H, xs[i]? = some x → Pv i σ H → g x σ H fun σ2 H2 => tb { D with nx := Pv (i + 1), ct := Pv (i + 1), bk := D.nx } σ2 H2)
    (hd : ∀ σ H, Pv xs.length σ H → D.nx σ H) : ForW (Itl K a) g tb D σ H := for_list (xs := xs) Pv h0 hl hs hd
end
theorem x_yes {σ : L2.St} {H : Hp} {Q : Bool → Hp → Prop} : tYes σ H Q = Q true H := rfl
end G
namespace G
open PySem PySem.Spec PySem.Calls PyProof.Rows L2
/-! ### more shapes of loops, of targets -/
section
variable {σ : L2.St} {H : Hp} {Q : VK} {D : Ends} {g : TG} {tb : TS} {tl : TE} {ta : TA} {R : It → Hp → Prop} {K : PySem.W.Frag} {a : Addr}
theorem x_itup : iTup K tl σ H R = tl σ H fun x H1 => ∃ a, x = .ref a ∧ (∃ xs, SqT K H1 a xs) ∧ R (Itt K a) H1 := rfl
theorem x_rng3 : iRng3 ta σ H R = ta σ H fun vs H1 => ∃ (i j c : Int) (n : Nat), vs = [.int i, .int j, .int c] ∧ RgC i j c n ∧ R (Itc i c n) H1 := rfl
theorem x_three {x y z : Int} {P : Int → Int → Int → Nat → Prop} : (∃ (i j c : Int) (n : Nat), [V.int x, V.int y, V.int z] = [.int i, .int j, .int c] ∧ P i j c n) = ∃ n, P x y z n :=
  propext ⟨fun ⟨_, _, _, n, e, q⟩ => by cases e; exact ⟨n, q⟩, fun ⟨n, q⟩ => ⟨x, y, z, n, rfl, q⟩⟩
theorem x_lstg {ts : TGs} {n : Nat} {v : V} {N : L2.St → Hp → Prop} : gLst K n ts v σ H N = ∃ a xs, v = .ref a ∧ SqL K H a xs ∧ xs.length = n ∧ ts xs σ H N := rfl
theorem x_adrS {β : Type} {P : Addr → β → Prop} : (∃ b xs, V.ref a = V.ref b ∧ P b xs) = ∃ xs, P a xs := propext ⟨fun ⟨_, xs, e, q⟩ => by cases e; exact ⟨xs, q⟩, fun ⟨xs, q⟩ => ⟨a, xs, rfl, q⟩⟩
theorem forW_tup {xs : List V} (Pv : Nat → L2.St → Hp → Prop) (h0 : Pv 0 σ H) (hl : ∀ i σ H, i ≤ xs.length → Pv i σ H → SqT K H a xs) (hs : ∀ i x σ H, xs[i]? = some x → Pv i σ H → g x σ H fun σ2 H2 => tb { D with nx := Pv (i + 1), ct := Pv (i + 1), bk := D.nx } σ2 H2)
    (hd : ∀ σ H, Pv xs.length σ H → D.nx σ H) : ForW (Itt K a) g tb D σ H := for_tup (xs := xs) Pv h0 hl hs hd
theorem forW_step {lo c : Int} {n : Nat} (Pv : Nat → L2.St → Hp → Prop) (h0 : Pv 0 σ H) (hs : ∀ i σ H, i < n → Pv i σ H → g (.int (lo + (i : Nat) * c)) σ H fun σ2 H2 => tb { D with nx := Pv (i + 1), ct := Pv (i + 1), bk := D.nx } σ2 H2)
    (hd : ∀ σ H, Pv n σ H → D.nx σ H) : ForW (Itc lo c n) g tb D σ H := for_rangeC Pv h0 hs hd
end
end G
namespace G
open PySem PySem.Spec PySem.Calls PyProof.Rows L2 He
/-! ### is True, in, sorted, all -/
section
variable {X : Cx} {K : PySem.W.Frag}
def gIsB : R2 := fun x y H Q => ∃ b, y = .bl b ∧ Q (.bl (decide (x = .bl b))) H
def gNotB : R2 := fun x y H Q => ∃ b, y = .bl b ∧ Q (.bl (!decide (x = .bl b))) H
theorem relV_bl {x : V} {b : Bool} (r : RelV x (.bool b)) : x = .bl b := by
  cases x with
  | bl c => cases r; rfl
  | int i => obtain ⟨t, e⟩ := r; cases e
  | str i => obtain ⟨t, e⟩ := r; cases e
  | byt i => obtain ⟨t, e⟩ := r; cases e
  | flt i => obtain ⟨t, e⟩ := r; cases e
  | non => cases r
  | ref a => cases r
  | ty n => cases r
theorem relV_plain {x : V} {v : Value} {b : Bool} (r : RelV x v) : plainIs v (.bool b) = true := by
  cases x with
  | bl c => cases r; rfl
  | int i => obtain ⟨t, e⟩ := r; subst e; rfl
  | str i => obtain ⟨t, e⟩ := r; subst e; rfl
  | byt i => obtain ⟨t, e⟩ := r; subst e; rfl
  | flt i => obtain ⟨t, e⟩ := r; subst e; rfl
  | non => cases r; rfl
  | ref a => cases r; rfl
  | ty n => cases r; rfl
theorem op_gIsB : OpR X (compareOp .Is) gIsB := by
  intro pins s σ H x y v u Q I rx ry h
  obtain ⟨b, rfl, q⟩ := h
  cases (show u = Value.bool b from ry)
  by_cases e : v = .bool b
  · subst e
    have ex := relV_bl rx
    exact wpAny_is_self rfl ⟨.bl true, H, I, rfl, by rw [decide_eq_true ex] at q; exact q⟩
  · have ex : ¬ x = .bl b := fun z => e (by subst z; exact rx)
    exact wpAny_is_other (relV_plain rx) e ⟨.bl false, H, I, rfl, by rw [decide_eq_false ex] at q; exact q⟩
theorem op_gNotB : OpR X (compareOp .IsNot) gNotB := by
  intro pins s σ H x y v u Q I rx ry h
  obtain ⟨b, rfl, q⟩ := h
  cases (show u = Value.bool b from ry)
  by_cases e : v = .bool b
  · subst e
    have ex := relV_bl rx
    exact wpAny_isNot_self rfl ⟨.bl false, H, I, rfl, by rw [decide_eq_true ex] at q; exact q⟩
  · have ex : ¬ x = .bl b := fun z => e (by subst z; exact rx)
    exact wpAny_isNot_other (relV_plain rx) e ⟨.bl true, H, I, rfl, by rw [decide_eq_false ex] at q; exact q⟩
theorem op_inK (hK : X.K = K) : OpR X (compareOp .In) (rIn K false) := hK ▸ op_in_seq
theorem op_ninK (hK : X.K = K) : OpR X (compareOp .NotIn) (rIn K true) := hK ▸ op_notIn_seq
theorem call_sortedK (hK : X.K = K) : CallR X (.builtin "sorted") (rSortedI K) := hK ▸ cr_sortedI
theorem call_allK (hK : X.K = K) (hc : X.calm = true) : CallR X (.builtin "all") (rAll K) := hK ▸ cr_all hc
theorem call_anyK (hK : X.K = K) (hc : X.calm = true) : CallR X (.builtin "any") (rAny K) := hK ▸ cr_any hc
end
section
variable {σ : L2.St} {H : Hp} {Q : VK} {x : V} {b : Bool}
theorem r_isB : gIsB x (.bl b) H Q = Q (.bl (decide (x = .bl b))) H := propext ⟨fun ⟨_, e, q⟩ => by cases e; exact q, fun q => ⟨b, rfl, q⟩⟩
theorem r_notB : gNotB x (.bl b) H Q = Q (.bl (!decide (x = .bl b))) H := propext ⟨fun ⟨_, e, q⟩ => by cases e; exact q, fun q => ⟨b, rfl, q⟩⟩
theorem x_dpop2 {td ty tx : TE} : tDPop2 td ty tx σ H Q = td σ H fun x H1 => ∃ a, x = .ref a ∧ IsD H1 a ∧ ty σ H1 fun y H2 => tx σ H2 fun z H3 => ∃ kvs k, H3 a = some (.dK kvs) ∧ y = kV k ∧
  (∀ v, valV kvs k = some v → Q v (upd H3 a (.dK (dropK kvs k)))) ∧ (valV kvs k = none → Q z H3) := rfl
theorem r_isi {v : V} {T t : String} (e : tyOf v H = some t) (q : Q (.bl (isB t T)) H) (hT : T ∈ (["int", "bool", "str", "list", "tuple", "dict"] : List String) := by decide) : gIsi [v, .ty T] H Q := ⟨hT, t, e, q⟩
theorem r_isiL {a : Addr} {xs : List V} (h : H a = some (.lst xs)) (q : Q (.bl true) H) : gIsi [.ref a, .ty "list"] H Q := r_isi (t := "list") (by show tyO (H a) = _; rw [h]; rfl) q
theorem r_isiT {a : Addr} {xs : List V} (h : H a = some (.tup xs)) (q : Q (.bl true) H) : gIsi [.ref a, .ty "tuple"] H Q := r_isi (t := "tuple") (by show tyO (H a) = _; rw [h]; rfl) q
theorem r_isiII {n : Int} : gIsi [.int n, .ty "int"] H Q = Q (.bl true) H := propext ⟨fun ⟨_, t, e, q⟩ => by cases e; exact q, fun q => ⟨by decide, _, rfl, q⟩⟩
theorem r_isiBB : gIsi [.bl b, .ty "bool"] H Q = Q (.bl true) H := propext ⟨fun ⟨_, t, e, q⟩ => by cases e; exact q, fun q => ⟨by decide, _, rfl, q⟩⟩
theorem r_isiIB {n : Int} : gIsi [.int n, .ty "bool"] H Q = Q (.bl false) H := propext ⟨fun ⟨_, t, e, q⟩ => by cases e; exact q, fun q => ⟨by decide, _, rfl, q⟩⟩
theorem r_isiSS {z : Str} : gIsi [.str z, .ty "str"] H Q = Q (.bl true) H := propext ⟨fun ⟨_, t, e, q⟩ => by cases e; exact q, fun q => ⟨by decide, _, rfl, q⟩⟩
theorem r_neNS {K : PySem.W.Frag} {z : Str} : gNe K .non (.str z) H Q = Q (.bl true) H := rfl
theorem r_neSN {K : PySem.W.Frag} {z : Str} : gNe K (.str z) .non H Q = Q (.bl true) H := rfl
theorem r_neNN {K : PySem.W.Frag} : gNe K .non .non H Q = Q (.bl false) H := rfl
theorem r_eqNS {K : PySem.W.Frag} {z : Str} : gEq K .non (.str z) H Q = Q (.bl false) H := rfl
theorem r_eqSN {K : PySem.W.Frag} {z : Str} : gEq K (.str z) .non H Q = Q (.bl false) H := rfl
theorem r_eqNN {K : PySem.W.Frag} : gEq K .non .non H Q = Q (.bl true) H := rfl
theorem r_eqIS {K : PySem.W.Frag} {n : Int} {z : Str} : gEq K (.int n) (.str z) H Q = Q (.bl false) H := rfl
theorem r_neIS {K : PySem.W.Frag} {n : Int} {z : Str} : gNe K (.int n) (.str z) H Q = Q (.bl true) H := rfl
theorem r_neSI {K : PySem.W.Frag} {n : Int} {z : Str} : gNe K (.str z) (.int n) H Q = Q (.bl true) H := rfl
theorem r_neBS {K : PySem.W.Frag} {z : Str} : gNe K (.bl b) (.str z) H Q = Q (.bl true) H := rfl
theorem r_eqBB {K : PySem.W.Frag} {c : Bool} : gEq K (.bl b) (.bl c) H Q = Q (.bl (b == c)) H := rfl
theorem r_neBB {K : PySem.W.Frag} {c : Bool} : gNe K (.bl b) (.bl c) H Q = Q (.bl (!(b == c))) H := rfl
theorem r_ixL {K : PySem.W.Frag} {a : Addr} {xs : List V} {i : Nat} {v : V} (h : H a = some (.lst xs)) (e : xs[i]? = some v) (q : Q v H) : rIx K (.ref a) (.int (i : Int)) H Q := .inl ⟨_, _, _, _, rfl, rfl, .of h, by
  have hl := (List.getElem?_eq_some_iff.mp e).1
  unfold atI ixN
  rw [if_pos (by omega), if_pos (by omega), Int.toNat_natCast]
  exact e, q⟩
end
/-! ### isinstance(e, (C, D, ..)) of a caught error -/
def tIsQ (K : PySem.W.Frag) (x : V) (cs : List V) (H : Hp) (Q : VK) : Prop := cs.length ≤ sizeLine ∧ ∃ a D us b, x = .ref a ∧ H a = some (ExA (.ref D) a) ∧ ExcC K D ∧ Paired ClsV cs us ∧ PySem.W.kitAny K (.ref D) us = some b ∧ Q (.bl b) H
theorem x_isT {K : PySem.W.Frag} {σ : L2.St} {H : Hp} {Q : VK} {ta : TE} {tc : TA} : tIsT K ta tc σ H Q = ta σ H fun x H1 => tc σ H1 fun cs H2 => tIsQ K x cs H2 Q := rfl
inductive NamesK (K : PySem.W.Frag) : List V → List Str → Prop where
  | nil : NamesK K [] []
  | cons (c : Str) {cs : List V} {ns : List Str} (t : NamesK K cs ns) : NamesK K (.ref (ga K c) :: cs) (c :: ns)
theorem NamesK.len {K : PySem.W.Frag} {cs : List V} {ns : List Str} (h : NamesK K cs ns) : cs.length = ns.length := by
  induction h with
  | nil => rfl
  | cons c t ih => exact congrArg (· + 1) ih
theorem NamesK.pair {K : PySem.W.Frag} {cs : List V} {ns : List Str} (h : NamesK K cs ns) : Paired ClsV cs (ns.map fun c => Value.ref (ga K c)) := by
  induction h with
  | nil => exact .nil
  | cons c t ih => exact .cons (.own _) ih
theorem Told.anyOf {fa : List Fa} {fn : List DefD} {xl : XL} {K : PySem.W.Frag} {mg : Str → Option Value} (T : Told fa fn xl K mg) {d : Str} (hd : d ∈ xl.ex) : ∀ ns : List Str, (∀ c ∈ ns, c ∈ xl.ex) → PySem.W.kitAny K (.ref (ga K d)) (ns.map fun c => Value.ref (ga K c)) = some (ns.any (under d))
  | [], _ => rfl
  | c :: r, h => by
    show (match PySem.W.kitOne K (.ref (ga K d)) (.ref (ga K c)) with
      | some true => some true
      | some false => PySem.W.kitAny K (.ref (ga K d)) (r.map fun c => Value.ref (ga K c))
      | none => none) = some (under d c || r.any (under d))
    rw [((T.err hd).2.2 c (h c (List.mem_cons_self))).1]
    cases under d c with
    | true => rfl
    | false => exact T.anyOf hd r fun c hc => h c (List.mem_cons_of_mem _ hc)
theorem Told.isA {fa : List Fa} {fn : List DefD} {xl : XL} {K : PySem.W.Frag} {mg : Str → Option Value} (T : Told fa fn xl K mg) {d : Str} {a : Addr} {H : Hp} {Q : VK} {cs : List V} {ns : List Str} {b : Bool} (ha : H a = some (ExA (.ref (ga K d)) a)) (n : NamesK K cs ns)
    (hd : d ∈ xl.ex) (hc : (ns.all fun c => decide (c ∈ xl.ex)) = true) (hl : ns.length ≤ 1000) (e : ns.any (under d) = b) (q : Q (.bl b) H) : tIsQ K (.ref a) cs H Q :=
  ⟨by rw [n.len, sizeLine_eq]; omega, a, _, _, b, rfl, ha, (T.err hd).1, n.pair, (T.anyOf hd ns fun c h => of_decide_eq_true (List.all_eq_true.mp hc c h)).trans (congrArg some e), q⟩
end G
namespace G
open PySem PySem.Spec PySem.Calls PyProof.Rows L2 He
/-! ### == of data of some depth -/
def ShK (k : Nat) (d : PyData) : Prop := d.canLay0 = true ∧ d.depth ≤ k
theorem ShK.up {k n : Nat} {d : PyData} (h : ShK k d) (e : k ≤ n) : ShK n d := ⟨h.1, Nat.le_trans h.2 e⟩
theorem ShK.all {k : Nat} : ∀ {ds : List PyData}, (∀ z ∈ ds, ShK k z) → PyData.canLayAll0 ds = true ∧ PyData.depthAll ds ≤ k
  | [], _ => ⟨by simp [PyData.canLayAll0], by simp [PyData.depthAll]⟩
  | z :: zs, h => by
    have h1 := ShK.all (ds := zs) fun y hy => h y (List.mem_cons_of_mem _ hy)
    have h2 := h z (List.mem_cons_self)
    refine ⟨by simp [PyData.canLayAll0, h2.1, h1.1], ?_⟩
    have a := h2.2
    have b := h1.2
    simp only [PyData.depthAll]
    omega
theorem ShK.lst {k : Nat} {ds : List PyData} (h : ∀ z ∈ ds, ShK k z) : ShK (k + 1) (.list ds) := by
  have a := ShK.all h
  refine ⟨by simp [PyData.canLay0, a.1], ?_⟩
  have b := a.2
  simp only [PyData.depth]
  omega
theorem ShK.tup {k : Nat} {ds : List PyData} (h : ∀ z ∈ ds, ShK k z) : ShK (k + 1) (.tuple ds) := by
  have a := ShK.all h
  refine ⟨by simp [PyData.canLay0, a.1], ?_⟩
  have b := a.2
  simp only [PyData.depth]
  omega
theorem ShK.ok {k : Nat} {d : PyData} (h : ShK k d) (e : k ≤ 64) : SeqAt.shaped d = true := by
  show (d.canLay0 && decide (d.depth ≤ 64)) = true
  rw [h.1, decide_eq_true (Nat.le_trans h.2 e)]
  rfl
/-- flat things as data -/
def toD : V → PyData
  | .bl b => .bool b
  | .int i => .int i
  | _ => .none
def flatI : V → Bool
  | .non => true
  | .bl _ => true
  | .int _ => true
  | _ => false
theorem toD_sh {v : V} : ShK 0 (toD v) := by cases v <;> exact ⟨by simp [toD, PyData.canLay0], by simp [toD, PyData.depth]⟩
theorem toD_dp {K : PySem.W.Frag} {H : Hp} {v : V} (h : flatI v = true) : Dp K H v (toD v) := by
  cases v <;> first | (cases h; done) | skip
  · exact .non
  · exact .bl _
  · exact .int _
theorem toDs_dp {K : PySem.W.Frag} {H : Hp} : ∀ {xs : List V}, (∀ x ∈ xs, flatI x = true) → DpAll K H xs (xs.map toD)
  | [], _ => .nil
  | _ :: _, h => .cons (toD_dp (h _ (List.mem_cons_self))) (toDs_dp fun y hy => h y (List.mem_cons_of_mem _ hy))
theorem toDs_sh {xs : List V} : ∀ z ∈ xs.map toD, ShK 0 z := fun z h => by
  obtain ⟨v, -, e⟩ := List.mem_map.mp h
  subst e
  exact toD_sh
/-- lists of flat things; of tuples of flat things -/
theorem dp_flat {K : PySem.W.Frag} {H : Hp} {a : Addr} {xs : List V} (h : H a = some (.lst xs)) (f : ∀ x ∈ xs, flatI x = true) : Dp K H (.ref a) (.list (xs.map toD)) := .lst (.of h) (toDs_dp f)
theorem sh_flat {xs : List V} : SeqAt.shaped (.list (xs.map toD)) = true := (ShK.lst toDs_sh).ok (by decide)
inductive TupAll (H : Hp) : List V → List (List V) → Prop where
  | nil : TupAll H [] []
  | cons {tp : Addr} {xs : List V} {rs : List V} {yss : List (List V)} (h : H tp = some (.tup xs)) (f : ∀ x ∈ xs, flatI x = true) (t : TupAll H rs yss) : TupAll H (.ref tp :: rs) (xs :: yss)
def tupD (yss : List (List V)) : PyData := .list (yss.map fun xs => .tuple (xs.map toD))
theorem TupAll.dp {K : PySem.W.Frag} {H : Hp} : ∀ {rs : List V} {yss : List (List V)}, TupAll H rs yss → DpAll K H rs (yss.map fun xs => .tuple (xs.map toD))
  | _, _, .nil => .nil
  | _, _, .cons h f t => .cons (.tup (.inl (.inl h)) (toDs_dp f)) t.dp
theorem TupAll.same {H H' : Hp} {rs : List V} {yss : List (List V)} (h : TupAll H rs yss) (s : Same H H') : TupAll H' rs yss := by
  induction h with
  | nil => exact .nil
  | cons h f t ih => exact .cons (s _ _ h) f ih
theorem TupAll.snoc {H : Hp} {rs : List V} {yss : List (List V)} {tp : Addr} {xs : List V} (h : TupAll H rs yss) (e : H tp = some (.tup xs)) (f : ∀ x ∈ xs, flatI x = true) : TupAll H (rs ++ [.ref tp]) (yss ++ [xs]) := by
  induction h with
  | nil => exact .cons e f .nil
  | cons h f' t ih => exact .cons h f' ih
theorem TupAll.put {H : Hp} {rs : List V} {yss : List (List V)} {D : Addr} {o o' : HO} (h : TupAll H rs yss) (e : H D = some o) (n : ∀ xs, o ≠ .tup xs) : TupAll (upd H D o') rs yss := by
  induction h with
  | nil => exact .nil
  | cons h f t ih => exact .cons (by rw [upd_ne (ne_of h e fun z => n _ z.symm)]; exact h) f ih
theorem TupAll.len {H : Hp} {rs : List V} {yss : List (List V)} (h : TupAll H rs yss) : rs.length = yss.length := by
  induction h with
  | nil => rfl
  | cons h f t ih => exact congrArg (· + 1) ih
theorem TupAll.mem {H : Hp} {rs : List V} {yss : List (List V)} (h : TupAll H rs yss) : ∀ r ∈ rs, ∃ tp xs, r = .ref tp ∧ H tp = some (.tup xs) ∧ xs ∈ yss := by
  induction h with
  | nil => exact fun r h => (List.not_mem_nil h).elim
  | cons h f t ih =>
    intro r hr
    rcases List.mem_cons.mp hr with rfl | hr
    · exact ⟨_, _, rfl, h, List.mem_cons_self⟩
    · obtain ⟨tp, xs, e, h', m⟩ := ih r hr
      exact ⟨tp, xs, e, h', List.mem_cons_of_mem _ m⟩
theorem dp_tups {K : PySem.W.Frag} {H : Hp} {a : Addr} {rs : List V} {yss : List (List V)} (h : H a = some (.lst rs)) (t : TupAll H rs yss) : Dp K H (.ref a) (tupD yss) := .lst (.of h) t.dp
theorem sh_tups {yss : List (List V)} : SeqAt.shaped (tupD yss) = true := by
  refine (ShK.lst (k := 1) fun z h => ?_).ok (by decide)
  obtain ⟨xs, -, e⟩ := List.mem_map.mp h
  subst e
  exact ShK.tup toDs_sh
theorem shaped_refl {d : PyData} (s : SeqAt.shaped d = true) : PyData.eqv d d = true := PySem.SeqAt.eqv_refl d (SeqAt.canLay_of_shaped s)
theorem r_eqSame {K : PySem.W.Frag} {H : Hp} {Q : VK} {a b : Addr} {d : PyData} (h1 : Dp K H (.ref a) d) (h2 : Dp K H (.ref b) d) (s : SeqAt.shaped d = true) (q : Q (.bl true) H) : gEq K (.ref a) (.ref b) H Q := ⟨d, d, h1, h2, s, s, by rw [shaped_refl s]; exact q⟩
theorem r_neSame {K : PySem.W.Frag} {H : Hp} {Q : VK} {a b : Addr} {d : PyData} (h1 : Dp K H (.ref a) d) (h2 : Dp K H (.ref b) d) (s : SeqAt.shaped d = true) (q : Q (.bl false) H) : gNe K (.ref a) (.ref b) H Q := ⟨d, d, h1, h2, s, s, by rw [shaped_refl s]; exact q⟩
theorem getD_range {ts : List V} {d : V} : (List.range ts.length).map (fun i => ts.getD i d) = ts := by
  refine List.ext_getElem (by rw [List.length_map, List.length_range]) fun i h1 h2 => ?_
  rw [List.getElem_map, List.getElem_range, List.getD_eq_getElem?_getD, List.getElem?_eq_getElem h2]
  rfl
theorem getD_at {α : Type} {ts : List α} {d : α} {i : Nat} (h : i < ts.length) : ts[i]? = some (ts.getD i d) := by
  rw [List.getElem?_eq_getElem h, List.getD_eq_getElem?_getD, List.getElem?_eq_getElem h]
  rfl
theorem r_ixT {K : PySem.W.Frag} {H : Hp} {Q : VK} {a : Addr} {xs : List V} {i : Nat} {v : V} (h : H a = some (.tup xs)) (e : xs[i]? = some v) (q : Q v H) : rIx K (.ref a) (.int (i : Int)) H Q := .inr (.inl ⟨_, _, _, _, rfl, rfl, .inl (.inl h), by
  have hl := (List.getElem?_eq_some_iff.mp e).1
  unfold atI ixN
  rw [if_pos (by omega), if_pos (by omega), Int.toNat_natCast]
  exact e, q⟩)
theorem op_catTK {X : Cx} {K : PySem.W.Frag} (hK : X.K = K) : OpR X (binaryOp .Add) (rCatT K) := hK ▸ op_catT
theorem r_cat {K : PySem.W.Frag} {H : Hp} {Q : VK} {a b : Addr} {xs ys : List V} (h1 : H a = some (.tup xs)) (h2 : H b = some (.tup ys)) (nx : xs ≠ []) (ny : ys ≠ []) (hl : xs.length + ys.length ≤ sizeLine) (q : ∀ p, H p = none → Q (.ref p) (upd H p (.tup (xs ++ ys)))) : rCatT K (.ref a) (.ref b) H Q :=
  ⟨a, b, xs, ys, rfl, rfl, .inl (.inl h1), .inl (.inl h2), nx, hl, fun e => absurd e ny, fun _ => q⟩
/-- addresses that are in use -/
def Live (H : Hp) (L : List Addr) : Prop := L.Nodup ∧ ∀ c ∈ L, ∃ o, H c = some o
theorem Live.nil {H : Hp} : Live H [] := ⟨List.nodup_nil, fun c h => (List.not_mem_nil h).elim⟩
theorem Live.same {H H' : Hp} {L : List Addr} (h : Live H L) (s : Same H H') : Live H' L := ⟨h.1, fun c m => let ⟨o, e⟩ := h.2 c m; ⟨o, s _ _ e⟩⟩
theorem Live.cons {H H' : Hp} {L : List Addr} {x : Addr} {o : HO} (h : Live H L) (s : Same H H') (e : H x = none) (e' : H' x = some o) : Live H' (x :: L) := by
  refine ⟨List.nodup_cons.mpr ⟨fun m => ?_, h.1⟩, fun c m => ?_⟩
  · obtain ⟨o, g⟩ := h.2 x m
    rw [e] at g
    cases g
  · rcases List.mem_cons.mp m with rfl | m
    · exact ⟨_, e'⟩
    · obtain ⟨o, g⟩ := h.2 c m
      exact ⟨o, s _ _ g⟩
/-! ### enumerate -/
theorem x_enum {σ : L2.St} {H : Hp} {ta : TA} {R : It → Hp → Prop} {K : PySem.W.Frag} : iEnum K ta σ H R = ta σ H fun vs H1 => ∃ a xs, vs = [.ref a] ∧ SqL K H1 a xs ∧ R (Ite K a) H1 := rfl
end G
namespace G
open PySem PySem.Spec PySem.Calls PyProof.Rows L2 He
/-! ### while -/
def WhB (W : Nat → L2.St → Hp → Prop) (k : Nat) (tb : TS) (D : Ends) (σ : L2.St) (H : Hp) : Prop :=
  ∃ N : L2.St → Hp → Prop, (∀ σ' H', N σ' H' → ∃ m', m' < k ∧ W m' σ' H') ∧ tb { D with nx := N, ct := N, bk := D.nx } σ H
theorem whW {c : TT} {tb : TS} {D : Ends} {σ : L2.St} {H : Hp} (W : Nat → L2.St → Hp → Prop) (h0 : ∃ k, W k σ H) (hs : ∀ k σ H, W k σ H → c σ H fun b H1 => if b = true then WhB W k tb D σ H1 else D.nx σ H1) : tWhile c tb D σ H :=
  ⟨W, h0, hs⟩
theorem whB {W : Nat → L2.St → Hp → Prop} {k : Nat} {tb : TS} {D : Ends} {σ : L2.St} {H : Hp} (h : tb { D with nx := fun σ' H' => ∃ m', m' < k ∧ W m' σ' H', ct := fun σ' H' => ∃ m', m' < k ∧ W m' σ' H', bk := D.nx } σ H) : WhB W k tb D σ H :=
  ⟨_, fun _ _ q => q, h⟩
end G
namespace G
open PySem PySem.Spec PySem.Calls PyProof.Rows L2 He
theorem call_sumK {X : Cx} {K : PySem.W.Frag} (hK : X.K = K) (hc : X.calm = true) : CallR X (.builtin "sum") (rSum K) := hK ▸ cr_sum hc
theorem r_sumL {K : PySem.W.Frag} {H : Hp} {Q : VK} {a : Addr} {ns : List Int} (h : H a = some (.lst (ns.map V.int))) (q : Q (.int ns.sum) H) : rSum K [.ref a] H Q := ⟨a, ns, rfl, .of h, q⟩
/-- all of a list of truths is true -/
theorem r_allT {K : PySem.W.Frag} {H : Hp} {Q : VK} {a : Addr} {n : Nat} (h : H a = some (.lst (List.replicate n (.bl true)))) (q : Q (.bl true) H) : rAll K [.ref a] H Q := by
  refine ⟨a, List.replicate n true, rfl, .of (by rw [List.map_replicate]; exact h), ?_⟩
  rw [show (List.replicate n true).all id = true from List.all_eq_true.mpr fun b hb => (List.mem_replicate.mp hb).2]
  exact q
/-- [True for .. in xs] -/
theorem lc_trueL {σ : L2.St} {vs : List Nat} {H1 : Hp} {D : Addr} {Qd : Hp → Prop} {te : TE} {k : Nat} {K : PySem.W.Frag} {a : Addr} {xs : List V} (hw : ∀ v, wipe ((wipe σ vs).set k (some v)) vs = wipe σ vs) (hl : ∀ acc, SqL K (upd H1 D (.lst acc)) a xs) (hn : xs.length ≤ sizeLine)
    (he : ∀ (i : Nat) (x : V), xs[i]? = some x → ∀ acc (Q : VK), Q (.bl true) (upd H1 D (.lst acc)) → te ((wipe σ vs).set k (some x)) (upd H1 D (.lst acc)) Q) (hd : Qd (upd H1 D (.lst (List.replicate xs.length (.bl true))))) :
    ∃ W : Nat → Nat → Hp → Prop, (∃ m, W 0 m (upd H1 D (.lst []))) ∧ ∀ i m H, W i m H →
      ((Itl K a).stop i H ∧ Qd H) ∨ ((Itl K a).go i H ∧ ∃ Nx : Hp → Prop, (∀ H', Nx H' → ∃ m', m' < m ∧ W (i + 1) m' H') ∧ ∀ x H', (Itl K a).yld i H x H' → gName k x (wipe σ vs) H' fun σ2 H2 => wipe σ2 vs = wipe σ vs ∧ tYes σ2 H2 fun b H3 =>
        if b = true then te σ2 H3 fun y H4 => ∃ acc, H4 D = some (.lst acc) ∧ acc.length < sizeLine ∧ Nx (upd H4 D (.lst (acc ++ [y]))) else Nx H3) :=
  lc_mapL (ys := List.replicate xs.length (.bl true)) hw hl hn (List.length_replicate) (fun i x y hx hy acc Q q => by
    have e := (List.mem_replicate.mp (List.mem_of_getElem? hy)).2
    subst e
    exact he i x hx acc Q q) hd
/-- whole numbers in a list -/
theorem ints_mem {ns : List Int} {i : Nat} {x : V} (h : (ns.map V.int)[i]? = some x) : ∃ n, x = .int n ∧ n ∈ ns := by
  obtain ⟨n, m, e⟩ := List.mem_map.mp (List.mem_of_getElem? h)
  exact ⟨n, e.symm, m⟩
theorem ints_flat {ns : List Int} : ∀ x ∈ ns.map V.int, flatI x = true := fun x h => by
  obtain ⟨i, -, e⟩ := List.mem_map.mp h
  subst e
  rfl
theorem dp_ints {K : PySem.W.Frag} {H : Hp} {a : Addr} {ns : List Int} (h : H a = some (.lst (ns.map V.int))) : Dp K H (.ref a) (.list ((ns.map V.int).map toD)) := dp_flat h ints_flat
/-- two lists of the same whole numbers -/
theorem r_eqInts {K : PySem.W.Frag} {H : Hp} {Q : VK} {a b : Addr} {ns : List Int} (h1 : H a = some (.lst (ns.map V.int))) (h2 : H b = some (.lst (ns.map V.int))) (q : Q (.bl true) H) : gEq K (.ref a) (.ref b) H Q := r_eqSame (dp_ints h1) (dp_ints h2) sh_flat q
theorem r_neInts {K : PySem.W.Frag} {H : Hp} {Q : VK} {a b : Addr} {ns : List Int} (h1 : H a = some (.lst (ns.map V.int))) (h2 : H b = some (.lst (ns.map V.int))) (q : Q (.bl false) H) : gNe K (.ref a) (.ref b) H Q := r_neSame (dp_ints h1) (dp_ints h2) sh_flat q
/-- [text, thing]: what law's tries tell -/
inductive PlD : V → PyData → Prop where
  | non : PlD .non .none
  | bl (b : Bool) : PlD (.bl b) (.bool b)
  | int (i : Int) : PlD (.int i) (.int i)
  | str (z : Str) (h : PyData.strOk z = true) : PlD (.str z) (.str z)
theorem PlD.dp {K : PySem.W.Frag} {H : Hp} {v : V} {d : PyData} (h : PlD v d) : Dp K H v d := by
  cases h with
  | non => exact .non
  | bl b => exact .bl b
  | int i => exact .int i
  | str z h => exact .str z
theorem PlD.sh {v : V} {d : PyData} (h : PlD v d) : ShK 0 d := by
  cases h with
  | str z h => exact ⟨by simp only [PyData.canLay0]; exact h, by simp [PyData.depth]⟩
  | _ => exact ⟨by simp [PyData.canLay0], by simp [PyData.depth]⟩
inductive PlAll : List V → List PyData → Prop where
  | nil : PlAll [] []
  | cons {v : V} {d : PyData} {vs : List V} {ds : List PyData} (h : PlD v d) (t : PlAll vs ds) : PlAll (v :: vs) (d :: ds)
theorem PlAll.dp {K : PySem.W.Frag} {H : Hp} {vs : List V} {ds : List PyData} (h : PlAll vs ds) : DpAll K H vs ds := by
  induction h with
  | nil => exact .nil
  | cons h t ih => exact .cons h.dp ih
theorem PlAll.sh {vs : List V} {ds : List PyData} (h : PlAll vs ds) : ∀ z ∈ ds, ShK 0 z := by
  induction h with
  | nil => exact fun z h => (List.not_mem_nil h).elim
  | cons h t ih =>
    intro z m
    rcases List.mem_cons.mp m with rfl | m
    · exact h.sh
    · exact ih z m
/-- == of lists of plain things -/
theorem r_eqPl {K : PySem.W.Frag} {H : Hp} {Q : VK} {a b : Addr} {xs ys : List V} {ds es : List PyData} (h1 : H a = some (.lst xs)) (h2 : H b = some (.lst ys)) (p1 : PlAll xs ds) (p2 : PlAll ys es) (q : Q (.bl (PyData.eqv (.list ds) (.list es))) H) : gEq K (.ref a) (.ref b) H Q :=
  ⟨_, _, .lst (.of h1) p1.dp, .lst (.of h2) p2.dp, (ShK.lst p1.sh).ok (by decide), (ShK.lst p2.sh).ok (by decide), q⟩
theorem r_nePl {K : PySem.W.Frag} {H : Hp} {Q : VK} {a b : Addr} {xs ys : List V} {ds es : List PyData} (h1 : H a = some (.lst xs)) (h2 : H b = some (.lst ys)) (p1 : PlAll xs ds) (p2 : PlAll ys es) (q : Q (.bl (!PyData.eqv (.list ds) (.list es))) H) : gNe K (.ref a) (.ref b) H Q :=
  ⟨_, _, .lst (.of h1) p1.dp, .lst (.of h2) p2.dp, (ShK.lst p1.sh).ok (by decide), (ShK.lst p2.sh).ok (by decide), q⟩
theorem r_eqPlT {K : PySem.W.Frag} {H : Hp} {Q : VK} {a b : Addr} {xs : List V} {ds : List PyData} (h1 : H a = some (.lst xs)) (h2 : H b = some (.lst xs)) (p : PlAll xs ds) (q : Q (.bl true) H) : gEq K (.ref a) (.ref b) H Q :=
  r_eqSame (.lst (.of h1) p.dp) (.lst (.of h2) p.dp) ((ShK.lst p.sh).ok (by decide)) q
theorem r_nePlT {K : PySem.W.Frag} {H : Hp} {Q : VK} {a b : Addr} {xs : List V} {ds : List PyData} (h1 : H a = some (.lst xs)) (h2 : H b = some (.lst xs)) (p : PlAll xs ds) (q : Q (.bl false) H) : gNe K (.ref a) (.ref b) H Q :=
  r_neSame (.lst (.of h1) p.dp) (.lst (.of h2) p.dp) ((ShK.lst p.sh).ok (by decide)) q
end G
namespace G
open PySem PySem.Spec PySem.Calls PyProof.Rows L2 He
/-! ### isinstance of an own class's instance; in a written tuple -/
theorem call_isiK {X : Cx} {K : PySem.W.Frag} (hK : X.K = K) : CallR X (.builtin "isinstance") (rIsi K) := hK ▸ call_isi
theorem r_isiIns {K : PySem.W.Frag} {H : Hp} {Q : VK} {a C dx : Addr} {fs : List (Str × V)} (h : H a = some (.ins C dx fs)) (c : Cls K C) (n : ClN K C) (q : Q (.bl false) H) : rIsi K [.ref a, .ty "str"] H Q :=
  ⟨_, _, _, _, _, rfl, .ty _, .base (TyOf.ins h c n.ha n.hn n.htk n.hm), n.no, q⟩
theorem r_isiOwn {K : PySem.W.Frag} {H : Hp} {Q : VK} {a C dx : Addr} {fs : List (Str × V)} (h : H a = some (.ins C dx fs)) (c : Cls K C) (n : ClN K C) (q : Q (.bl true) H) : rIsi K [.ref a, .ref C] H Q :=
  ⟨_, _, _, _, _, rfl, .own _, .base (TyOf.ins h c n.ha n.hn n.htk n.hm), (by show (if (Value.ref C == Value.ref C) = true then some true else _) = _; rw [if_pos (beq_self_eq_true _)]), q⟩
theorem r_isiPl {K : PySem.W.Frag} {H : Hp} {Q : VK} {x : V} {t n : String} (h : tyOf x H = some t) (hn : n ∈ (["int", "bool", "str", "list", "tuple", "dict"] : List String)) (q : Q (.bl (isB t n)) H) : rIsi K [x, .ty n] H Q :=
  ⟨_, _, _, _, _, rfl, .ty _, tyOf_ok h, kit_ty (isB_all t (tyOf_in h) _ hn), q⟩
/-- x in a written tuple: flat things; data -/
def rInG (K : PySem.W.Frag) (neg : Bool) : R2 := fun x y H Q => rIn K neg x y H Q ∨ ∃ d ds, Dp K H x d ∧ Dp K H y (.tuple ds) ∧ SeqAt.shaped d = true ∧ SeqAt.shaped (.tuple ds) = true ∧ Q (.bl (if neg then !ds.any fun z => PyData.eqv z d else ds.any fun z => PyData.eqv z d)) H
theorem op_inTG {X : Cx} {K : PySem.W.Frag} (hK : X.K = K) (hu : X.A.units + 65 < cLine) : OpR X (compareOp .In) (rInG K false) := by
  subst hK
  intro pins s σ H x y v u Q I rx ry h
  rcases h with h | ⟨d, ds, hd, he, sd, se, q⟩
  · exact op_in_seq pins s σ H x y v u Q I rx ry h
  obtain ⟨as, r1⟩ := Dp.reads I d x v hd rx
  obtain ⟨bs, r2⟩ := Dp.reads I (.tuple ds) y u he ry
  exact SeqAt.in_tuple_reads r2 r1 (SeqAt.canLay_of_shaped se) (SeqAt.canLay_of_shaped sd) (room_in_shaped sd hu) ⟨.bl _, H, I, rfl, q⟩
theorem op_ninTG {X : Cx} {K : PySem.W.Frag} (hK : X.K = K) (hu : X.A.units + 65 < cLine) : OpR X (compareOp .NotIn) (rInG K true) := by
  subst hK
  intro pins s σ H x y v u Q I rx ry h
  rcases h with h | ⟨d, ds, hd, he, sd, se, q⟩
  · exact op_notIn_seq pins s σ H x y v u Q I rx ry h
  obtain ⟨as, r1⟩ := Dp.reads I d x v hd rx
  obtain ⟨bs, r2⟩ := Dp.reads I (.tuple ds) y u he ry
  exact SeqAt.notIn_tuple_reads r2 r1 (SeqAt.canLay_of_shaped se) (SeqAt.canLay_of_shaped sd) (room_in_shaped sd hu) ⟨.bl _, H, I, rfl, q⟩
end G
namespace G
open PySem PySem.Spec PySem.Calls PyProof.Rows L2 He
theorem hu65 {k : Nat} {A : Around} (r : Room k A) : A.units + 65 < cLine := by have := r.un; omega
theorem hu65N {k : Nat} {A : Around} (r : RoomN k A) : A.units + 65 < cLine := by have := r.un; omega
end G
namespace G
open PySem PySem.Spec PySem.Calls PyProof.Rows L2 He
/-! ### two named except clauses -/
section
variable {X : Cx} {x x2 n : Str} {c c2 : Value} {i : Nat} {body suite suite2 : List Stmt} {b0 b2 : Stmt} {np np2 pos pos' pos2' : Pos} {tb : WX → TS} {ts ts2 : TS} {Wo : WX}
theorem ps_tryT2 (hs : X.stack = X.env :: X.outer) (hf : X.env.frame = some X.env.locals) (hex : X.ex = []) (hN : X.N.Nodup) (hi : X.N[i]? = some n) (hln : X.env.kindOf n = some .local) (hc : Names X x c) (hc2 : Names X x2 c2) (tk : Takes X Wo)
    (hb : ∀ (W : WX) (pn : List (Addr × Obj)) (xe : Value → Shared → Prop), Takes (X.tr pn xe) W → PassesOwn (model X.prog X.w) X.A X.env xe → PSs (X.tr pn xe) body (tb W))
    (hsu : ∀ (a : Addr) (pn : List (Addr × Obj)), PSs (X.suite a pn) (b0 :: suite) ts) (hsu2 : ∀ (a : Addr) (pn : List (Addr × Obj)), PSs (X.suite a pn) (b2 :: suite2) ts2) :
    PS X (.Try body [.ExceptHandler (some (.Name x np)) (some n) (b0 :: suite) pos', .ExceptHandler (some (.Name x2 np2)) (some n) (b2 :: suite2) pos2'] [] [] pos) (fun D σ H => tb (wTr X.K c i ts (wTr X.K c2 i ts2 Wo D) D) D σ H) := by
  refine ⟨fun pins s σ H D I h => ?_⟩
  have ok := I.ok
  have hfr : X.A.frames = some (X.env :: X.outer) := by rw [ok.frames, hs]
  have lo : Loc X.env.scope n := .inl hln
  let rest : List ExceptHandler := [.ExceptHandler (some (.Name x np)) (some n) (b0 :: suite) pos', .ExceptHandler (some (.Name x2 np2)) (some n) (b2 :: suite2) pos2']
  let M := model X.prog X.w
  let wish : Value → Shared → Prop := fun e u1 => wpAny M X.A (noteFrame e X.env) (fun _ u2 => wpAny M X.A (setFlight e none) (fun _ u3 => wpAny M X.A (handleBy e X.env rest) (SP X pins D) X.xe u3) X.xe u2) X.xe u1
  refine wpAny_Try_except (wpAny_mono ((hb (wTr X.K c i ts (wTr X.K c2 i ts2 Wo D) D) (X.pn ++ pins) wish (fun u s' air => ?_) PassesOwn.looking).run [] s σ H D (I.toTry _) h) (fun fl s1 hsp => ?_) (fun e s1 he => he))
  · obtain ⟨a, B, sg, pi', σ1, H1, cls, d, rfl, Jt, nb, up, sky, na, os, ag, b, e1, yes, no⟩ := air
    have J : Inv X pins σ1 H1 sg := Jt.ofTry ok
    have sky' : Sky B (X.env :: X.outer) a (Zc cls d) X.env.locals s'.heap := by rw [← hs]; exact sky
    show wpAny M X.A (noteFrame (.ref a) X.env) _ _ _
    refine Sky.land Zc.steady hfr hf sky' fun h3 fl3 up3 => ?_
    have u3 := up.trans up3
    have J3 : Inv X pins σ1 H1 { s' with heap := h3 } := J.landed nb fl3.1 u3 os ag
    obtain ⟨o3, f3, g3, z3, d3⟩ := fl3.there
    have nfr : a ∉ frs (X.env :: X.outer) := fun hm => by
      obtain ⟨-, o', g', nf⟩ := fl3.2.2.1.mem hm
      rw [g3] at g'
      cases g'
      exact nf _ d3
    have nL : a ≠ X.env.locals := fun z => nfr (List.mem_filterMap.mpr ⟨X.env, List.mem_cons_self, by rw [hf, z]⟩)
    have nst : a ∉ frs X.stack := by rw [hs]; exact nfr
    have nB : B.get? a = none := fl3.2.1
    have ng : sg.heap.get? a = none := by
      cases e : sg.heap.get? a with
      | none => rfl
      | some o =>
        rw [nb a o e nst] at nB
        cases nB
    have n0 : X.s_0.heap.get? a = none := by
      cases e : X.s_0.heap.get? a with
      | none => rfl
      | some o =>
        obtain ⟨o', q⟩ := J.base.there a o e (by rw [hex]; exact List.not_mem_nil)
        rw [ng] at q
        cases q
    have nC : ∀ y z, X.env.cells.lookup y = some z → z ≠ a := fun y z e q => by
      obtain ⟨v, ob, e2, -⟩ := J.cell y z e
      rw [q, ng] at e2
      cases e2
    have nP : ∀ p ∈ X.pn ++ pins, p.1 ≠ a := fun p hp q => by
      have e2 := (J.pin p hp).1
      rw [q, ng] at e2
      cases e2
    have S3 := toSuite J3 a
    refine wpAny_handleBy_cons (codeAny_handlers_test ?_) (by intro q; cases q)
    have LT : PySem.W.Looks M h3 (typeOf (.ref a)) cls := fun _ _ _ _ k q => wpAny_typeOf_ref (k _ _ g3) (by rw [z3.1]; exact q)
    have LM := PySem.W.exm_one (M := M) J3.kIn LT e1
    have test : ∀ {Q : Value → Shared → Prop} {E : Value → Shared → Prop}, Q c { s' with heap := h3 } → wpAny M (X.A.mark (some (.ref a))) (eval (.Name x np) X.env) Q E { s' with heap := h3 } := fun {Q E} q => by
      obtain ⟨hg, hdb, hm | ⟨hm, hv, hnn⟩⟩ := hc
      · exact ld_glob (X := X.suite a (X.pn ++ pins)) S3 hg hm q hdb
      · exact ld_blt (X := X.suite a (X.pn ++ pins)) S3 hg hm hv q hnn hdb
    refine test (LM.here ?_)
    cases b with
    | true =>
      refine codeAny_handlers_suite_as (HandSPX.lands_againZ fl3 fun h4 fl4 up4 => ?_)
      have J4 : Inv X pins σ1 H1 { s' with heap := h4 } := J.landed nb fl4.1 (u3.trans up4) os ag
      obtain ⟨o4, f4, g4, z4, d4⟩ := fl4.there
      obtain ⟨ed, go⟩ := yes rfl
      subst ed
      have J5 := track (u := ExA cls a) J4 na n0 nL nC nP (exA_ok g4 z4 d4)
      refine store_ok (X := X.suite a (X.pn ++ pins)) (v := .ref a) (toSuite J5 a) hN hi lo rfl (fun s5 S5 => ?_) (.inr hln)
      refine wpAny_mono ((hsu a (X.pn ++ pins)).run [] s5 _ _ _ S5 (go a na)) (fun fl s6 hsp => ?_) (fun _ _ z => False.elim z)
      have out : ∀ {σ6 : L2.St} {H6 : Hp} {Q : Shared → Prop}, Inv (X.suite a (X.pn ++ pins)) [] σ6 H6 s6 → (∀ s7, Inv X pins (σ6.set i none) H6 s7 → Q s7) →
          wpAny M X.A (do bindName X.env n .none; unbindBehindTheSuite X.env n pos') (fun _ s7 => Q s7) X.xe s6 := fun S6 hq => gone_ok (ofSuite ok S6) hN hi hln hq
      cases fl with
      | next => exact hsp.elim fun _ z => z.elim fun _ q => out q.1 fun s7 J7 => ⟨_, _, J7, q.2⟩
      | brk => exact hsp.elim fun _ z => z.elim fun _ q => out q.1 fun s7 J7 => ⟨_, _, J7, q.2⟩
      | cont => exact hsp.elim fun _ z => z.elim fun _ q => out q.1 fun s7 J7 => ⟨_, _, J7, q.2⟩
      | ret u =>
        obtain ⟨v6, σ6, H6, S6, r6, q6⟩ := hsp
        exact out S6 fun s7 J7 => ⟨_, _, _, J7, r6, q6⟩
    | false =>
      obtain ⟨b', e1', yes', no'⟩ := no rfl
      refine wpAny_handleBy_cons (codeAny_handlers_test ?_) (by intro q; cases q)
      have LM2 := PySem.W.exm_one (M := M) J3.kIn LT e1'
      have test2 : ∀ {Q : Value → Shared → Prop} {E : Value → Shared → Prop}, Q c2 { s' with heap := h3 } → wpAny M (X.A.mark (some (.ref a))) (eval (.Name x2 np2) X.env) Q E { s' with heap := h3 } := fun {Q E} q => by
        obtain ⟨hg, hdb, hm | ⟨hm, hv, hnn⟩⟩ := hc2
        · exact ld_glob (X := X.suite a (X.pn ++ pins)) S3 hg hm q hdb
        · exact ld_blt (X := X.suite a (X.pn ++ pins)) S3 hg hm hv q hnn hdb
      refine test2 (LM2.here ?_)
      cases b' with
      | true =>
        refine codeAny_handlers_suite_as (HandSPX.lands_againZ fl3 fun h4 fl4 up4 => ?_)
        have J4 : Inv X pins σ1 H1 { s' with heap := h4 } := J.landed nb fl4.1 (u3.trans up4) os ag
        obtain ⟨o4, f4, g4, z4, d4⟩ := fl4.there
        obtain ⟨ed, go⟩ := yes' rfl
        subst ed
        have J5 := track (u := ExA cls a) J4 na n0 nL nC nP (exA_ok g4 z4 d4)
        refine store_ok (X := X.suite a (X.pn ++ pins)) (v := .ref a) (toSuite J5 a) hN hi lo rfl (fun s5 S5 => ?_) (.inr hln)
        refine wpAny_mono ((hsu2 a (X.pn ++ pins)).run [] s5 _ _ _ S5 (go a na)) (fun fl s6 hsp => ?_) (fun _ _ z => False.elim z)
        have out : ∀ {σ6 : L2.St} {H6 : Hp} {Q : Shared → Prop}, Inv (X.suite a (X.pn ++ pins)) [] σ6 H6 s6 → (∀ s7, Inv X pins (σ6.set i none) H6 s7 → Q s7) →
            wpAny M X.A (do bindName X.env n .none; unbindBehindTheSuite X.env n pos2') (fun _ s7 => Q s7) X.xe s6 := fun S6 hq => gone_ok (ofSuite ok S6) hN hi hln hq
        cases fl with
        | next => exact hsp.elim fun _ z => z.elim fun _ q => out q.1 fun s7 J7 => ⟨_, _, J7, q.2⟩
        | brk => exact hsp.elim fun _ z => z.elim fun _ q => out q.1 fun s7 J7 => ⟨_, _, J7, q.2⟩
        | cont => exact hsp.elim fun _ z => z.elim fun _ q => out q.1 fun s7 J7 => ⟨_, _, J7, q.2⟩
        | ret u =>
          obtain ⟨v6, σ6, H6, S6, r6, q6⟩ := hsp
          exact out S6 fun s7 J7 => ⟨_, _, _, J7, r6, q6⟩
      | false =>
        show wpAny M X.A (handleBy (.ref a) X.env []) _ _ _
        refine wpAny_handleBy_nil ?_
        obtain ⟨-, -, -, oe, vs, T, oT, ts', he, hz, hd, h1, hr⟩ := id fl3
        unfold PySem.passOn
        refine wpAny_bind (wpAny_field he hd h1 ?_)
        rw [if_neg (show ¬ ((Value.ref T == Value.none) = true) from by simp)]
        have fin : wpAny M X.A (setFlight (.ref a) X.env.frame) (fun _ u4 => wpAny M X.A (throw (.ref a) : Sem Flow) (SP X pins D) X.xe u4) X.xe { s' with heap := h3 } := by
          rw [hf]
          refine HandSPX.setFlight_upZ fl3 fun h4 hh4 up4 => wpAny_throw (tk _ _ ?_)
          exact ⟨a, B, sg, pins, σ1, H1, cls, d, rfl, J, nb, u3.trans up4, .inr (.inr (by rw [hs]; exact hh4)), na, os, ag, no' rfl⟩
        first
          | exact wpAny_bind (wpAny_pure (wpAny_bind fin))
          | exact wpAny_bind fin
  · cases fl with
    | next => exact hsp.elim fun σ1 z => z.elim fun H1 q => wpAny_execs_nil ⟨σ1, H1, q.1.ofTry ok, q.2⟩
    | brk => exact hsp.elim fun σ1 z => z.elim fun H1 q => ⟨σ1, H1, q.1.ofTry ok, q.2⟩
    | cont => exact hsp.elim fun σ1 z => z.elim fun H1 q => ⟨σ1, H1, q.1.ofTry ok, q.2⟩
    | ret u =>
      obtain ⟨v, σ1, H1, J, r, q⟩ := hsp
      exact ⟨v, σ1, H1, J.ofTry ok, r, q⟩
end

section
variable {fa : List Fa} {fn : List DefD} {xl : XL} {K : PySem.W.Frag} {mg : Str → Option Value}
theorem Told.missed (T : Told fa fn xl K mg) {d c : Str} {i : Nat} {ts : TS} {Wo : WX} {D : Ends} {σ : L2.St} {H : Hp} (hd : d ∈ xl.ex) (hc : c ∈ xl.ex) (hu : under d c = false) (h : Wo (.ref (ga K d)) none σ H) :
    wTr K (.ref (ga K c)) i ts Wo D (.ref (ga K d)) none σ H :=
  ⟨false, by rw [((T.err hd).2.2 c hc).2, hu], (fun z => by cases z), (fun _ => h)⟩
theorem Told.caughtU (T : Told fa fn xl K mg) {d c : Str} {ts : Addr → Value → Option Addr → TS} {r : List (Value × (Addr → Value → Option Addr → TS))} {Wo : WX} {D : Ends} {σ : L2.St} {H : Hp} (hd : d ∈ xl.ex) (hc : c ∈ xl.ex) (hu : under d c = true)
    (h : ∀ a, H a = none → ts a (.ref (ga K d)) none D σ H) : wMany K Wo D ((.ref (ga K c), ts) :: r) (.ref (ga K d)) none σ H :=
  ⟨true, by rw [((T.err hd).2.2 c hc).2, hu], (fun _ => h), (fun z => by cases z)⟩
theorem Told.missedU (T : Told fa fn xl K mg) {d c : Str} {ts : Addr → Value → Option Addr → TS} {r : List (Value × (Addr → Value → Option Addr → TS))} {Wo : WX} {D : Ends} {σ : L2.St} {H : Hp} (hd : d ∈ xl.ex) (hc : c ∈ xl.ex) (hu : under d c = false)
    (h : wMany K Wo D r (.ref (ga K d)) none σ H) : wMany K Wo D ((.ref (ga K c), ts) :: r) (.ref (ga K d)) none σ H :=
  ⟨false, by rw [((T.err hd).2.2 c hc).2, hu], (fun z => by cases z), (fun _ => h)⟩
end
end G
namespace G
open PySem PySem.Spec PySem.Calls PyProof.Rows L2 He
/-! ### for k in d -/
def LockW (t : TS) (D : Ends) (σ : L2.St) (H : Hp) : Prop := tLock t D σ H
section
variable {t : TS} {D : Ends} {σ : L2.St} {H : Hp} {d : Addr} {kvs : List (Key × V)} {td : TE} {R : It → Hp → Prop} {o : Obj} {g : TG} {tb : TS}
theorem x_lock : tLock t D σ H = LockW t D σ H := rfl
theorem lockD (hd : H d = some (.dK kvs)) (h : ∀ od, t ⟨fun σ' H' => H' d = some (.frz od (.dK kvs)) ∧ D.nx σ' (upd H' d (.dK kvs)), fun v H' => H' d = some (.frz od (.dK kvs)) ∧ D.rt v (upd H' d (.dK kvs)), fun σ' H' => H' d = some (.frz od (.dK kvs)) ∧ D.bk σ' (upd H' d (.dK kvs)), fun σ' H' => H' d = some (.frz od (.dK kvs)) ∧ D.ct σ' (upd H' d (.dK kvs))⟩ σ (upd H d (.frz od (.dK kvs)))) : LockW t D σ H := ⟨d, _, hd, trivial, h⟩
theorem x_keys : iKeys td σ H R = td σ H fun x H1 => ∃ d o, x = .ref d ∧ ((∃ kvs, H1 d = some (.frz o (.dK kvs)) ∧ R (Itk d o kvs) H1) ∨ ∃ kvs, H1 d = some (.frz o (.dT kvs)) ∧ R (Itkt d o kvs) H1) := rfl
theorem forW_keys (Pv : Nat → L2.St → Hp → Prop) (h0 : Pv 0 σ H) (hG : ∀ i σ H, i ≤ kvs.length → Pv i σ H → H d = some (.frz o (.dK kvs)))
    (hs : ∀ i k v σ H, kvs[i]? = some (k, v) → Pv i σ H → g (kV k) σ H fun σ2 H2 => tb { D with nx := Pv (i + 1), ct := Pv (i + 1), bk := D.nx } σ2 H2) (hd : ∀ σ H, Pv kvs.length σ H → D.nx σ H) : ForW (Itk d o kvs) g tb D σ H :=
  for_it walk_keys Pv h0 hG (fun i x σ H H' hi p y => by
    obtain ⟨rfl, k, v, e, rfl⟩ := y
    exact hs i k v σ _ e p) hd
theorem dget_f {i : Int} (h : H d = some (.frz o (.dK kvs))) : DGet H d (.int i) (valV kvs (.inl i : Key)) := .inl ⟨kvs, .inl i, .inr ⟨o, h⟩, rfl, rfl⟩
end
end G
namespace G
open PySem PySem.Spec PySem.Calls PyProof.Rows L2 He
/-! ### == of dicts, dict(d), xs.pop(i) -/
section
variable {X : Cx} {σ : L2.St} {H : Hp} {Q : VK}
def gEqDD : R2 := fun x y H Q => ∃ a b kvs kvs', x = .ref a ∧ y = .ref b ∧ H a = some (.dK kvs) ∧ H b = some (.dK kvs') ∧ ((kvs = kvs' ∧ (kvs.map (·.1)).Nodup ∧ (∀ p ∈ kvs, flatB p.2 = true) ∧ Q (.bl true) H) ∨ (kvs.length ≠ kvs'.length ∧ Q (.bl false) H))
def gNeDD : R2 := fun x y H Q => ∃ a b kvs kvs', x = .ref a ∧ y = .ref b ∧ H a = some (.dK kvs) ∧ H b = some (.dK kvs') ∧ ((kvs = kvs' ∧ (kvs.map (·.1)).Nodup ∧ (∀ p ∈ kvs, flatB p.2 = true) ∧ Q (.bl false) H) ∨ (kvs.length ≠ kvs'.length ∧ Q (.bl true) H))
theorem op_eqDD (hu : X.A.units < cLine) : OpR X (compareOp .Eq) gEqDD := by
  intro pins s σ H x y v u Q I rx ry h
  obtain ⟨a, b, kvs, kvs', rfl, rfl, ea, eb, h⟩ := h
  obtain rfl : v = Value.ref a := rx
  obtain rfl : u = Value.ref b := ry
  obtain ⟨_, ya, va, ra, da⟩ := (show ObjOk X.prog X.w H s.heap a (.dK kvs) from I.hok a _ ea)
  obtain ⟨_, yb, vb, rb, db⟩ := (show ObjOk X.prog X.w H s.heap b (.dK kvs') from I.hok b _ eb)
  rcases h with ⟨rfl, nd, fl, q⟩ | ⟨ne, q⟩
  · have hl : va.length = vb.length := ra.length.symm.trans rb.length
    exact PySem.W.keq_eq (knd := mixKind X.prog X.w) (r := true) ya yb da db hu (fun _ => hits_all rb ra fun p hp => ⟨val_nodup nd p hp, fl p hp⟩) (fin_bl I q (by simp [hl]))
  · have hl : va.length ≠ vb.length := fun z => ne (ra.length.trans (z.trans rb.length.symm))
    exact PySem.W.keq_eq (knd := mixKind X.prog X.w) (r := true) ya yb da db hu (fun z => absurd z hl) (fin_bl I q (by simp [hl]))
theorem op_neDD (hu : X.A.units < cLine) : OpR X (compareOp .NotEq) gNeDD := by
  intro pins s σ H x y v u Q I rx ry h
  obtain ⟨a, b, kvs, kvs', rfl, rfl, ea, eb, h⟩ := h
  obtain rfl : v = Value.ref a := rx
  obtain rfl : u = Value.ref b := ry
  obtain ⟨_, ya, va, ra, da⟩ := (show ObjOk X.prog X.w H s.heap a (.dK kvs) from I.hok a _ ea)
  obtain ⟨_, yb, vb, rb, db⟩ := (show ObjOk X.prog X.w H s.heap b (.dK kvs') from I.hok b _ eb)
  rcases h with ⟨rfl, nd, fl, q⟩ | ⟨ne, q⟩
  · have hl : va.length = vb.length := ra.length.symm.trans rb.length
    exact PySem.W.keq_ne (knd := mixKind X.prog X.w) (r := true) ya yb da db hu (fun _ => hits_all rb ra fun p hp => ⟨val_nodup nd p hp, fl p hp⟩) (fin_bl I q (by simp [hl]))
  · have hl : va.length ≠ vb.length := fun z => ne (ra.length.trans (z.trans rb.length.symm))
    exact PySem.W.keq_ne (knd := mixKind X.prog X.w) (r := true) ya yb da db hu (fun z => absurd z hl) (fin_bl I q (by simp [hl]))
theorem r_eqDD {a b : Addr} {kvs : List (Key × V)} (h1 : H a = some (.dK kvs)) (h2 : H b = some (.dK kvs)) (nd : (kvs.map (·.1)).Nodup) (fl : ∀ p ∈ kvs, flatB p.2 = true) (q : Q (.bl true) H) : gEqDD (.ref a) (.ref b) H Q := ⟨a, b, kvs, kvs, rfl, rfl, h1, h2, .inl ⟨rfl, nd, fl, q⟩⟩
theorem r_neDD {a b : Addr} {kvs : List (Key × V)} (h1 : H a = some (.dK kvs)) (h2 : H b = some (.dK kvs)) (nd : (kvs.map (·.1)).Nodup) (fl : ∀ p ∈ kvs, flatB p.2 = true) (q : Q (.bl false) H) : gNeDD (.ref a) (.ref b) H Q := ⟨a, b, kvs, kvs, rfl, rfl, h1, h2, .inl ⟨rfl, nd, fl, q⟩⟩
theorem r_eqDL {a b : Addr} {kvs kvs' : List (Key × V)} (h1 : H a = some (.dK kvs)) (h2 : H b = some (.dK kvs')) (ne : kvs.length ≠ kvs'.length) (q : Q (.bl false) H) : gEqDD (.ref a) (.ref b) H Q := ⟨a, b, kvs, kvs', rfl, rfl, h1, h2, .inr ⟨ne, q⟩⟩
def rDictD : List V → Hp → VK → Prop := fun xs H Q => ∃ (a : Addr) (kvs : List (Key × V)), xs = [.ref a] ∧ Rd H a (.dK kvs) ∧ ∀ p, H p = none → Q (.ref p) (upd H p (.dK kvs))
theorem call_dictDK : CallR X (.type "dict") rDictD := call_dictD
theorem r_isiD {a : Addr} {kvs : List (Key × V)} (h : H a = some (.dK kvs)) (q : Q (.bl true) H) : gIsi [.ref a, .ty "dict"] H Q := r_isi (t := "dict") (by show tyO (H a) = _; rw [h]; rfl) q
def rLenDD : List V → Hp → VK → Prop := fun xs H Q => ∃ a kvs, xs = [V.ref a] ∧ H a = some (.dK kvs) ∧ Q (.int kvs.length) H
theorem call_lenDD : CallR X (.builtin "len") rLenDD := call_lenD
theorem r_lenDD {a : Addr} {kvs : List (Key × V)} (h : H a = some (.dK kvs)) (q : Q (.int (kvs.length : Int)) H) : rLenDD [.ref a] H Q := ⟨_, _, rfl, h, q⟩
theorem r_popAt {a : Addr} {xs : List V} {i : Nat} {y : V} (h : H a = some (.lst xs)) (hi : xs[i]? = some y) (hs : xs.length ≤ sizeLine) (q : Q y (upd H a (.lst (xs.eraseIdx i)))) : rPopAt (.ref a) [.int (i : Int)] H Q := by
  have hl := (List.getElem?_eq_some_iff.mp hi).1
  have sz := sizeLine_eq
  refine ⟨a, xs, _, i, y, rfl, rfl, h, by omega, by omega, ?_, hi, q⟩
  unfold seqIndex?
  simp only [if_neg (show ¬ ((i : Int) < 0) by omega)]
  rw [if_pos (by rw [Bool.and_eq_true, decide_eq_true_eq, decide_eq_true_eq]; omega), Int.toNat_natCast]
theorem cutV_one {xs : List V} : cutV xs (some 1) none = xs.drop 1 := by
  have e : HT.sIx xs.length 0 (some 1) = min 1 xs.length := HT.sIx_nat _ _ 1
  unfold cutV
  rw [e, HT.sIx_none]
  cases xs with
  | nil => rfl
  | cons x r =>
    have e : min 1 (x :: r).length = 1 := by rw [List.length_cons]; omega
    rw [e]
    show (r.take (r.length + 1 - 1)) = r
    rw [Nat.add_sub_cancel, List.take_length]
/-! ### zip -/
theorem x_zip {ta : TA} {R : It → Hp → Prop} {K : PySem.W.Frag} : iZip K ta σ H R = ta σ H fun vs H1 => ∃ a b xs ys, vs = [.ref a, .ref b] ∧ SqL K H1 a xs ∧ SqL K H1 b ys ∧ R (Itz K a b) H1 := rfl
theorem forW_zip {K : PySem.W.Frag} {g : TG} {tb : TS} {D : Ends} {a b : Addr} {xs ys : List V} (Pv : Nat → L2.St → Hp → Prop) (h0 : Pv 0 σ H) (hG : ∀ i σ H, i ≤ min xs.length ys.length → Pv i σ H → SqL K H a xs ∧ SqL K H b ys)
    (hs : ∀ i x y T σ H, xs[i]? = some x → ys[i]? = some y → H T = none → Pv i σ H → g (.ref T) σ (upd H T (.tup [x, y])) fun σ2 H2 => tb { D with nx := Pv (i + 1), ct := Pv (i + 1), bk := D.nx } σ2 H2) (hd : ∀ σ H, Pv (min xs.length ys.length) σ H → D.nx σ H) : ForW (Itz K a b) g tb D σ H :=
  for_it (walk_zip rfl) Pv h0 hG (fun i x σ H H' hi p y => by
    obtain ⟨T, u, v, rfl, nT, rfl, e1, e2⟩ := y
    exact hs i u v T σ H e1 e2 nT p) hd
end
end G
namespace G
open PySem PySem.Spec PySem.Calls PyProof.Rows L2 He
/-! ### a comprehension whose item may raise -/
/-- what is wanted behind a block that began in env: an error goes on in env's frame -/
def PostX (M : Model) (A : Around) (E : Value → Shared → Prop) (env : Env) (Q : Value → Shared → Prop) (acc : Value) (C : Addr) : Result → Shared → Prop
  | .ok _, t => ∃ m, t.heap.Ns C m ∧ ∀ h', Heap.SameBut C t.heap h' → Q acc { t with heap := h' }
  | .error x, t => ∃ m, t.heap.Ns C m ∧ ∀ h', Heap.SameBut C t.heap h' → ∀ ce : Env, ce.locals = C → ce.frame = env.frame → wpAny M A (PySem.passOn "comprehension.variables-let-go" x ce : Sem Value) (fun _ _ => False) E { t with heap := h' }
section
variable {M : Model} {A : Around} {E : Value → Shared → Prop} {s : Shared} {env : Env}
theorem compX {e : Expr} {scope : Scope} {pos : Pos} {new fst : Sem Value} {g : Comprehension} {gs : List Comprehension} {cl : List (Str × Addr)} {Q : Value → Shared → Prop}
    (c1 : clausesOf e = g :: gs) (c2 : ∀ x, foldedSetIterable g.iter env x = pure x) (c3 : closureFor scope env = pure cl) (c4 : scope.kind = .function) (c5 : ∀ x ∈ scope.names, x.2 = .local → scope.names.lookup x.1 = some .local)
    (c6 : wpAny M A fst (fun x s1 => wpAny M A (pyIter x) (fun it s2 => wpAny M A new (fun acc s3 => wpAny M A (newFunctionEnv scope env.globals cl [] env.qual none .none (some env)) (fun ce s4 => ce.frame = env.frame ∧
        codeAny M A (.compStart e 0 it acc { ce with scope := relabel scope env }) (PostX M A E env Q acc ce.locals) s4) E s3) E s2) E s1) E s) :
    wpAny M A (comprehension e scope env pos new false fst none) Q E s := by
  have again : ∀ {α : Type} {m : Sem α} {R R' : α → Shared → Prop} {t : Shared}, wpAny M A m R E t → (∀ a u, R a u → R' a u) → wpAny M A m R' E t := fun k f => wpAny_mono k f fun _ _ z => z
  unfold comprehension
  rw [c3, c1]
  refine wpAny_bind (again c6 fun x s1 k1 => wpAny_bind (wpAny_standAt (wpAny_bind (wpAny_of_eq (c2 x) (wpAny_bind (wpAny_holding (again k1 fun it s2 k2 => ?_)))))))
  refine wpAny_standIf (wpAny_bind (again k2 fun acc s3 k3 => wpAny_bind (wpAny_pure (wpAny_bind (again k3 fun ce s4 k4 => ?_)))))
  obtain ⟨fr, k4⟩ := k4
  dsimp only
  have see : ∀ y ∈ (scope.names.filter fun y => (y.2 == .local || y.2 == .cell) && y.1 != (".0" : Str)).reverse, y.2 = .local → Env.kindOf { ce with scope := relabel scope env } y.1 = some .local := fun y hy hl =>
    lookup_relabel_local (c5 y (List.mem_filter.mp (List.mem_reverse.mp hy)).1 hl)
  refine wpAny_holding (wpAny_bind (wpAny_attempt (wpAny_holding (wpAny_run (codeAny_mono k4 fun r t k5 => ?_)))))
  cases r with
  | ok f =>
    obtain ⟨m, n5, k6⟩ := k5
    exact wpAny_bind (wpAny_holding (wpAny_comp_letGo (cenv := { ce with scope := relabel scope env }) c4 _ t m see n5 fun h' m' _ z => wpAny_pure (k6 h' z)))
  | error x =>
    obtain ⟨m, n5, k6⟩ := k5
    exact wpAny_bind (wpAny_holding (wpAny_comp_letGo (cenv := { ce with scope := relabel scope env }) c4 _ t m see n5 fun h' m' _ z => wpAny_mono (k6 h' z _ rfl fr) (fun _ _ f => f.elim) fun _ _ y => y))
end
section
variable {M : Model} {A : Around} {E : Value → Shared → Prop} {s : Shared} {Z : Obj → Prop} {base : Heap} {env : Env} {outer : List Env} {L e : Addr}
/-- a frame is noted behind another one -/
theorem look_fromZ {fl : Value} {Q : Unit → Shared → Prop} (hZ : HandSPX.Steady Z) (fr : A.frames = some (env :: outer)) (ef : env.frame = some L) (b1 : base.StaysIn s.heap) (b2 : base.get? e = none) (b3 : s.heap.FunFrames base (env :: outer))
    (tr : HandSPX.TracedZ s.heap base e Z fl) (ne : (fl == rawInt L) = false) (hQ : ∀ h', HandSPX.HeldZ base (env :: outer) e Z L h' → s.heap.UpToSlots h' → Q () { s with heap := h' }) : wpAny M A (noteFrame (.ref e) env) Q E s := by
  obtain ⟨oe, vs, T, oT, ts, he, hz, hd, h1, hnT, hTe, hT, hdT, h3⟩ := tr
  unfold noteFrame
  simp only [ef]
  refine wpAny_bind (wpAny_field he hd h1 ?_)
  rw [if_pos (by simp : (Value.ref T != Value.none) = true)]
  refine wpAny_bind (wpAny_field hT hdT h3 ?_)
  rw [if_neg (by rw [ne]; exact Bool.false_ne_true : ¬ ((fl == rawInt L) = true))]
  refine wpAny_bind (wpAny_setField hT hdT (Array.getElem?_eq_some_iff.mp h3).1 ?_)
  have off : ∀ b, b ≠ T → (s.heap.update T (Obj.mapFields (·.setIfInBounds 3 Value.none))).get? b = s.heap.get? b := fun b n => Heap.get?_update_other _ _ n.symm
  have plain : ∀ b o, s.heap.get? b = some o → (∀ v, o.data ≠ .fields v) → b ≠ T := fun b o g n q => by
    rw [q, hT] at g
    cases g
    exact n ts hdT
  refine HandSPX.wpAny_entryZ hZ fr (b3.of_keeps fun b o g n => ⟨o, (off b (plain b o g n)).trans g, rfl⟩) ef ((off e hTe.symm).trans he)
    (fun b o g => (off b fun q => by rw [q, hnT] at g; cases g).trans (b1 b o g)) b2 hd (Array.getElem?_eq_some_iff.mp h1).1 hz fun h' nt => ?_
  obtain ⟨x1, x2, x3, x4⟩ := nt
  exact hQ h' ⟨x1, b2, x2, x3⟩ fun b o g n => x4 b o ((off b (plain b o g n)).trans g) n
theorem funFrames_off {base base' h h' : Heap} {C : Addr} (k : ∀ b o, b ≠ C → h.get? b = some o → h'.get? b = some o) (kb : ∀ b, base.get? b = none → base'.get? b = none) : ∀ {l : List Env}, h.FunFrames base l → C ∉ frs l → h'.FunFrames base' l
  | [], _, _ => trivial
  | env :: l, ff, nC => by
    obtain ⟨hk, ⟨L, o, hf, hb, ho, hd⟩, hr⟩ := ff
    have nL : L ≠ C := fun z => nC (List.mem_filterMap.mpr ⟨env, List.mem_cons_self, by rw [hf, z]⟩)
    exact ⟨hk, ⟨L, o, hf, kb L hb, k L o nL ho, hd⟩, funFrames_off k kb hr fun m => by
      obtain ⟨e, he, q⟩ := List.mem_filterMap.mp m
      exact nC (List.mem_filterMap.mpr ⟨e, List.mem_cons_of_mem _ he, q⟩)⟩
end
/-- the context of a block that may raise -/
abbrev blkX (X : Cx) (s : Shared) (H : Hp) (scope : Scope) (ce : Env) (fp : List Addr) (xe : Value → Shared → Prop) : Cx := { X.blk s H scope ce fp with xe := xe }
theorem blkX_inv {X : Cx} {s : Shared} {H : Hp} {scope : Scope} {ce : Env} {fp : List Addr} {xe : Value → Shared → Prop} {pins : List (Addr × Obj)} {σ : L2.St} {H' : Hp} {t : Shared} (I : Inv (X.blk s H scope ce fp) pins σ H' t) : Inv (blkX X s H scope ce fp xe) pins σ H' t :=
  ⟨⟨I.ok.mod, I.ok.kind, I.ok.glob, I.ok.blt, I.ok.above, I.ok.inj, I.ok.has, I.ok.cab, I.ok.hd, I.ok.frames, I.ok.stk, I.ok.exf, I.ok.bs, I.ok.bsz, I.ok.noex, I.ok.exfs, I.ok.funs, I.ok.frf⟩, I.os, I.bare, I.base, I.loc, I.cell, I.free, I.freeC, I.pin, I.hok, I.len⟩
/-- an error leaves a block -/
theorem blk_err {X : Cx} {pins0 : List (Addr × Obj)} {σ : L2.St} {H3 : Hp} {s3 : Shared} {scope : Scope} {ce : Env} {fp : List Addr} {xe : Value → Shared → Prop} {Eo : XK} {Q : Value → Shared → Prop} {acc u : Value} {t : Shared} {E1 : Value → Shared → Prop}
    (hs : X.stack = X.env :: X.outer) (hf : X.env.frame = some X.env.locals) (I3 : Inv X pins0 σ H3 s3) (f3 : ∀ b ∈ fp, FpOk X pins0 H3 b) (cL : ce.locals = s3.heap.objs.size) (cf : ce.frame = X.env.frame)
    (tk : Takes X fun c d _ H => Eo c d H) (x : XE (blkX X s3 H3 scope ce fp xe) (fun c d _ H => Eo c d H) u t) :
    wpAny (model X.prog X.w) X.A (noteFrame u ce) (fun _ t' => PostX (model X.prog X.w) X.A X.xe X.env Q acc s3.heap.objs.size (.error u) t') E1 t := by
  obtain ⟨a, B, sI, pins, σ', H', cls, d, rfl, I, nb, up, sky, na, os, ag, w⟩ := x
  have fr : X.A.frames = some (X.env :: X.outer) := by rw [I3.ok.frames, hs]
  have J : Inv X pins0 σ H' sI := I3.call' (ch := fp) I.os I.base I.hok I.bare fun b hb => ⟨(f3 b hb).2.2.2.1, (f3 b hb).2.1, (f3 b hb).2.2.2.2.1, (f3 b hb).2.2.2.2.2⟩
  have free : H' ce.locals = none := I.free
  obtain ⟨m, ns, -⟩ := I.loc
  have ns : sI.heap.Ns ce.locals m := ns
  rw [cL] at free ns
  generalize hC : s3.heap.objs.size = C at free ns cL ⊢
  have fC : FpOk X pins0 H' C := I3.fpOk (Nat.le_of_eq hC) free
  have Cst : C ∉ frs X.stack := by
    rw [hs]
    intro z
    obtain ⟨v, hv, q⟩ := List.mem_filterMap.mp z
    rcases List.mem_cons.mp hv with rfl | hv
    · rw [hf] at q
      exact fC.2.1 (Option.some.inj q).symm
    · exact fC.2.2.1 (List.mem_filterMap.mpr ⟨v, hv, q⟩)
  obtain ⟨oC, es, ep, gC, rC⟩ := ns
  have bC : B.get? C = some oC := nb C oC gC Cst
  have en : (noteFrame (.ref a) ce : Sem Unit) = noteFrame (.ref a) X.env := by
    unfold noteFrame PySem.frameOf
    rw [cf]
  rw [en]
  have go : ∀ h1, HandSPX.HeldZ B (X.env :: X.outer) a (Zc cls d) X.env.locals h1 → t.heap.UpToSlots h1 → PostX (model X.prog X.w) X.A X.xe X.env Q acc C (.error (.ref a)) { t with heap := h1 } := fun h1 hh up1 => by
    obtain ⟨b1, b2, b3, oe, vs, T, oT, ts, he, hz, hd, h1', hnT, hTe, hT, hdT, h3⟩ := hh
    refine ⟨m, ⟨oC, es, ep, b1 _ _ bC, rC⟩, fun h' sb ce' e1 e2 => ?_⟩
    have aC : a ≠ C := fun z => by rw [z, bC] at b2; cases b2
    have TC : T ≠ C := fun z => by rw [z, bC] at hnT; cases hnT
    have off : ∀ b o, b ≠ C → h1.get? b = some o → h'.get? b = some o := fun b o n g => (sb.2 b n).trans g
    have hid : ∀ b, B.get? b = none → (PySem.W.hideAll B [C]).get? b = none := fun b g => by
      cases q : (PySem.W.hideAll B [C]).get? b with
      | none => rfl
      | some o => rw [PySem.W.of_hideAll _ q] at g; cases g
    have hidC : ∀ {h : Heap} {b o}, (PySem.W.hideAll h [C]).get? b = some o → b ≠ C := fun {h b o} g z => by
      rw [z, PySem.W.hideAll_none [C] (List.mem_singleton_self C)] at g
      cases g
    unfold PySem.passOn
    refine wpAny_bind (wpAny_field (off a oe aC he) hd h1' ?_)
    rw [if_neg (by simp : ¬ ((Value.ref T == Value.none) = true))]
    have fin : wpAny (model X.prog X.w) X.A (setFlight (.ref a) ce'.frame) (fun _ u4 => wpAny (model X.prog X.w) X.A (throw (.ref a) : Sem Value) (fun _ _ => False) X.xe u4) X.xe { t with heap := h' } := by
      rw [e2, hf]
      refine HandSPX.setFlight_anyZ (base := PySem.W.hideAll B [C]) (l := X.env :: X.outer) (Z := Zc cls d) (fl := rawInt X.env.locals) (fun b o g => off b o (hidC g) (b1 b o (PySem.W.of_hideAll _ g))) (funFrames_off off hid b3 (by rw [← hs]; exact Cst))
        ⟨oe, vs, T, oT, ts, off a oe aC he, hz, hd, h1', hid T hnT, hTe, off T oT TC hT, hdT, h3⟩ fun h4 k1 k2 k3 k4 => wpAny_throw (tk _ _ ?_)
      have J' : Inv X pins0 σ H' { sI with heap := PySem.W.hideAll sI.heap [C], toks := sI.toks } := J.turned (it := C) (fun b o n g => PySem.W.hideAll_get [C] g (fun z => n (List.mem_singleton.mp z))) free fC.2.1 fC.2.2.2.1 fC.2.2.2.2.1 fC.2.2.2.2.2
      refine ⟨a, PySem.W.hideAll B [C], _, pins0, σ, H', cls, d, rfl, J', fun b o g n => ?_, fun b o g nf => ?_, .inr (.inr (by rw [hs]; exact ⟨k1, hid a b2, k2, k3⟩)), na, os, ag, w⟩
      · exact PySem.W.hideAll_get [C] (nb b o (PySem.W.of_hideAll _ g) n) fun z => hidC g (List.mem_singleton.mp z)
      · have bn := hidC g
        obtain ⟨l1, g1⟩ := up b o (PySem.W.of_hideAll _ g) nf
        obtain ⟨l2, g2⟩ := up1 b _ g1 nf
        obtain ⟨l4, g4⟩ := k4 b _ (off b _ bn g2) nf
        exact ⟨l4, g4⟩
    first
      | exact wpAny_bind (wpAny_pure (wpAny_bind fin))
      | exact wpAny_bind fin
  rw [hs] at sky
  rcases sky with ⟨hB, hn, hl, oe, vs, he, hz, hd, h1⟩ | fl | hh
  · exact HandSPX.look_newZ Zc.steady fr hl hf he hB hn hd h1 hz go
  · exact HandSPX.looks_onZ Zc.steady fr hf fl go
  · obtain ⟨b1, b2, b3, b4⟩ := hh
    refine look_fromZ Zc.steady fr hf b1 b2 b3 b4 ?_ go
    have ne : ce.locals ≠ X.env.locals := by rw [cL]; exact fC.2.1
    simp [rawInt]
    exact fun z => ne (Int.ofNat.inj z)
/-- [elt for tg in iter if ..], of which elt may raise -/
theorem pe_lcX {X : Cx} {elt tg iter : Expr} {ifs : List Expr} {scope : Scope} {own : List (Str × Nat)} {pos : Pos} {wi : TI} {g : TG} {tt : TT} {te : XK → TE} {Eo : XK} (tk : Takes X fun c d _ H => Eo c d H) (es : X.stack = X.env :: X.outer) (ef : X.env.frame = some X.env.locals) (hc : X.calm = true)
    (hN : X.N.Nodup) (hi : PI X tg iter wi) (ok : BlkOk X.N X.env.scope scope own) (hg : ∀ (s : Shared) (H : Hp) (C : Addr) (cl : List (Str × Addr)) (fp : List Addr) (xe : Value → Shared → Prop), PG (blkX X s H scope (compEnvC scope cl C X.env) fp xe) tg g)
    (ht : ∀ (s : Shared) (H : Hp) (C : Addr) (cl : List (Str × Addr)) (fp : List Addr) (xe : Value → Shared → Prop), PTs (blkX X s H scope (compEnvC scope cl C X.env) fp xe) ifs tt)
    (he : ∀ (s : Shared) (H : Hp) (C : Addr) (cl : List (Str × Addr)) (fp : List Addr) (xe : Value → Shared → Prop) (E : XK), Takes (blkX X s H scope (compEnvC scope cl C X.env) fp xe) (fun c d _ H => E c d H) → PE (blkX X s H scope (compEnvC scope cl C X.env) fp xe) elt (te E))
    (hset : ∀ x, foldedSetIterable iter X.env x = pure x := by intro _; rfl) : PE X (.ListComp elt [⟨tg, iter, ifs, 0⟩] scope pos) (tLc wi g tt (te Eo) (own.map (·.2))) := by
  refine ⟨fun pins s σ H Q I h => ?_⟩
  rw [eval_ListComp]
  have clo : ∀ y ∈ scope.names, y.2 = .free → ∃ c, X.env.cells.lookup y.1 = some c := fun y hy e => (ok.free y hy e).elim (fun k => I.ok.has _ (.inl k)) fun k => I.ok.has _ (.inr k)
  refine compX rfl hset (closure_ok clo) ok.kind (fun y hy z => by rw [ok.uniq y hy, z]) (thn (hi.run pins s σ H _ I h) fun xv t1 hx => thn hx fun itv t2 h2 => ?_)
  obtain ⟨it, fp, tn, J, H2, e, I2, T, st2, f2, q⟩ := h2
  subst e
  refine wpAny_newObj_type (newEnv_comp ⟨rfl, ?_⟩) (by show 0 ≤ sizeLine; decide)
  generalize eD : t2.heap.objs.size = D
  obtain ⟨W, ⟨m0, w0⟩, turn⟩ := q D (I2.hok.fresh (Nat.le_of_eq eD))
  generalize e3 : ({ t2 with heap := t2.heap.push { cls := .type "list", data := .seq ([] : List Value).toArray } } : Shared) = t3
  have g3 : t3.heap = t2.heap.push { cls := .type "list", data := .seq ([] : List Value).toArray } := by rw [← e3]
  have I3 : Inv X pins σ (upd H2 D (.lst [])) t3 := by
    rw [← e3]
    refine I2.laid (t' := t2.toks) (fun b o g => Heap.get?_push_of_some _ g) (Nat.le_of_eq eD) ⟨Nat.zero_le _, [], 0, .nil, ?_⟩
    rw [← eD]
    exact Heap.get?_push_size _ rfl
  have lt2 : ∀ b ∈ fp, b < t2.heap.objs.size := fun b hb => let ⟨o, e, _⟩ := T.obj _ _ st2 b hb; Heap.lt_size e
  have f3 : ∀ b ∈ fp, FpOk X pins (upd H2 D (.lst [])) b ∧ b < t3.heap.objs.size := fun b hb => by
    have hl := lt2 b hb
    refine ⟨⟨?_, (f2 b hb).2⟩, by rw [g3, Heap.size_push]; exact Nat.lt_succ_of_lt hl⟩
    rw [upd_ne (by rw [← eD]; exact Nat.ne_of_lt hl)]
    exact (f2 b hb).1
  have st3 : tn 0 t3.heap := T.keep _ _ _ st2 fun b _ o g => by rw [g3]; exact Heap.get?_push_of_some _ g
  have I4 := block_start I3 ok hN f3
  have pg := hg t3 (upd H2 D (.lst [])) t3.heap.objs.size (cellsFrom (t3.heap.objs.size + 1) scope.names (cloFrom X.env.cells scope.names [])) fp
  have pt := ht t3 (upd H2 D (.lst [])) t3.heap.objs.size (cellsFrom (t3.heap.objs.size + 1) scope.names (cloFrom X.env.cells scope.names [])) fp
  have pe := he t3 (upd H2 D (.lst [])) t3.heap.objs.size (cellsFrom (t3.heap.objs.size + 1) scope.names (cloFrom X.env.cells scope.names [])) fp
  show codeAny _ _ (.compStart (.ListComp elt [⟨tg, iter, ifs, 0⟩] scope pos) 0 (.ref it) (.ref D) (compEnvC scope (cellsFrom (t3.heap.objs.size + 1) scope.names (cloFrom X.env.cells scope.names [])) t3.heap.objs.size X.env)) (PostX (model X.prog X.w) X.A X.xe X.env (EP X pins σ Q) (.ref D) t3.heap.objs.size) { t3 with heap := pushCells (t3.heap.push { cls := .type "dict", data := .dict #[] }) scope.names }
  have nfp : ∀ b ∈ fp, (upd H2 D (.lst [])) b = none := fun b hb => (f3 b hb).1.1
  generalize ece : compEnvC scope (cellsFrom (t3.heap.objs.size + 1) scope.names (cloFrom X.env.cells scope.names [])) t3.heap.objs.size X.env = ce at I4 pg pt pe ⊢
  have cL : ce.locals = t3.heap.objs.size := by subst ece; rfl
  have cf : ce.frame = X.env.frame := by subst ece; rfl
  generalize eH3 : upd H2 D (.lst []) = H3 at I3 I4 pg pt pe w0 nfp f3
  generalize e4 : ({ t3 with heap := pushCells (t3.heap.push { cls := .type "dict", data := .dict #[] }) scope.names } : Shared) = t4 at I4 ⊢
  have st4 : tn 0 t4.heap := T.keep _ _ _ st3 fun b _ o g => by rw [← e4]; exact pushCells_keeps _ _ _ _ (Heap.get?_push_of_some _ g)
  let R := PostX (model X.prog X.w) X.A X.xe X.env (EP X pins σ Q) (.ref D) t3.heap.objs.size
  let xe := notedBy (model X.prog X.w) X.A ce fun e t' => R (.error e) t'
  have tkb : Takes (blkX X t3 H3 scope ce fp xe) (fun c d _ H => Eo c d H) := fun u t x => blk_err (pins0 := pins) (xe := xe) es ef I3 (fun b hb => (f3 b hb).1) cL cf tk x
  have pg := pg xe
  have pt := pt xe
  have pe := pe xe Eo tkb
  have I4 : Inv (blkX X t3 H3 scope ce fp xe) [] (wipe σ (own.map (·.2))) H3 t4 := blkX_inv I4
  have stat : ∀ {σ' : L2.St} {H' : Hp} {t' : Shared}, Inv (blkX X t3 H3 scope ce fp xe) [] σ' H' t' → (∀ b ∈ fp, H' b = none) → ∀ b ∈ fp, FpOk (blkX X t3 H3 scope ce fp xe) [] H' b := fun {σ' H' t'} I' hn b hb =>
    ⟨hn b hb, (I'.ok.exf b hb).1, I'.ok.exfs b hb, .inl hb, fun x c e => (I'.ok.exf b hb).2 x c e, fun p hp => absurd (show p ∈ ([] : List (Addr × Obj)) ++ [] from hp) (by simp)⟩
  have loop : codeAny (model X.prog X.w) X.A (.compLoop (.ListComp elt [⟨tg, iter, ifs, 0⟩] scope pos) 0 (.ref it) (.ref D) ce) R t4 := by
    refine compLoop_any (fun n t' => ∃ i H', Inv (blkX X t3 H3 scope ce fp xe) [] (wipe σ (own.map (·.2))) H' t' ∧ tn i t'.heap ∧ (∀ b ∈ fp, H' b = none) ∧ W i n H') ?_ m0 ⟨0, H3, I4, st4, nfp, w0⟩
    rintro n t5 ⟨i, H5, I5, st5, n5, w5⟩
    rcases turn i n H5 w5 with ⟨stop, qq⟩ | ⟨go, Nx, hNx, step⟩
    · have td := T.done (blkX X t3 H3 scope ce fp xe) rfl rfl rfl hc i [] t5 _ H5 (fun _ _ => False) I5 (stat I5 n5) st5 stop
      refine thnF td fun r t6 ⟨hr, I6⟩ => ?_
      subst hr
      have I7 : Inv X pins σ H5 t6 := I3.call' (ch := fp) I6.os I6.base I6.hok I6.bare fun b hb => ⟨(f3 b hb).1.2.2.2.1, (f3 b hb).1.2.1, (f3 b hb).1.2.2.2.2.1, (f3 b hb).1.2.2.2.2.2⟩
      have nC : H5 t3.heap.objs.size = none := cL ▸ (show H5 ce.locals = none from I6.free)
      obtain ⟨m, hn, -⟩ := I6.loc
      have hn : t6.heap.Ns ce.locals m := hn
      rw [cL] at hn
      obtain ⟨a0, a1, a2, a3, a4, a5⟩ := I3.fpOk (Nat.le_refl _) nC
      exact ⟨m, hn, fun h' sb => ⟨.ref D, H5, I7.turned (t' := t6.toks) (fun b o n g => (sb.2 b n).trans g) a0 a1 a3 a4 a5, rfl, qq⟩⟩
    · have ti := T.item (blkX X t3 H3 scope ce fp xe) rfl rfl rfl hc i [] t5 _ H5 (fun _ _ => False) I5 (stat I5 n5) st5 go
      refine thnF ti fun r t6 ⟨u, hr, h6⟩ => ?_
      subst hr
      refine thnF h6 fun _ t7 ⟨x, H7, I7, r7, y7, st7, n7⟩ => ?_
      refine thn (pg.run _ t7 _ H7 x u _ (I7.pinned (stat I7 n7) (T.obj _ _ st7)) r7 (step x H7 y7)) fun _ t8 ⟨σ8, H8, I8, hw8, q8⟩ => ?_
      refine thn (pt.run _ t8 σ8 H8 _ I8 q8) fun b t9 ⟨H9, I9, q9⟩ => ?_
      have fin : ∀ {t' : Shared} {H' : Hp}, Inv (blkX X t3 H3 scope ce fp xe) ([] ++ pinsAt fp t7.heap) σ8 H' t' → Nx H' → ∃ m, m < n ∧ ∃ i H', Inv (blkX X t3 H3 scope ce fp xe) [] (wipe σ (own.map (·.2))) H' t' ∧ tn i t'.heap ∧ (∀ b ∈ fp, H' b = none) ∧ W i m H' := fun {t' H'} I' nx => by
        obtain ⟨m', hm, w'⟩ := hNx H' nx
        have pn : ∀ b ∈ fp, ∀ o, t7.heap.get? b = some o → t'.heap.get? b = some o ∧ H' b = none := fun b hb o g =>
          let z := I'.pin (b, o) (List.mem_append_right _ (List.mem_append_right _ (mem_pinsAt hb g))); ⟨z.1, z.2.1⟩
        have el : (wipe σ (own.map (·.2))).length = σ8.length := by rw [← hw8, wipe_length]
        refine ⟨m', hm, i + 1, H', (I'.unpinned (pins := [])).weak el (fun j v g => ?_), T.keep _ _ _ st7 fun b hb o g => (pn b hb o g).1, fun b hb => ?_, w'⟩
        · rw [← hw8] at g
          exact (wipe_some g).1
        · obtain ⟨o, g, _⟩ := T.obj _ _ st7 b hb
          exact (pn b hb o g).2
      cases b with
      | false =>
        simp only [Bool.false_eq_true, if_false] at q9 ⊢
        exact fin I9 q9
      | true =>
        simp only [if_true] at q9 ⊢
        refine thn (pe.run _ t9 σ8 H9 _ I9 q9) fun z t10 ⟨yv, H10, I10, r10, acc, hD10, hz10, nx⟩ => ?_
        exact app_ok (X := blkX X t3 H3 scope ce fp xe) I10 hD10 hz10 r10 fun t11 I11 => fin I11 nx
  exact codeAny_compStart_list loop (T.self X.A 0 _ _ _ st4 loop)
end G
namespace G
open PySem PySem.Spec PySem.Calls PyProof.Rows L2 He
/-! ### texts -/
/-- a text by its signs -/
abbrev Sg (l : List Nat) : Str := ⟨l.toArray⟩
theorem Sg_tl (l : List Nat) : TL.tl (Sg l) = l := rfl
theorem Sg_of (z : Str) : z = Sg (TL.tl z) := (TL.mk_tl z).symm
theorem Sg_inj {a b : List Nat} : Sg a = Sg b ↔ a = b := ⟨fun h => by have := congrArg TL.tl h; exact this, fun h => by rw [h]⟩
theorem Sg_add (a b : List Nat) : Sg a ++ Sg b = Sg (a ++ b) := TL.ext_tl (by rw [TL.tl_append])
theorem Sg_len (a : List Nat) : (Sg a).length = a.length := by rw [TL.len_tl]
theorem Sg_eq {a b : List Nat} : decide (Sg a = Sg b) = decide (a = b) := by
  by_cases h : a = b
  · rw [decide_eq_true h, decide_eq_true (Sg_inj.mpr h)]
  · rw [decide_eq_false h, decide_eq_false fun z => h (Sg_inj.mp z)]
def cutL (l : List Nat) (lo hi : Option Int) : List Nat := (l.drop (HT.sIx l.length 0 lo)).take (HT.sIx l.length l.length hi - HT.sIx l.length 0 lo)
theorem cutS_S {l : List Nat} {lo hi : Option Int} : cutS (Sg l) lo hi = Sg (cutL l lo hi) := by
  unfold cutS cutL
  rw [show (Sg l).length = l.length from Sg_len l]
theorem cutL_to {l : List Nat} {k : Nat} : cutL l none (some (k : Int)) = l.take k := by
  unfold cutL
  rw [HT.sIx_none, HT.sIx_nat, List.drop_zero, Nat.sub_zero]
  by_cases h : k ≤ l.length
  · rw [Nat.min_eq_left h]
  · rw [Nat.min_eq_right (by omega), List.take_length, List.take_of_length_le (by omega)]
theorem cutL_from {l : List Nat} {k : Nat} : cutL l (some (k : Int)) none = l.drop k := by
  unfold cutL
  rw [HT.sIx_none, HT.sIx_nat]
  by_cases h : k ≤ l.length
  · rw [Nat.min_eq_left h, List.take_of_length_le (by rw [List.length_drop]; omega)]
  · rw [Nat.min_eq_right (by omega), Nat.sub_self, List.take_zero, List.drop_eq_nil_of_le (by omega)]
theorem cutL_to1 {l : List Nat} : cutL l none (some 1) = l.take 1 := cutL_to (k := 1)
theorem cutL_from1 {l : List Nat} : cutL l (some 1) none = l.drop 1 := cutL_from (k := 1)
section
variable {X : Cx} {K : PySem.W.Frag} {σ : L2.St} {H : Hp} {Q : VK} {D : Ends} {g : TG} {tb : TS}
/-- a text so many times -/
def repL (l : List Nat) : Nat → List Nat
  | 0 => []
  | n + 1 => l ++ repL l n
theorem repL_len {l : List Nat} : ∀ {n : Nat}, (repL l n).length = n * l.length
  | 0 => by rw [Nat.zero_mul]; rfl
  | n + 1 => by
    show (l ++ repL l n).length = _
    rw [List.length_append, repL_len, Nat.succ_mul, Nat.add_comm]
theorem rep_fold : ∀ {n : Nat} {a : Array Nat} {l : List Nat}, ((List.replicate n l.toArray).foldl (· ++ ·) a).toList = a.toList ++ repL l n
  | 0, a, l => by
    rw [show repL l 0 = [] from rfl, List.append_nil]
    rfl
  | n + 1, a, l => by
    show ((List.replicate n l.toArray).foldl (· ++ ·) (a ++ l.toArray)).toList = _
    rw [rep_fold, Array.toList_append, List.append_assoc]
    rfl
def gRepS : R2
  | .str z, .int n, H, Q => 0 ≤ n ∧ n ≤ 1000 ∧ z.length ≤ 1000 ∧ Q (.str (Sg (repL (TL.tl z) n.toNat))) H
  | _, _, _, _ => False
theorem op_gRepS : OpR X (binaryOp .Mult) gRepS := by
  intro pins s σ H x y v u Q I rx ry h
  unfold gRepS at h
  split at h
  · rename_i z n
    obtain ⟨h0, h1, h2, q⟩ := h
    obtain ⟨t, rfl⟩ := rx
    obtain ⟨t', rfl⟩ := ry
    rcases Int.lt_or_le n 1 with c | c
    · obtain rfl : n = 0 := by omega
      exact PySem.P.mul_str_none (by decide) (by decide) ⟨.str Str.empty, _, I.tok _, ⟨_, rfl⟩, q⟩
    · obtain ⟨m, rfl⟩ := Int.eq_ofNat_of_zero_le h0
      refine PySem.P.mul_str (by rw [Bool.or_eq_false_iff]; exact ⟨decide_eq_false (by omega), decide_eq_false (by omega)⟩) (fun _ _ => ?_) (fun _ _ => ?_) ?_
      · have : (1000 : Int) ≤ (2 ^ 63 - 1) / (m : Int) := (Int.le_ediv_iff_mul_le (by omega)).mpr (by omega)
        omega
      · rw [Int.toNat_natCast]
        have : z.length * m ≤ 1000 * 1000 := Nat.mul_le_mul h2 (by omega)
        have sz : sizeLine = 16777216 := sizeLine_eq
        exact decide_eq_false (by omega)
      · rw [if_neg (by omega)]
        have e1 : (⟨(List.replicate m z.cps).foldl (· ++ ·) #[]⟩ : Str) = Sg (repL (TL.tl z) m) := TL.ext_tl (by
          have := rep_fold (n := m) (a := #[]) (l := z.cps.toList)
          rw [Array.toArray_toList] at this
          exact this)
        rw [Int.toNat_natCast] at q ⊢
        split
        · rename_i c2
          have e2 : z = Sg (repL (TL.tl z) m) := by
            rw [Bool.or_eq_true] at c2
            rcases c2 with c2 | c2
            · obtain rfl : m = 1 := by
                have := of_decide_eq_true c2
                omega
              exact TL.ext_tl (by show TL.tl z = TL.tl z ++ []; rw [List.append_nil])
            · have c2 : z.length = 0 := by simpa using c2
              rw [TL.len_tl] at c2
              refine TL.ext_tl ?_
              have e : (repL (TL.tl z) m).length = 0 := by rw [repL_len, c2, Nat.mul_zero]
              rw [List.eq_nil_of_length_eq_zero c2]
              rw [List.eq_nil_of_length_eq_zero c2] at e
              exact (List.eq_nil_of_length_eq_zero e).symm
          rw [← e2] at q
          exact ⟨.str z, _, I, ⟨_, rfl⟩, q⟩
        · rw [e1]
          refine ⟨?_, .str _, _, I.tok _, ⟨_, rfl⟩, q⟩
          have sz : sizeLine = 16777216 := sizeLine_eq
          have : m * (TL.tl z).length ≤ 1000 * 1000 := Nat.mul_le_mul (by omega) (by rw [← TL.len_tl]; exact h2)
          rw [Sg_len, repL_len]
          omega
  · exact h.elim
theorem r_repS {l : List Nat} {n : Int} : gRepS (.str (Sg l)) (.int n) H Q = (0 ≤ n ∧ n ≤ 1000 ∧ (Sg l).length ≤ 1000 ∧ Q (.str (Sg (repL l n.toNat))) H) := rfl
/-- a sign in a text -/
def gInS : R2 := fun x y H Q => ∃ (c : Nat) (z : Str), x = .str ⟨#[c]⟩ ∧ y = .str z ∧ Q (.bl (decide (c ∈ z.cps.toList))) H
def gNinS : R2 := fun x y H Q => ∃ (c : Nat) (z : Str), x = .str ⟨#[c]⟩ ∧ y = .str z ∧ Q (.bl (!decide (c ∈ z.cps.toList))) H
theorem op_gInS : OpR X (compareOp .In) gInS := op_in_sign
theorem op_gNinS : OpR X (compareOp .NotIn) gNinS := op_notIn_sign
theorem r_inS {c : Nat} {z : Str} : gInS (.str ⟨#[c]⟩) (.str z) H Q = Q (.bl (decide (c ∈ TL.tl z))) H := propext ⟨fun ⟨_, _, e, e', q⟩ => by cases e; cases e'; exact q, fun q => ⟨c, z, rfl, rfl, q⟩⟩
theorem r_ninS {c : Nat} {z : Str} : gNinS (.str ⟨#[c]⟩) (.str z) H Q = Q (.bl (!decide (c ∈ TL.tl z))) H := propext ⟨fun ⟨_, _, e, e', q⟩ => by cases e; cases e'; exact q, fun q => ⟨c, z, rfl, rfl, q⟩⟩
/-- x in a written tuple of flat things -/
theorem r_inT {a : Addr} {xs : List V} {x : V} (h : H a = some (.tup xs)) (fx : flatV x = true) (fs : xs.all flatV = true) (q : Q (.bl (inV x xs)) H) : rInG K false x (.ref a) H Q := .inl ⟨a, xs, rfl, .inr (.inl (.inl h)), fx, fs, by rw [if_neg Bool.false_ne_true]; exact q⟩
theorem r_ninT {a : Addr} {xs : List V} {x : V} (h : H a = some (.tup xs)) (fx : flatV x = true) (fs : xs.all flatV = true) (q : Q (.bl (!inV x xs)) H) : rInG K true x (.ref a) H Q := .inl ⟨a, xs, rfl, .inr (.inl (.inl h)), fx, fs, by rw [if_pos (rfl : true = true)]; exact q⟩
theorem r_inL {a : Addr} {xs : List V} {x : V} (h : SqL K H a xs) (fx : flatV x = true) (fs : xs.all flatV = true) (q : Q (.bl (inV x xs)) H) : rIn K false x (.ref a) H Q := ⟨a, xs, rfl, .inl h, fx, fs, by rw [if_neg Bool.false_ne_true]; exact q⟩
theorem r_ninL {a : Addr} {xs : List V} {x : V} (h : SqL K H a xs) (fx : flatV x = true) (fs : xs.all flatV = true) (q : Q (.bl (!inV x xs)) H) : rIn K true x (.ref a) H Q := ⟨a, xs, rfl, .inl h, fx, fs, by rw [if_pos (rfl : true = true)]; exact q⟩
/-- for c in a text -/
theorem x_str {te : TE} {R : It → Hp → Prop} : iStr te σ H R = te σ H fun v H1 => ∃ x, v = .str x ∧ R (Its x) H1 := rfl
theorem x_strE {z : Str} {P : Str → Prop} : (∃ x, V.str z = V.str x ∧ P x) = P z := propext ⟨fun ⟨_, e, q⟩ => by cases e; exact q, fun q => ⟨z, rfl, q⟩⟩
theorem forW_str {l : List Nat} (Pv : Nat → L2.St → Hp → Prop) (h0 : Pv 0 σ H) (hs : ∀ (i c : Nat) σ H, l[i]? = some c → Pv i σ H → g (.str (Sg [c])) σ H fun σ2 H2 => tb { D with nx := Pv (i + 1), ct := Pv (i + 1), bk := D.nx } σ2 H2)
    (hd : ∀ σ H, Pv l.length σ H → D.nx σ H) : ForW (Its (Sg l)) g tb D σ H :=
  for_it (walk_str (z := Sg l)) Pv h0 (fun _ _ _ _ _ => trivial) (fun i x σ H H' hi p y => by
    obtain ⟨rfl, c, e, rfl⟩ := y
    exact hs i c σ _ (by simpa using e) p) (by simpa using hd)
/-! ### calls -/
def gIntS : List V → Hp → VK → Prop := fun xs H Q => ∃ a n, xs = [.str a] ∧ PySem.intText? a = some n ∧ a.length ≤ 640 ∧ Q (.int n) H
theorem call_gIntS : CallR X (.type "int") gIntS := call_int_str
def gStrI : List V → Hp → VK → Prop
  | [.int i], H, Q => i.natAbs.log2 < 1920 ∧ Q (.str (toString i)) H
  | _, _, _ => False
theorem call_gStrI : CallR X (.type "str") gStrI := by
  intro pins s σ H xs us Q I r h
  unfold gStrI at h
  split at h
  · exact call_str_int pins s σ _ _ us Q I r ⟨_, rfl, h.1, h.2⟩
  · exact h.elim
theorem r_strI {i : Int} (h : i.natAbs.log2 < 1920) (q : Q (.str (Str.ofString (toString i))) H) : gStrI [.int i] H Q := ⟨h, q⟩
def rTupG (K : PySem.W.Frag) : List V → Hp → VK → Prop := fun xs H Q => ∃ p ys, xs = [.ref p] ∧ ((SqL K H p ys ∧ ∀ l, H l = none → Q (.ref l) (upd H l (.tup ys))) ∨ (SqT K H p ys ∧ Q (.ref p) H))
theorem call_tupK (hK : X.K = K) : CallR X (.type "tuple") (rTupG K) := hK ▸ call_tuple_of
def rJoin (K : PySem.W.Frag) : V → List V → Hp → VK → Prop := fun x xs H Q => ∃ a p, ∃ ys : List Str, x = .str a ∧ xs = [.ref p] ∧ (SqL K H p (ys.map V.str) ∨ SqT K H p (ys.map V.str)) ∧ (ys.map (·.length)).sum + ys.length * a.length ≤ 16777216 ∧ Q (.str (Txt.join a ys)) H
theorem mt_joinK (hK : X.K = K) : MtR X "str.join" (rJoin K) := hK ▸ mt_join
def rSplit : V → List V → Hp → VK → Prop := fun x xs H Q => ∃ a b, x = .str a ∧ xs = [.str b] ∧ (b.length == 0) = false ∧ a.length + 2 ≤ sizeLine ∧ rNewStrs (Txt.split a b) H Q
theorem mt_splitG : MtR X "str.split" rSplit := mt_split
def rFindS : V → List V → Hp → VK → Prop := fun x xs H Q => ∃ a b, x = .str a ∧ xs = [.str b] ∧ Q (.int (Txt.find a b)) H
theorem mt_findG : MtR X "str.find" rFindS := mt_find
theorem mt_indexK (hK : X.K = K) : MtR X "list.index" (rIndex K) := hK ▸ mt_index
/-- texts by their signs -/
def SgL (ps : List (List Nat)) : List V := ps.map fun p => V.str (Sg p)
theorem r_split {l : List Nat} {c : Nat} (hc : c < 256) (hz : l.length + 2 ≤ sizeLine) (q : ∀ p, H p = none → Q (.ref p) (upd H p (.lst (SgL (TL.spl [c] 0 [] l))))) : rSplit (.str (Sg l)) [.str (Sg [c])] H Q := by
  refine ⟨_, _, rfl, rfl, rfl, by rw [Sg_len]; exact hz, fun p hp => ?_⟩
  have e := TL.split_spl (Sg l) (Sg [c]) (by simp) (TL.kind_ok (by simp [hc]))
  have e2 : (Txt.split (Sg l) (Sg [c])).map V.str = SgL (TL.spl [c] 0 [] l) := by
    have e : (Txt.split (Sg l) (Sg [c])).map TL.tl = TL.spl [c] 0 [] l := e
    rw [← e]
    unfold SgL
    rw [List.map_map]
    refine List.map_congr_left fun z _ => ?_
    show V.str z = V.str (Sg (TL.tl z))
    rw [← Sg_of]
  rw [e2]
  exact q p hp
theorem r_join {sep : List Nat} {ps : List (List Nat)} {p : Addr} (h : SqL K H p (SgL ps)) (hz : (ps.map List.length).sum + ps.length * sep.length ≤ 16777216) (q : Q (.str (Sg (TL.joinL sep ps))) H) : rJoin K (.str (Sg sep)) [.ref p] H Q := by
  refine ⟨_, p, ps.map Sg, rfl, rfl, .inl (by rw [List.map_map]; exact h), ?_, ?_⟩
  · rw [List.map_map, List.length_map, Sg_len, show ((·.length) ∘ Sg : List Nat → Nat) = List.length from funext fun l => Sg_len l]
    exact hz
  · have e : Txt.join (Sg sep) (ps.map Sg) = Sg (TL.joinL sep ps) := TL.ext_tl (by
      rw [TL.join_eq, TL.tl_join, List.map_map, show (TL.tl ∘ Sg) = (id : List Nat → List Nat) from rfl, List.map_id])
    rw [e]
    exact q
theorem r_ixStr {l : List Nat} {i c : Nat} (hz : l.length ≤ sizeLine) (e : l[i]? = some c) (q : Q (.str (Sg [c])) H) : rIx K (.str (Sg l)) (.int (i : Int)) H Q :=
  .inr (.inr ⟨_, _, c, rfl, rfl, by rw [Sg_len]; exact hz, atI_nat e, q⟩)
theorem r_lenStr {l : List Nat} : (q : l.length ≤ sizeLine ∧ Q (.int (l.length : Int)) H) → L2.rLen K [.str (Sg l)] H Q := fun q => ⟨_, _, rfl, by show (Sg l).length ≤ sizeLine ∧ _ = (Sg l).length; rw [Sg_len]; exact ⟨q.1, rfl⟩, q.2⟩
theorem r_slStr {l : List Nat} {lo hi : Option Int} (hz : l.length ≤ sizeLine) (q : Q (.str (Sg (cutL l lo hi))) H) : rSlS (.str (Sg l)) lo hi H Q := ⟨_, rfl, by rw [Sg_len]; exact hz, by rw [cutS_S]; exact q⟩
theorem r_tupL {a : Addr} {xs : List V} (h : SqL K H a xs) (q : ∀ l, H l = none → Q (.ref l) (upd H l (.tup xs))) : rTupG K [.ref a] H Q := ⟨a, xs, rfl, .inl ⟨h, q⟩⟩
end
end G
namespace G
open PySem PySem.Spec PySem.Calls PyProof.Rows L2 He
/-! ### suites of some statements -/
section
variable {X : Addr → List (Addr × Obj) → Cx} {st : Stmt} {rest a b : List Stmt} {t u : TS} {tc : TT} {c : Expr} {pos : Pos}
theorem su_nil : ∀ x y, PSs (X x y) [] tNext := fun _ _ => pss_nil
theorem su_one (h : ∀ x y, PS (X x y) st t) : ∀ x y, PSs (X x y) [st] t := fun x y => pss_one (h x y)
theorem su_cons (h1 : ∀ x y, PS (X x y) st t) (h2 : ∀ x y, PSs (X x y) rest u) : ∀ x y, PSs (X x y) (st :: rest) (tSeq t u) := fun x y => pss_cons (h1 x y) (h2 x y)
theorem su_if (h : ∀ x y, PT (X x y) c tc) (h1 : ∀ x y, PSs (X x y) a t) (h2 : ∀ x y, PSs (X x y) b u) : ∀ x y, PS (X x y) (.If c a b pos) (tIfS tc t u) := fun x y => ps_if (h x y) (h1 x y) (h2 x y)
end
theorem pe_isTK {X : Cx} {K : PySem.W.Frag} {a : Expr} {es : List Expr} {x1} {ta : TE} {tc : TA} {p tp pos : Pos} (hK : X.K = K) (hg : Gl X "isinstance") (hm : X.mg "isinstance" = none) (ha : PE X a ta) (hc : PA X es tc)
    (he : starEach [a, .Tuple es x1 tp] X.env = [(false, eval a X.env), (false, eval (.Tuple es x1 tp) X.env)] := by rfl) : PE X (.Call (.Name "isinstance" p) [a, .Tuple es x1 tp] [] pos) (tIsT K ta tc) := by
  subst hK
  exact pe_isT hg hm ha hc he
end G
namespace G
open PySem PySem.Spec PySem.Calls PyProof.Rows L2 He
/-! ### a written dict -/
section
variable {σ : L2.St} {H : Hp} {Q : VK} {K : PySem.W.Frag}
theorem x_disp {trs : List (TE × TE)} : tDisp trs σ H Q = ∀ p, H p = none → tPairs trs σ (upd H p (.dK [])) fun ps H2 => H2 p = some (.dK []) ∧ ∃ kvs : List (Key × V), ps = kvs.map (fun kv => (kV kv.1, kv.2)) ∧ kvs.length ≤ 15 ∧ Q (.ref p) (upd H2 p (.dK (mergeK [] kvs))) := rfl
theorem x_pnil {R : List (V × V) → Hp → Prop} : tPairs [] σ H R = R [] H := rfl
theorem x_pcons {tk tv : TE} {r : List (TE × TE)} {R : List (V × V) → Hp → Prop} : tPairs ((tk, tv) :: r) σ H R = tk σ H fun x H1 => tv σ H1 fun y H2 => tPairs r σ H2 fun ps H3 => R ((x, y) :: ps) H3 := rfl
theorem r_lenT {a : Addr} {xs : List V} (h : H a = some (.tup xs)) (q : Q (.int (xs.length : Int)) H) : L2.rLen K [.ref a] H Q := ⟨_, _, rfl, .inr ⟨_, .inl (.inl h), rfl⟩, q⟩
theorem call_maxK {X : Cx} {K : PySem.W.Frag} (hK : X.K = K) (hc : X.calm = true) : CallR X (.builtin "max") (rMax K) := hK ▸ cr_max hc
theorem call_minK {X : Cx} {K : PySem.W.Frag} (hK : X.K = K) (hc : X.calm = true) : CallR X (.builtin "min") (rMin K) := hK ▸ cr_min hc
end
end G
namespace G
open PySem PySem.Spec PySem.Calls PyProof.Rows L2 He
/-! ### d.get(x), x None too -/
/-- a dict of ints and texts, seen with keys that may be None -/
theorem leaf_map {P : Program} {w : World} {h : Heap} {a : Addr} {vs : List (Key × Value)} (d : h.DictOf (mixKind P w) a vs) : ∃ f, h.MapOf (leafKind P w) a f ∧ f .none = none := by
  obtain ⟨o, es, ep, h1, h2, h3, h4, -, -⟩ := d
  refine ⟨fun k => findBy (leafKind P w).is es k, ⟨o, es, ep, h1, h2, h3, fun e m => ?_, fun k => rfl⟩, ?_⟩
  · obtain ⟨k, hk, hh⟩ := h4 e m
    cases k with
    | inl i =>
      obtain ⟨t, et⟩ := Value.isInt_shape (k := i) (v := e.key) hk
      exact ⟨.num i, by rw [et]; exact decide_eq_true rfl, hh⟩
    | inr x => exact ⟨.text x, hk, hh⟩
  · show (Array.find? (fun e => (leafKind P w).is .none e.key) es).map (·.val) = none
    rw [Array.find?_eq_none.mpr fun e m => ?_]
    · rfl
    · obtain ⟨k, hk, -⟩ := h4 e m
      rcases keyIs_shape hk with ⟨i, t, -, e2⟩ | ⟨x, t, -, e2⟩ <;> (rw [e2]; exact Bool.false_ne_true)
theorem d_getN {X : Cx} {pins : List (Addr × Obj)} {σ : L2.St} {H : Hp} {s : Shared} {a : Addr} {kvs : List (Key × V)} {A : Around} {E : Value → Shared → Prop} {Q : Value → Shared → Prop} (I : Inv X pins σ H s) (e : Rd H a (.dK kvs)) (h : ∀ s', Inv X pins σ H s' → Q .none s') :
    wpAny (model X.prog X.w) A (call (.builtin "dict.get") [.ref a, .none]) Q E s := by
  obtain ⟨z, hd, vs, rel, dd⟩ := dk_rd I.hok e
  obtain ⟨f, fm, fn⟩ := leaf_map dd
  refine call_meetsIn PySem.F.slot_dict_get dd.typeIs PySem.F.entry_dict_get (PySem.F.args_dict_get_2 _ _) (meets_dict_get (leafKind X.prog X.w) (k := .none) (key := .none) a rfl hd) ⟨f, fm, ?_⟩
  rw [fn]
  exact h _ (I.tok _)
def tDGetN (td ty : TE) : TE := fun σ H Q => td σ H fun x H1 => ∃ a, x = .ref a ∧ IsD H1 a ∧ ty σ H1 fun y H2 => (y = .non ∧ (∃ kvs, Rd H2 a (.dK kvs)) ∧ Q .non H2) ∨ ∃ o, DGet H2 a y o ∧ Q (o.getD .non) H2
theorem pe_dgetN {X : Cx} {o e : Expr} {apos cpos : Pos} {td ty : TE} (hu : X.A.units + 1 < cLine) (ho : PE X o td) (he : PE X e ty) (m : M1 X o "get" apos e cpos) : PE X (.Call (.Attribute o "get" apos) [e] [] cpos) (tDGetN td ty) := by
  refine ⟨fun pins s σ H Q I h => ?_⟩
  refine wpAny_Call_method m.base m.few m.line PySem.F.plainAttrs_dict PySem.F.slot_dict_get PySem.F.type_dict_get (thn (ho.run pins s σ H _ I h) fun u s1 ⟨x, H1, I1, rx, a, ex, d, q1⟩ => ?_)
  subst ex
  obtain rfl : u = Value.ref a := rx
  obtain ⟨t1, t2, _⟩ := isD_at I1 d
  refine ⟨t1, t2, ?_⟩
  rw [m.trees]
  refine Calls.callWith_builtin rfl (Calls.evalArgs_plain (Calls.spliced_cons (thn (he.run pins s1 σ H1 _ I1 q1) fun iv s2 ⟨y, H2, I2, ry, q2⟩ => Calls.spliced_nil ?_)))
  rcases q2 with ⟨rfl, ⟨kvs, rd⟩, q2⟩ | ⟨ov, g, q2⟩
  · obtain rfl : iv = Value.none := ry
    exact d_getN I2 rd fun s3 I3 => ⟨.non, H2, I3, rfl, q2⟩
  · exact d_get1 hu I2 g ry fun w' s3 I3 rw' => ⟨_, H2, I3, rw', q2⟩
theorem x_dgetN {σ : L2.St} {H : Hp} {Q : VK} {td ty : TE} : tDGetN td ty σ H Q = td σ H fun x H1 => ∃ a, x = .ref a ∧ IsD H1 a ∧ ty σ H1 fun y H2 => (y = .non ∧ (∃ kvs, Rd H2 a (.dK kvs)) ∧ Q .non H2) ∨ ∃ o, DGet H2 a y o ∧ Q (o.getD .non) H2 := rfl
end G
namespace Pr
open PySem PySem.Spec PyProof.Rows L2 G
local macro_rules | `(tactic| walk_at "x") => `(tactic| try simp only [↓x_var0, ↓x_varS, ↓x_c, ↓x_op, ↓x_un, ↓x_cb, ↓x_nil, ↓x_cons, ↓x_test, ↓x_b, ↓x_ex, ↓x_and, ↓x_or, ↓x_not, ↓x_andV, ↓x_orV, ↓x_notV, ↓x_tif, ↓x_chain, ↓x_menu, ↓x_menuI, ↓x_lst, ↓x_tup, ↓x_dnew, ↓x_callW, ↓x_callN, ↓x_seq, ↓x_next, ↓x_ret, ↓x_retN, ↓x_drop, ↓x_ifS, ↓x_asg, ↓x_name, ↓x_raise, ↓x_fld, ↓x_setF, ↓x_meth, ↓x_make, ↓x_sub, ↓r_min, ↓r_max, ↓x_yes, ↓x_for, ↓x_lock, ↓x_keys, ↓x_cut, ↓x_lc, ↓x_rng1, ↓x_rng2, ↓x_lst1, ↓x_itup, ↓x_rng3, ↓x_three, ↓x_lstg, ↓x_tupg, ↓x_adrS, ↓x_one, ↓x_two, ↓x_adr, ↓x_sl, ↓x_np, ↓x_pt, ↓x_int, ↓x_bm, ↓x_bm0, ↓x_consg, ↓x_nilg, ↓x_dget2, ↓x_dget1, ↓x_dgetN, ↓x_dget, ↓x_din, ↓x_dni, ↓x_dput, ↓x_dpop2, ↓r_isB, ↓r_notB, ↓x_enum, ↓x_zip, ↓x_str, ↓x_strE, ↓r_inS, ↓r_ninS, wipe, List.map_cons, List.map_nil, ↓x_isT, ↓r_isiII, ↓r_isiBB, ↓r_isiIB, ↓r_isiSS, ↓r_neNS, ↓r_neSN, ↓r_neNN, ↓r_eqNS, ↓r_eqSN, ↓r_eqNN, ↓r_eqIS, ↓r_neIS, ↓r_neSI, ↓r_neBS, ↓r_eqBB, ↓r_neBB, ↓x_start, ↓x_K, ↓x_start0, ↓r_i0, ↓r_i, ↓r_u, ↓r_addI, ↓r_addS, ↓r_mulI, ↓r_mulS, ↓r_eqI, ↓r_neI, ↓r_eqS, ↓r_neS, ↓r_absI, ↓r_intI, ↓r_intB, List.length_cons, List.length_nil, List.replicate, List.set_cons_zero, List.set_cons_succ, decide_eq_true_eq, Bool.not_eq_true', decide_eq_false_iff_not, if_true, if_false, Bool.false_eq_true, Bool.true_eq_false, ite_true, ite_false, Bool.not_true, Bool.not_false, c_div, n_ten, c_pow, not_true_eq_false, not_false_eq_true, decide_true, decide_false, true_and, and_true, and_self, true_or, or_true, Int.reduceLT, Int.reduceLE, Int.reduceMul, Int.reduceAdd, Int.reduceSub, Int.reducePow, Int.reduceNeg, Int.reduceDiv, Int.reduceMod, Nat.reducePow, Int.reduceToNat, Int.reduceEq, Int.reduceNe, Nat.reduceLT, Nat.reduceLeDiff, Nat.reduceAdd])

/-! ## the text by places -/
def top (i : Nat) : Stmt := PySem.Challenge.pw_cellkeep_k12_whole_young.main.body.getD i (.Pass ⟨0, 0, 0, 0⟩)
abbrev s__wall : Stmt := top 0
abbrev s_is_whole : Stmt := top 16
abbrev s_number_word : Stmt := top 17
abbrev s_place_word : Stmt := top 18
abbrev s_kind : Stmt := top 19
abbrev s_worth : Stmt := top 20
abbrev s_need_slots : Stmt := top 24
abbrev s_lay : Stmt := top 25
abbrev s_head_of : Stmt := top 26
abbrev s_slots_of : Stmt := top 27
abbrev s_age_of : Stmt := top 28
abbrev s_words_of : Stmt := top 29
abbrev s_aged : Stmt := top 30
abbrev s_slot_place : Stmt := top 31
abbrev s_send : Stmt := top 32
abbrev s_sent_to : Stmt := top 33
abbrev s_copied : Stmt := top 35
abbrev s_moved : Stmt := top 36
abbrev s_carried : Stmt := top 38
abbrev s_carry_place : Stmt := top 39
abbrev s_slot_places : Stmt := top 40
abbrev s_carry_all : Stmt := top 41
abbrev s_settle_names : Stmt := top 42
abbrev s_settle_lasts : Stmt := top 43
abbrev s_note : Stmt := top 44
abbrev s_collect_young : Stmt := top 45
abbrev s_Memory___init__ : Stmt := inClass (top 48) 0
abbrev s_Memory_need : Stmt := inClass (top 48) 1
abbrev s_Memory_read : Stmt := inClass (top 48) 2
abbrev s_Memory_write : Stmt := inClass (top 48) 3
abbrev s_Memory_need_stretch : Stmt := inClass (top 48) 4
abbrev s_Memory_copy : Stmt := inClass (top 48) 5
abbrev s_Space___init__ : Stmt := inClass (top 50) 0
abbrev s_Space_room : Stmt := inClass (top 50) 1
abbrev s_Space_used : Stmt := inClass (top 50) 2
abbrev s_Space_has : Stmt := inClass (top 50) 3
abbrev s_Space_take : Stmt := inClass (top 50) 4
abbrev s_Space_empty : Stmt := inClass (top 50) 5
abbrev s_Space_cut : Stmt := inClass (top 50) 6
abbrev s_Space_cells : Stmt := inClass (top 50) 7
abbrev s_Areas___init__ : Stmt := inClass (top 56) 0
abbrev s_Areas_flip : Stmt := inClass (top 56) 1
abbrev s_Areas_area_of : Stmt := inClass (top 56) 2
abbrev s_Areas_lay_young : Stmt := inClass (top 56) 3
abbrev s_Areas_lay_old : Stmt := inClass (top 56) 4
abbrev s_Book___init__ : Stmt := inClass (top 58) 0
abbrev s_Book_write : Stmt := inClass (top 58) 1
abbrev s_Book_rub : Stmt := inClass (top 58) 2
abbrev s_Book_has : Stmt := inClass (top 58) 3
abbrev s_Book_places : Stmt := inClass (top 58) 4
abbrev s_Book_clear : Stmt := inClass (top 58) 5
abbrev s_Hands___init__ : Stmt := inClass (top 61) 0
abbrev s_Hands_need : Stmt := inClass (top 61) 1
abbrev s_Hands_get : Stmt := inClass (top 61) 2
abbrev s_Hands_put : Stmt := inClass (top 61) 3
abbrev s_Hands_row : Stmt := inClass (top 61) 4
abbrev s_Lasts___init__ : Stmt := inClass (top 63) 0
abbrev s_Lasts_give : Stmt := inClass (top 63) 1
abbrev s_Lasts_need : Stmt := inClass (top 63) 2
abbrev s_Lasts_move : Stmt := inClass (top 63) 3
abbrev s_Lasts_say : Stmt := inClass (top 63) 4
abbrev s_Lasts_pending : Stmt := inClass (top 63) 5
abbrev s_Lasts_said : Stmt := inClass (top 63) 6
abbrev s_Weak___init__ : Stmt := inClass (top 65) 0
abbrev s_Weak_name : Stmt := inClass (top 65) 1
abbrev s_Weak_need : Stmt := inClass (top 65) 2
abbrev s_Weak_at : Stmt := inClass (top 65) 3
abbrev s_Weak_need_there : Stmt := inClass (top 65) 4
abbrev s_Weak_move : Stmt := inClass (top 65) 5
abbrev s_Weak_gone : Stmt := inClass (top 65) 6
abbrev s_Weak_names : Stmt := inClass (top 65) 7
abbrev s_Roots___init__ : Stmt := inClass (top 67) 0
abbrev s_Roots_starts : Stmt := inClass (top 67) 1
abbrev s__law_at : Stmt := top 69
abbrev s__law_whole : Stmt := top 70
abbrev s__law_word : Stmt := top 71
abbrev s__law_thing : Stmt := top 72
abbrev s__law_laid : Stmt := top 73
abbrev s__law_put : Stmt := top 74
abbrev s__law_held : Stmt := top 75
abbrev s__law_built : Stmt := top 76
abbrev s__law_order : Stmt := top 77
abbrev s__law_went : Stmt := top 78
abbrev s__law_stands : Stmt := top 79
abbrev s__law_collected : Stmt := top 80
abbrev s_law : Stmt := top 81
def F_Memory (v0 v1 : V) : List (Str × V) := [("size", v0), ("words", v1)]
theorem pi_Memory_size {x  : V} : putF "size" x ([] : List (Str × V)) = ([("size", x)] : List (Str × V)) := rfl
theorem pf_Memory_size {x v0 v1 : V} : putF "size" x (F_Memory v0 v1) = F_Memory x v1 := rfl
theorem pi_Memory_words {x v0 : V} : putF "words" x ([("size", v0)] : List (Str × V)) = F_Memory v0 x := rfl
theorem pf_Memory_words {x v0 v1 : V} : putF "words" x (F_Memory v0 v1) = F_Memory v0 x := rfl
def F_Space (v0 v1 v2 : V) : List (Str × V) := [("begin", v0), ("end", v1), ("top", v2)]
theorem pi_Space_begin {x  : V} : putF "begin" x ([] : List (Str × V)) = ([("begin", x)] : List (Str × V)) := rfl
theorem pf_Space_begin {x v0 v1 v2 : V} : putF "begin" x (F_Space v0 v1 v2) = F_Space x v1 v2 := rfl
theorem pi_Space_end {x v0 : V} : putF "end" x ([("begin", v0)] : List (Str × V)) = ([("begin", v0), ("end", x)] : List (Str × V)) := rfl
theorem pf_Space_end {x v0 v1 v2 : V} : putF "end" x (F_Space v0 v1 v2) = F_Space v0 x v2 := rfl
theorem pi_Space_top {x v0 v1 : V} : putF "top" x ([("begin", v0), ("end", v1)] : List (Str × V)) = F_Space v0 v1 x := rfl
theorem pf_Space_top {x v0 v1 v2 : V} : putF "top" x (F_Space v0 v1 v2) = F_Space v0 v1 x := rfl
def F_Areas (v0 v1 v2 v3 : V) : List (Str × V) := [("memory", v0), ("old", v1), ("young", v2), ("spare", v3)]
theorem pi_Areas_memory {x  : V} : putF "memory" x ([] : List (Str × V)) = ([("memory", x)] : List (Str × V)) := rfl
theorem pf_Areas_memory {x v0 v1 v2 v3 : V} : putF "memory" x (F_Areas v0 v1 v2 v3) = F_Areas x v1 v2 v3 := rfl
theorem pi_Areas_old {x v0 : V} : putF "old" x ([("memory", v0)] : List (Str × V)) = ([("memory", v0), ("old", x)] : List (Str × V)) := rfl
theorem pf_Areas_old {x v0 v1 v2 v3 : V} : putF "old" x (F_Areas v0 v1 v2 v3) = F_Areas v0 x v2 v3 := rfl
theorem pi_Areas_young {x v0 v1 : V} : putF "young" x ([("memory", v0), ("old", v1)] : List (Str × V)) = ([("memory", v0), ("old", v1), ("young", x)] : List (Str × V)) := rfl
theorem pf_Areas_young {x v0 v1 v2 v3 : V} : putF "young" x (F_Areas v0 v1 v2 v3) = F_Areas v0 v1 x v3 := rfl
theorem pi_Areas_spare {x v0 v1 v2 : V} : putF "spare" x ([("memory", v0), ("old", v1), ("young", v2)] : List (Str × V)) = F_Areas v0 v1 v2 x := rfl
theorem pf_Areas_spare {x v0 v1 v2 v3 : V} : putF "spare" x (F_Areas v0 v1 v2 v3) = F_Areas v0 v1 v2 x := rfl
def F_Book (v0 : V) : List (Str × V) := [("marks", v0)]
theorem pi_Book_marks {x  : V} : putF "marks" x ([] : List (Str × V)) = F_Book  x := rfl
theorem pf_Book_marks {x v0 : V} : putF "marks" x (F_Book v0) = F_Book x := rfl
def F_Hands (v0 : V) : List (Str × V) := [("kept", v0)]
theorem pi_Hands_kept {x  : V} : putF "kept" x ([] : List (Str × V)) = F_Hands  x := rfl
theorem pf_Hands_kept {x v0 : V} : putF "kept" x (F_Hands v0) = F_Hands x := rfl
def F_Lasts (v0 v1 : V) : List (Str × V) := [("waiting", v0), ("spoken", v1)]
theorem pi_Lasts_waiting {x  : V} : putF "waiting" x ([] : List (Str × V)) = ([("waiting", x)] : List (Str × V)) := rfl
theorem pf_Lasts_waiting {x v0 v1 : V} : putF "waiting" x (F_Lasts v0 v1) = F_Lasts x v1 := rfl
theorem pi_Lasts_spoken {x v0 : V} : putF "spoken" x ([("waiting", v0)] : List (Str × V)) = F_Lasts v0 x := rfl
theorem pf_Lasts_spoken {x v0 v1 : V} : putF "spoken" x (F_Lasts v0 v1) = F_Lasts v0 x := rfl
def F_Weak (v0 : V) : List (Str × V) := [("told", v0)]
theorem pi_Weak_told {x  : V} : putF "told" x ([] : List (Str × V)) = F_Weak  x := rfl
theorem pf_Weak_told {x v0 : V} : putF "told" x (F_Weak v0) = F_Weak x := rfl
def F_Roots (v0 v1 v2 v3 : V) : List (Str × V) := [("hands", v0), ("book", v1), ("weaks", v2), ("lasts", v3)]
theorem pi_Roots_hands {x  : V} : putF "hands" x ([] : List (Str × V)) = ([("hands", x)] : List (Str × V)) := rfl
theorem pf_Roots_hands {x v0 v1 v2 v3 : V} : putF "hands" x (F_Roots v0 v1 v2 v3) = F_Roots x v1 v2 v3 := rfl
theorem pi_Roots_book {x v0 : V} : putF "book" x ([("hands", v0)] : List (Str × V)) = ([("hands", v0), ("book", x)] : List (Str × V)) := rfl
theorem pf_Roots_book {x v0 v1 v2 v3 : V} : putF "book" x (F_Roots v0 v1 v2 v3) = F_Roots v0 x v2 v3 := rfl
theorem pi_Roots_weaks {x v0 v1 : V} : putF "weaks" x ([("hands", v0), ("book", v1)] : List (Str × V)) = ([("hands", v0), ("book", v1), ("weaks", x)] : List (Str × V)) := rfl
theorem pf_Roots_weaks {x v0 v1 v2 v3 : V} : putF "weaks" x (F_Roots v0 v1 v2 v3) = F_Roots v0 v1 x v3 := rfl
theorem pi_Roots_lasts {x v0 v1 v2 : V} : putF "lasts" x ([("hands", v0), ("book", v1), ("weaks", v2)] : List (Str × V)) = F_Roots v0 v1 v2 x := rfl
theorem pf_Roots_lasts {x v0 v1 v2 v3 : V} : putF "lasts" x (F_Roots v0 v1 v2 v3) = F_Roots v0 v1 v2 x := rfl
/-! ## the facts -/
def fa : List He.Fa := [.glo "KeepError", .glo "BadNumber", .glo "BadWord", .glo "BadCount", .glo "NoPlace", .glo "NoRoom", .glo "NoSlot", .glo "NoCell", .glo "NoHand", .glo "NoName", .glo "Memory", .glo "Space", .glo "Areas", .glo "Book", .glo "Hands", .glo "Lasts", .glo "Weak", .glo "Roots", .glo "_wall", .glo "is_whole", .glo "number_word", .glo "place_word", .glo "kind", .glo "worth", .glo "need_slots", .glo "lay", .glo "head_of", .glo "slots_of", .glo "age_of", .glo "words_of", .glo "aged", .glo "slot_place", .glo "send", .glo "sent_to", .glo "copied", .glo "moved", .glo "carried", .glo "carry_place", .glo "slot_places", .glo "carry_all", .glo "settle_names", .glo "settle_lasts", .glo "note", .glo "collect_young", .glo "_law_at", .glo "_law_whole", .glo "_law_word", .glo "_law_thing", .glo "_law_laid", .glo "_law_put", .glo "_law_held", .glo "_law_built", .glo "_law_order", .glo "_law_went", .glo "_law_stands", .glo "_law_collected", .glo "law", .int "MOST_NUMBER" (1000000000000), .int "MOST_PLACE" (9999), .int "NOTHING" (-1), .int "MOST_SLOTS" (8), .int "MOST_AGE" (2), .int "MOST_SIZE" (4000), .int "LEAST_OLD" (4), .int "MOST_OLD" (2000), .int "LEAST_YOUNG" (2), .int "MOST_YOUNG" (500), .int "MOST_HANDS" (6), .free "isinstance", .free "len", .free "abs", .free "range", .free "sorted", .free "enumerate", .free "zip", .free "sum", .free "int", .free "bool", .free "list", .free "tuple", .free "ValueError", .exc "KeepError", .exc "BadNumber", .exc "BadWord", .exc "BadCount", .exc "NoPlace", .exc "NoRoom", .exc "NoSlot", .exc "NoCell", .exc "NoHand", .exc "NoName", .cls "Memory", .mkr "Memory", .meth "Memory" "need", .meth "Memory" "read", .meth "Memory" "write", .meth "Memory" "need_stretch", .meth "Memory" "copy", .noat "Memory" "size", .noat "Memory" "words", .cls "Space", .mkr "Space", .meth "Space" "room", .meth "Space" "used", .meth "Space" "has", .meth "Space" "take", .meth "Space" "empty", .meth "Space" "cut", .meth "Space" "cells", .noat "Space" "begin", .noat "Space" "end", .noat "Space" "top", .cls "Areas", .mkr "Areas", .meth "Areas" "flip", .meth "Areas" "area_of", .meth "Areas" "lay_young", .meth "Areas" "lay_old", .noat "Areas" "memory", .noat "Areas" "old", .noat "Areas" "young", .noat "Areas" "spare", .cls "Book", .mkr "Book", .meth "Book" "write", .meth "Book" "rub", .meth "Book" "has", .meth "Book" "places", .meth "Book" "clear", .noat "Book" "marks", .cls "Hands", .mkr "Hands", .meth "Hands" "need", .meth "Hands" "get", .meth "Hands" "put", .meth "Hands" "row", .noat "Hands" "kept", .cls "Lasts", .mkr "Lasts", .meth "Lasts" "give", .meth "Lasts" "need", .meth "Lasts" "move", .meth "Lasts" "say", .meth "Lasts" "pending", .meth "Lasts" "said", .noat "Lasts" "waiting", .noat "Lasts" "spoken", .cls "Weak", .mkr "Weak", .meth "Weak" "name", .meth "Weak" "need", .meth "Weak" "at", .meth "Weak" "need_there", .meth "Weak" "move", .meth "Weak" "gone", .meth "Weak" "names", .noat "Weak" "told", .cls "Roots", .mkr "Roots", .meth "Roots" "starts", .noat "Roots" "hands", .noat "Roots" "book", .noat "Roots" "weaks", .noat "Roots" "lasts"]
def d__wall : He.DefD := ⟨("_wall", none), "_wall", "_wall", defArgs s__wall, defBody s__wall, defScope s__wall, [], []⟩
def d_is_whole : He.DefD := ⟨("is_whole", none), "is_whole", "is_whole", defArgs s_is_whole, defBody s_is_whole, defScope s_is_whole, [], []⟩
def d_number_word : He.DefD := ⟨("number_word", none), "number_word", "number_word", defArgs s_number_word, defBody s_number_word, defScope s_number_word, [], []⟩
def d_place_word : He.DefD := ⟨("place_word", none), "place_word", "place_word", defArgs s_place_word, defBody s_place_word, defScope s_place_word, [], []⟩
def d_kind : He.DefD := ⟨("kind", none), "kind", "kind", defArgs s_kind, defBody s_kind, defScope s_kind, [], []⟩
def d_worth : He.DefD := ⟨("worth", none), "worth", "worth", defArgs s_worth, defBody s_worth, defScope s_worth, [], []⟩
def d_need_slots : He.DefD := ⟨("need_slots", none), "need_slots", "need_slots", defArgs s_need_slots, defBody s_need_slots, defScope s_need_slots, [], []⟩
def d_lay : He.DefD := ⟨("lay", none), "lay", "lay", defArgs s_lay, defBody s_lay, defScope s_lay, [], []⟩
def d_head_of : He.DefD := ⟨("head_of", none), "head_of", "head_of", defArgs s_head_of, defBody s_head_of, defScope s_head_of, [], []⟩
def d_slots_of : He.DefD := ⟨("slots_of", none), "slots_of", "slots_of", defArgs s_slots_of, defBody s_slots_of, defScope s_slots_of, [], []⟩
def d_age_of : He.DefD := ⟨("age_of", none), "age_of", "age_of", defArgs s_age_of, defBody s_age_of, defScope s_age_of, [], []⟩
def d_words_of : He.DefD := ⟨("words_of", none), "words_of", "words_of", defArgs s_words_of, defBody s_words_of, defScope s_words_of, [], []⟩
def d_aged : He.DefD := ⟨("aged", none), "aged", "aged", defArgs s_aged, defBody s_aged, defScope s_aged, [], []⟩
def d_slot_place : He.DefD := ⟨("slot_place", none), "slot_place", "slot_place", defArgs s_slot_place, defBody s_slot_place, defScope s_slot_place, [], []⟩
def d_send : He.DefD := ⟨("send", none), "send", "send", defArgs s_send, defBody s_send, defScope s_send, [], []⟩
def d_sent_to : He.DefD := ⟨("sent_to", none), "sent_to", "sent_to", defArgs s_sent_to, defBody s_sent_to, defScope s_sent_to, [], []⟩
def d_copied : He.DefD := ⟨("copied", none), "copied", "copied", defArgs s_copied, defBody s_copied, defScope s_copied, [], []⟩
def d_moved : He.DefD := ⟨("moved", none), "moved", "moved", defArgs s_moved, defBody s_moved, defScope s_moved, [], []⟩
def d_carried : He.DefD := ⟨("carried", none), "carried", "carried", defArgs s_carried, defBody s_carried, defScope s_carried, [], []⟩
def d_carry_place : He.DefD := ⟨("carry_place", none), "carry_place", "carry_place", defArgs s_carry_place, defBody s_carry_place, defScope s_carry_place, [], []⟩
def d_slot_places : He.DefD := ⟨("slot_places", none), "slot_places", "slot_places", defArgs s_slot_places, defBody s_slot_places, defScope s_slot_places, [], []⟩
def d_carry_all : He.DefD := ⟨("carry_all", none), "carry_all", "carry_all", defArgs s_carry_all, defBody s_carry_all, defScope s_carry_all, [], []⟩
def d_settle_names : He.DefD := ⟨("settle_names", none), "settle_names", "settle_names", defArgs s_settle_names, defBody s_settle_names, defScope s_settle_names, [], []⟩
def d_settle_lasts : He.DefD := ⟨("settle_lasts", none), "settle_lasts", "settle_lasts", defArgs s_settle_lasts, defBody s_settle_lasts, defScope s_settle_lasts, [], []⟩
def d_note : He.DefD := ⟨("note", none), "note", "note", defArgs s_note, defBody s_note, defScope s_note, [], []⟩
def d_collect_young : He.DefD := ⟨("collect_young", none), "collect_young", "collect_young", defArgs s_collect_young, defBody s_collect_young, defScope s_collect_young, [], []⟩
def d_Memory___init__ : He.DefD := ⟨("Memory", some "__init__"), "__init__", "Memory.__init__", defArgs s_Memory___init__, defBody s_Memory___init__, defScope s_Memory___init__, [], []⟩
def d_Memory_need : He.DefD := ⟨("Memory", some "need"), "need", "Memory.need", defArgs s_Memory_need, defBody s_Memory_need, defScope s_Memory_need, [], []⟩
def d_Memory_read : He.DefD := ⟨("Memory", some "read"), "read", "Memory.read", defArgs s_Memory_read, defBody s_Memory_read, defScope s_Memory_read, [], []⟩
def d_Memory_write : He.DefD := ⟨("Memory", some "write"), "write", "Memory.write", defArgs s_Memory_write, defBody s_Memory_write, defScope s_Memory_write, [], []⟩
def d_Memory_need_stretch : He.DefD := ⟨("Memory", some "need_stretch"), "need_stretch", "Memory.need_stretch", defArgs s_Memory_need_stretch, defBody s_Memory_need_stretch, defScope s_Memory_need_stretch, [], []⟩
def d_Memory_copy : He.DefD := ⟨("Memory", some "copy"), "copy", "Memory.copy", defArgs s_Memory_copy, defBody s_Memory_copy, defScope s_Memory_copy, [], []⟩
def d_Space___init__ : He.DefD := ⟨("Space", some "__init__"), "__init__", "Space.__init__", defArgs s_Space___init__, defBody s_Space___init__, defScope s_Space___init__, [], []⟩
def d_Space_room : He.DefD := ⟨("Space", some "room"), "room", "Space.room", defArgs s_Space_room, defBody s_Space_room, defScope s_Space_room, [], []⟩
def d_Space_used : He.DefD := ⟨("Space", some "used"), "used", "Space.used", defArgs s_Space_used, defBody s_Space_used, defScope s_Space_used, [], []⟩
def d_Space_has : He.DefD := ⟨("Space", some "has"), "has", "Space.has", defArgs s_Space_has, defBody s_Space_has, defScope s_Space_has, [], []⟩
def d_Space_take : He.DefD := ⟨("Space", some "take"), "take", "Space.take", defArgs s_Space_take, defBody s_Space_take, defScope s_Space_take, [], []⟩
def d_Space_empty : He.DefD := ⟨("Space", some "empty"), "empty", "Space.empty", defArgs s_Space_empty, defBody s_Space_empty, defScope s_Space_empty, [], []⟩
def d_Space_cut : He.DefD := ⟨("Space", some "cut"), "cut", "Space.cut", defArgs s_Space_cut, defBody s_Space_cut, defScope s_Space_cut, [], []⟩
def d_Space_cells : He.DefD := ⟨("Space", some "cells"), "cells", "Space.cells", defArgs s_Space_cells, defBody s_Space_cells, defScope s_Space_cells, [], []⟩
def d_Areas___init__ : He.DefD := ⟨("Areas", some "__init__"), "__init__", "Areas.__init__", defArgs s_Areas___init__, defBody s_Areas___init__, defScope s_Areas___init__, [], []⟩
def d_Areas_flip : He.DefD := ⟨("Areas", some "flip"), "flip", "Areas.flip", defArgs s_Areas_flip, defBody s_Areas_flip, defScope s_Areas_flip, [], []⟩
def d_Areas_area_of : He.DefD := ⟨("Areas", some "area_of"), "area_of", "Areas.area_of", defArgs s_Areas_area_of, defBody s_Areas_area_of, defScope s_Areas_area_of, [], []⟩
def d_Areas_lay_young : He.DefD := ⟨("Areas", some "lay_young"), "lay_young", "Areas.lay_young", defArgs s_Areas_lay_young, defBody s_Areas_lay_young, defScope s_Areas_lay_young, [], []⟩
def d_Areas_lay_old : He.DefD := ⟨("Areas", some "lay_old"), "lay_old", "Areas.lay_old", defArgs s_Areas_lay_old, defBody s_Areas_lay_old, defScope s_Areas_lay_old, [], []⟩
def d_Book___init__ : He.DefD := ⟨("Book", some "__init__"), "__init__", "Book.__init__", defArgs s_Book___init__, defBody s_Book___init__, defScope s_Book___init__, [], []⟩
def d_Book_write : He.DefD := ⟨("Book", some "write"), "write", "Book.write", defArgs s_Book_write, defBody s_Book_write, defScope s_Book_write, [], []⟩
def d_Book_rub : He.DefD := ⟨("Book", some "rub"), "rub", "Book.rub", defArgs s_Book_rub, defBody s_Book_rub, defScope s_Book_rub, [], []⟩
def d_Book_has : He.DefD := ⟨("Book", some "has"), "has", "Book.has", defArgs s_Book_has, defBody s_Book_has, defScope s_Book_has, [], []⟩
def d_Book_places : He.DefD := ⟨("Book", some "places"), "places", "Book.places", defArgs s_Book_places, defBody s_Book_places, defScope s_Book_places, [], []⟩
def d_Book_clear : He.DefD := ⟨("Book", some "clear"), "clear", "Book.clear", defArgs s_Book_clear, defBody s_Book_clear, defScope s_Book_clear, [], []⟩
def d_Hands___init__ : He.DefD := ⟨("Hands", some "__init__"), "__init__", "Hands.__init__", defArgs s_Hands___init__, defBody s_Hands___init__, defScope s_Hands___init__, [], []⟩
def d_Hands_need : He.DefD := ⟨("Hands", some "need"), "need", "Hands.need", defArgs s_Hands_need, defBody s_Hands_need, defScope s_Hands_need, [], []⟩
def d_Hands_get : He.DefD := ⟨("Hands", some "get"), "get", "Hands.get", defArgs s_Hands_get, defBody s_Hands_get, defScope s_Hands_get, [], []⟩
def d_Hands_put : He.DefD := ⟨("Hands", some "put"), "put", "Hands.put", defArgs s_Hands_put, defBody s_Hands_put, defScope s_Hands_put, [], []⟩
def d_Hands_row : He.DefD := ⟨("Hands", some "row"), "row", "Hands.row", defArgs s_Hands_row, defBody s_Hands_row, defScope s_Hands_row, [], []⟩
def d_Lasts___init__ : He.DefD := ⟨("Lasts", some "__init__"), "__init__", "Lasts.__init__", defArgs s_Lasts___init__, defBody s_Lasts___init__, defScope s_Lasts___init__, [], []⟩
def d_Lasts_give : He.DefD := ⟨("Lasts", some "give"), "give", "Lasts.give", defArgs s_Lasts_give, defBody s_Lasts_give, defScope s_Lasts_give, [], []⟩
def d_Lasts_need : He.DefD := ⟨("Lasts", some "need"), "need", "Lasts.need", defArgs s_Lasts_need, defBody s_Lasts_need, defScope s_Lasts_need, [], []⟩
def d_Lasts_move : He.DefD := ⟨("Lasts", some "move"), "move", "Lasts.move", defArgs s_Lasts_move, defBody s_Lasts_move, defScope s_Lasts_move, [], []⟩
def d_Lasts_say : He.DefD := ⟨("Lasts", some "say"), "say", "Lasts.say", defArgs s_Lasts_say, defBody s_Lasts_say, defScope s_Lasts_say, [], []⟩
def d_Lasts_pending : He.DefD := ⟨("Lasts", some "pending"), "pending", "Lasts.pending", defArgs s_Lasts_pending, defBody s_Lasts_pending, defScope s_Lasts_pending, [], []⟩
def d_Lasts_said : He.DefD := ⟨("Lasts", some "said"), "said", "Lasts.said", defArgs s_Lasts_said, defBody s_Lasts_said, defScope s_Lasts_said, [], []⟩
def d_Weak___init__ : He.DefD := ⟨("Weak", some "__init__"), "__init__", "Weak.__init__", defArgs s_Weak___init__, defBody s_Weak___init__, defScope s_Weak___init__, [], []⟩
def d_Weak_name : He.DefD := ⟨("Weak", some "name"), "name", "Weak.name", defArgs s_Weak_name, defBody s_Weak_name, defScope s_Weak_name, [], []⟩
def d_Weak_need : He.DefD := ⟨("Weak", some "need"), "need", "Weak.need", defArgs s_Weak_need, defBody s_Weak_need, defScope s_Weak_need, [], []⟩
def d_Weak_at : He.DefD := ⟨("Weak", some "at"), "at", "Weak.at", defArgs s_Weak_at, defBody s_Weak_at, defScope s_Weak_at, [], []⟩
def d_Weak_need_there : He.DefD := ⟨("Weak", some "need_there"), "need_there", "Weak.need_there", defArgs s_Weak_need_there, defBody s_Weak_need_there, defScope s_Weak_need_there, [], []⟩
def d_Weak_move : He.DefD := ⟨("Weak", some "move"), "move", "Weak.move", defArgs s_Weak_move, defBody s_Weak_move, defScope s_Weak_move, [], []⟩
def d_Weak_gone : He.DefD := ⟨("Weak", some "gone"), "gone", "Weak.gone", defArgs s_Weak_gone, defBody s_Weak_gone, defScope s_Weak_gone, [], []⟩
def d_Weak_names : He.DefD := ⟨("Weak", some "names"), "names", "Weak.names", defArgs s_Weak_names, defBody s_Weak_names, defScope s_Weak_names, [], []⟩
def d_Roots___init__ : He.DefD := ⟨("Roots", some "__init__"), "__init__", "Roots.__init__", defArgs s_Roots___init__, defBody s_Roots___init__, defScope s_Roots___init__, [], []⟩
def d_Roots_starts : He.DefD := ⟨("Roots", some "starts"), "starts", "Roots.starts", defArgs s_Roots_starts, defBody s_Roots_starts, defScope s_Roots_starts, [], []⟩
def d__law_at : He.DefD := ⟨("_law_at", none), "_law_at", "_law_at", defArgs s__law_at, defBody s__law_at, defScope s__law_at, [], []⟩
def d__law_whole : He.DefD := ⟨("_law_whole", none), "_law_whole", "_law_whole", defArgs s__law_whole, defBody s__law_whole, defScope s__law_whole, [], []⟩
def d__law_word : He.DefD := ⟨("_law_word", none), "_law_word", "_law_word", defArgs s__law_word, defBody s__law_word, defScope s__law_word, [], []⟩
def d__law_thing : He.DefD := ⟨("_law_thing", none), "_law_thing", "_law_thing", defArgs s__law_thing, defBody s__law_thing, defScope s__law_thing, [], []⟩
def d__law_laid : He.DefD := ⟨("_law_laid", none), "_law_laid", "_law_laid", defArgs s__law_laid, defBody s__law_laid, defScope s__law_laid, [], []⟩
def d__law_put : He.DefD := ⟨("_law_put", none), "_law_put", "_law_put", defArgs s__law_put, defBody s__law_put, defScope s__law_put, [], []⟩
def d__law_held : He.DefD := ⟨("_law_held", none), "_law_held", "_law_held", defArgs s__law_held, defBody s__law_held, defScope s__law_held, [], []⟩
def d__law_built : He.DefD := ⟨("_law_built", none), "_law_built", "_law_built", defArgs s__law_built, defBody s__law_built, defScope s__law_built, [], []⟩
def d__law_order : He.DefD := ⟨("_law_order", none), "_law_order", "_law_order", defArgs s__law_order, defBody s__law_order, defScope s__law_order, [], []⟩
def d__law_went : He.DefD := ⟨("_law_went", none), "_law_went", "_law_went", defArgs s__law_went, defBody s__law_went, defScope s__law_went, [], []⟩
def d__law_stands : He.DefD := ⟨("_law_stands", none), "_law_stands", "_law_stands", defArgs s__law_stands, defBody s__law_stands, defScope s__law_stands, [], []⟩
def d__law_collected : He.DefD := ⟨("_law_collected", none), "_law_collected", "_law_collected", defArgs s__law_collected, defBody s__law_collected, defScope s__law_collected, [], []⟩
def d_law : He.DefD := ⟨("law", none), "law", "law", defArgs s_law, defBody s_law, defScope s_law, [], []⟩
def fn : List He.DefD := [d__wall, d_is_whole, d_number_word, d_place_word, d_kind, d_worth, d_need_slots, d_lay, d_head_of, d_slots_of, d_age_of, d_words_of, d_aged, d_slot_place, d_send, d_sent_to, d_copied, d_moved, d_carried, d_carry_place, d_slot_places, d_carry_all, d_settle_names, d_settle_lasts, d_note, d_collect_young, d_Memory___init__, d_Memory_need, d_Memory_read, d_Memory_write, d_Memory_need_stretch, d_Memory_copy, d_Space___init__, d_Space_room, d_Space_used, d_Space_has, d_Space_take, d_Space_empty, d_Space_cut, d_Space_cells, d_Areas___init__, d_Areas_flip, d_Areas_area_of, d_Areas_lay_young, d_Areas_lay_old, d_Book___init__, d_Book_write, d_Book_rub, d_Book_has, d_Book_places, d_Book_clear, d_Hands___init__, d_Hands_need, d_Hands_get, d_Hands_put, d_Hands_row, d_Lasts___init__, d_Lasts_give, d_Lasts_need, d_Lasts_move, d_Lasts_say, d_Lasts_pending, d_Lasts_said, d_Weak___init__, d_Weak_name, d_Weak_need, d_Weak_at, d_Weak_need_there, d_Weak_move, d_Weak_gone, d_Weak_names, d_Roots___init__, d_Roots_starts, d__law_at, d__law_whole, d__law_word, d__law_thing, d__law_laid, d__law_put, d__law_held, d__law_built, d__law_order, d__law_went, d__law_stands, d__law_collected, d_law]
def exL : XL := ⟨["KeepError", "BadNumber", "BadWord", "BadCount", "NoPlace", "NoRoom", "NoSlot", "NoCell", "NoHand", "NoName"], []⟩
abbrev Tx (K : PySem.W.Frag) (mg : Str → Option Value) : Prop := Told fa fn exL K mg
theorem sc__wall : FnScope ["k"] ["k"] (defScope s__wall) := ⟨rfl, rfl, rfl, by decide +kernel, rfl, by decide +kernel, by decide +kernel⟩
theorem sc_is_whole : FnScope ["thing"] ["thing"] (defScope s_is_whole) := ⟨rfl, rfl, rfl, by decide +kernel, rfl, by decide +kernel, by decide +kernel⟩
theorem sc_number_word : FnScope ["number"] ["number"] (defScope s_number_word) := ⟨rfl, rfl, rfl, by decide +kernel, rfl, by decide +kernel, by decide +kernel⟩
theorem sc_place_word : FnScope ["at"] ["at"] (defScope s_place_word) := ⟨rfl, rfl, rfl, by decide +kernel, rfl, by decide +kernel, by decide +kernel⟩
theorem sc_kind : FnScope ["word"] ["word"] (defScope s_kind) := ⟨rfl, rfl, rfl, by decide +kernel, rfl, by decide +kernel, by decide +kernel⟩
theorem sc_worth : FnScope ["word"] ["word"] (defScope s_worth) := ⟨rfl, rfl, rfl, by decide +kernel, rfl, by decide +kernel, by decide +kernel⟩
theorem sc_need_slots : FnScope ["slots"] ["slots"] (defScope s_need_slots) := ⟨rfl, rfl, rfl, by decide +kernel, rfl, by decide +kernel, by decide +kernel⟩
theorem sc_lay : FnScope ["memory", "at", "slots", "slot"] ["memory", "at", "slots"] (defScope s_lay) := ⟨rfl, rfl, rfl, by decide +kernel, rfl, by decide +kernel, by decide +kernel⟩
theorem sc_head_of : FnScope ["memory", "at", "word"] ["memory", "at"] (defScope s_head_of) := ⟨rfl, rfl, rfl, by decide +kernel, rfl, by decide +kernel, by decide +kernel⟩
theorem sc_slots_of : FnScope ["memory", "at"] ["memory", "at"] (defScope s_slots_of) := ⟨rfl, rfl, rfl, by decide +kernel, rfl, by decide +kernel, by decide +kernel⟩
theorem sc_age_of : FnScope ["memory", "at"] ["memory", "at"] (defScope s_age_of) := ⟨rfl, rfl, rfl, by decide +kernel, rfl, by decide +kernel, by decide +kernel⟩
theorem sc_words_of : FnScope ["memory", "at"] ["memory", "at"] (defScope s_words_of) := ⟨rfl, rfl, rfl, by decide +kernel, rfl, by decide +kernel, by decide +kernel⟩
theorem sc_aged : FnScope ["memory", "at", "age", "slots"] ["memory", "at", "age"] (defScope s_aged) := ⟨rfl, rfl, rfl, by decide +kernel, rfl, by decide +kernel, by decide +kernel⟩
theorem sc_slot_place : FnScope ["memory", "at", "slot", "slots"] ["memory", "at", "slot"] (defScope s_slot_place) := ⟨rfl, rfl, rfl, by decide +kernel, rfl, by decide +kernel, by decide +kernel⟩
theorem sc_send : FnScope ["memory", "at", "goal"] ["memory", "at", "goal"] (defScope s_send) := ⟨rfl, rfl, rfl, by decide +kernel, rfl, by decide +kernel, by decide +kernel⟩
theorem sc_sent_to : FnScope ["memory", "at", "word"] ["memory", "at"] (defScope s_sent_to) := ⟨rfl, rfl, rfl, by decide +kernel, rfl, by decide +kernel, by decide +kernel⟩
theorem sc_copied : FnScope ["memory", "at", "space", "age", "many", "goal"] ["memory", "at", "space", "age"] (defScope s_copied) := ⟨rfl, rfl, rfl, by decide +kernel, rfl, by decide +kernel, by decide +kernel⟩
theorem sc_moved : FnScope ["memory", "word", "goal"] ["memory", "word"] (defScope s_moved) := ⟨rfl, rfl, rfl, by decide +kernel, rfl, by decide +kernel, by decide +kernel⟩
theorem sc_carried : FnScope ["areas", "row", "word", "at"] ["areas", "row", "word"] (defScope s_carried) := ⟨rfl, rfl, rfl, by decide +kernel, rfl, by decide +kernel, by decide +kernel⟩
theorem sc_carry_place : FnScope ["areas", "row", "place"] ["areas", "row", "place"] (defScope s_carry_place) := ⟨rfl, rfl, rfl, by decide +kernel, rfl, by decide +kernel, by decide +kernel⟩
theorem sc_slot_places : FnScope ["memory", "at", "slot"] ["memory", "at"] (defScope s_slot_places) := ⟨rfl, rfl, rfl, by decide +kernel, rfl, by decide +kernel, by decide +kernel⟩
theorem sc_carry_all : FnScope ["areas", "roots", "row", "hand", "word", "place", "turn"] ["areas", "roots"] (defScope s_carry_all) := ⟨rfl, rfl, rfl, by decide +kernel, rfl, by decide +kernel, by decide +kernel⟩
theorem sc_settle_names : FnScope ["areas", "roots", "name", "at", "goal"] ["areas", "roots"] (defScope s_settle_names) := ⟨rfl, rfl, rfl, by decide +kernel, rfl, by decide +kernel, by decide +kernel⟩
theorem sc_settle_lasts : FnScope ["areas", "roots", "ticket", "at", "number", "goal"] ["areas", "roots"] (defScope s_settle_lasts) := ⟨rfl, rfl, rfl, by decide +kernel, rfl, by decide +kernel, by decide +kernel⟩
theorem sc_note : FnScope ["areas", "roots", "place", "word"] ["areas", "roots", "place"] (defScope s_note) := ⟨rfl, rfl, rfl, by decide +kernel, rfl, by decide +kernel, by decide +kernel⟩
theorem sc_collect_young : FnScope ["areas", "roots", "row", "place", "grown", "at"] ["areas", "roots"] (defScope s_collect_young) := ⟨rfl, rfl, rfl, by decide +kernel, rfl, by decide +kernel, by decide +kernel⟩
theorem sc_Memory___init__ : FnScope ["self", "size", "at"] ["self", "size"] (defScope s_Memory___init__) := ⟨rfl, rfl, rfl, by decide +kernel, rfl, by decide +kernel, by decide +kernel⟩
theorem sc_Memory_need : FnScope ["self", "at"] ["self", "at"] (defScope s_Memory_need) := ⟨rfl, rfl, rfl, by decide +kernel, rfl, by decide +kernel, by decide +kernel⟩
theorem sc_Memory_read : FnScope ["self", "at"] ["self", "at"] (defScope s_Memory_read) := ⟨rfl, rfl, rfl, by decide +kernel, rfl, by decide +kernel, by decide +kernel⟩
theorem sc_Memory_write : FnScope ["self", "at", "word"] ["self", "at", "word"] (defScope s_Memory_write) := ⟨rfl, rfl, rfl, by decide +kernel, rfl, by decide +kernel, by decide +kernel⟩
theorem sc_Memory_need_stretch : FnScope ["self", "at", "many"] ["self", "at", "many"] (defScope s_Memory_need_stretch) := ⟨rfl, rfl, rfl, by decide +kernel, rfl, by decide +kernel, by decide +kernel⟩
theorem sc_Memory_copy : FnScope ["self", "start", "goal", "many", "row", "turn"] ["self", "start", "goal", "many"] (defScope s_Memory_copy) := ⟨rfl, rfl, rfl, by decide +kernel, rfl, by decide +kernel, by decide +kernel⟩
theorem sc_Space___init__ : FnScope ["self", "begin", "end"] ["self", "begin", "end"] (defScope s_Space___init__) := ⟨rfl, rfl, rfl, by decide +kernel, rfl, by decide +kernel, by decide +kernel⟩
theorem sc_Space_room : FnScope ["self"] ["self"] (defScope s_Space_room) := ⟨rfl, rfl, rfl, by decide +kernel, rfl, by decide +kernel, by decide +kernel⟩
theorem sc_Space_used : FnScope ["self"] ["self"] (defScope s_Space_used) := ⟨rfl, rfl, rfl, by decide +kernel, rfl, by decide +kernel, by decide +kernel⟩
theorem sc_Space_has : FnScope ["self", "at"] ["self", "at"] (defScope s_Space_has) := ⟨rfl, rfl, rfl, by decide +kernel, rfl, by decide +kernel, by decide +kernel⟩
theorem sc_Space_take : FnScope ["self", "many", "at"] ["self", "many"] (defScope s_Space_take) := ⟨rfl, rfl, rfl, by decide +kernel, rfl, by decide +kernel, by decide +kernel⟩
theorem sc_Space_empty : FnScope ["self"] ["self"] (defScope s_Space_empty) := ⟨rfl, rfl, rfl, by decide +kernel, rfl, by decide +kernel, by decide +kernel⟩
theorem sc_Space_cut : FnScope ["self", "top"] ["self", "top"] (defScope s_Space_cut) := ⟨rfl, rfl, rfl, by decide +kernel, rfl, by decide +kernel, by decide +kernel⟩
theorem sc_Space_cells : FnScope ["self", "memory", "found", "at"] ["self", "memory"] (defScope s_Space_cells) := ⟨rfl, rfl, rfl, by decide +kernel, rfl, by decide +kernel, by decide +kernel⟩
theorem sc_Areas___init__ : FnScope ["self", "old_words", "young_words"] ["self", "old_words", "young_words"] (defScope s_Areas___init__) := ⟨rfl, rfl, rfl, by decide +kernel, rfl, by decide +kernel, by decide +kernel⟩
theorem sc_Areas_flip : FnScope ["self", "kept"] ["self"] (defScope s_Areas_flip) := ⟨rfl, rfl, rfl, by decide +kernel, rfl, by decide +kernel, by decide +kernel⟩
theorem sc_Areas_area_of : FnScope ["self", "at"] ["self", "at"] (defScope s_Areas_area_of) := ⟨rfl, rfl, rfl, by decide +kernel, rfl, by decide +kernel, by decide +kernel⟩
theorem sc_Areas_lay_young : FnScope ["self", "slots", "at"] ["self", "slots"] (defScope s_Areas_lay_young) := ⟨rfl, rfl, rfl, by decide +kernel, rfl, by decide +kernel, by decide +kernel⟩
theorem sc_Areas_lay_old : FnScope ["self", "slots", "at"] ["self", "slots"] (defScope s_Areas_lay_old) := ⟨rfl, rfl, rfl, by decide +kernel, rfl, by decide +kernel, by decide +kernel⟩
theorem sc_Book___init__ : FnScope ["self"] ["self"] (defScope s_Book___init__) := ⟨rfl, rfl, rfl, by decide +kernel, rfl, by decide +kernel, by decide +kernel⟩
theorem sc_Book_write : FnScope ["self", "place"] ["self", "place"] (defScope s_Book_write) := ⟨rfl, rfl, rfl, by decide +kernel, rfl, by decide +kernel, by decide +kernel⟩
theorem sc_Book_rub : FnScope ["self", "place"] ["self", "place"] (defScope s_Book_rub) := ⟨rfl, rfl, rfl, by decide +kernel, rfl, by decide +kernel, by decide +kernel⟩
theorem sc_Book_has : FnScope ["self", "place"] ["self", "place"] (defScope s_Book_has) := ⟨rfl, rfl, rfl, by decide +kernel, rfl, by decide +kernel, by decide +kernel⟩
theorem sc_Book_places : FnScope ["self"] ["self"] (defScope s_Book_places) := ⟨rfl, rfl, rfl, by decide +kernel, rfl, by decide +kernel, by decide +kernel⟩
theorem sc_Book_clear : FnScope ["self"] ["self"] (defScope s_Book_clear) := ⟨rfl, rfl, rfl, by decide +kernel, rfl, by decide +kernel, by decide +kernel⟩
theorem sc_Hands___init__ : FnScope ["self", "many", "hand"] ["self", "many"] (defScope s_Hands___init__) := ⟨rfl, rfl, rfl, by decide +kernel, rfl, by decide +kernel, by decide +kernel⟩
theorem sc_Hands_need : FnScope ["self", "hand"] ["self", "hand"] (defScope s_Hands_need) := ⟨rfl, rfl, rfl, by decide +kernel, rfl, by decide +kernel, by decide +kernel⟩
theorem sc_Hands_get : FnScope ["self", "hand"] ["self", "hand"] (defScope s_Hands_get) := ⟨rfl, rfl, rfl, by decide +kernel, rfl, by decide +kernel, by decide +kernel⟩
theorem sc_Hands_put : FnScope ["self", "hand", "word"] ["self", "hand", "word"] (defScope s_Hands_put) := ⟨rfl, rfl, rfl, by decide +kernel, rfl, by decide +kernel, by decide +kernel⟩
theorem sc_Hands_row : FnScope ["self"] ["self"] (defScope s_Hands_row) := ⟨rfl, rfl, rfl, by decide +kernel, rfl, by decide +kernel, by decide +kernel⟩
theorem sc_Lasts___init__ : FnScope ["self"] ["self"] (defScope s_Lasts___init__) := ⟨rfl, rfl, rfl, by decide +kernel, rfl, by decide +kernel, by decide +kernel⟩
theorem sc_Lasts_give : FnScope ["self", "at", "number"] ["self", "at", "number"] (defScope s_Lasts_give) := ⟨rfl, rfl, rfl, by decide +kernel, rfl, by decide +kernel, by decide +kernel⟩
theorem sc_Lasts_need : FnScope ["self", "ticket"] ["self", "ticket"] (defScope s_Lasts_need) := ⟨rfl, rfl, rfl, by decide +kernel, rfl, by decide +kernel, by decide +kernel⟩
theorem sc_Lasts_move : FnScope ["self", "ticket", "at"] ["self", "ticket", "at"] (defScope s_Lasts_move) := ⟨rfl, rfl, rfl, by decide +kernel, rfl, by decide +kernel, by decide +kernel⟩
theorem sc_Lasts_say : FnScope ["self", "ticket"] ["self", "ticket"] (defScope s_Lasts_say) := ⟨rfl, rfl, rfl, by decide +kernel, rfl, by decide +kernel, by decide +kernel⟩
theorem sc_Lasts_pending : FnScope ["self", "found", "ticket", "pair"] ["self"] (defScope s_Lasts_pending) := ⟨rfl, rfl, rfl, by decide +kernel, rfl, by decide +kernel, by decide +kernel⟩
theorem sc_Lasts_said : FnScope ["self"] ["self"] (defScope s_Lasts_said) := ⟨rfl, rfl, rfl, by decide +kernel, rfl, by decide +kernel, by decide +kernel⟩
theorem sc_Weak___init__ : FnScope ["self"] ["self"] (defScope s_Weak___init__) := ⟨rfl, rfl, rfl, by decide +kernel, rfl, by decide +kernel, by decide +kernel⟩
theorem sc_Weak_name : FnScope ["self", "at"] ["self", "at"] (defScope s_Weak_name) := ⟨rfl, rfl, rfl, by decide +kernel, rfl, by decide +kernel, by decide +kernel⟩
theorem sc_Weak_need : FnScope ["self", "name"] ["self", "name"] (defScope s_Weak_need) := ⟨rfl, rfl, rfl, by decide +kernel, rfl, by decide +kernel, by decide +kernel⟩
theorem sc_Weak_at : FnScope ["self", "name"] ["self", "name"] (defScope s_Weak_at) := ⟨rfl, rfl, rfl, by decide +kernel, rfl, by decide +kernel, by decide +kernel⟩
theorem sc_Weak_need_there : FnScope ["self", "name"] ["self", "name"] (defScope s_Weak_need_there) := ⟨rfl, rfl, rfl, by decide +kernel, rfl, by decide +kernel, by decide +kernel⟩
theorem sc_Weak_move : FnScope ["self", "name", "at"] ["self", "name", "at"] (defScope s_Weak_move) := ⟨rfl, rfl, rfl, by decide +kernel, rfl, by decide +kernel, by decide +kernel⟩
theorem sc_Weak_gone : FnScope ["self", "name"] ["self", "name"] (defScope s_Weak_gone) := ⟨rfl, rfl, rfl, by decide +kernel, rfl, by decide +kernel, by decide +kernel⟩
theorem sc_Weak_names : FnScope ["self", "name", "at"] ["self"] (defScope s_Weak_names) := ⟨rfl, rfl, rfl, by decide +kernel, rfl, by decide +kernel, by decide +kernel⟩
theorem sc_Roots___init__ : FnScope ["self", "many"] ["self", "many"] (defScope s_Roots___init__) := ⟨rfl, rfl, rfl, by decide +kernel, rfl, by decide +kernel, by decide +kernel⟩
theorem sc_Roots_starts : FnScope ["self"] ["self"] (defScope s_Roots_starts) := ⟨rfl, rfl, rfl, by decide +kernel, rfl, by decide +kernel, by decide +kernel⟩
theorem sc__law_at : FnScope ["_law_script", "_law_k"] ["_law_script", "_law_k"] (defScope s__law_at) := ⟨rfl, rfl, rfl, by decide +kernel, rfl, by decide +kernel, by decide +kernel⟩
theorem sc__law_whole : FnScope ["_law_found"] ["_law_found"] (defScope s__law_whole) := ⟨rfl, rfl, rfl, by decide +kernel, rfl, by decide +kernel, by decide +kernel⟩
theorem sc__law_word : FnScope ["_law_thing_here", "_law_places"] ["_law_thing_here", "_law_places"] (defScope s__law_word) := ⟨rfl, rfl, rfl, by decide +kernel, rfl, by decide +kernel, by decide +kernel⟩
theorem sc__law_thing : FnScope ["_law_cell", "_law_many"] ["_law_cell", "_law_many"] (defScope s__law_thing) := ⟨rfl, rfl, rfl, by decide +kernel, rfl, by decide +kernel, by decide +kernel⟩
theorem sc__law_laid : FnScope ["_law_own", "_law_cell", "_law_areas", "_law_slots"] ["_law_own", "_law_cell"] (defScope s__law_laid) := ⟨rfl, rfl, rfl, by decide +kernel, rfl, by decide +kernel, by decide +kernel⟩
theorem sc__law_put : FnScope ["_law_own", "_law_k", "_law_slot", "_law_thing_here", "_law_at_here"] ["_law_own", "_law_k", "_law_slot", "_law_thing_here"] (defScope s__law_put) := ⟨rfl, rfl, rfl, by decide +kernel, rfl, by decide +kernel, by decide +kernel⟩
theorem sc__law_held : FnScope ["_law_own", "_law_hand", "_law_thing_here"] ["_law_own", "_law_hand", "_law_thing_here"] (defScope s__law_held) := ⟨rfl, rfl, rfl, by decide +kernel, rfl, by decide +kernel, by decide +kernel⟩
theorem sc__law_built : FnScope ["_law_script", "_law_young", "_law_areas", "_law_many", "_law_own", "_law_cell", "_law_k", "_law_slot", "_law_hand"] ["_law_script"] (defScope s__law_built) := ⟨rfl, rfl, rfl, by decide +kernel, rfl, by decide +kernel, by decide +kernel⟩
theorem sc__law_order : FnScope ["_law_own", "_law_starts", "_law_old", "_law_k", "_law_at_here", "_law_found", "_law_turn", "_law_thing_here"] ["_law_own"] (defScope s__law_order) := ⟨rfl, rfl, rfl, by decide +kernel, rfl, by decide +kernel, by decide +kernel⟩
theorem sc__law_went : FnScope ["_law_own", "_law_order_here", "_law_stood", "_law_areas", "_law_stays", "_law_k", "_law_grows", "_law_young", "_law_old", "_law_at_here"] ["_law_own", "_law_order_here", "_law_stood"] (defScope s__law_went) := ⟨rfl, rfl, rfl, by decide +kernel, rfl, by decide +kernel, by decide +kernel⟩
theorem sc__law_stands : FnScope ["_law_own", "_law_memory", "_law_k", "_law_at_here", "_law_slot", "_law_words", "_law_thing_here"] ["_law_own"] (defScope s__law_stands) := ⟨rfl, rfl, rfl, by decide +kernel, rfl, by decide +kernel, by decide +kernel⟩
theorem sc__law_collected : FnScope ["_law_own", "_law_areas", "_law_order_here", "_law_stood", "_law_begins", "_law_due", "_law_k", "_law_found"] ["_law_own"] (defScope s__law_collected) := ⟨rfl, rfl, rfl, by decide +kernel, rfl, by decide +kernel, by decide +kernel⟩
theorem sc_law : FnScope ["_law_script", "_law_own", "_law_turn", "_law_there", "_law_k"] ["_law_script"] (defScope s_law) := ⟨rfl, rfl, rfl, by decide +kernel, rfl, by decide +kernel, by decide +kernel⟩

/-! ## the head and the end -/
abbrev RR : PySem.W.OpenRow := PySem.W.OpenLaw.row PySem.Challenge.rw_cellkeep_k12_whole_young
abbrev hk : PySem.W.Hook := hookG 6 fa fn exL
def ob (s : PySem.W.SharedT) : He.AlD × Bool := lookG 6 fa fn exL (HandSHeadRun.getT s)
theorem ob_eq (s : PySem.W.SharedT) : ob s = hk.obs s.abs := lookG_eq (HandSHeadRun.getT_eq s)
def loose : List Str := (["_wall", "KeepError", "BadNumber", "BadWord", "BadCount", "NoPlace", "NoRoom", "NoSlot", "NoCell", "NoHand", "NoName", "MOST_NUMBER", "MOST_PLACE", "NOTHING", "is_whole", "number_word", "place_word", "kind", "worth", "MOST_SLOTS", "MOST_AGE", "need_slots", "lay", "head_of", "slots_of", "age_of", "words_of", "aged", "slot_place", "send"] : List Str) ++ (["sent_to", "copied", "moved", "carried", "carry_place", "slot_places", "carry_all", "settle_names", "settle_lasts", "note", "collect_young", "MOST_SIZE", "Memory", "Space", "LEAST_OLD", "MOST_OLD", "LEAST_YOUNG", "MOST_YOUNG", "Areas", "Book", "MOST_HANDS", "Hands", "Lasts", "Weak", "Roots", "_law_at", "_law_whole", "_law_word", "_law_thing", "_law_laid"] : List Str) ++ (["_law_put", "_law_held", "_law_built", "_law_order", "_law_went", "_law_stands", "_law_collected"] : List Str)
theorem run (w : World) : HandSHeadRun.RunEq RR (PySem.W.view RR.prog [81]) hk ob 16000 loose w := by
  intro os
  kernel_rfl

/-! ## words -/
/-- a plain thing that is no whole number -/
def Odd (H : Hp) (v : V) : Prop := ∃ t, tyOf v H = some t ∧ t ≠ "int"
theorem odd_not {H : Hp} {n : Int} : ¬ Odd H (.int n) := fun ⟨t, e, h⟩ => h (Option.some.inj e).symm
theorem odd_bl {H : Hp} {b : Bool} : Odd H (.bl b) := ⟨"bool", rfl, by decide⟩
theorem odd_non {H : Hp} : Odd H .non := ⟨"NoneType", rfl, by decide⟩
theorem odd_str {H : Hp} {z : Str} : Odd H (.str z) := ⟨"str", rfl, by decide⟩
theorem odd_lst {H : Hp} {a : Addr} {xs : List V} (h : H a = some (.lst xs)) : Odd H (.ref a) := ⟨"list", by show tyO (H a) = _; rw [h]; rfl, by decide⟩
theorem odd_tup {H : Hp} {a : Addr} {xs : List V} (h : H a = some (.tup xs)) : Odd H (.ref a) := ⟨"tuple", by show tyO (H a) = _; rw [h]; rfl, by decide⟩
theorem odd_dK {H : Hp} {a : Addr} {kvs : List (Key × V)} (h : H a = some (.dK kvs)) : Odd H (.ref a) := ⟨"dict", by show tyO (H a) = _; rw [h]; rfl, by decide⟩
inductive Wd where
  | num (n : Int) | place (p : Int) | nothing
  deriving DecidableEq
def Wd.kind : Wd → Str
  | .num _ => "number"
  | .place _ => "place"
  | .nothing => "nothing"
def Wd.worth : Wd → V
  | .num n => .int n
  | .place p => .int p
  | .nothing => .non
def wordOf (n : Int) : Option Wd := if n = -1 then some .nothing else if n % 2 = 0 ∧ (n.natAbs : Int) ≤ 2000000000000 then some (.num (n / 2)) else if n % 2 = 1 ∧ 0 < n ∧ n ≤ 19999 then some (.place (n / 2)) else none
abbrev Ex (K : PySem.W.Frag) (x : Str) : Value := .ref (He.ga K x)
def sp_is_whole : Sp
  | [.int _], H, Q, _ => Q (.bl true) H
  | [v], H, Q, _ => Odd H v ∧ Q (.bl false) H
  | _, _, _, _ => False
theorem len_is_whole {vs H Q E} (h : sp_is_whole vs H Q E) : vs.length = 1 := by unfold sp_is_whole at h; split at h <;> first | rfl | exact h.elim
theorem odd_whole {H : Hp} {v : V} {Q : VK} {E : XK} (h : Odd H v) : sp_is_whole [v] H Q E = Q (.bl false) H := by
  cases v with
  | int n => exact (odd_not h).elim
  | _ => exact propext ⟨fun z => z.2, fun z => ⟨h, z⟩⟩
theorem x_whole {H : Hp} {n : Int} {Q : VK} {E : XK} : sp_is_whole [.int n] H Q E = Q (.bl true) H := rfl
/-- the two questions of is_whole -/
theorem whole_odd {H : Hp} {v : V} {Q : VK} (h : Odd H v) (q : Q (.bl false) H) : gIsi [v, .ty "int"] H fun x H1 => ∃ c, x = .bl c ∧ if c = true then gIsi [v, .ty "bool"] H1 (fun x H2 => ∃ c, x = .bl c ∧ Q (.bl (!c)) H2) else Q (.bl false) H1 := by
  obtain ⟨t, e, ne⟩ := h
  refine ⟨by decide, t, e, _, rfl, ?_⟩
  have m := tyOf_in e
  split
  · rename_i c
    have tb : t = "bool" := by
      simp only [tys, List.mem_cons, List.not_mem_nil, or_false] at m
      rcases m with rfl | rfl | rfl | rfl | rfl | rfl | rfl
      · exact absurd c (by decide)
      · rfl
      · exact absurd rfl ne
      · exact absurd c (by decide)
      · exact absurd c (by decide)
      · exact absurd c (by decide)
      · exact absurd c (by decide)
    subst tb
    exact ⟨by decide, _, e, _, rfl, q⟩
  · exact q
theorem whole_int {H : Hp} {n : Int} {Q : VK} (q : Q (.bl true) H) : gIsi [.int n, .ty "int"] H fun x H1 => ∃ c, x = .bl c ∧ if c = true then gIsi [.int n, .ty "bool"] H1 (fun x H2 => ∃ c, x = .bl c ∧ Q (.bl (!c)) H2) else Q (.bl false) H1 :=
  ⟨by decide, _, rfl, _, rfl, by rw [if_pos (by decide)]; exact ⟨by decide, _, rfl, _, rfl, q⟩⟩
def sp_number_word (K : PySem.W.Frag) : Sp
  | [.int n], H, Q, E => if (n.natAbs : Int) ≤ 1000000000000 then Q (.int (2 * n)) H else E (Ex K "BadNumber") none H
  | [v], H, _, E => Odd H v ∧ E (Ex K "BadNumber") none H
  | _, _, _, _ => False
theorem odd_number_word {K : PySem.W.Frag} {H : Hp} {v : V} {Q : VK} {E : XK} (h : Odd H v) : sp_number_word K [v] H Q E = E (Ex K "BadNumber") none H := by
  cases v with
  | int n => exact (odd_not h).elim
  | _ => exact propext ⟨fun z => z.2, fun z => ⟨h, z⟩⟩
theorem one_number_word {K : PySem.W.Frag} {vs : List V} {H : Hp} {Q : VK} {E : XK} (h : sp_number_word K vs H Q E) : (∃ n, vs = [.int n]) ∨ ∃ v, vs = [v] ∧ Odd H v ∧ E (Ex K "BadNumber") none H := by
  unfold sp_number_word at h
  split at h
  · exact .inl ⟨_, rfl⟩
  · exact .inr ⟨_, rfl, h⟩
  · exact h.elim
theorem len_number_word {K vs H Q E} (h : sp_number_word K vs H Q E) : vs.length = 1 := by unfold sp_number_word at h; split at h <;> first | rfl | exact h.elim
def sp_place_word (K : PySem.W.Frag) : Sp
  | [.int n], H, Q, E => if 0 ≤ n ∧ n ≤ 9999 then Q (.int (2 * n + 1)) H else E (Ex K "NoPlace") none H
  | [v], H, _, E => Odd H v ∧ E (Ex K "NoPlace") none H
  | _, _, _, _ => False
theorem odd_place_word {K : PySem.W.Frag} {H : Hp} {v : V} {Q : VK} {E : XK} (h : Odd H v) : sp_place_word K [v] H Q E = E (Ex K "NoPlace") none H := by
  cases v with
  | int n => exact (odd_not h).elim
  | _ => exact propext ⟨fun z => z.2, fun z => ⟨h, z⟩⟩
theorem one_place_word {K : PySem.W.Frag} {vs : List V} {H : Hp} {Q : VK} {E : XK} (h : sp_place_word K vs H Q E) : (∃ n, vs = [.int n]) ∨ ∃ v, vs = [v] ∧ Odd H v ∧ E (Ex K "NoPlace") none H := by
  unfold sp_place_word at h
  split at h
  · exact .inl ⟨_, rfl⟩
  · exact .inr ⟨_, rfl, h⟩
  · exact h.elim
theorem len_place_word {K vs H Q E} (h : sp_place_word K vs H Q E) : vs.length = 1 := by unfold sp_place_word at h; split at h <;> first | rfl | exact h.elim
def sp_kind (K : PySem.W.Frag) : Sp
  | [.int n], H, Q, E => match wordOf n with
    | some w => Q (.str w.kind) H
    | none => E (Ex K "BadWord") none H
  | [v], H, _, E => Odd H v ∧ E (Ex K "BadWord") none H
  | _, _, _, _ => False
theorem odd_kind {K : PySem.W.Frag} {H : Hp} {v : V} {Q : VK} {E : XK} (h : Odd H v) : sp_kind K [v] H Q E = E (Ex K "BadWord") none H := by
  cases v with
  | int n => exact (odd_not h).elim
  | _ => exact propext ⟨fun z => z.2, fun z => ⟨h, z⟩⟩
theorem one_kind {K : PySem.W.Frag} {vs : List V} {H : Hp} {Q : VK} {E : XK} (h : sp_kind K vs H Q E) : (∃ n, vs = [.int n]) ∨ ∃ v, vs = [v] ∧ Odd H v ∧ E (Ex K "BadWord") none H := by
  unfold sp_kind at h
  split at h
  · exact .inl ⟨_, rfl⟩
  · exact .inr ⟨_, rfl, h⟩
  · exact h.elim
theorem len_kind {K vs H Q E} (h : sp_kind K vs H Q E) : vs.length = 1 := by unfold sp_kind at h; split at h <;> first | rfl | exact h.elim
def sp_worth (K : PySem.W.Frag) : Sp
  | [.int n], H, Q, E => match wordOf n with
    | some w => Q w.worth H
    | none => E (Ex K "BadWord") none H
  | [v], H, _, E => Odd H v ∧ E (Ex K "BadWord") none H
  | _, _, _, _ => False
theorem odd_worth {K : PySem.W.Frag} {H : Hp} {v : V} {Q : VK} {E : XK} (h : Odd H v) : sp_worth K [v] H Q E = E (Ex K "BadWord") none H := by
  cases v with
  | int n => exact (odd_not h).elim
  | _ => exact propext ⟨fun z => z.2, fun z => ⟨h, z⟩⟩
theorem one_worth {K : PySem.W.Frag} {vs : List V} {H : Hp} {Q : VK} {E : XK} (h : sp_worth K vs H Q E) : (∃ n, vs = [.int n]) ∨ ∃ v, vs = [v] ∧ Odd H v ∧ E (Ex K "BadWord") none H := by
  unfold sp_worth at h
  split at h
  · exact .inl ⟨_, rfl⟩
  · exact .inr ⟨_, rfl, h⟩
  · exact h.elim
theorem len_worth {K vs H Q E} (h : sp_worth K vs H Q E) : vs.length = 1 := by unfold sp_worth at h; split at h <;> first | rfl | exact h.elim
section
variable {K : PySem.W.Frag} {H : Hp} {n : Int} {Q : VK} {E : XK}
theorem x_number_word : sp_number_word K [.int n] H Q E = if (n.natAbs : Int) ≤ 1000000000000 then Q (.int (2 * n)) H else E (Ex K "BadNumber") none H := rfl
theorem x_place_word : sp_place_word K [.int n] H Q E = if 0 ≤ n ∧ n ≤ 9999 then Q (.int (2 * n + 1)) H else E (Ex K "NoPlace") none H := rfl
theorem x_kind : sp_kind K [.int n] H Q E = match wordOf n with
    | some w => Q (.str w.kind) H
    | none => E (Ex K "BadWord") none H := rfl
theorem x_worth : sp_worth K [.int n] H Q E = match wordOf n with
    | some w => Q w.worth H
    | none => E (Ex K "BadWord") none H := rfl
end
theorem kind_if {A B C F : Prop} {n : Int} {f : Wd → Prop} (h1 : f .nothing = A) (h2 : f (.num (n / 2)) = B) (h3 : f (.place (n / 2)) = C) :
    (match wordOf n with
    | some w => f w
    | none => F) = if n = -1 then A else if n % 2 = 0 ∧ (n.natAbs : Int) ≤ 2000000000000 then B else if n % 2 = 1 ∧ 0 < n ∧ n ≤ 19999 then C else F := by
  unfold wordOf
  by_cases c1 : n = -1
  · rw [if_pos c1, if_pos c1]; exact h1
  · rw [if_neg c1, if_neg c1]
    by_cases c2 : n % 2 = 0 ∧ (n.natAbs : Int) ≤ 2000000000000
    · rw [if_pos c2, if_pos c2]; exact h2
    · rw [if_neg c2, if_neg c2]
      by_cases c3 : n % 2 = 1 ∧ 0 < n ∧ n ≤ 19999
      · rw [if_pos c3, if_pos c3]; exact h3
      · rw [if_neg c3, if_neg c3]
theorem kind_is (w : Wd) : (w.kind = "nothing" ↔ w = .nothing) ∧ (w.kind = "place" ↔ ∃ p, w = .place p) ∧ (w.kind = "number" ↔ ∃ n, w = .num n) := by
  have d1 : ("number" : Str) ≠ "nothing" := by decide +kernel
  have d2 : ("number" : Str) ≠ "place" := by decide +kernel
  have d3 : ("place" : Str) ≠ "nothing" := by decide +kernel
  cases w with
  | num n => exact ⟨⟨fun z => (d1 z).elim, fun z => by cases z⟩, ⟨fun z => (d2 z).elim, fun ⟨_, z⟩ => by cases z⟩, ⟨fun _ => ⟨n, rfl⟩, fun _ => rfl⟩⟩
  | place n => exact ⟨⟨fun z => (d3 z).elim, fun z => by cases z⟩, ⟨fun _ => ⟨n, rfl⟩, fun _ => rfl⟩, ⟨fun z => (d2 z.symm).elim, fun ⟨_, z⟩ => by cases z⟩⟩
  | nothing => exact ⟨⟨fun _ => rfl, fun _ => rfl⟩, ⟨fun z => (d3 z.symm).elim, fun ⟨_, z⟩ => by cases z⟩, ⟨fun z => (d1 z.symm).elim, fun ⟨_, z⟩ => by cases z⟩⟩
theorem wordOf_div {n : Int} {w : Wd} (h : wordOf n = some w) : w.worth = if w = .nothing then .non else .int (n / 2) := by
  unfold wordOf at h
  repeat' split at h
  all_goals (cases h; try rfl)
local macro_rules | `(tactic| walk_at "w") => `(tactic| try simp only [↓x_var0, ↓x_varS, ↓x_c, ↓x_op, ↓x_un, ↓x_cb, ↓x_nil, ↓x_cons, ↓x_test, ↓x_b, ↓x_ex, ↓x_and, ↓x_or, ↓x_not, ↓x_andV, ↓x_orV, ↓x_notV, ↓x_tif, ↓x_chain, ↓x_menu, ↓x_menuI, ↓x_lst, ↓x_tup, ↓x_dnew, ↓x_callW, ↓x_callN, ↓x_seq, ↓x_next, ↓x_ret, ↓x_retN, ↓x_drop, ↓x_ifS, ↓x_asg, ↓x_name, ↓x_raise, ↓x_fld, ↓x_setF, ↓x_meth, ↓x_make, ↓x_sub, ↓r_min, ↓r_max, ↓x_yes, ↓x_for, ↓x_lock, ↓x_keys, ↓x_cut, ↓x_lc, ↓x_rng1, ↓x_rng2, ↓x_lst1, ↓x_itup, ↓x_rng3, ↓x_three, ↓x_lstg, ↓x_tupg, ↓x_adrS, ↓x_one, ↓x_two, ↓x_adr, ↓x_sl, ↓x_np, ↓x_pt, ↓x_int, ↓x_bm, ↓x_bm0, ↓x_consg, ↓x_nilg, ↓x_dget2, ↓x_dget1, ↓x_dgetN, ↓x_dget, ↓x_din, ↓x_dni, ↓x_dput, ↓x_dpop2, ↓r_isB, ↓r_notB, ↓x_enum, ↓x_zip, ↓x_str, ↓x_strE, ↓r_inS, ↓r_ninS, wipe, List.map_cons, List.map_nil, ↓x_isT, ↓r_isiII, ↓r_isiBB, ↓r_isiIB, ↓r_isiSS, ↓r_neNS, ↓r_neSN, ↓r_neNN, ↓r_eqNS, ↓r_eqSN, ↓r_eqNN, ↓r_eqIS, ↓r_neIS, ↓r_neSI, ↓r_neBS, ↓r_eqBB, ↓r_neBB, ↓x_start, ↓x_K, ↓x_start0, ↓r_i0, ↓r_i, ↓r_u, ↓r_addI, ↓r_addS, ↓r_mulI, ↓r_mulS, ↓r_eqI, ↓r_neI, ↓r_eqS, ↓r_neS, ↓r_absI, ↓r_intI, ↓r_intB, List.length_cons, List.length_nil, List.replicate, List.set_cons_zero, List.set_cons_succ, decide_eq_true_eq, Bool.not_eq_true', decide_eq_false_iff_not, if_true, if_false, Bool.false_eq_true, Bool.true_eq_false, ite_true, ite_false, Bool.not_true, Bool.not_false, c_div, n_ten, c_pow, not_true_eq_false, not_false_eq_true, decide_true, decide_false, true_and, and_true, and_self, true_or, or_true, Int.reduceLT, Int.reduceLE, Int.reduceMul, Int.reduceAdd, Int.reduceSub, Int.reducePow, Int.reduceNeg, Int.reduceDiv, Int.reduceMod, Nat.reducePow, Int.reduceToNat, Int.reduceEq, Int.reduceNe, Nat.reduceLT, Nat.reduceLeDiff, Nat.reduceAdd, ↓x_whole])
section
variable {P : Program} {w : World} {K : PySem.W.Frag} {mg : Str → Option Value} {base : Heap}
theorem f_is_whole (T : Tx K mg) : Fn P w K mg base 1 "is_whole" ["thing"] (sp_is_whole) := by
  refine T.mkFn 1 19 (d := d_is_whole) (N := ["thing"]) (k := 0) rfl rfl rfl rfl rfl sc_is_whole (fun _ _ _ _ _ _ us hl => match us, hl with | [_], _ => rfl) (fun vs H Q E h => ?len) (fun cdv A outer s H vs Q E hr h => ⟨_,
      (pss_one (ps_ret (pe_and (pe_callB call_gIsi (by rfl) (T.free 68) (by decide +kernel) (pa_cons (pv 0) (pa_cons (pe_ty (T := "int") (T.free 76) (by decide +kernel) (by rfl)) pa_nil))) (pe_one (pe_not (pe_callB call_gIsi (by rfl) (T.free 68) (by decide +kernel) (pa_cons (pv 0) (pa_cons (pe_ty (T := "bool") (T.free 77) (by decide +kernel) (by rfl)) pa_nil)))))))), ?rd⟩)
  case len => first | exact len_is_whole h | (repeat (first | (obtain ⟨rfl, _⟩ := h; rfl; done) | obtain ⟨_, h⟩ := h))
  case rd =>
    obtain ⟨v, rfl⟩ : ∃ v, vs = [v] := by unfold sp_is_whole at h; split at h <;> first | exact ⟨_, rfl⟩ | exact h.elim
    walk_at "x"
    cases v with
    | int n => exact whole_int h
    | _ => exact whole_odd h.1 h.2
theorem f_number_word (T : Tx K mg) : Fn P w K mg base 2 "number_word" ["number"] (sp_number_word K) := by
  have c_is_whole := f_is_whole (P := P) (w := w) (base := base) T
  refine T.mkFn 2 20 (d := d_number_word) (N := ["number"]) (k := 1) rfl rfl rfl rfl rfl sc_number_word (fun _ _ _ _ _ _ us hl => match us, hl with | [_], _ => rfl) (fun vs H Q E h => ?len) (fun cdv A outer s H vs Q E hr h => ⟨_,
      (pss_cons (ps_if (PW.pt (pw_or (pt_not (pt_val (pe_fn (takes_of rfl rfl rfl rfl) c_is_whole (hr.mono (by decide)) (by rfl) (pa_cons (pv 0) pa_nil)))) (pw_or1 (pt_cmpR op_gt (pe_callB call_gAbs (by rfl) (T.free 70) (by decide +kernel) (pa_cons (pv 0) pa_nil)) (pe_num (T.num 57) (by rfl)) (nomark _))))) (pss_one (ps_raiseK (K := K) rfl rfl (takes_of rfl rfl rfl rfl) (T.says.fact 82 rfl) (T.glo 1) (by rfl))) pss_nil)
        (pss_one (ps_ret (pe_op op_gMul pe_int (pv 0))))), ?rd⟩)
  case len => first | exact len_number_word h | (repeat (first | (obtain ⟨rfl, _⟩ := h; rfl; done) | obtain ⟨_, h⟩ := h))
  case rd =>
    rcases one_number_word h with ⟨n, rfl⟩ | ⟨v, rfl, o, h⟩
    · walk_at "w"
      rw [x_number_word] at h
      ((repeat' split) <;> (repeat' split at h) <;> first | exact h | (exfalso; omega))
    · walk_at "x"
      rw [odd_whole o]
      walk_at "x"
      exact h
theorem f_place_word (T : Tx K mg) : Fn P w K mg base 2 "place_word" ["at"] (sp_place_word K) := by
  have c_is_whole := f_is_whole (P := P) (w := w) (base := base) T
  refine T.mkFn 3 21 (d := d_place_word) (N := ["at"]) (k := 1) rfl rfl rfl rfl rfl sc_place_word (fun _ _ _ _ _ _ us hl => match us, hl with | [_], _ => rfl) (fun vs H Q E h => ?len) (fun cdv A outer s H vs Q E hr h => ⟨_,
      (pss_cons (ps_if (PW.pt (pw_or (pt_not (pt_val (pe_fn (takes_of rfl rfl rfl rfl) c_is_whole (hr.mono (by decide)) (by rfl) (pa_cons (pv 0) pa_nil)))) (pw_or1 (pt_not (pt_chain op_le op_le pe_int (pv 0) (pe_num (T.num 58) (by rfl))))))) (pss_one (ps_raiseK (K := K) rfl rfl (takes_of rfl rfl rfl rfl) (T.says.fact 85 rfl) (T.glo 4) (by rfl))) pss_nil)
        (pss_one (ps_ret (pe_op op_gAdd (pe_op op_gMul pe_int (pv 0)) pe_int)))), ?rd⟩)
  case len => first | exact len_place_word h | (repeat (first | (obtain ⟨rfl, _⟩ := h; rfl; done) | obtain ⟨_, h⟩ := h))
  case rd =>
    rcases one_place_word h with ⟨n, rfl⟩ | ⟨v, rfl, o, h⟩
    · walk_at "w"
      rw [x_place_word] at h
      ((repeat' split) <;> (repeat' split at h) <;> first | exact h | (exfalso; omega))
    · walk_at "x"
      rw [odd_whole o]
      walk_at "x"
      exact h
theorem f_kind (T : Tx K mg) : Fn P w K mg base 2 "kind" ["word"] (sp_kind K) := by
  have c_is_whole := f_is_whole (P := P) (w := w) (base := base) T
  refine T.mkFn 4 22 (d := d_kind) (N := ["word"]) (k := 1) rfl rfl rfl rfl rfl sc_kind (fun _ _ _ _ _ _ us hl => match us, hl with | [_], _ => rfl) (fun vs H Q E h => ?len) (fun cdv A outer s H vs Q E hr h => ⟨_,
      (pss_cons (ps_if (pt_not (pt_val (pe_fn (takes_of rfl rfl rfl rfl) c_is_whole (hr.mono (by decide)) (by rfl) (pa_cons (pv 0) pa_nil)))) (pss_one (ps_raiseK (K := K) rfl rfl (takes_of rfl rfl rfl rfl) (T.says.fact 83 rfl) (T.glo 2) (by rfl))) pss_nil)
        (pss_cons (ps_if (pt_cmpR (op_eqK (K := K) rfl hr.units) (pv 0) (pe_num (T.num 59) (by rfl)) (nomark _)) (pss_one (ps_ret pe_str)) pss_nil)
        (pss_cons (ps_if (PW.pt (pw_and (pt_cmpR (op_eqK (K := K) rfl hr.units) (pe_op op_mod (pv 0) pe_int) pe_int (nomark _)) (pw_and1 (pt_cmpR op_le (pe_callB call_gAbs (by rfl) (T.free 70) (by decide +kernel) (pa_cons (pv 0) pa_nil)) (pe_op op_gMul pe_int (pe_num (T.num 57) (by rfl))) (nomark _))))) (pss_one (ps_ret pe_str)) pss_nil)
        (pss_cons (ps_if (PW.pt (pw_and (pt_cmpR (op_eqK (K := K) rfl hr.units) (pe_op op_mod (pv 0) pe_int) pe_int (nomark _)) (pw_and1 (pt_chain op_lt op_le pe_int (pv 0) (pe_op op_gAdd (pe_op op_gMul pe_int (pe_num (T.num 58) (by rfl))) pe_int))))) (pss_one (ps_ret pe_str)) pss_nil)
        (pss_one (ps_raiseK (K := K) rfl rfl (takes_of rfl rfl rfl rfl) (T.says.fact 83 rfl) (T.glo 2) (by rfl))))))), ?rd⟩)
  case len => first | exact len_kind h | (repeat (first | (obtain ⟨rfl, _⟩ := h; rfl; done) | obtain ⟨_, h⟩ := h))
  case rd =>
    rcases one_kind h with ⟨n, rfl⟩ | ⟨v, rfl, o, h⟩
    · walk_at "w"
      rw [x_kind, kind_if rfl rfl rfl] at h
      ((repeat' split) <;> (repeat' split at h) <;> first | exact h | (exfalso; omega))
    · walk_at "x"
      rw [odd_whole o]
      walk_at "x"
      exact h
local macro_rules | `(tactic| walk_at "w2") => `(tactic| try simp only [↓x_var0, ↓x_varS, ↓x_c, ↓x_op, ↓x_un, ↓x_cb, ↓x_nil, ↓x_cons, ↓x_test, ↓x_b, ↓x_ex, ↓x_and, ↓x_or, ↓x_not, ↓x_andV, ↓x_orV, ↓x_notV, ↓x_tif, ↓x_chain, ↓x_menu, ↓x_menuI, ↓x_lst, ↓x_tup, ↓x_dnew, ↓x_callW, ↓x_callN, ↓x_seq, ↓x_next, ↓x_ret, ↓x_retN, ↓x_drop, ↓x_ifS, ↓x_asg, ↓x_name, ↓x_raise, ↓x_fld, ↓x_setF, ↓x_meth, ↓x_make, ↓x_sub, ↓r_min, ↓r_max, ↓x_yes, ↓x_for, ↓x_lock, ↓x_keys, ↓x_cut, ↓x_lc, ↓x_rng1, ↓x_rng2, ↓x_lst1, ↓x_itup, ↓x_rng3, ↓x_three, ↓x_lstg, ↓x_tupg, ↓x_adrS, ↓x_one, ↓x_two, ↓x_adr, ↓x_sl, ↓x_np, ↓x_pt, ↓x_int, ↓x_bm, ↓x_bm0, ↓x_consg, ↓x_nilg, ↓x_dget2, ↓x_dget1, ↓x_dgetN, ↓x_dget, ↓x_din, ↓x_dni, ↓x_dput, ↓x_dpop2, ↓r_isB, ↓r_notB, ↓x_enum, ↓x_zip, ↓x_str, ↓x_strE, ↓r_inS, ↓r_ninS, wipe, List.map_cons, List.map_nil, ↓x_isT, ↓r_isiII, ↓r_isiBB, ↓r_isiIB, ↓r_isiSS, ↓r_neNS, ↓r_neSN, ↓r_neNN, ↓r_eqNS, ↓r_eqSN, ↓r_eqNN, ↓r_eqIS, ↓r_neIS, ↓r_neSI, ↓r_neBS, ↓r_eqBB, ↓r_neBB, ↓x_start, ↓x_K, ↓x_start0, ↓r_i0, ↓r_i, ↓r_u, ↓r_addI, ↓r_addS, ↓r_mulI, ↓r_mulS, ↓r_eqI, ↓r_neI, ↓r_eqS, ↓r_neS, ↓r_absI, ↓r_intI, ↓r_intB, List.length_cons, List.length_nil, List.replicate, List.set_cons_zero, List.set_cons_succ, decide_eq_true_eq, Bool.not_eq_true', decide_eq_false_iff_not, if_true, if_false, Bool.false_eq_true, Bool.true_eq_false, ite_true, ite_false, Bool.not_true, Bool.not_false, c_div, n_ten, c_pow, not_true_eq_false, not_false_eq_true, decide_true, decide_false, true_and, and_true, and_self, true_or, or_true, Int.reduceLT, Int.reduceLE, Int.reduceMul, Int.reduceAdd, Int.reduceSub, Int.reducePow, Int.reduceNeg, Int.reduceDiv, Int.reduceMod, Nat.reducePow, Int.reduceToNat, Int.reduceEq, Int.reduceNe, Nat.reduceLT, Nat.reduceLeDiff, Nat.reduceAdd, ↓x_whole, ↓x_kind])
theorem f_worth (T : Tx K mg) : Fn P w K mg base 3 "worth" ["word"] (sp_worth K) := by
  have c_kind := f_kind (P := P) (w := w) (base := base) T
  refine T.mkFn 5 23 (d := d_worth) (N := ["word"]) (k := 2) rfl rfl rfl rfl rfl sc_worth (fun _ _ _ _ _ _ us hl => match us, hl with | [_], _ => rfl) (fun vs H Q E h => ?len) (fun cdv A outer s H vs Q E hr h => ⟨_,
      (pss_cons (ps_if (pt_cmpR (op_eqK (K := K) rfl hr.units) (pe_fn (takes_of rfl rfl rfl rfl) c_kind (hr.mono (by decide)) (by rfl) (pa_cons (pv 0) pa_nil)) pe_str (nomark _)) (pss_one (ps_ret pe_non)) pss_nil)
        (pss_one (ps_ret (pe_op op_fdiv (pv 0) pe_int)))), ?rd⟩)
  case len => first | exact len_worth h | (repeat (first | (obtain ⟨rfl, _⟩ := h; rfl; done) | obtain ⟨_, h⟩ := h))
  case rd =>
    rcases one_worth h with ⟨n, rfl⟩ | ⟨v, rfl, o, h⟩
    · walk_at "w2"
      rw [x_worth] at h
      cases e : wordOf n with
      | none => rw [e] at h; exact h
      | some w =>
        rw [e] at h
        replace h : Q w.worth H := h
        walk_at "w2"
        rw [wordOf_div e] at h
        simp only [(kind_is w).1]
        split
        · rename_i c
          rw [if_pos c] at h
          exact h
        · rename_i c
          rw [if_neg c] at h
          exact h
    · walk_at "x"
      rw [odd_kind o]
      exact h
end
def Vw (ws : List Int) : Prop := ∀ w ∈ ws, (wordOf w).isSome = true
theorem Vw.get {ws : List Int} (h : Vw ws) {i : Nat} (hi : i < ws.length) : ∃ w, wordOf (ws.getD i 0) = some w := by
  have m := List.mem_of_getElem? (getD_at (d := 0) hi)
  exact Option.isSome_iff_exists.mp (h _ m)
theorem Vw.set {ws : List Int} (h : Vw ws) {i : Nat} {n : Int} (hn : (wordOf n).isSome = true) : Vw (ws.set i n) := fun w m => by
  rcases List.mem_or_eq_of_mem_set m with m | rfl
  · exact h w m
  · exact hn
theorem Vw.rep {n : Nat} : Vw (List.replicate n (-1)) := fun w m => by
  rw [(List.mem_replicate.mp m).2]
  rfl
theorem k_nn : (Wd.nothing.kind = ("number" : Str)) = False := eq_false (show ¬ ("nothing" : Str) = "number" by decide +kernel)
theorem k_pn {p : Int} : ((Wd.place p).kind = ("number" : Str)) = False := eq_false (show ¬ ("place" : Str) = "number" by decide +kernel)
theorem k_Nn {n : Int} : ((Wd.num n).kind = ("number" : Str)) = True := eq_true (show ("number" : Str) = "number" from rfl)
theorem k_np : (Wd.nothing.kind = ("place" : Str)) = False := eq_false (show ¬ ("nothing" : Str) = "place" by decide +kernel)
theorem k_Np {n : Int} : ((Wd.num n).kind = ("place" : Str)) = False := eq_false (show ¬ ("number" : Str) = "place" by decide +kernel)
theorem k_pp {p : Int} : ((Wd.place p).kind = ("place" : Str)) = True := eq_true (show ("place" : Str) = "place" from rfl)
theorem word_num {n : Int} (h : (n.natAbs : Int) ≤ 1000000000000) : wordOf (2 * n) = some (.num n) := by
  unfold wordOf
  rw [if_neg (by omega), if_pos (by omega)]
  congr 2
  omega
theorem word_place {n : Int} (h0 : 0 ≤ n) (h1 : n ≤ 9999) : wordOf (2 * n + 1) = some (.place n) := by
  unfold wordOf
  rw [if_neg (by omega), if_neg (by omega), if_pos (by omega)]
  congr 2
  omega
def wordV : V → Option Int
  | .int n => if (wordOf n).isSome then some n else none
  | _ => none
theorem wordV_int {n : Int} : wordV (.int n) = if (wordOf n).isSome then some n else none := rfl
theorem wordV_odd {H : Hp} {v : V} (h : Odd H v) : wordV v = none := by
  cases v with
  | int i => exact (odd_not h).elim
  | _ => rfl
theorem wordV_some {v : V} {n : Int} (h : wordV v = some n) : v = .int n ∧ ∃ w, wordOf n = some w := by
  cases v with
  | int j =>
    rw [wordV_int] at h
    split at h
    · rename_i c
      cases h
      exact ⟨rfl, Option.isSome_iff_exists.mp c⟩
    · cases h
  | _ => cases h
theorem wordV_none {n : Int} (h : wordV (.int n) = none) : wordOf n = none := by
  rw [wordV_int] at h
  split at h
  · cases h
  · rename_i c
    cases e : wordOf n with
    | none => rfl
    | some w => rw [e] at c; exact absurd rfl c
local macro_rules | `(tactic| walk_at "w2") => `(tactic| try simp only [↓x_var0, ↓x_varS, ↓x_c, ↓x_op, ↓x_un, ↓x_cb, ↓x_nil, ↓x_cons, ↓x_test, ↓x_b, ↓x_ex, ↓x_and, ↓x_or, ↓x_not, ↓x_andV, ↓x_orV, ↓x_notV, ↓x_tif, ↓x_chain, ↓x_menu, ↓x_menuI, ↓x_lst, ↓x_tup, ↓x_dnew, ↓x_callW, ↓x_callN, ↓x_seq, ↓x_next, ↓x_ret, ↓x_retN, ↓x_drop, ↓x_ifS, ↓x_asg, ↓x_name, ↓x_raise, ↓x_fld, ↓x_setF, ↓x_meth, ↓x_make, ↓x_sub, ↓r_min, ↓r_max, ↓x_yes, ↓x_for, ↓x_lock, ↓x_keys, ↓x_cut, ↓x_lc, ↓x_rng1, ↓x_rng2, ↓x_lst1, ↓x_itup, ↓x_rng3, ↓x_three, ↓x_lstg, ↓x_tupg, ↓x_adrS, ↓x_one, ↓x_two, ↓x_adr, ↓x_sl, ↓x_np, ↓x_pt, ↓x_int, ↓x_bm, ↓x_bm0, ↓x_consg, ↓x_nilg, ↓x_dget2, ↓x_dget1, ↓x_dgetN, ↓x_dget, ↓x_din, ↓x_dni, ↓x_dput, ↓x_dpop2, ↓r_isB, ↓r_notB, ↓x_enum, ↓x_zip, ↓x_str, ↓x_strE, ↓r_inS, ↓r_ninS, wipe, List.map_cons, List.map_nil, ↓x_isT, ↓r_isiII, ↓r_isiBB, ↓r_isiIB, ↓r_isiSS, ↓r_neNS, ↓r_neSN, ↓r_neNN, ↓r_eqNS, ↓r_eqSN, ↓r_eqNN, ↓r_eqIS, ↓r_neIS, ↓r_neSI, ↓r_neBS, ↓r_eqBB, ↓r_neBB, ↓x_start, ↓x_K, ↓x_start0, ↓r_i0, ↓r_i, ↓r_u, ↓r_addI, ↓r_addS, ↓r_mulI, ↓r_mulS, ↓r_eqI, ↓r_neI, ↓r_eqS, ↓r_neS, ↓r_absI, ↓r_intI, ↓r_intB, List.length_cons, List.length_nil, List.replicate, List.set_cons_zero, List.set_cons_succ, decide_eq_true_eq, Bool.not_eq_true', decide_eq_false_iff_not, if_true, if_false, Bool.false_eq_true, Bool.true_eq_false, ite_true, ite_false, Bool.not_true, Bool.not_false, c_div, n_ten, c_pow, not_true_eq_false, not_false_eq_true, decide_true, decide_false, true_and, and_true, and_self, true_or, or_true, Int.reduceLT, Int.reduceLE, Int.reduceMul, Int.reduceAdd, Int.reduceSub, Int.reducePow, Int.reduceNeg, Int.reduceDiv, Int.reduceMod, Nat.reducePow, Int.reduceToNat, Int.reduceEq, Int.reduceNe, Nat.reduceLT, Nat.reduceLeDiff, Nat.reduceAdd, ↓x_whole, ↓x_kind])

/-! ## the script's cells, lists that are read -/
def cell (ns : List Int) (j : Int) : Int := ns.getD j.toNat 0
theorem same_new {H : Hp} {p : Addr} {o : HO} (h : H p = none) : Same H (upd H p o) := fun b u e => by
  rw [upd_ne (ne_of_none e h)]
  exact e
theorem ite_and {P Q A B : Prop} [Decidable P] [Decidable Q] (h1 : P → Q → A) (h2 : ¬ (P ∧ Q) → B) : if P then (if Q then A else B) else B := by
  split
  · split
    · exact h1 ‹_› ‹_›
    · exact h2 fun z => absurd z.2 ‹_›
  · exact h2 fun z => absurd z.1 ‹_›
theorem ite_or {P Q A B : Prop} [Decidable P] [Decidable Q] (h1 : P ∨ Q → A) (h2 : ¬ P → ¬ Q → B) : if P then A else if Q then A else B := by
  split
  · exact h1 (.inl ‹_›)
  · split
    · exact h1 (.inr ‹_›)
    · exact h2 ‹_› ‹_›
/-- a new instance; its first deed -/
theorem same_mk {H : Hp} {x dx C : Addr} (nx : H x = none) (ndx : H dx = none) (ne : dx ≠ x) : Same H (upd (upd H dx (.own x)) x (.ins C dx [])) := (same_new ndx).trans (same_new (by rw [upd_ne ne.symm]; exact nx))
theorem same_init {H H' : Hp} {x dx C : Addr} (nx : H x = none) (ndx : H dx = none) (ne : dx ≠ x) (k : ∀ c o, c ≠ x → upd (upd H dx (.own x)) x (.ins C dx []) c = some o → H' c = some o) : Same H H' := fun c o e => k c o (ne_of_none e nx) (same_mk nx ndx ne c o e)
theorem cut_ints (ns : List Int) (lo hi : Option Int) : ∃ cs : List Int, cutV (ns.map V.int) lo hi = cs.map V.int := ⟨(ns.drop (HT.sIx ns.length 0 lo)).take (HT.sIx ns.length ns.length hi - HT.sIx ns.length 0 lo), by unfold cutV; rw [List.length_map, List.map_take, List.map_drop]⟩
def placeOf (n : Nat) : V → Option Nat
  | .int i => if 0 ≤ i ∧ i < n then some i.toNat else none
  | _ => none
theorem placeOf_int {n : Nat} {i : Int} : placeOf n (.int i) = if 0 ≤ i ∧ i < n then some i.toNat else none := rfl
theorem placeOf_odd {H : Hp} {n : Nat} {v : V} (h : Odd H v) : placeOf n v = none := by
  cases v with
  | int i => exact (odd_not h).elim
  | _ => rfl
theorem placeOf_some {n : Nat} {v : V} {i : Nat} (h : placeOf n v = some i) : v = .int (i : Int) ∧ i < n := by
  cases v with
  | int j =>
    rw [placeOf_int] at h
    split at h
    · rename_i c
      have e := Option.some.inj h
      exact ⟨by rw [← e]; congr 1; omega, by omega⟩
    · cases h
  | _ => cases h
def placeW : V → Option Int
  | .int n => if 0 ≤ n ∧ n ≤ 9999 then some n else none
  | _ => none
theorem placeW_int {n : Int} : placeW (.int n) = if 0 ≤ n ∧ n ≤ 9999 then some n else none := rfl
theorem placeW_odd {H : Hp} {v : V} (h : Odd H v) : placeW v = none := by
  cases v with
  | int i => exact (odd_not h).elim
  | _ => rfl
theorem placeW_some {v : V} {n : Int} (h : placeW v = some n) : v = .int n ∧ 0 ≤ n ∧ n ≤ 9999 := by
  cases v with
  | int j =>
    rw [placeW_int] at h
    split at h
    · rename_i c
      cases h
      exact ⟨rfl, c⟩
    · cases h
  | _ => cases h
theorem all_flat {ws : List Int} : (ws.map V.int).all flatV = true := by
  rw [List.all_map]
  exact List.all_eq_true.mpr fun _ _ => rfl
theorem in_ints {n : Int} {ws : List Int} : inV (.int n) (ws.map V.int) = decide (n ∈ ws) := by
  unfold inV
  rw [List.any_map]
  by_cases c : n ∈ ws
  · rw [decide_eq_true c]
    exact List.any_eq_true.mpr ⟨n, c, beq_self_eq_true n⟩
  · rw [decide_eq_false c]
    refine List.any_eq_false.mpr fun x hx e => c ?_
    have e2 : x = n := eq_of_beq e
    exact e2 ▸ hx
theorem none_of {H H' : Hp} {a : Addr} (s : Same H H') (h : H' a = none) : H a = none := by
  cases e : H a with
  | none => rfl
  | some o =>
    rw [s a o e] at h
    cases h
/-- a list that grows -/
theorem r_app {K : PySem.W.Frag} {H : Hp} {l : Addr} {xs : List V} {y : V} {Q : VK} (h : H l = some (.lst xs)) (hn : xs.length < sizeLine) (q : Q .non (upd H l (.lst (xs ++ [y])))) : tyV K "list" (.ref l) H ∧ rAppend (.ref l) [y] H Q := ⟨.inl ⟨rfl, _, .of h⟩, l, xs, y, rfl, rfl, h, hn, q⟩
theorem ty_lst {K : PySem.W.Frag} {H : Hp} {l : Addr} {xs : List V} (h : H l = some (.lst xs)) : tyV K "list" (.ref l) H := .inl ⟨rfl, _, .of h⟩
theorem same_tyOf {H H' : Hp} {v : V} {t : String} (s : Same H H') (h : tyOf v H = some t) : tyOf v H' = some t := by
  cases v with
  | ref a =>
    have h1 : tyO (H a) = some t := h
    cases e : H a with
    | none =>
      rw [e] at h1
      cases h1
    | some o =>
      rw [e] at h1
      show tyO (H' a) = some t
      rw [s a o e]
      exact h1
  | _ => exact h
theorem odd_same {H H' : Hp} {v : V} (s : Same H H') (h : Odd H v) : Odd H' v := h.elim fun t q => ⟨t, same_tyOf s q.1, q.2⟩
def Thing (H : Hp) (v : V) : Prop := (∃ n, v = .int n) ∨ Odd H v
theorem thing_same {H H' : Hp} {v : V} (s : Same H H') (h : Thing H v) : Thing H' v := h.imp id (odd_same s)
theorem thing_upd {H : Hp} {a : Addr} {o o' : HO} {v : V} (e : H a = some o) (q : tyO (some o) = tyO (some o')) (h : Thing H v) : Thing (upd H a o') v := h.imp id fun ⟨t, g, ne⟩ => ⟨t, by
  cases v with
  | ref b =>
    have h1 : tyO (H b) = some t := g
    show tyO (upd H a o' b) = some t
    by_cases c : b = a
    · subst c
      rw [upd_same, ← q, ← e]
      exact h1
    · rw [upd_ne c]
      exact h1
  | _ => exact g, ne⟩
theorem r_lenS {K : PySem.W.Frag} {H : Hp} {a : Addr} {xs : List V} {Q : VK} (h : SqL K H a xs) (q : Q (.int (xs.length : Int)) H) : L2.rLen K [.ref a] H Q := ⟨_, _, rfl, .inl ⟨_, h, rfl⟩, q⟩
theorem r_ixS {K : PySem.W.Frag} {H : Hp} {a : Addr} {xs : List V} {i : Int} {v : V} {Q : VK} (h : SqL K H a xs) (e : atI xs i = some v) (q : Q v H) : rIx K (.ref a) (.int i) H Q := .inl ⟨_, _, _, _, rfl, rfl, h, e, q⟩
theorem at_pos {α : Type} {xs : List α} {i : Int} {v : α} (h : 0 ≤ i) (e : xs[i.toNat]? = some v) : atI xs i = some v := by
  have hl := (List.getElem?_eq_some_iff.mp e).1
  unfold atI ixN
  rw [if_pos h, if_pos (by omega)]
  exact e
theorem menu_pick {xs : List V} {i : Int} {P : V → Prop} (Good : V → Prop) (h : ∃ v, atI xs i = some v ∧ Good v) (k : ∀ v, Good v → P v) : ∃ v, atI xs i = some v ∧ P v := h.elim fun v q => ⟨v, q.1, k v q.2⟩
theorem cut_int {ns : List Int} {lo hi : Option Int} {i : Nat} {x : V} (h : (cutV (ns.map V.int) lo hi)[i]? = some x) : ∃ c, x = .int c := by
  have m := List.mem_of_getElem? h
  unfold cutV at m
  have m2 := List.mem_of_mem_drop (List.mem_of_mem_take m)
  obtain ⟨c, -, e⟩ := List.mem_map.mp m2
  exact ⟨c, e.symm⟩
theorem sIx_pos {n d : Nat} {v : Int} (h : 0 ≤ v) : HT.sIx n d (some v) = min v.toNat n := by
  show (if v < 0 then (v + (n : Int)).toNat else min v.toNat n) = _
  rw [if_neg (by omega)]
theorem cut_len {xs : List V} {a b : Int} (h0 : 0 ≤ a) (h1 : a ≤ b) : (cutV xs (some a) (some b)).length ≤ (b - a).toNat := by
  unfold cutV
  rw [List.length_take, List.length_drop]
  rw [sIx_pos h0, sIx_pos (by omega)]
  omega
def sp_cell (K : PySem.W.Frag) : Sp := fun vs H Q _ => ∃ a j ns, vs = [.ref a, .int j] ∧ SqL K H a (ns.map V.int) ∧ 0 ≤ j ∧ Q (.int (cell ns j)) H
section
variable {P : Program} {w : World} {K : PySem.W.Frag} {mg : Str → Option Value} {base : Heap}
theorem f__law_at (T : Tx K mg) : Fn P w K mg base 1 "_law_at" ["_law_script", "_law_k"] (sp_cell K) := by
  refine T.mkFn 73 44 (d := d__law_at) (N := ["_law_script", "_law_k"]) (k := 0) rfl rfl rfl rfl rfl sc__law_at (fun _ _ _ _ _ _ us hl => match us, hl with | [_, _], _ => rfl) (fun vs H Q E h => ?len) (fun cdv A outer s H vs Q E hr h => ⟨_,
      (pss_cons (ps_if (pt_cmpR op_lt (pv 1) (pe_callB (call_lenK (K := K) rfl) (by rfl) (T.free 69) PySem.boot_len (pa_cons (pv 0) pa_nil)) (nomark _)) (pss_one (ps_ret (pe_ix (ix_seqK (K := K) rfl) (pv 0) (pv 1) (fun _ _ => rfl)))) pss_nil)
        (pss_one (ps_ret pe_int))), ?rd⟩)
  case len => obtain ⟨a, j, ns, rfl, _⟩ := h; rfl
  case rd =>
    obtain ⟨a, j, ns, rfl, hS, h0, q⟩ := h
    walk_at "x"
    refine r_lenS hS ?_
    walk_at "x"
    rw [List.length_map]
    unfold cell at q
    split
    · rename_i c
      have e : ns[j.toNat]? = some ns[j.toNat] := List.getElem?_eq_getElem (by omega)
      rw [List.getD_eq_getElem?_getD, e] at q
      exact r_ixS hS (at_pos h0 (by rw [List.getElem?_map, e]; rfl)) q
    · rw [List.getD_eq_getElem?_getD, List.getElem?_eq_none (by omega)] at q
      exact q
theorem f__law_whole (T : Tx K mg) : FnH P w K mg base 1 "_law_whole" ["_law_found"] (sp_is_whole) := by
  refine T.mkFnH 74 45 (d := d__law_whole) (N := ["_law_found"]) (k := 0) rfl rfl rfl rfl rfl sc__law_whole (fun _ _ _ _ _ _ us hl => match us, hl with | [_], _ => rfl) (fun vs H Q E h => ?len) (fun cdv A outer s H vs Q hr h => ⟨_,
      (pss_one (ps_ret (pe_and (pe_callB call_gIsi (by rfl) (T.free 68) (by decide +kernel) (pa_cons (pv 0) (pa_cons (pe_ty (T := "int") (T.free 76) (by decide +kernel) (by rfl)) pa_nil))) (pe_one (pe_not (pe_callB call_gIsi (by rfl) (T.free 68) (by decide +kernel) (pa_cons (pv 0) (pa_cons (pe_ty (T := "bool") (T.free 77) (by decide +kernel) (by rfl)) pa_nil)))))))), ?rd⟩)
  case len => exact len_is_whole h
  case rd =>
    obtain ⟨v, rfl⟩ : ∃ v, vs = [v] := by unfold sp_is_whole at h; split at h <;> first | exact ⟨_, rfl⟩ | exact h.elim
    walk_at "x"
    cases v with
    | int n => exact whole_int h
    | _ => exact whole_odd h.1 h.2
end



/-! ## memories -/
structure MemO (K : PySem.W.Frag) (H : Hp) (m dx l : Addr) (ws : List Int) : Prop where
  ob : H m = some (.ins (He.ga K "Memory") dx (F_Memory (.int ws.length) (.ref l)))
  ls : H l = some (.lst (ws.map V.int))
  sz : ws.length ≤ 4000
theorem MemO.ne {K H m dx l ws} (h : MemO K H m dx l ws) : l ≠ m := ne_of h.ls h.ob (by intro z; cases z)
theorem MemO.same {K H H' m dx l ws} (h : MemO K H m dx l ws) (s : Same H H') : MemO K H' m dx l ws := ⟨s _ _ h.ob, s _ _ h.ls, h.sz⟩
theorem MemO.put {K H m dx l ws} (h : MemO K H m dx l ws) (vs : List Int) (e : vs.length = ws.length) : MemO K (upd H l (.lst (vs.map V.int))) m dx l vs :=
  ⟨by rw [upd_ne h.ne.symm, e]; exact h.ob, upd_same, by rw [e]; exact h.sz⟩
def sizeV : V → Option Nat
  | .int n => if 1 ≤ n ∧ n ≤ 4000 then some n.toNat else none
  | _ => none
theorem sizeV_int {n : Int} : sizeV (.int n) = if 1 ≤ n ∧ n ≤ 4000 then some n.toNat else none := rfl
theorem sizeV_odd {H : Hp} {v : V} (h : Odd H v) : sizeV v = none := by
  cases v with
  | int i => exact (odd_not h).elim
  | _ => rfl
def sp_Memory_need (K : PySem.W.Frag) : Sp := fun vs H Q E => ∃ m dx l ws v, vs = [.ref m, v] ∧ MemO K H m dx l ws ∧ Thing H v ∧ match placeOf ws.length v with
  | some _ => Q .non H
  | none => E (Ex K "NoPlace") none H
def sp_Memory_read (K : PySem.W.Frag) : Sp := fun vs H Q E => ∃ m dx l ws v, vs = [.ref m, v] ∧ MemO K H m dx l ws ∧ Thing H v ∧ match placeOf ws.length v with
  | some i => Q (.int (ws.getD i 0)) H
  | none => E (Ex K "NoPlace") none H
def sp_Memory_write (K : PySem.W.Frag) : Sp := fun vs H Q E => ∃ m dx l ws v z, vs = [.ref m, v, z] ∧ MemO K H m dx l ws ∧ Thing H v ∧ Thing H z ∧ match placeOf ws.length v with
  | some i => (match wordV z with
    | some n => Q .non (upd H l (.lst ((ws.set i n).map V.int)))
    | none => E (Ex K "BadWord") none H)
  | none => E (Ex K "NoPlace") none H
def sp_Memory___init__ (K : PySem.W.Frag) : Sp := fun vs H Q E => ∃ m dx v, vs = [.ref m, v] ∧ H m = some (.ins (He.ga K "Memory") dx []) ∧ Thing H v ∧ match sizeV v with
  | some n => ∀ l H', H l = none → MemO K H' m dx l (List.replicate n (-1)) → (∀ b o, b ≠ m → H b = some o → H' b = some o) → Q .non H'
  | none => E (Ex K "BadCount") none H
section
variable {P : Program} {w : World} {K : PySem.W.Frag} {mg : Str → Option Value} {base : Heap}
theorem f_Memory_need (T : Tx K mg) : Mt P w K mg base 2 "Memory" "need" ["self", "at"] (sp_Memory_need K) := by
  have c_is_whole := f_is_whole (P := P) (w := w) (base := base) T
  refine T.mkMt 27 93 91 (d := d_Memory_need) (N := ["self", "at"]) (k := 1) rfl rfl rfl rfl rfl rfl sc_Memory_need (fun _ _ _ _ _ _ us hl => match us, hl with | [_, _], _ => rfl) (fun vs H Q E h => ?len) (fun cdv A outer s H vs Q E hr h => ⟨_,
      (pss_one (ps_if (PW.pt (pw_or (pt_not (pt_val (pe_fn (takes_of rfl rfl rfl rfl) c_is_whole (hr.mono (by decide)) (by rfl) (pa_cons (pv 1) pa_nil)))) (pw_or1 (pt_not (pt_chain op_le op_lt pe_int (pv 1) (pe_fldC (T.cls 91) (T.noat 98) (pv 0))))))) (pss_one (ps_raiseK (K := K) rfl rfl (takes_of rfl rfl rfl rfl) (T.says.fact 85 rfl) (T.glo 4) (by rfl))) pss_nil)), ?rd⟩)
  case len => obtain ⟨m, dx, l, ws, v, rfl, _⟩ := h; rfl
  case rd =>
    obtain ⟨m, dx, l, ws, v, rfl, M, th, h⟩ := h
    walk_at "w2"
    rcases th with ⟨n, rfl⟩ | o
    · walk_at "w2"
      rw [placeOf_int] at h
      split
      · refine ⟨_, fldIs M.ob, ?_⟩
        walk_at "w2"
        split
        · rw [if_neg (by omega)] at h
          exact h
        · rw [if_pos (by omega)] at h
          exact h
      · rw [if_neg (by omega)] at h
        exact h
    · rw [odd_whole o]
      rw [placeOf_odd o] at h
      walk_at "w2"
      exact h
theorem f_Memory_read (T : Tx K mg) : Mt P w K mg base 3 "Memory" "read" ["self", "at"] (sp_Memory_read K) := by
  have c_Memory_need := f_Memory_need (P := P) (w := w) (base := base) T
  refine T.mkMt 28 94 91 (d := d_Memory_read) (N := ["self", "at"]) (k := 2) rfl rfl rfl rfl rfl rfl sc_Memory_read (fun _ _ _ _ _ _ us hl => match us, hl with | [_, _], _ => rfl) (fun vs H Q E h => ?len) (fun cdv A outer s H vs Q E hr h => ⟨_,
      (pss_cons (ps_expr (pe_mt (K := K) rfl (takes_of rfl rfl rfl rfl) (pv 0) c_Memory_need (hr.mono (by decide)) (pa_cons (pv 1) pa_nil)))
        (pss_one (ps_ret (pe_ix (ix_seqK (K := K) rfl) (pe_fldC (T.cls 91) (T.noat 99) (pv 0)) (pv 1) (fun _ _ => rfl))))), ?rd⟩)
  case len => obtain ⟨m, dx, l, ws, v, rfl, _⟩ := h; rfl
  case rd =>
    obtain ⟨m, dx, l, ws, v, rfl, M, th, h⟩ := h
    walk_at "w2"
    refine ⟨recv M.ob, m, dx, l, ws, v, rfl, M, th, ?_⟩
    cases e : placeOf ws.length v with
    | none =>
      rw [e] at h
      exact h
    | some i =>
      rw [e] at h
      obtain ⟨rfl, hi⟩ := placeOf_some e
      refine ⟨_, fldIs M.ob, ?_⟩
      refine r_ixS (.of M.ls) (at_pos (by omega) (v := .int (ws.getD i 0)) ?_) h
      rw [List.getElem?_map, Int.toNat_natCast, List.getElem?_eq_getElem hi, List.getD_eq_getElem?_getD, List.getElem?_eq_getElem hi]
      rfl
theorem f_Memory_write (T : Tx K mg) : Mt P w K mg base 3 "Memory" "write" ["self", "at", "word"] (sp_Memory_write K) := by
  have c_Memory_need := f_Memory_need (P := P) (w := w) (base := base) T
  have c_kind := f_kind (P := P) (w := w) (base := base) T
  refine T.mkMt 29 95 91 (d := d_Memory_write) (N := ["self", "at", "word"]) (k := 2) rfl rfl rfl rfl rfl rfl sc_Memory_write (fun _ _ _ _ _ _ us hl => match us, hl with | [_, _, _], _ => rfl) (fun vs H Q E h => ?len) (fun cdv A outer s H vs Q E hr h => ⟨_,
      (pss_cons (ps_expr (pe_mt (K := K) rfl (takes_of rfl rfl rfl rfl) (pv 0) c_Memory_need (hr.mono (by decide)) (pa_cons (pv 1) pa_nil)))
        (pss_cons (ps_expr (pe_fn (takes_of rfl rfl rfl rfl) c_kind (hr.mono (by decide)) (by rfl) (pa_cons (pv 2) pa_nil)))
        (pss_one (ps_asg (pv 2) (pg_sub (pe_fldC (T.cls 91) (T.noat 99) (pv 0)) (pv 1) set_list))))), ?rd⟩)
  case len => obtain ⟨m, dx, l, ws, v, z, rfl, _⟩ := h; rfl
  case rd =>
    obtain ⟨m, dx, l, ws, v, z, rfl, M, th, tz, h⟩ := h
    walk_at "w2"
    refine ⟨recv M.ob, m, dx, l, ws, v, rfl, M, th, ?_⟩
    cases e : placeOf ws.length v with
    | none =>
      rw [e] at h
      exact h
    | some i =>
      rw [e] at h
      obtain ⟨rfl, hi⟩ := placeOf_some e
      walk_at "w2"
      rcases tz with ⟨n, rfl⟩ | o
      · rw [x_kind]
        cases ew : wordOf n with
        | none =>
          have e2 : wordV (.int n) = none := by rw [wordV_int, ew]; rfl
          rw [e2] at h
          exact h
        | some w =>
          have e2 : wordV (.int n) = some n := by rw [wordV_int, ew]; rfl
          rw [e2] at h
          refine ⟨_, fldIs M.ob, ?_⟩
          refine r_setL M.ls (by omega) (by rw [List.length_map]; omega) ?_
          rw [Int.toNat_natCast, ← List.map_set]
          exact h
      · rw [odd_kind o]
        rw [wordV_odd o] at h
        exact h
theorem f_Memory___init__ (T : Tx K mg) : Mi P w K mg base 2 "Memory" ["self", "size"] (sp_Memory___init__ K) := by
  have c_is_whole := f_is_whole (P := P) (w := w) (base := base) T
  refine T.mkMi 26 92 10 (d := d_Memory___init__) (N := ["self", "size", "at"]) (k := 1) rfl rfl rfl rfl rfl rfl sc_Memory___init__ (fun _ _ _ _ _ _ us hl => match us, hl with | [_, _], _ => rfl) (fun vs H Q E h => ?len) (fun cdv A outer s H vs Q E hr h => ⟨_,
      (pss_cons (ps_if (PW.pt (pw_or (pt_not (pt_val (pe_fn (takes_of rfl rfl rfl rfl) c_is_whole (hr.mono (by decide)) (by rfl) (pa_cons (pv 1) pa_nil)))) (pw_or1 (pt_not (pt_chain op_le op_le pe_int (pv 1) (pe_num (T.num 62) (by rfl))))))) (pss_one (ps_raiseK (K := K) rfl rfl (takes_of rfl rfl rfl rfl) (T.says.fact 84 rfl) (T.glo 3) (by rfl))) pss_nil)
        (pss_cons (ps_fldC (T.cls 91) (T.noat 98) (pv 0) (pv 1))
        (pss_one (ps_fldC (T.cls 91) (T.noat 99) (pv 0) (pe_lc (own := [("at", 2)]) (g := gName 2) rfl sc_Memory___init__.nd (pi_range1 rfl (T.free 71) (pa_cons (pv 1) pa_nil)) (blkOk_by (own := [("at", 2)]) (N := ["self", "size", "at"]) (sc := defScope s_Memory___init__) (by decide +kernel)) (fun _ _ _ _ _ => (pg_name (i := 2) sc_Memory___init__.nd rfl (Or.inl rfl))) (fun _ _ _ _ _ => pts_nil) (fun _ _ _ _ _ => (pe_num (T.num 59) (by rfl)))))))), ?rd⟩)
  case len => obtain ⟨m, dx, v, rfl, _⟩ := h; rfl
  case rd =>
    obtain ⟨m, dx, v, rfl, M, th, h⟩ := h
    walk_at "w2"
    rcases th with ⟨n, rfl⟩ | o
    · walk_at "w2"
      rw [sizeV_int] at h
      split
      · split
        · rw [if_neg (by omega)] at h
          exact h
        · rw [if_pos (by omega)] at h
          refine ⟨m, dx, _, rfl, M, by decide, ?_⟩
          rw [pi_Memory_size]
          walk_at "w2"
          refine ⟨by omega, by omega, fun D hD => lc_mapR (fun _ => .int (-1)) (fun _ => rfl) (by rw [sizeLine_eq]; omega) (fun i hi acc Q q => ?_) ?_⟩
          · walk_at "w2"
            exact q
          · have nD : m ≠ D := ne_of_none upd_same hD
            have hD0 : H D = none := by rw [upd_ne nD.symm] at hD; exact hD
            refine ⟨m, dx, _, rfl, by rw [upd_ne nD, upd_same], by show 1 < 1000; decide, ?_⟩
            rw [pi_Memory_words]
            have er : (List.range n.toNat).map (fun _ => V.int (-1)) = (List.replicate n.toNat (-1 : Int)).map V.int := by rw [List.map_replicate, List.map_const', List.length_range]
            rw [er]
            refine h D _ hD0 ⟨?_, ?_, by rw [List.length_replicate]; omega⟩ fun b o hb e => ?_
            · rw [upd_same, List.length_replicate, Int.toNat_of_nonneg (by omega)]
            · rw [upd_ne nD.symm, upd_same]
            · rw [upd_ne hb, upd_ne (ne_of_none e hD0), upd_ne hb]
              exact e
      · rw [if_neg (by omega)] at h
        exact h
    · rw [odd_whole o]
      rw [sizeV_odd o] at h
      walk_at "w2"
      exact h
end
def stretchOf (n : Nat) (k : Int) : V → Option Nat
  | .int i => if 0 ≤ i ∧ i + k ≤ n then some i.toNat else none
  | _ => none
theorem stretchOf_int {n : Nat} {k i : Int} : stretchOf n k (.int i) = if 0 ≤ i ∧ i + k ≤ n then some i.toNat else none := rfl
theorem stretchOf_odd {H : Hp} {n : Nat} {k : Int} {v : V} (h : Odd H v) : stretchOf n k v = none := by
  cases v with
  | int i => exact (odd_not h).elim
  | _ => rfl
theorem stretchOf_some {n : Nat} {k : Int} {v : V} {i : Nat} (h : stretchOf n k v = some i) : v = .int (i : Int) ∧ (i : Int) + k ≤ n := by
  cases v with
  | int j =>
    rw [stretchOf_int] at h
    split at h
    · rename_i c
      have e := Option.some.inj h
      exact ⟨by rw [← e]; congr 1; omega, by omega⟩
    · cases h
  | _ => cases h
inductive Cp where
  | count | place | ok (i j k : Nat)
def cpOf (n : Nat) (a b : V) : V → Cp
  | .int k => if 0 ≤ k then (match stretchOf n k a with
    | some i => (match stretchOf n k b with
      | some j => .ok i j k.toNat
      | none => .place)
    | none => .place) else .count
  | _ => .count
theorem cpOf_odd {H : Hp} {n : Nat} {a b v : V} (h : Odd H v) : cpOf n a b v = .count := by
  cases v with
  | int i => exact (odd_not h).elim
  | _ => rfl
theorem cpOf_int {n : Nat} {a b : V} {k : Int} : cpOf n a b (.int k) = if 0 ≤ k then (match stretchOf n k a with
    | some i => (match stretchOf n k b with
      | some j => .ok i j k.toNat
      | none => .place)
    | none => .place) else .count := rfl
/-- t words of ws from i on, laid from j on -/
def cpT (ws : List Int) (i j t : Nat) : List Int := (List.range t).foldl (fun a u => a.set (j + u) (ws.getD (i + u) 0)) ws
theorem cpT_zero {ws : List Int} {i j : Nat} : cpT ws i j 0 = ws := rfl
theorem cpT_succ {ws : List Int} {i j t : Nat} : cpT ws i j (t + 1) = (cpT ws i j t).set (j + t) (ws.getD (i + t) 0) := by
  unfold cpT
  rw [List.range_succ, List.foldl_append]
  rfl
theorem cpT_len {ws : List Int} {i j t : Nat} : (cpT ws i j t).length = ws.length := by
  induction t with
  | zero => rfl
  | succ t ih => rw [cpT_succ, List.length_set, ih]
theorem cut_get {ws : List Int} {i k t : Nat} (h : i + k ≤ ws.length) (ht : t < k) : (cutV (ws.map V.int) (some (i : Int)) (some ((i : Int) + (k : Int))))[t]? = some (.int (ws.getD (i + t) 0)) := by
  unfold cutV
  rw [sIx_pos (by omega), sIx_pos (by omega), List.getElem?_take, if_pos (by rw [List.length_map]; omega), List.getElem?_drop, List.getElem?_map, List.getD_eq_getElem?_getD]
  have e3 : min (i : Int).toNat (ws.map V.int).length + t = i + t := by rw [List.length_map]; omega
  rw [e3, List.getElem?_eq_getElem (by omega)]
  rfl
def sp_Memory_need_stretch (K : PySem.W.Frag) : Sp := fun vs H Q E => ∃ m dx l ws v k, vs = [.ref m, v, .int k] ∧ MemO K H m dx l ws ∧ Thing H v ∧ match stretchOf ws.length k v with
  | some _ => Q .non H
  | none => E (Ex K "NoPlace") none H
def sp_Memory_copy (K : PySem.W.Frag) : Sp := fun vs H Q E => ∃ m dx l ws v1 v2 z, vs = [.ref m, v1, v2, z] ∧ MemO K H m dx l ws ∧ Thing H v1 ∧ Thing H v2 ∧ Thing H z ∧ match cpOf ws.length v1 v2 z with
  | .count => E (Ex K "BadCount") none H
  | .place => E (Ex K "NoPlace") none H
  | .ok i j k => ∀ H', MemO K H' m dx l (cpT ws i j k) → (∀ b o, b ≠ l → H b = some o → H' b = some o) → (∀ v, Thing H v → Thing H' v) → Q .non H'
section
variable {P : Program} {w : World} {K : PySem.W.Frag} {mg : Str → Option Value} {base : Heap}
theorem f_Memory_need_stretch (T : Tx K mg) : Mt P w K mg base 2 "Memory" "need_stretch" ["self", "at", "many"] (sp_Memory_need_stretch K) := by
  have c_is_whole := f_is_whole (P := P) (w := w) (base := base) T
  refine T.mkMt 30 96 91 (d := d_Memory_need_stretch) (N := ["self", "at", "many"]) (k := 1) rfl rfl rfl rfl rfl rfl sc_Memory_need_stretch (fun _ _ _ _ _ _ us hl => match us, hl with | [_, _, _], _ => rfl) (fun vs H Q E h => ?len) (fun cdv A outer s H vs Q E hr h => ⟨_,
      (pss_one (ps_if (PW.pt (pw_or (pt_not (pt_val (pe_fn (takes_of rfl rfl rfl rfl) c_is_whole (hr.mono (by decide)) (by rfl) (pa_cons (pv 1) pa_nil)))) (pw_or (pt_cmpR op_lt (pv 1) pe_int (nomark _)) (pw_or1 (pt_cmpR op_gt (pe_op op_gAdd (pv 1) (pv 2)) (pe_fldC (T.cls 91) (T.noat 98) (pv 0)) (nomark _)))))) (pss_one (ps_raiseK (K := K) rfl rfl (takes_of rfl rfl rfl rfl) (T.says.fact 85 rfl) (T.glo 4) (by rfl))) pss_nil)), ?rd⟩)
  case len => obtain ⟨m, dx, l, ws, v, k, rfl, _⟩ := h; rfl
  case rd =>
    obtain ⟨m, dx, l, ws, v, k, rfl, M, th, h⟩ := h
    walk_at "w2"
    rcases th with ⟨n, rfl⟩ | o
    · walk_at "w2"
      rw [stretchOf_int] at h
      split
      · rw [if_neg (by omega)] at h
        exact h
      · refine ⟨_, fldIs M.ob, ?_⟩
        walk_at "w2"
        split
        · rw [if_neg (by omega)] at h
          exact h
        · rw [if_pos (by omega)] at h
          exact h
    · rw [odd_whole o]
      rw [stretchOf_odd o] at h
      walk_at "w2"
      exact h
theorem f_Memory_copy (T : Tx K mg) : Mt P w K mg base 3 "Memory" "copy" ["self", "start", "goal", "many"] (sp_Memory_copy K) := by
  have c_is_whole := f_is_whole (P := P) (w := w) (base := base) T
  have c_Memory_need_stretch := f_Memory_need_stretch (P := P) (w := w) (base := base) T
  refine T.mkMt 31 97 91 (d := d_Memory_copy) (N := ["self", "start", "goal", "many", "row", "turn"]) (k := 2) rfl rfl rfl rfl rfl rfl sc_Memory_copy (fun _ _ _ _ _ _ us hl => match us, hl with | [_, _, _, _], _ => rfl) (fun vs H Q E h => ?len) (fun cdv A outer s H vs Q E hr h => ⟨_,
      (pss_cons (ps_if (PW.pt (pw_or (pt_not (pt_val (pe_fn (takes_of rfl rfl rfl rfl) c_is_whole (hr.mono (by decide)) (by rfl) (pa_cons (pv 3) pa_nil)))) (pw_or1 (pt_cmpR op_lt (pv 3) pe_int (nomark _))))) (pss_one (ps_raiseK (K := K) rfl rfl (takes_of rfl rfl rfl rfl) (T.says.fact 84 rfl) (T.glo 3) (by rfl))) pss_nil)
        (pss_cons (ps_expr (pe_mt (K := K) rfl (takes_of rfl rfl rfl rfl) (pv 0) c_Memory_need_stretch (hr.mono (by decide)) (pa_cons (pv 1) (pa_cons (pv 3) pa_nil))))
        (pss_cons (ps_expr (pe_mt (K := K) rfl (takes_of rfl rfl rfl rfl) (pv 0) c_Memory_need_stretch (hr.mono (by decide)) (pa_cons (pv 2) (pa_cons (pv 3) pa_nil))))
        (pss_cons (ps_set (i := 4) sc_Memory_copy.nd rfl (Or.inl rfl) (pe_slice (sl_listK (K := K) rfl) (pe_fldC (T.cls 91) (T.noat 99) (pv 0)) (po_some (pv 1)) (po_some (pe_op op_gAdd (pv 1) (pv 3)))))
        (pss_one (ps_for (passes_of rfl) rfl (pi_range1 rfl (T.free 71) (pa_cons (pv 3) pa_nil)) (pg_name (i := 5) sc_Memory_copy.nd rfl (Or.inl rfl)) (pss_one (ps_asg (pe_ix (ix_seqK (K := K) rfl) (pv 4) (pv 5) (fun _ _ => rfl)) (pg_sub (pe_fldC (T.cls 91) (T.noat 99) (pv 0)) (pe_op op_gAdd (pv 2) (pv 5)) set_list))))))))), ?rd⟩)
  case len => obtain ⟨m, dx, l, ws, v1, v2, z, rfl, _⟩ := h; rfl
  case rd =>
    obtain ⟨m, dx, l, ws, v1, v2, z, rfl, M, t1, t2, tz, h⟩ := h
    walk_at "w2"
    rcases tz with ⟨k, rfl⟩ | o
    · walk_at "w2"
      rw [cpOf_int] at h
      split
      · rw [if_neg (by omega)] at h
        exact h
      · rw [if_pos (by omega)] at h
        refine ⟨recv M.ob, m, dx, l, ws, v1, k, rfl, M, t1, ?_⟩
        cases e1 : stretchOf ws.length k v1 with
        | none =>
          rw [e1] at h
          exact h
        | some i =>
          rw [e1] at h
          walk_at "w2"
          refine ⟨recv M.ob, m, dx, l, ws, v2, k, rfl, M, t2, ?_⟩
          cases e2 : stretchOf ws.length k v2 with
          | none =>
            rw [e2] at h
            exact h
          | some j =>
            rw [e2] at h
            obtain ⟨rfl, hi⟩ := stretchOf_some e1
            obtain ⟨rfl, hj⟩ := stretchOf_some e2
            walk_at "w2"
            obtain ⟨k, rfl⟩ := Int.eq_ofNat_of_zero_le (show 0 ≤ k by omega)
            have hz := M.sz
            have ki := cut_get (ws := ws) (i := i) (k := k) (by omega) (t := 0)
            rw [Int.toNat_natCast] at h
            refine ⟨_, fldIs M.ob, l, _, rfl, .of M.ls, fun p hp => ⟨by omega, by omega, ?_⟩⟩
            rw [Int.toNat_natCast]
            have s1 : Same H (upd H p (.lst (cutV (ws.map V.int) (some (i : Int)) (some ((i : Int) + (k : Int)))))) := same_new hp
            refine forW_range (fun t σ H' => ∃ o5, σ = [some (.ref m), some (.int i), some (.int j), some (.int k), some (.ref p), o5] ∧ MemO K H' m dx l (cpT ws i j t) ∧ H' p = some (.lst (cutV (ws.map V.int) (some (i : Int)) (some ((i : Int) + (k : Int))))) ∧
              (∀ b o, b ≠ l → H b = some o → H' b = some o) ∧ ∀ v, Thing H v → Thing H' v) ⟨_, rfl, M.same s1, upd_same, fun b o _ e => s1 b o e, fun v t => thing_same s1 t⟩ ?_ ?_
            · rintro t σ H' ht ⟨o5, rfl, M', hp', k1, k2⟩
              walk_at "w2"
              refine r_ixS (.of hp') (at_pos (by omega) (v := .int (ws.getD (i + t) 0)) ?_) ?_
              · have e0 : ((0 : Int) + (t : Int)).toNat = t := by omega
                rw [e0]
                exact cut_get (by omega) ht
              walk_at "w2"
              refine ⟨_, fldIs M'.ob, ?_⟩
              walk_at "w2"
              have pl : p ≠ l := fun e => by
                have z := M.ls
                rw [← e, hp] at z
                cases z
              refine r_setL M'.ls (by omega) (by rw [List.length_map, cpT_len]; omega) ?_
              have e1 : ((j : Int) + ((0 : Int) + (t : Int))).toNat = j + t := by omega
              rw [e1, ← List.map_set, ← cpT_succ]
              have M2 := M'.put (cpT ws i j (t + 1)) (by rw [cpT_len, cpT_len])
              exact ⟨_, rfl, M2, by rw [upd_ne pl]; exact hp', fun b o hb e => by rw [upd_ne hb]; exact k1 b o hb e, fun v tv => thing_upd M'.ls rfl (k2 v tv)⟩
            · rintro σ H' ⟨o5, rfl, M', hp', k1, k2⟩
              exact h H' M' k1 k2
    · rw [odd_whole o]
      rw [cpOf_odd o] at h
      walk_at "w2"
      exact h
end

local macro_rules | `(tactic| walk_at "w2") => `(tactic| try simp only [↓x_var0, ↓x_varS, ↓x_c, ↓x_op, ↓x_un, ↓x_cb, ↓x_nil, ↓x_cons, ↓x_test, ↓x_b, ↓x_ex, ↓x_and, ↓x_or, ↓x_not, ↓x_andV, ↓x_orV, ↓x_notV, ↓x_tif, ↓x_chain, ↓x_menu, ↓x_menuI, ↓x_lst, ↓x_tup, ↓x_dnew, ↓x_callW, ↓x_callN, ↓x_seq, ↓x_next, ↓x_ret, ↓x_retN, ↓x_drop, ↓x_ifS, ↓x_asg, ↓x_name, ↓x_raise, ↓x_fld, ↓x_setF, ↓x_meth, ↓x_make, ↓x_sub, ↓r_min, ↓r_max, ↓x_yes, ↓x_for, ↓x_lock, ↓x_keys, ↓x_cut, ↓x_lc, ↓x_rng1, ↓x_rng2, ↓x_lst1, ↓x_itup, ↓x_rng3, ↓x_three, ↓x_lstg, ↓x_tupg, ↓x_adrS, ↓x_one, ↓x_two, ↓x_adr, ↓x_sl, ↓x_np, ↓x_pt, ↓x_int, ↓x_bm, ↓x_bm0, ↓x_consg, ↓x_nilg, ↓x_dget2, ↓x_dget1, ↓x_dgetN, ↓x_dget, ↓x_din, ↓x_dni, ↓x_dput, ↓x_dpop2, ↓r_isB, ↓r_notB, ↓x_enum, ↓x_zip, ↓x_str, ↓x_strE, ↓r_inS, ↓r_ninS, wipe, List.map_cons, List.map_nil, ↓x_isT, ↓r_isiII, ↓r_isiBB, ↓r_isiIB, ↓r_isiSS, ↓r_neNS, ↓r_neSN, ↓r_neNN, ↓r_eqNS, ↓r_eqSN, ↓r_eqNN, ↓r_eqIS, ↓r_neIS, ↓r_neSI, ↓r_neBS, ↓r_eqBB, ↓r_neBB, ↓x_start, ↓x_K, ↓x_start0, ↓r_i0, ↓r_i, ↓r_u, ↓r_addI, ↓r_addS, ↓r_mulI, ↓r_mulS, ↓r_eqI, ↓r_neI, ↓r_eqS, ↓r_neS, ↓r_absI, ↓r_intI, ↓r_intB, List.length_cons, List.length_nil, List.replicate, List.set_cons_zero, List.set_cons_succ, decide_eq_true_eq, Bool.not_eq_true', decide_eq_false_iff_not, if_true, if_false, Bool.false_eq_true, Bool.true_eq_false, ite_true, ite_false, Bool.not_true, Bool.not_false, c_div, n_ten, c_pow, not_true_eq_false, not_false_eq_true, decide_true, decide_false, true_and, and_true, and_self, true_or, or_true, Int.reduceLT, Int.reduceLE, Int.reduceMul, Int.reduceAdd, Int.reduceSub, Int.reducePow, Int.reduceNeg, Int.reduceDiv, Int.reduceMod, Nat.reducePow, Int.reduceToNat, Int.reduceEq, Int.reduceNe, Nat.reduceLT, Nat.reduceLeDiff, Nat.reduceAdd, ↓x_whole, ↓x_kind])
/-! ## cells in a memory -/
/-- what head_of finds at a thing: no place, no cell, or the place and the head -/
inductive Hd where
  | noPlace | noCell | ok (i : Nat) (h : Nat)
def headAt (w : Int) : Option Nat := match wordOf w with
  | some (.num n) => if 0 ≤ n ∧ n ≤ 34 ∧ n % 4 ≤ 2 then some n.toNat else none
  | _ => none
def headW (ws : List Int) (v : V) : Hd := match placeOf ws.length v with
  | none => .noPlace
  | some i => match headAt (ws.getD i 0) with
    | none => .noCell
    | some h => .ok i h
theorem headAt_some {w : Int} {h : Nat} (e : headAt w = some h) : w = 2 * (h : Int) ∧ h ≤ 34 ∧ h % 4 ≤ 2 := by
  unfold headAt at e
  split at e
  · rename_i n en
    split at e
    · rename_i c
      have e := Option.some.inj e
      have hw : w = 2 * n := by
        unfold wordOf at en
        split at en
        · cases en
        · split at en
          · have := Wd.num.inj (Option.some.inj en)
            omega
          · split at en
            · cases en
            · cases en
      omega
    · cases e
  · cases e
theorem head_ok {ws : List Int} {v : V} {i h : Nat} (e : headW ws v = .ok i h) : v = .int (i : Int) ∧ i < ws.length ∧ headAt (ws.getD i 0) = some h := by
  unfold headW at e
  cases e1 : placeOf ws.length v with
  | none => rw [e1] at e; cases e
  | some j =>
    rw [e1] at e
    obtain ⟨a, b⟩ := placeOf_some e1
    have e : (match headAt (ws.getD j 0) with
      | none => Hd.noCell
      | some h => .ok j h) = .ok i h := e
    cases e2 : headAt (ws.getD j 0) with
    | none => rw [e2] at e; cases e
    | some h' =>
      rw [e2] at e
      cases e
      exact ⟨a, b, e2⟩
theorem ans_head' {ws : List Int} {i k : Nat} (hi : i < ws.length) (e : headAt (ws.getD i 0) = some k) : headW ws (.int (i : Int)) = .ok i k := by
  unfold headW
  rw [placeOf_int, if_pos ⟨by omega, by omega⟩, Int.toNat_natCast]
  dsimp only
  rw [e]
def slotsW : V → Option Nat
  | .int n => if 0 ≤ n ∧ n ≤ 8 then some n.toNat else none
  | _ => none
theorem slotsW_int {n : Int} : slotsW (.int n) = if 0 ≤ n ∧ n ≤ 8 then some n.toNat else none := rfl
theorem slotsW_odd {H : Hp} {v : V} (h : Odd H v) : slotsW v = none := by
  cases v with
  | int i => exact (odd_not h).elim
  | _ => rfl
theorem slotsW_some {v : V} {s : Nat} (h : slotsW v = some s) : v = .int (s : Int) ∧ s ≤ 8 := by
  cases v with
  | int j =>
    rw [slotsW_int] at h
    split at h
    · rename_i c
      have e := Option.some.inj h
      exact ⟨by rw [← e]; congr 1; omega, by omega⟩
    · cases h
  | _ => cases h
def ageW : V → Option Nat
  | .int n => if 0 ≤ n ∧ n ≤ 2 then some n.toNat else none
  | _ => none
theorem ageW_int {n : Int} : ageW (.int n) = if 0 ≤ n ∧ n ≤ 2 then some n.toNat else none := rfl
theorem ageW_odd {H : Hp} {v : V} (h : Odd H v) : ageW v = none := by
  cases v with
  | int i => exact (odd_not h).elim
  | _ => rfl
/-- t slots of a cell at i emptied -/
def layT (ws : List Int) (i s t : Nat) : List Int := (List.range t).foldl (fun a u => a.set (i + 1 + u) (-1)) (ws.set i (8 * (s : Int)))
theorem layT_succ {ws : List Int} {i s t : Nat} : layT ws i s (t + 1) = (layT ws i s t).set (i + 1 + t) (-1) := by
  unfold layT
  rw [List.range_succ, List.foldl_append]
  rfl
theorem layT_len {ws : List Int} {i s t : Nat} : (layT ws i s t).length = ws.length := by
  induction t with
  | zero => exact List.length_set ..
  | succ t ih => rw [layT_succ, List.length_set, ih]
theorem layT_vw {ws : List Int} (h : Vw ws) {i s t : Nat} (hs : s ≤ 8) : Vw (layT ws i s t) := by
  induction t with
  | zero =>
    have e : (8 * (s : Int)) = 2 * (4 * (s : Int)) := by omega
    exact h.set (by rw [e, word_num (by omega)]; rfl)
  | succ t ih =>
    rw [layT_succ]
    exact ih.set rfl
def Fit (ws : List Int) : Prop := ∀ i h : Nat, i < ws.length → headAt (ws.getD i 0) = some h → i + h / 4 < ws.length
theorem getD_set {ws : List Int} {i j : Nat} {n : Int} (hi : i < ws.length) : (ws.set i n).getD j 0 = if i = j then n else ws.getD j 0 := by
  rw [List.getD_eq_getElem?_getD, List.getElem?_set, List.getD_eq_getElem?_getD]
  split
  · rename_i e
    subst e
    first | rfl | (rw [if_pos hi]; rfl)
  · rfl
theorem Fit.set {ws : List Int} (f : Fit ws) {i : Nat} {n : Int} (hi : i < ws.length) (hn : ∀ h, headAt n = some h → i + h / 4 < ws.length) : Fit (ws.set i n) := fun j h hj e => by
  rw [List.length_set] at hj ⊢
  rw [getD_set hi] at e
  split at e
  · rename_i c
    subst c
    exact hn h e
  · exact f j h hj e
theorem head_none1 : headAt (-1) = none := rfl
theorem Fit.lay {ws : List Int} (f : Fit ws) {i s : Nat} (hi : i + s < ws.length) : ∀ t, t ≤ s → Fit (layT ws i s t)
  | 0, _ => f.set (by omega) fun h e => by
    have := (headAt_some e).1
    omega
  | t + 1, ht => by
    rw [layT_succ]
    have ll := layT_len (ws := ws) (i := i) (s := s) (t := t)
    refine (Fit.lay f hi t (by omega)).set (by omega) fun h e => ?_
    rw [head_none1] at e
    cases e
theorem Fit.rep {n : Nat} : Fit (List.replicate n (-1)) := fun i h hi e => by
  rw [List.length_replicate] at hi
  have : (List.replicate n (-1 : Int)).getD i 0 = -1 := by
    rw [List.getD_eq_getElem?_getD, List.getElem?_replicate, if_pos hi]
    rfl
  rw [this, head_none1] at e
  cases e
/-- the places in the slots of a cell at i -/
def kidsT (ws : List Int) (i t : Nat) : List Int := (List.range t).filterMap fun u => match wordOf (ws.getD (i + 1 + u) 0) with
  | some (.place p) => some p
  | _ => none
theorem kidsT_succ {ws : List Int} {i t : Nat} : kidsT ws i (t + 1) = kidsT ws i t ++ (match wordOf (ws.getD (i + 1 + t) 0) with
  | some (.place p) => [p]
  | _ => []) := by
  unfold kidsT
  rw [List.range_succ, List.filterMap_append]
  congr 1
  rw [List.filterMap_cons, List.filterMap_nil]
  cases e : wordOf (ws.getD (i + 1 + t) 0) with
  | none => rfl
  | some w => cases w <;> rfl
theorem kidsT_len {ws : List Int} {i t : Nat} : (kidsT ws i t).length ≤ t := by
  have := List.length_filterMap_le (fun u => match wordOf (ws.getD (i + 1 + u) 0) with
    | some (.place p) => some p
    | _ => none) (List.range t)
  rw [List.length_range] at this
  exact this
def sp_need_slots (K : PySem.W.Frag) : Sp := fun vs H Q E => ∃ v, vs = [v] ∧ Thing H v ∧ match slotsW v with
  | some _ => Q .non H
  | none => E (Ex K "BadCount") none H
def sp_head_of (K : PySem.W.Frag) : Sp := fun vs H Q E => ∃ m dx l ws v, vs = [.ref m, v] ∧ MemO K H m dx l ws ∧ Vw ws ∧ Thing H v ∧ match headW ws v with
  | .noPlace => E (Ex K "NoPlace") none H
  | .noCell => E (Ex K "NoCell") none H
  | .ok _ h => Q (.int h) H
def sp_slots_of (K : PySem.W.Frag) : Sp := fun vs H Q E => ∃ m dx l ws v, vs = [.ref m, v] ∧ MemO K H m dx l ws ∧ Vw ws ∧ Thing H v ∧ match headW ws v with
  | .noPlace => E (Ex K "NoPlace") none H
  | .noCell => E (Ex K "NoCell") none H
  | .ok _ h => Q (.int ((h / 4 : Nat) : Int)) H
def sp_age_of (K : PySem.W.Frag) : Sp := fun vs H Q E => ∃ m dx l ws v, vs = [.ref m, v] ∧ MemO K H m dx l ws ∧ Vw ws ∧ Thing H v ∧ match headW ws v with
  | .noPlace => E (Ex K "NoPlace") none H
  | .noCell => E (Ex K "NoCell") none H
  | .ok _ h => Q (.int ((h % 4 : Nat) : Int)) H
def sp_words_of (K : PySem.W.Frag) : Sp := fun vs H Q E => ∃ m dx l ws v, vs = [.ref m, v] ∧ MemO K H m dx l ws ∧ Vw ws ∧ Thing H v ∧ match headW ws v with
  | .noPlace => E (Ex K "NoPlace") none H
  | .noCell => E (Ex K "NoCell") none H
  | .ok _ h => Q (.int ((h / 4 + 1 : Nat) : Int)) H
def sp_aged (K : PySem.W.Frag) : Sp := fun vs H Q E => ∃ m dx l ws v z, vs = [.ref m, v, z] ∧ MemO K H m dx l ws ∧ Vw ws ∧ Thing H v ∧ Thing H z ∧ match headW ws v with
  | .noPlace => E (Ex K "NoPlace") none H
  | .noCell => E (Ex K "NoCell") none H
  | .ok i h => match ageW z with
    | none => E (Ex K "BadCount") none H
    | some a => Q .non (upd H l (.lst ((ws.set i (2 * ((4 * (h / 4) + a : Nat) : Int))).map V.int)))
def sp_slot_place (K : PySem.W.Frag) : Sp := fun vs H Q E => ∃ m dx l ws v z, vs = [.ref m, v, z] ∧ MemO K H m dx l ws ∧ Vw ws ∧ Thing H v ∧ Thing H z ∧ match headW ws v with
  | .noPlace => E (Ex K "NoPlace") none H
  | .noCell => E (Ex K "NoCell") none H
  | .ok i h => match placeOf (h / 4) z with
    | none => E (Ex K "NoSlot") none H
    | some s => Q (.int ((i + 1 + s : Nat) : Int)) H
def sp_children (K : PySem.W.Frag) : Sp := fun vs H Q E => ∃ m dx l ws v, vs = [.ref m, v] ∧ MemO K H m dx l ws ∧ Vw ws ∧ Thing H v ∧ match headW ws v with
  | .noPlace => ∀ H', Same H H' → E (Ex K "NoPlace") none H'
  | .noCell => ∀ H', Same H H' → E (Ex K "NoCell") none H'
  | .ok i h => i + h / 4 < ws.length ∧ ∀ p H', H p = none → Same H H' → H' p = some (.lst ((kidsT ws i (h / 4)).map V.int)) → Q (.ref p) H'
def sp_send (K : PySem.W.Frag) : Sp := fun vs H Q E => ∃ m dx l ws v z, vs = [.ref m, v, z] ∧ MemO K H m dx l ws ∧ Vw ws ∧ Thing H v ∧ Thing H z ∧ match headW ws v with
  | .noPlace => E (Ex K "NoPlace") none H
  | .noCell => E (Ex K "NoCell") none H
  | .ok i _ => match placeW z with
    | none => E (Ex K "NoPlace") none H
    | some g => Q .non (upd H l (.lst ((ws.set i (2 * g + 1)).map V.int)))
def sp_sent_to (K : PySem.W.Frag) : Sp := fun vs H Q E => ∃ m dx l ws v, vs = [.ref m, v] ∧ MemO K H m dx l ws ∧ Vw ws ∧ Thing H v ∧ match placeOf ws.length v with
  | none => E (Ex K "NoPlace") none H
  | some i => match wordOf (ws.getD i 0) with
    | some (.place p) => Q (.int p) H
    | _ => match headAt (ws.getD i 0) with
      | none => E (Ex K "NoCell") none H
      | some _ => Q .non H
def sp_lay (K : PySem.W.Frag) : Sp := fun vs H Q E => ∃ m dx l ws v z, vs = [.ref m, v, z] ∧ MemO K H m dx l ws ∧ Thing H v ∧ Thing H z ∧ match slotsW z with
  | none => E (Ex K "BadCount") none H
  | some s => match placeOf (ws.length - s) v with
    | none => E (Ex K "NoPlace") none H
    | some i => ∀ H', MemO K H' m dx l (layT ws i s s) → (∀ b o, b ≠ l → H b = some o → H' b = some o) → Q .non H'
section
variable {P : Program} {w : World} {K : PySem.W.Frag} {mg : Str → Option Value} {base : Heap}
theorem f_need_slots (T : Tx K mg) : Fn P w K mg base 2 "need_slots" ["slots"] (sp_need_slots K) := by
  have c_is_whole := f_is_whole (P := P) (w := w) (base := base) T
  refine T.mkFn 6 24 (d := d_need_slots) (N := ["slots"]) (k := 1) rfl rfl rfl rfl rfl sc_need_slots (fun _ _ _ _ _ _ us hl => match us, hl with | [_], _ => rfl) (fun vs H Q E h => ?len) (fun cdv A outer s H vs Q E hr h => ⟨_,
      (pss_one (ps_if (PW.pt (pw_or (pt_not (pt_val (pe_fn (takes_of rfl rfl rfl rfl) c_is_whole (hr.mono (by decide)) (by rfl) (pa_cons (pv 0) pa_nil)))) (pw_or1 (pt_not (pt_chain op_le op_le pe_int (pv 0) (pe_num (T.num 60) (by rfl))))))) (pss_one (ps_raiseK (K := K) rfl rfl (takes_of rfl rfl rfl rfl) (T.says.fact 84 rfl) (T.glo 3) (by rfl))) pss_nil)), ?rd⟩)
  case len => obtain ⟨v, rfl, _⟩ := h; rfl
  case rd =>
    obtain ⟨v, rfl, th, h⟩ := h
    walk_at "w2"
    rcases th with ⟨n, rfl⟩ | o
    · walk_at "w2"
      rw [slotsW_int] at h
      split
      · split
        · rw [if_neg (by omega)] at h
          exact h
        · rw [if_pos (by omega)] at h
          exact h
      · rw [if_neg (by omega)] at h
        exact h
    · rw [odd_whole o]
      rw [slotsW_odd o] at h
      walk_at "w2"
      exact h
theorem f_head_of (T : Tx K mg) : Fn P w K mg base 4 "head_of" ["memory", "at"] (sp_head_of K) := by
  have c_Memory_read := f_Memory_read (P := P) (w := w) (base := base) T
  have c_worth := f_worth (P := P) (w := w) (base := base) T
  have c_kind := f_kind (P := P) (w := w) (base := base) T
  refine T.mkFn 8 26 (d := d_head_of) (N := ["memory", "at", "word"]) (k := 3) rfl rfl rfl rfl rfl sc_head_of (fun _ _ _ _ _ _ us hl => match us, hl with | [_, _], _ => rfl) (fun vs H Q E h => ?len) (fun cdv A outer s H vs Q E hr h => ⟨_,
      (pss_cons (ps_set (i := 2) sc_head_of.nd rfl (Or.inl rfl) (pe_mt (K := K) rfl (takes_of rfl rfl rfl rfl) (pv 0) c_Memory_read (hr.mono (by decide)) (pa_cons (pv 1) pa_nil)))
        (pss_cons (ps_if (PW.pt (pw_or (pt_cmpR (op_neK (K := K) rfl hr.units) (pe_fn (takes_of rfl rfl rfl rfl) c_kind (hr.mono (by decide)) (by rfl) (pa_cons (pv 2) pa_nil)) pe_str (nomark _)) (pw_or (pt_not (pt_chain op_le op_le pe_int (pe_fn (takes_of rfl rfl rfl rfl) c_worth (hr.mono (by decide)) (by rfl) (pa_cons (pv 2) pa_nil)) (pe_op op_gAdd (pe_op op_gMul pe_int (pe_num (T.num 60) (by rfl))) (pe_num (T.num 61) (by rfl))))) (pw_or1 (pt_cmpR op_gt (pe_op op_mod (pe_fn (takes_of rfl rfl rfl rfl) c_worth (hr.mono (by decide)) (by rfl) (pa_cons (pv 2) pa_nil)) pe_int) (pe_num (T.num 61) (by rfl)) (nomark _)))))) (pss_one (ps_raiseK (K := K) rfl rfl (takes_of rfl rfl rfl rfl) (T.says.fact 88 rfl) (T.glo 7) (by rfl))) pss_nil)
        (pss_one (ps_ret (pe_fn (takes_of rfl rfl rfl rfl) c_worth (hr.mono (by decide)) (by rfl) (pa_cons (pv 2) pa_nil)))))), ?rd⟩)
  case len => obtain ⟨m, dx, l, ws, v, rfl, _⟩ := h; rfl
  case rd =>
    obtain ⟨m, dx, l, ws, v, rfl, M, vw, th, h⟩ := h
    walk_at "w2"
    refine ⟨recv M.ob, m, dx, l, ws, v, rfl, M, th, ?_⟩
    unfold headW at h
    cases e : placeOf ws.length v with
    | none =>
      rw [e] at h
      exact h
    | some i =>
      rw [e] at h
      obtain ⟨rfl, hi⟩ := placeOf_some e
      obtain ⟨w, ew⟩ := vw.get hi
      walk_at "w2"
      have h : (match headAt (ws.getD i 0) with
        | none => E (Ex K "NoCell") none H
        | some h => Q (.int (h : Int)) H) := by
        cases eh : headAt (ws.getD i 0) with
        | none =>
          have h : (match (match headAt (ws.getD i 0) with
            | none => Hd.noCell
            | some h => .ok i h) with
            | .noPlace => E (Ex K "NoPlace") none H
            | .noCell => E (Ex K "NoCell") none H
            | .ok _ h => Q (.int (h : Int)) H) := h
          rw [eh] at h
          exact h
        | some k =>
          have h : (match (match headAt (ws.getD i 0) with
            | none => Hd.noCell
            | some h => .ok i h) with
            | .noPlace => E (Ex K "NoPlace") none H
            | .noCell => E (Ex K "NoCell") none H
            | .ok _ h => Q (.int (h : Int)) H) := h
          rw [eh] at h
          exact h
      unfold headAt at h
      generalize ws.getD i 0 = z at ew h
      simp only [x_worth]
      rw [ew] at h ⊢
      dsimp only at h ⊢
      cases w with
      | nothing =>
        simp only [k_nn, k_pn, k_Nn, k_np, k_Np, k_pp, not_true_eq_false, not_false_eq_true, if_true, if_false, ite_true, ite_false, Wd.worth]
        exact h
      | place p =>
        simp only [k_nn, k_pn, k_Nn, k_np, k_Np, k_pp, not_true_eq_false, not_false_eq_true, if_true, if_false, ite_true, ite_false, Wd.worth]
        exact h
      | num n =>
        simp only [k_nn, k_pn, k_Nn, k_np, k_Np, k_pp, not_true_eq_false, not_false_eq_true, if_true, if_false, ite_true, ite_false, Wd.worth]
        have h : (match (if 0 ≤ n ∧ n ≤ 34 ∧ n % 4 ≤ 2 then some n.toNat else none) with
          | none => E (Ex K "NoCell") none H
          | some h => Q (.int (h : Int)) H) := h
        walk_at "w2"
        split
        · split
          · rw [if_neg (by omega)] at h
            exact h
          · split
            · rw [if_neg (by omega)] at h
              exact h
            · rw [if_pos (by omega)] at h
              have e : ((n.toNat : Nat) : Int) = n := Int.toNat_of_nonneg (by omega)
              have h : Q (.int ((n.toNat : Nat) : Int)) H := h
              rw [e] at h
              exact h
        · rw [if_neg (by omega)] at h
          exact h
theorem f_slots_of (T : Tx K mg) : Fn P w K mg base 5 "slots_of" ["memory", "at"] (sp_slots_of K) := by
  have c_head_of := f_head_of (P := P) (w := w) (base := base) T
  refine T.mkFn 9 27 (d := d_slots_of) (N := ["memory", "at"]) (k := 4) rfl rfl rfl rfl rfl sc_slots_of (fun _ _ _ _ _ _ us hl => match us, hl with | [_, _], _ => rfl) (fun vs H Q E h => ?len) (fun cdv A outer s H vs Q E hr h => ⟨_,
      (pss_one (ps_ret (pe_op op_fdiv (pe_fn (takes_of rfl rfl rfl rfl) c_head_of (hr.mono (by decide)) (by rfl) (pa_cons (pv 0) (pa_cons (pv 1) pa_nil))) pe_int))), ?rd⟩)
  case len => obtain ⟨m, dx, l, ws, v, rfl, _⟩ := h; rfl
  case rd =>
    obtain ⟨m, dx, l, ws, v, rfl, M, vw, th, h⟩ := h
    walk_at "w2"
    refine ⟨m, dx, l, ws, v, rfl, M, vw, th, ?_⟩
    cases e : headW ws v with
    | noPlace =>
      rw [e] at h
      exact h
    | noCell =>
      rw [e] at h
      exact h
    | ok i k =>
      rw [e] at h
      walk_at "w2"
      have e2 : (k : Int) / 4 = ((k / 4 : Nat) : Int) := by omega
      rw [e2]
      exact h
theorem f_age_of (T : Tx K mg) : Fn P w K mg base 5 "age_of" ["memory", "at"] (sp_age_of K) := by
  have c_head_of := f_head_of (P := P) (w := w) (base := base) T
  refine T.mkFn 10 28 (d := d_age_of) (N := ["memory", "at"]) (k := 4) rfl rfl rfl rfl rfl sc_age_of (fun _ _ _ _ _ _ us hl => match us, hl with | [_, _], _ => rfl) (fun vs H Q E h => ?len) (fun cdv A outer s H vs Q E hr h => ⟨_,
      (pss_one (ps_ret (pe_op op_mod (pe_fn (takes_of rfl rfl rfl rfl) c_head_of (hr.mono (by decide)) (by rfl) (pa_cons (pv 0) (pa_cons (pv 1) pa_nil))) pe_int))), ?rd⟩)
  case len => obtain ⟨m, dx, l, ws, v, rfl, _⟩ := h; rfl
  case rd =>
    obtain ⟨m, dx, l, ws, v, rfl, M, vw, th, h⟩ := h
    walk_at "w2"
    refine ⟨m, dx, l, ws, v, rfl, M, vw, th, ?_⟩
    cases e : headW ws v with
    | noPlace =>
      rw [e] at h
      exact h
    | noCell =>
      rw [e] at h
      exact h
    | ok i k =>
      rw [e] at h
      walk_at "w2"
      have e2 : (k : Int) % 4 = ((k % 4 : Nat) : Int) := by omega
      rw [e2]
      exact h
theorem f_words_of (T : Tx K mg) : Fn P w K mg base 6 "words_of" ["memory", "at"] (sp_words_of K) := by
  have c_slots_of := f_slots_of (P := P) (w := w) (base := base) T
  refine T.mkFn 11 29 (d := d_words_of) (N := ["memory", "at"]) (k := 5) rfl rfl rfl rfl rfl sc_words_of (fun _ _ _ _ _ _ us hl => match us, hl with | [_, _], _ => rfl) (fun vs H Q E h => ?len) (fun cdv A outer s H vs Q E hr h => ⟨_,
      (pss_one (ps_ret (pe_op op_gAdd (pe_fn (takes_of rfl rfl rfl rfl) c_slots_of (hr.mono (by decide)) (by rfl) (pa_cons (pv 0) (pa_cons (pv 1) pa_nil))) pe_int))), ?rd⟩)
  case len => obtain ⟨m, dx, l, ws, v, rfl, _⟩ := h; rfl
  case rd =>
    obtain ⟨m, dx, l, ws, v, rfl, M, vw, th, h⟩ := h
    walk_at "w2"
    refine ⟨m, dx, l, ws, v, rfl, M, vw, th, ?_⟩
    cases e : headW ws v with
    | noPlace =>
      rw [e] at h
      exact h
    | noCell =>
      rw [e] at h
      exact h
    | ok i k =>
      rw [e] at h
      walk_at "w2"
      have e2 : ((k / 4 : Nat) : Int) + 1 = ((k / 4 + 1 : Nat) : Int) := by omega
      rw [e2]
      exact h
theorem f_aged (T : Tx K mg) : Fn P w K mg base 6 "aged" ["memory", "at", "age"] (sp_aged K) := by
  have c_slots_of := f_slots_of (P := P) (w := w) (base := base) T
  have c_is_whole := f_is_whole (P := P) (w := w) (base := base) T
  have c_Memory_write := f_Memory_write (P := P) (w := w) (base := base) T
  have c_number_word := f_number_word (P := P) (w := w) (base := base) T
  refine T.mkFn 12 30 (d := d_aged) (N := ["memory", "at", "age", "slots"]) (k := 5) rfl rfl rfl rfl rfl sc_aged (fun _ _ _ _ _ _ us hl => match us, hl with | [_, _, _], _ => rfl) (fun vs H Q E h => ?len) (fun cdv A outer s H vs Q E hr h => ⟨_,
      (pss_cons (ps_set (i := 3) sc_aged.nd rfl (Or.inl rfl) (pe_fn (takes_of rfl rfl rfl rfl) c_slots_of (hr.mono (by decide)) (by rfl) (pa_cons (pv 0) (pa_cons (pv 1) pa_nil))))
        (pss_cons (ps_if (PW.pt (pw_or (pt_not (pt_val (pe_fn (takes_of rfl rfl rfl rfl) c_is_whole (hr.mono (by decide)) (by rfl) (pa_cons (pv 2) pa_nil)))) (pw_or1 (pt_not (pt_chain op_le op_le pe_int (pv 2) (pe_num (T.num 61) (by rfl))))))) (pss_one (ps_raiseK (K := K) rfl rfl (takes_of rfl rfl rfl rfl) (T.says.fact 84 rfl) (T.glo 3) (by rfl))) pss_nil)
        (pss_one (ps_expr (pe_mt (K := K) rfl (takes_of rfl rfl rfl rfl) (pv 0) c_Memory_write (hr.mono (by decide)) (pa_cons (pv 1) (pa_cons (pe_fn (takes_of rfl rfl rfl rfl) c_number_word (hr.mono (by decide)) (by rfl) (pa_cons (pe_op op_gAdd (pe_op op_gMul pe_int (pv 3)) (pv 2)) pa_nil)) pa_nil))))))), ?rd⟩)
  case len => obtain ⟨m, dx, l, ws, v, z, rfl, _⟩ := h; rfl
  case rd =>
    obtain ⟨m, dx, l, ws, v, z, rfl, M, vw, th, tz, h⟩ := h
    walk_at "w2"
    refine ⟨m, dx, l, ws, v, rfl, M, vw, th, ?_⟩
    cases e : headW ws v with
    | noPlace =>
      rw [e] at h
      exact h
    | noCell =>
      rw [e] at h
      exact h
    | ok i k =>
      rw [e] at h
      obtain ⟨rfl, hi, eh⟩ := head_ok e
      obtain ⟨-, h34, -⟩ := headAt_some eh
      walk_at "w2"
      rcases tz with ⟨n, rfl⟩ | o
      · walk_at "w2"
        rw [ageW_int] at h
        split
        · split
          · rw [if_neg (by omega)] at h
            exact h
          · rw [if_pos (by omega)] at h
            refine ⟨recv M.ob, ?_⟩
            rw [x_number_word, if_pos (by omega)]
            have e1 : (wordOf (2 * (4 * ((k / 4 : Nat) : Int) + n))).isSome = true := by rw [word_num (by omega)]; rfl
            refine ⟨m, dx, l, ws, _, _, rfl, M, .inl ⟨_, rfl⟩, .inl ⟨_, rfl⟩, ?_⟩
            rw [placeOf_int, if_pos ⟨by omega, by omega⟩, wordV_int, if_pos e1, Int.toNat_natCast]
            have e2 : 4 * ((k / 4 : Nat) : Int) + n = ((4 * (k / 4) + n.toNat : Nat) : Int) := by omega
            have e3 : 2 * (4 * ((k / 4 : Nat) : Int) + n) = 2 * ((4 * (k / 4) + n.toNat : Nat) : Int) := by omega
            show Q .non (upd H l (.lst ((ws.set i (2 * (4 * ((k / 4 : Nat) : Int) + n))).map V.int)))
            rw [e3]
            exact h
        · rw [if_neg (by omega)] at h
          exact h
      · rw [odd_whole o]
        rw [ageW_odd o] at h
        walk_at "w2"
        exact h
theorem f_slot_place (T : Tx K mg) : Fn P w K mg base 6 "slot_place" ["memory", "at", "slot"] (sp_slot_place K) := by
  have c_slots_of := f_slots_of (P := P) (w := w) (base := base) T
  have c_is_whole := f_is_whole (P := P) (w := w) (base := base) T
  refine T.mkFn 13 31 (d := d_slot_place) (N := ["memory", "at", "slot", "slots"]) (k := 5) rfl rfl rfl rfl rfl sc_slot_place (fun _ _ _ _ _ _ us hl => match us, hl with | [_, _, _], _ => rfl) (fun vs H Q E h => ?len) (fun cdv A outer s H vs Q E hr h => ⟨_,
      (pss_cons (ps_set (i := 3) sc_slot_place.nd rfl (Or.inl rfl) (pe_fn (takes_of rfl rfl rfl rfl) c_slots_of (hr.mono (by decide)) (by rfl) (pa_cons (pv 0) (pa_cons (pv 1) pa_nil))))
        (pss_cons (ps_if (PW.pt (pw_or (pt_not (pt_val (pe_fn (takes_of rfl rfl rfl rfl) c_is_whole (hr.mono (by decide)) (by rfl) (pa_cons (pv 2) pa_nil)))) (pw_or1 (pt_not (pt_chain op_le op_lt pe_int (pv 2) (pv 3)))))) (pss_one (ps_raiseK (K := K) rfl rfl (takes_of rfl rfl rfl rfl) (T.says.fact 87 rfl) (T.glo 6) (by rfl))) pss_nil)
        (pss_one (ps_ret (pe_op op_gAdd (pe_op op_gAdd (pv 1) pe_int) (pv 2)))))), ?rd⟩)
  case len => obtain ⟨m, dx, l, ws, v, z, rfl, _⟩ := h; rfl
  case rd =>
    obtain ⟨m, dx, l, ws, v, z, rfl, M, vw, th, tz, h⟩ := h
    walk_at "w2"
    refine ⟨m, dx, l, ws, v, rfl, M, vw, th, ?_⟩
    cases e : headW ws v with
    | noPlace =>
      rw [e] at h
      exact h
    | noCell =>
      rw [e] at h
      exact h
    | ok i k =>
      rw [e] at h
      obtain ⟨rfl, hi, eh⟩ := head_ok e
      walk_at "w2"
      have h : (match placeOf (k / 4) z with
        | none => E (Ex K "NoSlot") none H
        | some s => Q (.int ((i + 1 + s : Nat) : Int)) H) := h
      rcases tz with ⟨n, rfl⟩ | o
      · walk_at "w2"
        rw [placeOf_int] at h
        split
        · split
          · rw [if_neg (by omega)] at h
            exact h
          · rw [if_pos (by omega)] at h
            have e2 : (i : Int) + 1 + n = ((i + 1 + n.toNat : Nat) : Int) := by omega
            rw [e2]
            exact h
        · rw [if_neg (by omega)] at h
          exact h
      · rw [odd_whole o]
        rw [placeOf_odd o] at h
        walk_at "w2"
        exact h
theorem f_send (T : Tx K mg) : Fn P w K mg base 5 "send" ["memory", "at", "goal"] (sp_send K) := by
  have c_head_of := f_head_of (P := P) (w := w) (base := base) T
  have c_Memory_write := f_Memory_write (P := P) (w := w) (base := base) T
  have c_place_word := f_place_word (P := P) (w := w) (base := base) T
  refine T.mkFn 14 32 (d := d_send) (N := ["memory", "at", "goal"]) (k := 4) rfl rfl rfl rfl rfl sc_send (fun _ _ _ _ _ _ us hl => match us, hl with | [_, _, _], _ => rfl) (fun vs H Q E h => ?len) (fun cdv A outer s H vs Q E hr h => ⟨_,
      (pss_cons (ps_expr (pe_fn (takes_of rfl rfl rfl rfl) c_head_of (hr.mono (by decide)) (by rfl) (pa_cons (pv 0) (pa_cons (pv 1) pa_nil))))
        (pss_one (ps_expr (pe_mt (K := K) rfl (takes_of rfl rfl rfl rfl) (pv 0) c_Memory_write (hr.mono (by decide)) (pa_cons (pv 1) (pa_cons (pe_fn (takes_of rfl rfl rfl rfl) c_place_word (hr.mono (by decide)) (by rfl) (pa_cons (pv 2) pa_nil)) pa_nil)))))), ?rd⟩)
  case len => obtain ⟨m, dx, l, ws, v, z, rfl, _⟩ := h; rfl
  case rd =>
    obtain ⟨m, dx, l, ws, v, z, rfl, M, vw, th, tz, h⟩ := h
    walk_at "w2"
    refine ⟨m, dx, l, ws, v, rfl, M, vw, th, ?_⟩
    cases e : headW ws v with
    | noPlace =>
      rw [e] at h
      exact h
    | noCell =>
      rw [e] at h
      exact h
    | ok i k =>
      rw [e] at h
      obtain ⟨rfl, hi, eh⟩ := head_ok e
      walk_at "w2"
      refine ⟨recv M.ob, ?_⟩
      have h : (match placeW z with
        | none => E (Ex K "NoPlace") none H
        | some g => Q .non (upd H l (.lst ((ws.set i (2 * g + 1)).map V.int)))) := h
      rcases tz with ⟨n, rfl⟩ | o
      · rw [x_place_word]
        rw [placeW_int] at h
        split
        · rename_i c
          rw [if_pos c] at h
          have e1 : (wordOf (2 * n + 1)).isSome = true := by rw [word_place c.1 c.2]; rfl
          refine ⟨m, dx, l, ws, _, _, rfl, M, .inl ⟨_, rfl⟩, .inl ⟨_, rfl⟩, ?_⟩
          rw [placeOf_int, if_pos ⟨by omega, by omega⟩, wordV_int, if_pos e1, Int.toNat_natCast]
          exact h
        · rename_i c
          rw [if_neg c] at h
          exact h
      · rw [odd_place_word o]
        rw [placeW_odd o] at h
        exact h
theorem f_sent_to (T : Tx K mg) : Fn P w K mg base 5 "sent_to" ["memory", "at"] (sp_sent_to K) := by
  have c_Memory_read := f_Memory_read (P := P) (w := w) (base := base) T
  have c_kind := f_kind (P := P) (w := w) (base := base) T
  have c_worth := f_worth (P := P) (w := w) (base := base) T
  have c_head_of := f_head_of (P := P) (w := w) (base := base) T
  refine T.mkFn 15 33 (d := d_sent_to) (N := ["memory", "at", "word"]) (k := 4) rfl rfl rfl rfl rfl sc_sent_to (fun _ _ _ _ _ _ us hl => match us, hl with | [_, _], _ => rfl) (fun vs H Q E h => ?len) (fun cdv A outer s H vs Q E hr h => ⟨_,
      (pss_cons (ps_set (i := 2) sc_sent_to.nd rfl (Or.inl rfl) (pe_mt (K := K) rfl (takes_of rfl rfl rfl rfl) (pv 0) c_Memory_read (hr.mono (by decide)) (pa_cons (pv 1) pa_nil)))
        (pss_cons (ps_if (pt_cmpR (op_eqK (K := K) rfl hr.units) (pe_fn (takes_of rfl rfl rfl rfl) c_kind (hr.mono (by decide)) (by rfl) (pa_cons (pv 2) pa_nil)) pe_str (nomark _)) (pss_one (ps_ret (pe_fn (takes_of rfl rfl rfl rfl) c_worth (hr.mono (by decide)) (by rfl) (pa_cons (pv 2) pa_nil)))) pss_nil)
        (pss_cons (ps_expr (pe_fn (takes_of rfl rfl rfl rfl) c_head_of (hr.mono (by decide)) (by rfl) (pa_cons (pv 0) (pa_cons (pv 1) pa_nil))))
        (pss_one (ps_ret pe_non))))), ?rd⟩)
  case len => obtain ⟨m, dx, l, ws, v, rfl, _⟩ := h; rfl
  case rd =>
    obtain ⟨m, dx, l, ws, v, rfl, M, vw, th, h⟩ := h
    walk_at "w2"
    refine ⟨recv M.ob, m, dx, l, ws, v, rfl, M, th, ?_⟩
    cases e : placeOf ws.length v with
    | none =>
      rw [e] at h
      exact h
    | some i =>
      rw [e] at h
      obtain ⟨rfl, hi⟩ := placeOf_some e
      walk_at "w2"
      obtain ⟨w, ew⟩ := vw.get hi
      have eH : headW ws (.int (i : Int)) = (match headAt (ws.getD i 0) with
        | none => .noCell
        | some h => .ok i h) := by
        unfold headW
        rw [placeOf_int, if_pos ⟨by omega, by omega⟩, Int.toNat_natCast]
      have tail : (match headAt (ws.getD i 0) with
          | none => E (Ex K "NoCell") none H
          | some _ => Q .non H) → sp_head_of K [.ref m, .int (i : Int)] H (fun x H1 => Q .non H1) (fun c d H2 => E c d H2) := fun h => by
        refine ⟨m, dx, l, ws, _, rfl, M, vw, .inl ⟨_, rfl⟩, ?_⟩
        rw [eH]
        cases eh : headAt (ws.getD i 0) with
        | none =>
          rw [eh] at h
          exact h
        | some k =>
          rw [eh] at h
          exact h
      simp only [x_worth]
      have h : (match wordOf (ws.getD i 0) with
        | some (.place p) => Q (.int p) H
        | _ => match headAt (ws.getD i 0) with
          | none => E (Ex K "NoCell") none H
          | some _ => Q .non H) := h
      rw [ew] at h ⊢
      dsimp only at h ⊢
      cases w with
      | nothing =>
        simp only [k_nn, k_pn, k_Nn, k_np, k_Np, k_pp, not_true_eq_false, not_false_eq_true, if_true, if_false, ite_true, ite_false, Wd.worth]
        exact tail h
      | num n =>
        simp only [k_nn, k_pn, k_Nn, k_np, k_Np, k_pp, not_true_eq_false, not_false_eq_true, if_true, if_false, ite_true, ite_false, Wd.worth]
        exact tail h
      | place p =>
        simp only [k_nn, k_pn, k_Nn, k_np, k_Np, k_pp, not_true_eq_false, not_false_eq_true, if_true, if_false, ite_true, ite_false, Wd.worth]
        exact h
theorem f_lay (T : Tx K mg) : Fn P w K mg base 4 "lay" ["memory", "at", "slots"] (sp_lay K) := by
  have c_need_slots := f_need_slots (P := P) (w := w) (base := base) T
  have c_is_whole := f_is_whole (P := P) (w := w) (base := base) T
  have c_Memory_write := f_Memory_write (P := P) (w := w) (base := base) T
  have c_number_word := f_number_word (P := P) (w := w) (base := base) T
  refine T.mkFn 7 25 (d := d_lay) (N := ["memory", "at", "slots", "slot"]) (k := 3) rfl rfl rfl rfl rfl sc_lay (fun _ _ _ _ _ _ us hl => match us, hl with | [_, _, _], _ => rfl) (fun vs H Q E h => ?len) (fun cdv A outer s H vs Q E hr h => ⟨_,
      (pss_cons (ps_expr (pe_fn (takes_of rfl rfl rfl rfl) c_need_slots (hr.mono (by decide)) (by rfl) (pa_cons (pv 2) pa_nil)))
        (pss_cons (ps_if (PW.pt (pw_or (pt_not (pt_val (pe_fn (takes_of rfl rfl rfl rfl) c_is_whole (hr.mono (by decide)) (by rfl) (pa_cons (pv 1) pa_nil)))) (pw_or (pt_cmpR op_lt (pv 1) pe_int (nomark _)) (pw_or1 (pt_cmpR op_ge (pe_op op_gAdd (pv 1) (pv 2)) (pe_fldC (T.cls 91) (T.noat 98) (pv 0)) (nomark _)))))) (pss_one (ps_raiseK (K := K) rfl rfl (takes_of rfl rfl rfl rfl) (T.says.fact 85 rfl) (T.glo 4) (by rfl))) pss_nil)
        (pss_cons (ps_expr (pe_mt (K := K) rfl (takes_of rfl rfl rfl rfl) (pv 0) c_Memory_write (hr.mono (by decide)) (pa_cons (pv 1) (pa_cons (pe_fn (takes_of rfl rfl rfl rfl) c_number_word (hr.mono (by decide)) (by rfl) (pa_cons (pe_op op_gMul pe_int (pv 2)) pa_nil)) pa_nil))))
        (pss_one (ps_for (passes_of rfl) rfl (pi_range1 rfl (T.free 71) (pa_cons (pv 2) pa_nil)) (pg_name (i := 3) sc_lay.nd rfl (Or.inl rfl)) (pss_one (ps_expr (pe_mt (K := K) rfl (takes_of rfl rfl rfl rfl) (pv 0) c_Memory_write (hr.mono (by decide)) (pa_cons (pe_op op_gAdd (pe_op op_gAdd (pv 1) pe_int) (pv 3)) (pa_cons (pe_num (T.num 59) (by rfl)) pa_nil)))))))))), ?rd⟩)
  case len => obtain ⟨m, dx, l, ws, v, z, rfl, _⟩ := h; rfl
  case rd =>
    obtain ⟨m, dx, l, ws, v, z, rfl, M, th, tz, h⟩ := h
    walk_at "w2"
    refine ⟨z, rfl, tz, ?_⟩
    have hz := M.sz
    cases es : slotsW z with
    | none =>
      rw [es] at h
      exact h
    | some s =>
      rw [es] at h
      obtain ⟨rfl, s8⟩ := slotsW_some es
      have h : (match placeOf (ws.length - s) v with
        | none => E (Ex K "NoPlace") none H
        | some i => ∀ H', MemO K H' m dx l (layT ws i s s) → (∀ b o, b ≠ l → H b = some o → H' b = some o) → Q .non H') := h
      dsimp only
      walk_at "w2"
      rcases th with ⟨n, rfl⟩ | o
      · walk_at "w2"
        rw [placeOf_int] at h
        split
        · rw [if_neg (by omega)] at h
          exact h
        · refine ⟨_, fldIs M.ob, ?_⟩
          walk_at "w2"
          split
          · rw [if_neg (by omega)] at h
            exact h
          · rw [if_pos (by omega)] at h
            obtain ⟨i, rfl⟩ := Int.eq_ofNat_of_zero_le (show 0 ≤ n by omega)
            rw [Int.toNat_natCast] at h
            dsimp only at h
            refine ⟨recv M.ob, ?_⟩
            walk_at "w2"
            rw [x_number_word, if_pos (by omega)]
            have e2 : 2 * (4 * (s : Int)) = 8 * (s : Int) := by omega
            rw [e2]
            have e1 : (wordOf (8 * (s : Int))).isSome = true := by rw [← e2, word_num (by omega)]; rfl
            refine ⟨m, dx, l, ws, _, _, rfl, M, .inl ⟨_, rfl⟩, .inl ⟨_, rfl⟩, ?_⟩
            rw [placeOf_int, if_pos ⟨by omega, by omega⟩, wordV_int, if_pos e1, Int.toNat_natCast]
            dsimp only
            walk_at "w2"
            rw [Int.toNat_natCast]
            have M0 : MemO K (upd H l (.lst ((ws.set i (8 * (s : Int))).map V.int))) m dx l (layT ws i s 0) := M.put _ (List.length_set ..)
            refine ⟨by omega, by omega, forW_range (fun t σ H' => ∃ o3, σ = [some (.ref m), some (.int (i : Int)), some (.int (s : Int)), o3] ∧ MemO K H' m dx l (layT ws i s t) ∧ ∀ b o, b ≠ l → H b = some o → H' b = some o) ⟨_, rfl, M0, fun b o hb e => by rw [upd_ne hb]; exact e⟩ ?_ ?_⟩
            · rintro t σ H' ht ⟨o3, rfl, M2, k⟩
              walk_at "w2"
              have ej : (i : Int) + 1 + ((0 : Int) + (t : Int)) = ((i + 1 + t : Nat) : Int) := by omega
              rw [ej]
              have ll := layT_len (ws := ws) (i := i) (s := s) (t := t)
              refine ⟨recv M2.ob, m, dx, l, _, _, _, rfl, M2, .inl ⟨_, rfl⟩, .inl ⟨_, rfl⟩, ?_⟩
              rw [placeOf_int, if_pos ⟨by omega, by omega⟩, wordV_int, if_pos (show (wordOf (-1)).isSome = true from rfl), Int.toNat_natCast]
              dsimp only
              walk_at "w2"
              have M3 := M2.put ((layT ws i s t).set (i + 1 + t) (-1)) (List.length_set ..)
              refine ⟨_, rfl, ?_, fun b o hb e => by rw [upd_ne hb]; exact k b o hb e⟩
              rw [layT_succ]
              exact M3
            · rintro σ H' ⟨o3, rfl, M2, k⟩
              exact h H' M2 k
      · rw [odd_whole o]
        rw [placeOf_odd o] at h
        walk_at "w2"
        exact h
end

local macro_rules | `(tactic| walk_at "w2") => `(tactic| try simp only [↓x_var0, ↓x_varS, ↓x_c, ↓x_op, ↓x_un, ↓x_cb, ↓x_nil, ↓x_cons, ↓x_test, ↓x_b, ↓x_ex, ↓x_and, ↓x_or, ↓x_not, ↓x_andV, ↓x_orV, ↓x_notV, ↓x_tif, ↓x_chain, ↓x_menu, ↓x_menuI, ↓x_lst, ↓x_tup, ↓x_dnew, ↓x_callW, ↓x_callN, ↓x_seq, ↓x_next, ↓x_ret, ↓x_retN, ↓x_drop, ↓x_ifS, ↓x_asg, ↓x_name, ↓x_raise, ↓x_fld, ↓x_setF, ↓x_meth, ↓x_make, ↓x_sub, ↓r_min, ↓r_max, ↓x_yes, ↓x_for, ↓x_lock, ↓x_keys, ↓x_cut, ↓x_lc, ↓x_rng1, ↓x_rng2, ↓x_lst1, ↓x_itup, ↓x_rng3, ↓x_three, ↓x_lstg, ↓x_tupg, ↓x_adrS, ↓x_one, ↓x_two, ↓x_adr, ↓x_sl, ↓x_np, ↓x_pt, ↓x_int, ↓x_bm, ↓x_bm0, ↓x_consg, ↓x_nilg, ↓x_dget2, ↓x_dget1, ↓x_dgetN, ↓x_dget, ↓x_din, ↓x_dni, ↓x_dput, ↓x_dpop2, ↓r_isB, ↓r_notB, ↓x_enum, ↓x_zip, ↓x_str, ↓x_strE, ↓r_inS, ↓r_ninS, wipe, List.map_cons, List.map_nil, ↓x_isT, ↓r_isiII, ↓r_isiBB, ↓r_isiIB, ↓r_isiSS, ↓r_neNS, ↓r_neSN, ↓r_neNN, ↓r_eqNS, ↓r_eqSN, ↓r_eqNN, ↓r_eqIS, ↓r_neIS, ↓r_neSI, ↓r_neBS, ↓r_eqBB, ↓r_neBB, ↓x_start, ↓x_K, ↓x_start0, ↓r_i0, ↓r_i, ↓r_u, ↓r_addI, ↓r_addS, ↓r_mulI, ↓r_mulS, ↓r_eqI, ↓r_neI, ↓r_eqS, ↓r_neS, ↓r_absI, ↓r_intI, ↓r_intB, List.length_cons, List.length_nil, List.replicate, List.set_cons_zero, List.set_cons_succ, decide_eq_true_eq, Bool.not_eq_true', decide_eq_false_iff_not, if_true, if_false, Bool.false_eq_true, Bool.true_eq_false, ite_true, ite_false, Bool.not_true, Bool.not_false, c_div, n_ten, c_pow, not_true_eq_false, not_false_eq_true, decide_true, decide_false, true_and, and_true, and_self, true_or, or_true, Int.reduceLT, Int.reduceLE, Int.reduceMul, Int.reduceAdd, Int.reduceSub, Int.reducePow, Int.reduceNeg, Int.reduceDiv, Int.reduceMod, Nat.reducePow, Int.reduceToNat, Int.reduceEq, Int.reduceNe, Nat.reduceLT, Nat.reduceLeDiff, Nat.reduceAdd, ↓x_whole, ↓x_kind])
/-! ## spaces -/
def SpV (K : PySem.W.Frag) (dx : Addr) (b e t : Nat) : HO := .ins (He.ga K "Space") dx (F_Space (.int (b : Int)) (.int (e : Int)) (.int (t : Int)))
abbrev SpO (K : PySem.W.Frag) (H : Hp) (s dx : Addr) (b e t : Nat) : Prop := H s = some (SpV K dx b e t)
theorem spv_lst {K dx b e t xs} : SpV K dx b e t ≠ .lst xs := fun z => by cases z
theorem F_len_Space {v0 v1 v2 : V} : (F_Space v0 v1 v2).length = 3 := rfl
theorem F_len_Memory {v0 v1 : V} : (F_Memory v0 v1).length = 2 := rfl
theorem spv_fs {K dx b e t C d fs} (h : fs.length ≠ 3) : SpV K dx b e t ≠ .ins C d fs := fun z => by
  cases z
  exact h rfl
theorem layT_at {ws : List Int} {i s t : Nat} (hi : i < ws.length) : (layT ws i s t).getD i 0 = 8 * (s : Int) := by
  induction t with
  | zero =>
    show (ws.set i (8 * (s : Int))).getD i 0 = _
    rw [List.getD_eq_getElem?_getD, List.getElem?_set_self hi]
    rfl
  | succ t ih =>
    rw [layT_succ, List.getD_eq_getElem?_getD, List.getElem?_set_ne (by omega), ← List.getD_eq_getElem?_getD, ih]
theorem head_8 {s : Nat} (h : s ≤ 8) : headAt (8 * (s : Int)) = some (4 * s) := by
  have e : 8 * (s : Int) = 2 * (4 * (s : Int)) := by omega
  unfold headAt
  rw [e, word_num (by omega)]
  dsimp only
  rw [if_pos (by omega)]
  congr 1
inductive Tk where
  | count | room | ok (n : Nat)
def takeW (b e t : Nat) : V → Tk
  | .int n => if n < 1 then .count else if n > (e : Int) - t then .room else .ok n.toNat
  | _ => .count
theorem takeW_int {b e t : Nat} {n : Int} : takeW b e t (.int n) = if n < 1 then .count else if n > (e : Int) - t then .room else .ok n.toNat := rfl
theorem takeW_odd {H : Hp} {b e t : Nat} {v : V} (h : Odd H v) : takeW b e t v = .count := by
  cases v with
  | int i => exact (odd_not h).elim
  | _ => rfl
def cutW (b e : Nat) : V → Option Nat
  | .int n => if (b : Int) ≤ n ∧ n ≤ e then some n.toNat else none
  | _ => none
theorem cutW_int {b e : Nat} {n : Int} : cutW b e (.int n) = if (b : Int) ≤ n ∧ n ≤ e then some n.toNat else none := rfl
theorem cutW_odd {H : Hp} {b e : Nat} {v : V} (h : Odd H v) : cutW b e v = none := by
  cases v with
  | int i => exact (odd_not h).elim
  | _ => rfl
/-- cells one behind the other from i to the top -/
inductive Chain (ws : List Int) (t : Nat) : Nat → List Int → Prop where
  | nil {i : Nat} (h : t ≤ i) : Chain ws t i []
  | cons {i k : Nat} {ps : List Int} (h : i < t) (hi : i < ws.length) (e : headAt (ws.getD i 0) = some k) (c : Chain ws t (i + (k / 4 + 1)) ps) : Chain ws t i ((i : Int) :: ps)
theorem Chain.len {ws : List Int} {t i : Nat} {ps : List Int} (h : Chain ws t i ps) : ps.length ≤ ws.length - i := by
  induction h with
  | nil h => exact Nat.zero_le _
  | cons h hi e c ih =>
    rw [List.length_cons]
    omega
theorem same_mk2 {H : Hp} {x dx : Addr} {o1 o2 : HO} (nx : H x = none) (ndx : H dx = none) : Same H (upd (upd (upd H dx (.own x)) x o1) x o2) := fun b o e => by
  rw [upd_upd, upd_ne (ne_of_none e nx), upd_ne (ne_of_none e ndx)]
  exact e
def sp_Space___init__ (K : PySem.W.Frag) : Sp := fun vs H Q _ => ∃ s dx, ∃ b e : Nat, vs = [.ref s, .int b, .int e] ∧ H s = some (.ins (He.ga K "Space") dx []) ∧ Q .non (upd H s (SpV K dx b e b))
def sp_Space_room (K : PySem.W.Frag) : Sp := fun vs H Q _ => ∃ s dx b e t, vs = [.ref s] ∧ SpO K H s dx b e t ∧ Q (.int ((e : Int) - t)) H
def sp_Space_used (K : PySem.W.Frag) : Sp := fun vs H Q _ => ∃ s dx b e t, vs = [.ref s] ∧ SpO K H s dx b e t ∧ Q (.int ((t : Int) - b)) H
def sp_Space_has (K : PySem.W.Frag) : Sp := fun vs H Q _ => ∃ s dx b e t n, vs = [.ref s, .int n] ∧ SpO K H s dx b e t ∧ Q (.bl (decide ((b : Int) ≤ n ∧ n < t))) H
def sp_Space_take (K : PySem.W.Frag) : Sp := fun vs H Q E => ∃ s dx b e t v, vs = [.ref s, v] ∧ SpO K H s dx b e t ∧ Thing H v ∧ match takeW b e t v with
  | .count => E (Ex K "BadCount") none H
  | .room => E (Ex K "NoRoom") none H
  | .ok n => Q (.int t) (upd H s (SpV K dx b e (t + n)))
def sp_Space_empty (K : PySem.W.Frag) : Sp := fun vs H Q _ => ∃ s dx b e t, vs = [.ref s] ∧ SpO K H s dx b e t ∧ Q .non (upd H s (SpV K dx b e b))
def sp_Space_cut (K : PySem.W.Frag) : Sp := fun vs H Q E => ∃ s dx b e t v, vs = [.ref s, v] ∧ SpO K H s dx b e t ∧ Thing H v ∧ match cutW b e v with
  | none => E (Ex K "BadCount") none H
  | some n => Q .non (upd H s (SpV K dx b e n))
def sp_Space_cells (K : PySem.W.Frag) : Sp := fun vs H Q _ => ∃ s dx b e t m mx l ws ps, vs = [.ref s, .ref m] ∧ SpO K H s dx b e t ∧ MemO K H m mx l ws ∧ Vw ws ∧ Chain ws t b ps ∧
  ∀ p H', H p = none → Same H H' → H' p = some (.lst (ps.map V.int)) → Q (.ref p) H'
section
variable {P : Program} {w : World} {K : PySem.W.Frag} {mg : Str → Option Value} {base : Heap}
theorem f_Space___init__ (T : Tx K mg) : Mi P w K mg base 1 "Space" ["self", "begin", "end"] (sp_Space___init__ K) := by
  refine T.mkMi 32 101 11 (d := d_Space___init__) (N := ["self", "begin", "end"]) (k := 0) rfl rfl rfl rfl rfl rfl sc_Space___init__ (fun _ _ _ _ _ _ us hl => match us, hl with | [_, _, _], _ => rfl) (fun vs H Q E h => ?len) (fun cdv A outer s H vs Q E hr h => ⟨_,
      (pss_cons (ps_fldC (T.cls 100) (T.noat 109) (pv 0) (pv 1))
        (pss_cons (ps_fldC (T.cls 100) (T.noat 110) (pv 0) (pv 2))
        (pss_one (ps_fldC (T.cls 100) (T.noat 111) (pv 0) (pv 1))))), ?rd⟩)
  case len => obtain ⟨s, dx, b, e, rfl, _⟩ := h; rfl
  case rd =>
    obtain ⟨s, dx, b, e, rfl, S, q⟩ := h
    walk_at "w2"
    refine ⟨s, dx, _, rfl, S, by decide, ?_⟩
    rw [pi_Space_begin]
    refine ⟨s, dx, _, rfl, upd_same, by show 1 < 1000; decide, ?_⟩
    rw [pi_Space_end, upd_upd]
    refine ⟨s, dx, _, rfl, upd_same, by show 2 < 1000; decide, ?_⟩
    rw [pi_Space_top, upd_upd]
    exact q
theorem f_Space_room (T : Tx K mg) : Mt P w K mg base 1 "Space" "room" ["self"] (sp_Space_room K) := by
  refine T.mkMt 33 102 100 (d := d_Space_room) (N := ["self"]) (k := 0) rfl rfl rfl rfl rfl rfl sc_Space_room (fun _ _ _ _ _ _ us hl => match us, hl with | [_], _ => rfl) (fun vs H Q E h => ?len) (fun cdv A outer s H vs Q E hr h => ⟨_,
      (pss_one (ps_ret (pe_op op_sub (pe_fldC (T.cls 100) (T.noat 110) (pv 0)) (pe_fldC (T.cls 100) (T.noat 111) (pv 0))))), ?rd⟩)
  case len => obtain ⟨s, dx, b, e, t, rfl, _⟩ := h; rfl
  case rd =>
    obtain ⟨s, dx, b, e, t, rfl, S, q⟩ := h
    walk_at "w2"
    refine ⟨_, fldIs S, _, fldIs S, ?_⟩
    walk_at "w2"
    exact q
theorem f_Space_used (T : Tx K mg) : Mt P w K mg base 1 "Space" "used" ["self"] (sp_Space_used K) := by
  refine T.mkMt 34 103 100 (d := d_Space_used) (N := ["self"]) (k := 0) rfl rfl rfl rfl rfl rfl sc_Space_used (fun _ _ _ _ _ _ us hl => match us, hl with | [_], _ => rfl) (fun vs H Q E h => ?len) (fun cdv A outer s H vs Q E hr h => ⟨_,
      (pss_one (ps_ret (pe_op op_sub (pe_fldC (T.cls 100) (T.noat 111) (pv 0)) (pe_fldC (T.cls 100) (T.noat 109) (pv 0))))), ?rd⟩)
  case len => obtain ⟨s, dx, b, e, t, rfl, _⟩ := h; rfl
  case rd =>
    obtain ⟨s, dx, b, e, t, rfl, S, q⟩ := h
    walk_at "w2"
    refine ⟨_, fldIs S, _, fldIs S, ?_⟩
    walk_at "w2"
    exact q
theorem f_Space_has (T : Tx K mg) : Mt P w K mg base 1 "Space" "has" ["self", "at"] (sp_Space_has K) := by
  refine T.mkMt 35 104 100 (d := d_Space_has) (N := ["self", "at"]) (k := 0) rfl rfl rfl rfl rfl rfl sc_Space_has (fun _ _ _ _ _ _ us hl => match us, hl with | [_, _], _ => rfl) (fun vs H Q E h => ?len) (fun cdv A outer s H vs Q E hr h => ⟨_,
      (pss_one (ps_ret (pe_chain op_le op_lt (pe_fldC (T.cls 100) (T.noat 109) (pv 0)) (pv 1) (pe_fldC (T.cls 100) (T.noat 111) (pv 0))))), ?rd⟩)
  case len => obtain ⟨s, dx, b, e, t, n, rfl, _⟩ := h; rfl
  case rd =>
    obtain ⟨s, dx, b, e, t, n, rfl, S, q⟩ := h
    walk_at "w2"
    refine ⟨_, fldIs S, ?_⟩
    walk_at "w2"
    split
    · refine ⟨_, fldIs S, ?_⟩
      walk_at "w2"
      have c : ((b : Int) ≤ n ∧ n < t) = (n < t) := propext ⟨fun z => z.2, fun z => ⟨‹_›, z⟩⟩
      simp only [c] at q
      exact q
    · rw [decide_eq_false (fun z => absurd z.1 ‹_›)] at q
      exact q
theorem f_Space_take (T : Tx K mg) : Mt P w K mg base 2 "Space" "take" ["self", "many"] (sp_Space_take K) := by
  have c_is_whole := f_is_whole (P := P) (w := w) (base := base) T
  have c_Space_room := f_Space_room (P := P) (w := w) (base := base) T
  refine T.mkMt 36 105 100 (d := d_Space_take) (N := ["self", "many", "at"]) (k := 1) rfl rfl rfl rfl rfl rfl sc_Space_take (fun _ _ _ _ _ _ us hl => match us, hl with | [_, _], _ => rfl) (fun vs H Q E h => ?len) (fun cdv A outer s H vs Q E hr h => ⟨_,
      (pss_cons (ps_if (PW.pt (pw_or (pt_not (pt_val (pe_fn (takes_of rfl rfl rfl rfl) c_is_whole (hr.mono (by decide)) (by rfl) (pa_cons (pv 1) pa_nil)))) (pw_or1 (pt_cmpR op_lt (pv 1) pe_int (nomark _))))) (pss_one (ps_raiseK (K := K) rfl rfl (takes_of rfl rfl rfl rfl) (T.says.fact 84 rfl) (T.glo 3) (by rfl))) pss_nil)
        (pss_cons (ps_if (pt_cmpR op_gt (pv 1) (pe_mt0 (K := K) rfl (takes_of rfl rfl rfl rfl) (pv 0) c_Space_room (hr.mono (by decide))) (nomark _)) (pss_one (ps_raiseK (K := K) rfl rfl (takes_of rfl rfl rfl rfl) (T.says.fact 86 rfl) (T.glo 5) (by rfl))) pss_nil)
        (pss_cons (ps_set (i := 2) sc_Space_take.nd rfl (Or.inl rfl) (pe_fldC (T.cls 100) (T.noat 111) (pv 0)))
        (pss_cons (ps_fldC (T.cls 100) (T.noat 111) (pv 0) (pe_op op_gAdd (pv 2) (pv 1)))
        (pss_one (ps_ret (pv 2))))))), ?rd⟩)
  case len => obtain ⟨s, dx, b, e, t, v, rfl, _⟩ := h; rfl
  case rd =>
    obtain ⟨s, dx, b, e, t, v, rfl, S, th, h⟩ := h
    walk_at "w2"
    rcases th with ⟨n, rfl⟩ | o
    · walk_at "w2"
      rw [takeW_int] at h
      split
      · rw [if_pos ‹_›] at h
        exact h
      · rw [if_neg ‹_›] at h
        refine ⟨recv S, s, dx, b, e, t, rfl, S, ?_⟩
        walk_at "w2"
        split
        · rw [if_pos ‹_›] at h
          exact h
        · rw [if_neg ‹_›] at h
          obtain ⟨j, rfl⟩ := Int.eq_ofNat_of_zero_le (show 0 ≤ n by omega)
          rw [Int.toNat_natCast] at h
          refine ⟨_, fldIs S, ?_⟩
          walk_at "w2"
          refine ⟨s, dx, _, rfl, S, by show 3 < 1000; decide, ?_⟩
          rw [pf_Space_top]
          exact h
    · rw [odd_whole o]
      rw [takeW_odd o] at h
      walk_at "w2"
      exact h
theorem f_Space_empty (T : Tx K mg) : Mt P w K mg base 1 "Space" "empty" ["self"] (sp_Space_empty K) := by
  refine T.mkMt 37 106 100 (d := d_Space_empty) (N := ["self"]) (k := 0) rfl rfl rfl rfl rfl rfl sc_Space_empty (fun _ _ _ _ _ _ us hl => match us, hl with | [_], _ => rfl) (fun vs H Q E h => ?len) (fun cdv A outer s H vs Q E hr h => ⟨_,
      (pss_one (ps_fldC (T.cls 100) (T.noat 111) (pv 0) (pe_fldC (T.cls 100) (T.noat 109) (pv 0)))), ?rd⟩)
  case len => obtain ⟨s, dx, b, e, t, rfl, _⟩ := h; rfl
  case rd =>
    obtain ⟨s, dx, b, e, t, rfl, S, q⟩ := h
    walk_at "w2"
    refine ⟨_, fldIs S, s, dx, _, rfl, S, by show 3 < 1000; decide, ?_⟩
    rw [pf_Space_top]
    exact q
theorem f_Space_cells (T : Tx K mg) : Mt P w K mg base 7 "Space" "cells" ["self", "memory"] (sp_Space_cells K) := by
  have c_words_of := f_words_of (P := P) (w := w) (base := base) T
  refine T.mkMt 39 108 100 (d := d_Space_cells) (N := ["self", "memory", "found", "at"]) (k := 6) rfl rfl rfl rfl rfl rfl sc_Space_cells (fun _ _ _ _ _ _ us hl => match us, hl with | [_, _], _ => rfl) (fun vs H Q E h => ?len) (fun cdv A outer s H vs Q E hr h => ⟨_,
      (pss_cons (ps_set (i := 2) sc_Space_cells.nd rfl (Or.inl rfl) (pe_lst pa_nil))
        (pss_cons (ps_set (i := 3) sc_Space_cells.nd rfl (Or.inl rfl) (pe_fldC (T.cls 100) (T.noat 109) (pv 0)))
        (pss_cons (ps_while (passes_of rfl) (pt_cmpR op_lt (pv 3) (pe_fldC (T.cls 100) (T.noat 111) (pv 0)) (nomark _)) (pss_cons (ps_expr (pe_bm PySem.F.plainAttrs_list PySem.F.slot_list_append PySem.F.type_list_append mt_append (pv 2) (pa_cons (pv 3) pa_nil)))
        (pss_one (ps_set (i := 3) sc_Space_cells.nd rfl (Or.inl rfl) (pe_op op_gAdd (pv 3) (pe_fn (takes_of rfl rfl rfl rfl) c_words_of (hr.mono (by decide)) (by rfl) (pa_cons (pv 1) (pa_cons (pv 3) pa_nil))))))))
        (pss_one (ps_ret (pv 2)))))), ?rd⟩)
  case len => obtain ⟨s, dx, b, e, t, m, mx, l, ws, ps, rfl, _⟩ := h; rfl
  case rd =>
    obtain ⟨s, dx, b, e, t, m, mx, l, ws, ps, rfl, S, M, vw, ch, q⟩ := h
    have cl := ch.len
    have hz := M.sz
    walk_at "w2"
    refine ⟨by rw [sizeLine_eq]; omega, fun p hp => ?_⟩
    have sp := same_new (o := .lst []) hp
    refine ⟨_, fldIs (sp _ _ S), ?_⟩
    walk_at "w2"
    refine whW (fun k σ H' => ∃ (i : Nat) (dn rest : List Int), σ = [some (.ref s), some (.ref m), some (.ref p), some (.int (i : Int))] ∧ k = rest.length ∧ Chain ws t i rest ∧ dn ++ rest = ps ∧ Same H H' ∧ H' p = some (.lst (dn.map V.int))) ⟨_, b, [], ps, rfl, rfl, ch, rfl, sp, upd_same⟩ ?_
    rintro k σ H' ⟨i, dn, rest, rfl, rfl, ch, e1, s1, hp'⟩
    have el : dn.length + rest.length = ps.length := by rw [← e1, List.length_append]
    walk_at "w2"
    refine ⟨_, fldIs (s1 _ _ S), ?_⟩
    walk_at "w2"
    cases ch with
    | nil h =>
      rw [if_neg (by omega)]
      rw [List.append_nil] at e1
      subst e1
      exact q p H' hp s1 hp'
    | cons h hi eh ch =>
      rename_i kk rest
      rw [if_pos (by omega)]
      refine whB ?_
      walk_at "w2"
      rw [List.length_cons] at el
      refine r_app hp' (by rw [List.length_map, sizeLine_eq]; omega) ?_
      walk_at "w2"
      have s2 : Same H (upd H' p (.lst (dn.map V.int ++ [.int (i : Int)]))) := fun c o g => by
        rw [upd_ne (ne_of_none g hp)]
        exact s1 _ _ g
      refine ⟨m, mx, l, ws, _, rfl, M.same s2, vw, .inl ⟨_, rfl⟩, ?_⟩
      have eH : headW ws (.int (i : Int)) = .ok i kk := by
        unfold headW
        rw [placeOf_int, if_pos ⟨by omega, by omega⟩, Int.toNat_natCast]
        dsimp only
        rw [eh]
      rw [eH]
      walk_at "w2"
      have ei : (i : Int) + ((kk / 4 + 1 : Nat) : Int) = ((i + (kk / 4 + 1) : Nat) : Int) := by omega
      rw [ei]
      exact ⟨rest.length, Nat.lt_succ_self _, _, dn ++ [(i : Int)], rest, rfl, rfl, ch, by rw [List.append_assoc]; exact e1, s2, by rw [upd_same, List.map_append]; rfl⟩
end

local macro_rules | `(tactic| walk_at "w2") => `(tactic| try simp only [↓x_var0, ↓x_varS, ↓x_c, ↓x_op, ↓x_un, ↓x_cb, ↓x_nil, ↓x_cons, ↓x_test, ↓x_b, ↓x_ex, ↓x_and, ↓x_or, ↓x_not, ↓x_andV, ↓x_orV, ↓x_notV, ↓x_tif, ↓x_chain, ↓x_menu, ↓x_menuI, ↓x_lst, ↓x_tup, ↓x_dnew, ↓x_callW, ↓x_callN, ↓x_seq, ↓x_next, ↓x_ret, ↓x_retN, ↓x_drop, ↓x_ifS, ↓x_asg, ↓x_name, ↓x_raise, ↓x_fld, ↓x_setF, ↓x_meth, ↓x_make, ↓x_sub, ↓r_min, ↓r_max, ↓x_yes, ↓x_for, ↓x_lock, ↓x_keys, ↓x_cut, ↓x_lc, ↓x_rng1, ↓x_rng2, ↓x_lst1, ↓x_itup, ↓x_rng3, ↓x_three, ↓x_lstg, ↓x_tupg, ↓x_adrS, ↓x_one, ↓x_two, ↓x_adr, ↓x_sl, ↓x_np, ↓x_pt, ↓x_int, ↓x_bm, ↓x_bm0, ↓x_consg, ↓x_nilg, ↓x_dget2, ↓x_dget1, ↓x_dgetN, ↓x_dget, ↓x_din, ↓x_dni, ↓x_dput, ↓x_dpop2, ↓r_isB, ↓r_notB, ↓x_enum, ↓x_zip, ↓x_str, ↓x_strE, ↓r_inS, ↓r_ninS, wipe, List.map_cons, List.map_nil, ↓x_isT, ↓r_isiII, ↓r_isiBB, ↓r_isiIB, ↓r_isiSS, ↓r_neNS, ↓r_neSN, ↓r_neNN, ↓r_eqNS, ↓r_eqSN, ↓r_eqNN, ↓r_eqIS, ↓r_neIS, ↓r_neSI, ↓r_neBS, ↓r_eqBB, ↓r_neBB, ↓x_start, ↓x_K, ↓x_start0, ↓r_i0, ↓r_i, ↓r_u, ↓r_addI, ↓r_addS, ↓r_mulI, ↓r_mulS, ↓r_eqI, ↓r_neI, ↓r_eqS, ↓r_neS, ↓r_absI, ↓r_intI, ↓r_intB, List.length_cons, List.length_nil, List.replicate, List.set_cons_zero, List.set_cons_succ, decide_eq_true_eq, Bool.not_eq_true', decide_eq_false_iff_not, if_true, if_false, Bool.false_eq_true, Bool.true_eq_false, ite_true, ite_false, Bool.not_true, Bool.not_false, c_div, n_ten, c_pow, not_true_eq_false, not_false_eq_true, decide_true, decide_false, true_and, and_true, and_self, true_or, or_true, Int.reduceLT, Int.reduceLE, Int.reduceMul, Int.reduceAdd, Int.reduceSub, Int.reducePow, Int.reduceNeg, Int.reduceDiv, Int.reduceMod, Nat.reducePow, Int.reduceToNat, Int.reduceEq, Int.reduceNe, Nat.reduceLT, Nat.reduceLeDiff, Nat.reduceAdd, ↓x_whole, ↓x_kind])
/-! ## areas -/
/-- where the parts stand; what they hold: fl: the second half is young -/
structure ArA where
  (a dx m mx l o ox p px q qx : Addr)
structure ArS where
  (ws : List Int) (n k ot t1 t2 : Nat) (fl : Bool)
def ArA.y (A : ArA) (f : Bool) : Addr := if f then A.q else A.p
structure ArO (K : PySem.W.Frag) (H : Hp) (A : ArA) (S : ArS) : Prop where
  ob : H A.a = some (.ins (He.ga K "Areas") A.dx (F_Areas (.ref A.m) (.ref A.o) (.ref (A.y S.fl)) (.ref (A.y !S.fl))))
  me : MemO K H A.m A.mx A.l S.ws
  vw : Vw S.ws
  ln : S.ws.length = S.n + 2 * S.k
  so : SpO K H A.o A.ox 0 S.n S.ot
  sp : SpO K H A.p A.px S.n (S.n + S.k) S.t1
  sq : SpO K H A.q A.qx (S.n + S.k) (S.n + 2 * S.k) S.t2
  nop : A.o ≠ A.p
  noq : A.o ≠ A.q
  npq : A.p ≠ A.q
  lo : S.ot ≤ S.n
  l1 : S.n ≤ S.t1 ∧ S.t1 ≤ S.n + S.k
  l2 : S.n + S.k ≤ S.t2 ∧ S.t2 ≤ S.n + 2 * S.k
  gn : 4 ≤ S.n ∧ S.n ≤ 2000
  gk : 2 ≤ S.k ∧ S.k ≤ 500
theorem ArO.off {K H A S} (h : ArO K H A S) {c : Addr} {o : HO} (n : A.l ≠ c) (nc : ∀ C d fs, H c ≠ some (.ins C d fs)) : ArO K (upd H c o) A S := by
  have f : ∀ {b C d fs}, H b = some (.ins C d fs) → upd H c o b = some (.ins C d fs) := fun {b C d fs} g => (upd_ne (fun e => nc C d fs (by rw [← e]; exact g))).trans g
  exact { h with ob := f h.ob, me := ⟨f h.me.ob, (upd_ne n).trans h.me.ls, h.me.sz⟩, so := f h.so, sp := f h.sp, sq := f h.sq }
def ArA.mem (A : ArA) (c : Addr) : Prop := c = A.a ∨ c = A.l ∨ c = A.o ∨ c = A.p ∨ c = A.q
theorem ArO.same {K H H' A S} (h : ArO K H A S) (s : Same H H') : ArO K H' A S := { h with ob := s _ _ h.ob, me := h.me.same s, so := s _ _ h.so, sp := s _ _ h.sp, sq := s _ _ h.sq }
/-- begin, end, top of a half -/
def ArS.b (S : ArS) (f : Bool) : Nat := if f then S.n + S.k else S.n
def ArS.t (S : ArS) (f : Bool) : Nat := if f then S.t2 else S.t1
def ArS.put (S : ArS) (f : Bool) (t : Nat) : ArS := if f then { S with t2 := t } else { S with t1 := t }
def ArA.yx (A : ArA) (f : Bool) : Addr := if f then A.qx else A.px
theorem ArO.half {K H A S} (h : ArO K H A S) (f : Bool) : SpO K H (A.y f) (A.yx f) (S.b f) (S.b f + S.k) (S.t f) := by
  cases f
  · exact h.sp
  · have e : S.n + 2 * S.k = S.n + S.k + S.k := by omega
    have := h.sq
    rw [e] at this
    exact this
theorem ArO.lt {K H A S} (h : ArO K H A S) (f : Bool) : S.b f ≤ S.t f ∧ S.t f ≤ S.b f + S.k := by
  have := h.l1
  have := h.l2
  cases f
  · exact h.l1
  · show S.n + S.k ≤ S.t2 ∧ S.t2 ≤ S.n + S.k + S.k
    omega
theorem spv_ne {K dx b e t C d fs} (hc : C ≠ He.ga K "Space") : SpV K dx b e t ≠ .ins C d fs := fun z => by
  cases z
  exact hc rfl
theorem F_len_Areas {v0 v1 v2 v3 : V} : (F_Areas v0 v1 v2 v3).length = 4 := rfl
theorem ArO.na {K H A S} (h : ArO K H A S) {c cx : Addr} {b e t : Nat} (s : SpO K H c cx b e t) : A.a ≠ c ∧ A.m ≠ c ∧ A.l ≠ c :=
  ⟨ne_of h.ob s fun z => spv_fs (by rw [F_len_Areas]; decide) z.symm, ne_of h.me.ob s fun z => spv_fs (by rw [F_len_Memory]; decide) z.symm, ne_of h.me.ls s fun z => spv_lst z.symm⟩
theorem ArO.mput {K H A S} (h : ArO K H A S) {c cx : Addr} {b e t : Nat} {o : HO} (s : SpO K H c cx b e t) : MemO K (upd H c o) A.m A.mx A.l S.ws := by
  obtain ⟨-, n2, n3⟩ := h.na s
  exact ⟨by rw [upd_ne n2]; exact h.me.ob, by rw [upd_ne n3]; exact h.me.ls, h.me.sz⟩
theorem ArO.topOld {K H A S} (h : ArO K H A S) {t : Nat} (ht : t ≤ S.n) : ArO K (upd H A.o (SpV K A.ox 0 S.n t)) A { S with ot := t } :=
  { h with ob := by rw [upd_ne (h.na h.so).1]; exact h.ob, me := h.mput h.so, so := upd_same, sp := (upd_ne h.nop.symm).trans h.sp, sq := (upd_ne h.noq.symm).trans h.sq, lo := ht }
theorem ArO.topHalf {K H A S} (h : ArO K H A S) {f : Bool} {t : Nat} (h0 : S.b f ≤ t) (h1 : t ≤ S.b f + S.k) : ArO K (upd H (A.y f) (SpV K (A.yx f) (S.b f) (S.b f + S.k) t)) A (S.put f t) := by
  cases f
  · exact { h with ob := by rw [show A.y false = A.p from rfl, upd_ne (h.na h.sp).1]; exact h.ob, me := h.mput h.sp, so := (upd_ne h.nop).trans h.so, sp := upd_same, sq := (upd_ne h.npq.symm).trans h.sq, l1 := ⟨h0, h1⟩ }
  · have e : S.n + S.k + S.k = S.n + 2 * S.k := by omega
    have h0 : S.n + S.k ≤ t := h0
    have h1 : t ≤ S.n + S.k + S.k := h1
    exact { h with ob := by rw [show A.y true = A.q from rfl, upd_ne (h.na h.sq).1]; exact h.ob, me := h.mput h.sq, so := (upd_ne h.noq).trans h.so, sp := (upd_ne h.npq).trans h.sp, sq := by show SpO K _ A.q A.qx (S.n + S.k) (S.n + 2 * S.k) t; rw [← e]; exact upd_same, l2 := ⟨h0, by show t ≤ S.n + 2 * S.k; omega⟩ }
/-- the memory's words change -/
theorem ArO.words {K H H' A S} (h : ArO K H A S) {ws : List Int} (M : MemO K H' A.m A.mx A.l ws) (k : ∀ b o, b ≠ A.l → H b = some o → H' b = some o) (vw : Vw ws) (e : ws.length = S.ws.length) : ArO K H' A { S with ws := ws } :=
  { h with ob := k _ _ (ne_of h.ob h.me.ls (by intro z; cases z)) h.ob, me := M, vw := vw, ln := e.trans h.ln, so := k _ _ (h.na h.so).2.2.symm h.so, sp := k _ _ (h.na h.sp).2.2.symm h.sp, sq := k _ _ (h.na h.sq).2.2.symm h.sq }
theorem ArO.flip {K H A S} (h : ArO K H A S) : ArO K (upd H A.a (.ins (He.ga K "Areas") A.dx (F_Areas (.ref A.m) (.ref A.o) (.ref (A.y !S.fl)) (.ref (A.y S.fl))))) A { S with fl := !S.fl } := by
  have n : ∀ {c cx b e t}, SpO K H c cx b e t → c ≠ A.a := fun s => (h.na s).1.symm
  have nm : A.m ≠ A.a := ne_of h.me.ob h.ob fun z => by
    have e := congrArg List.length (HO.ins.inj z).2.2
    rw [F_len_Areas, F_len_Memory] at e
    cases e
  have nl : A.l ≠ A.a := ne_of h.me.ls h.ob (by intro z; cases z)
  exact { h with ob := by rw [upd_same]; simp, me := ⟨(upd_ne nm).trans h.me.ob, (upd_ne nl).trans h.me.ls, h.me.sz⟩, so := (upd_ne (n h.so)).trans h.so, sp := (upd_ne (n h.sp)).trans h.sp, sq := (upd_ne (n h.sq)).trans h.sq }
theorem ArO.put {K H A S} (h : ArO K H A S) {c : Addr} {xs : List V} {o : HO} (e : H c = some (.lst xs)) (n : A.l ≠ c) : ArO K (upd H c o) A S := by
  have f : ∀ {b o' C d fs}, H b = some o' → o' = .ins C d fs → upd H c o b = some o' := fun g g2 => (upd_ne (ne_of g e (by rw [g2]; intro z; cases z))).trans g
  exact { h with ob := f h.ob rfl, me := ⟨f h.me.ob rfl, (upd_ne n).trans h.me.ls, h.me.sz⟩, so := f h.so rfl, sp := f h.sp rfl, sq := f h.sq rfl }
/-- words of a cell that was laid -/
theorem layT_slot {ws : List Int} {i s t u : Nat} (hu : u < t) (hi : i + t < ws.length) : (layT ws i s t).getD (i + 1 + u) 0 = -1 := by
  induction t with
  | zero => omega
  | succ t ih =>
    rw [layT_succ, List.getD_eq_getElem?_getD]
    by_cases c : u = t
    · subst c
      rw [List.getElem?_set_self (by rw [layT_len]; omega)]
      rfl
    · rw [List.getElem?_set_ne (by omega), ← List.getD_eq_getElem?_getD, ih (by omega) (by omega)]
theorem kids_none {ws : List Int} {i : Nat} : ∀ {t : Nat}, (∀ u, u < t → ws.getD (i + 1 + u) 0 = -1) → kidsT ws i t = []
  | 0, _ => rfl
  | t + 1, h => by
    rw [kidsT_succ, kids_none (t := t) fun u hu => h u (by omega), h t (by omega)]
    rfl
def oldV : V → Option Nat
  | .int n => if 4 ≤ n ∧ n ≤ 2000 then some n.toNat else none
  | _ => none
def youngV : V → Option Nat
  | .int n => if 2 ≤ n ∧ n ≤ 500 then some n.toNat else none
  | _ => none
theorem oldV_int {n : Int} : oldV (.int n) = if 4 ≤ n ∧ n ≤ 2000 then some n.toNat else none := rfl
theorem youngV_int {n : Int} : youngV (.int n) = if 2 ≤ n ∧ n ≤ 500 then some n.toNat else none := rfl
theorem oldV_odd {H : Hp} {v : V} (h : Odd H v) : oldV v = none := by
  cases v with
  | int i => exact (odd_not h).elim
  | _ => rfl
theorem youngV_odd {H : Hp} {v : V} (h : Odd H v) : youngV v = none := by
  cases v with
  | int i => exact (odd_not h).elim
  | _ => rfl
/-- areas as they are made -/
def arS (n k : Nat) : ArS := ⟨List.replicate (n + 2 * k) (-1), n, k, 0, n, n + k, false⟩
def areaW (S : ArS) (n : Int) : V := if 0 ≤ n ∧ n < S.ot then .str "old" else if (S.b S.fl : Int) ≤ n ∧ n < S.t S.fl then .str "young" else .non
theorem areaW_is {S : ArS} {n : Int} : areaW S n = .str "old" ∨ areaW S n = .str "young" ∨ areaW S n = .non := by
  unfold areaW
  split
  · exact .inl rfl
  · split
    · exact .inr (.inl rfl)
    · exact .inr (.inr rfl)
def sp_Areas___init__ (K : PySem.W.Frag) : Sp := fun vs H Q E => ∃ a dx v z, vs = [.ref a, v, z] ∧ H a = some (.ins (He.ga K "Areas") dx []) ∧ Thing H v ∧ Thing H z ∧ match oldV v with
  | none => E (Ex K "BadCount") none H
  | some n => match youngV z with
    | none => E (Ex K "BadCount") none H
    | some k => ∀ A H', A.a = a → ArO K H' A (arS n k) → H A.l = none → H A.o = none → H A.p = none → H A.q = none → H A.m = none → (∀ b o, b ≠ a → H b = some o → H' b = some o) → Q .non H'
def sp_Areas_flip (K : PySem.W.Frag) : Sp := fun vs H Q _ => ∃ A S, vs = [.ref A.a] ∧ ArO K H A S ∧ ∀ H', ArO K H' A { S with fl := !S.fl } → (∀ b o, b ≠ A.a → H b = some o → H' b = some o) → Q .non H'
def sp_Areas_area_of (K : PySem.W.Frag) : Sp := fun vs H Q _ => ∃ A S n, vs = [.ref A.a, .int n] ∧ ArO K H A S ∧ Q (areaW S n) H
def endA (S : ArS) (old : Bool) : Nat := if old then S.n else S.b S.fl + S.k
def topA (S : ArS) (old : Bool) : Nat := if old then S.ot else S.t S.fl
def laidW (S : ArS) (old : Bool) (v : V) : Tk := match slotsW v with
  | none => .count
  | some s => if s + 1 ≤ endA S old - topA S old then .ok s else .room
/-- behind a cell that was laid -/
def laidY (S : ArS) (s : Nat) : ArS := { S.put S.fl (S.t S.fl + (s + 1)) with ws := layT S.ws (S.t S.fl) s s }
def laidS (S : ArS) (old : Bool) (s : Nat) : ArS := if old then { S with ot := S.ot + (s + 1), ws := (layT S.ws S.ot s s).set S.ot (2 * ((4 * s + 2 : Nat) : Int)) } else { S.put S.fl (S.t S.fl + (s + 1)) with ws := layT S.ws (S.t S.fl) s s }
def laidO (S : ArS) (s : Nat) : ArS := { S with ot := S.ot + (s + 1), ws := (layT S.ws S.ot s s).set S.ot (2 * ((4 * s + 2 : Nat) : Int)) }
def sp_Areas_lay_young (K : PySem.W.Frag) : Sp := fun vs H Q E => ∃ A S v, vs = [.ref A.a, v] ∧ ArO K H A S ∧ Thing H v ∧ match laidW S false v with
  | .count => E (Ex K "BadCount") none H
  | .room => E (Ex K "NoRoom") none H
  | .ok s => ∀ H', ArO K H' A (laidY S s) → (∀ b o, b ≠ A.l → b ≠ A.y S.fl → H b = some o → H' b = some o) → Q (.int (S.t S.fl)) H'
def sp_Areas_lay_old (K : PySem.W.Frag) : Sp := fun vs H Q E => ∃ A S v, vs = [.ref A.a, v] ∧ ArO K H A S ∧ Thing H v ∧ match laidW S true v with
  | .count => E (Ex K "BadCount") none H
  | .room => E (Ex K "NoRoom") none H
  | .ok s => ∀ H', ArO K H' A (laidO S s) → (∀ b o, b ≠ A.l → b ≠ A.o → H b = some o → H' b = some o) → Q (.int S.ot) H'
theorem laidS_head {S : ArS} {old : Bool} {s : Nat} (h : s ≤ 8) (hl : topA S old + s < S.ws.length) : headAt ((laidS S old s).ws.getD (topA S old) 0) = some (4 * s + if old then 2 else 0) := by
  cases old
  · show headAt ((layT S.ws (S.t S.fl) s s).getD (S.t S.fl) 0) = _
    have hl : S.t S.fl + s < S.ws.length := hl
    rw [layT_at (by omega), head_8 h]
    rfl
  · show headAt (((layT S.ws S.ot s s).set S.ot _).getD S.ot 0) = _
    have hl : S.ot + s < S.ws.length := hl
    rw [List.getD_eq_getElem?_getD, List.getElem?_set_self (by rw [layT_len]; omega)]
    show headAt (2 * ((4 * s + 2 : Nat) : Int)) = some (4 * s + 2)
    unfold headAt
    rw [word_num (by omega)]
    dsimp only
    rw [if_pos (by omega), Int.toNat_natCast]
theorem laidS_slot {S : ArS} {old : Bool} {s u : Nat} (hu : u < s) (hl : topA S old + s < S.ws.length) : (laidS S old s).ws.getD (topA S old + 1 + u) 0 = -1 := by
  cases old
  · exact layT_slot hu hl
  · show ((layT S.ws S.ot s s).set S.ot _).getD (S.ot + 1 + u) 0 = _
    rw [List.getD_eq_getElem?_getD, List.getElem?_set_ne (by omega), ← List.getD_eq_getElem?_getD]
    exact layT_slot hu hl
theorem laidS_len {S : ArS} {old : Bool} {s : Nat} : (laidS S old s).ws.length = S.ws.length := by
  cases old
  · exact layT_len
  · show ((layT S.ws S.ot s s).set S.ot _).length = _
    rw [List.length_set, layT_len]
section
variable {P : Program} {w : World} {K : PySem.W.Frag} {mg : Str → Option Value} {base : Heap}
theorem f_Areas___init__ (T : Tx K mg) : Mi P w K mg base 4 "Areas" ["self", "old_words", "young_words"] (sp_Areas___init__ K) := by
  have c_is_whole := f_is_whole (P := P) (w := w) (base := base) T
  have c_Memory___init__ := f_Memory___init__ (P := P) (w := w) (base := base) T
  have c_Space___init__ := f_Space___init__ (P := P) (w := w) (base := base) T
  refine T.mkMi 40 113 12 (d := d_Areas___init__) (N := ["self", "old_words", "young_words"]) (k := 3) rfl rfl rfl rfl rfl rfl sc_Areas___init__ (fun _ _ _ _ _ _ us hl => match us, hl with | [_, _, _], _ => rfl) (fun vs H Q E h => ?len) (fun cdv A outer s H vs Q E hr h => ⟨_,
      (pss_cons (ps_if (PW.pt (pw_or (pt_not (pt_val (pe_fn (takes_of rfl rfl rfl rfl) c_is_whole (hr.mono (by decide)) (by rfl) (pa_cons (pv 1) pa_nil)))) (pw_or1 (pt_not (pt_chain op_le op_le (pe_num (T.num 63) (by rfl)) (pv 1) (pe_num (T.num 64) (by rfl))))))) (pss_one (ps_raiseK (K := K) rfl rfl (takes_of rfl rfl rfl rfl) (T.says.fact 84 rfl) (T.glo 3) (by rfl))) pss_nil)
        (pss_cons (ps_if (PW.pt (pw_or (pt_not (pt_val (pe_fn (takes_of rfl rfl rfl rfl) c_is_whole (hr.mono (by decide)) (by rfl) (pa_cons (pv 2) pa_nil)))) (pw_or1 (pt_not (pt_chain op_le op_le (pe_num (T.num 65) (by rfl)) (pv 2) (pe_num (T.num 66) (by rfl))))))) (pss_one (ps_raiseK (K := K) rfl rfl (takes_of rfl rfl rfl rfl) (T.says.fact 84 rfl) (T.glo 3) (by rfl))) pss_nil)
        (pss_cons (ps_fldC (T.cls 112) (T.noat 118) (pv 0) (pe_mk (K := K) rfl (takes_of rfl rfl rfl rfl) c_Memory___init__ (hr.mono (by decide)) (by rfl) (pa_cons (pe_op op_gAdd (pv 1) (pe_op op_gMul pe_int (pv 2))) pa_nil)))
        (pss_cons (ps_fldC (T.cls 112) (T.noat 119) (pv 0) (pe_mk (K := K) rfl (takes_of rfl rfl rfl rfl) c_Space___init__ (hr.mono (by decide)) (by rfl) (pa_cons pe_int (pa_cons (pv 1) pa_nil))))
        (pss_cons (ps_fldC (T.cls 112) (T.noat 120) (pv 0) (pe_mk (K := K) rfl (takes_of rfl rfl rfl rfl) c_Space___init__ (hr.mono (by decide)) (by rfl) (pa_cons (pv 1) (pa_cons (pe_op op_gAdd (pv 1) (pv 2)) pa_nil))))
        (pss_one (ps_fldC (T.cls 112) (T.noat 121) (pv 0) (pe_mk (K := K) rfl (takes_of rfl rfl rfl rfl) c_Space___init__ (hr.mono (by decide)) (by rfl) (pa_cons (pe_op op_gAdd (pv 1) (pv 2)) (pa_cons (pe_op op_gAdd (pv 1) (pe_op op_gMul pe_int (pv 2))) pa_nil)))))))))), ?rd⟩)
  case len => first | exact len_Areas___init__ h | (repeat (first | (obtain ⟨rfl, _⟩ := h; rfl; done) | obtain ⟨_, h⟩ := h))
  case rd =>
    obtain ⟨a, dx, v, z, rfl, HA, tv, tz, h⟩ := h
    walk_at "w2"
    rcases tv with ⟨n, rfl⟩ | o
    · walk_at "w2"
      rw [oldV_int] at h
      split
      · split
        · rw [if_neg (by omega)] at h
          exact h
        · rw [if_pos (by omega)] at h
          dsimp only at h
          rcases tz with ⟨k, rfl⟩ | o
          · walk_at "w2"
            rw [youngV_int] at h
            split
            · split
              · rw [if_neg (by omega)] at h
                exact h
              · rw [if_pos (by omega)] at h
                obtain ⟨n, rfl⟩ := Int.eq_ofNat_of_zero_le (show 0 ≤ n by omega)
                obtain ⟨k, rfl⟩ := Int.eq_ofNat_of_zero_le (show 0 ≤ k by omega)
                rw [Int.toNat_natCast, Int.toNat_natCast] at h
                simp only [show (n : Int) + 2 * (k : Int) = ((n + 2 * k : Nat) : Int) from by omega, show (n : Int) + (k : Int) = ((n + k : Nat) : Int) from by omega]
                intro m mx nm nmx nem
                refine ⟨m, mx, _, rfl, upd_same, .inl ⟨_, rfl⟩, ?_⟩
                rw [sizeV_int, if_pos ⟨by omega, by omega⟩, Int.toNat_natCast]
                intro l H2 nl M1 k1
                have s1 := same_init nm nmx nem k1
                have ma : m ≠ a := (ne_of_none HA nm).symm
                have la : l ≠ a := ne_of M1.ls (s1 _ _ HA) (by intro z; cases z)
                refine ⟨rfl, a, dx, _, rfl, s1 _ _ HA, by decide, ?_⟩
                rw [pi_Areas_memory]
                have k3 : ∀ {o : HO} {c x}, c ≠ a → H2 c = some x → upd H2 a o c = some x := fun h g => by rw [upd_ne h]; exact g
                have a3 : upd H2 a (.ins (He.ga K "Areas") dx [(("memory" : Str), V.ref m)]) a = some (.ins (He.ga K "Areas") dx [(("memory" : Str), V.ref m)]) := upd_same
                have k3 := @k3 (.ins (He.ga K "Areas") dx [(("memory" : Str), V.ref m)])
                generalize upd H2 a (.ins (He.ga K "Areas") dx [(("memory" : Str), V.ref m)]) = H3 at a3 k3 ⊢
                intro o ox no nox noe
                have s4 := same_mk2 (o1 := .ins (He.ga K "Space") ox []) (o2 := SpV K ox 0 n 0) no nox
                have so : upd (upd (upd H3 ox (.own o)) o (.ins (He.ga K "Space") ox [])) o (SpV K ox 0 n 0) o = some (SpV K ox 0 n 0) := upd_same
                have oa : o ≠ a := (ne_of_none a3 no).symm
                refine ⟨o, ox, 0, n, rfl, upd_same, rfl, a, dx, _, rfl, s4 _ _ a3, by show 1 < 1000; decide, ?_⟩
                generalize upd (upd (upd H3 ox (.own o)) o (.ins (He.ga K "Space") ox [])) o (SpV K ox 0 n 0) = H4 at s4 so ⊢
                rw [pi_Areas_old]
                have k5 : ∀ {c x}, c ≠ a → H4 c = some x → upd H4 a (.ins (He.ga K "Areas") dx [(("memory" : Str), V.ref m), ("old", V.ref o)]) c = some x := fun h g => by rw [upd_ne h]; exact g
                have a5 : upd H4 a (.ins (He.ga K "Areas") dx [(("memory" : Str), V.ref m), ("old", V.ref o)]) a = some (.ins (He.ga K "Areas") dx [(("memory" : Str), V.ref m), ("old", V.ref o)]) := upd_same
                generalize upd H4 a (.ins (He.ga K "Areas") dx [(("memory" : Str), V.ref m), ("old", V.ref o)]) = H5 at k5 a5 ⊢
                intro p px np npx npe
                have s6 := same_mk2 (o1 := .ins (He.ga K "Space") px []) (o2 := SpV K px n (n + k) n) np npx
                have sp : upd (upd (upd H5 px (.own p)) p (.ins (He.ga K "Space") px [])) p (SpV K px n (n + k) n) p = some (SpV K px n (n + k) n) := upd_same
                have pa : p ≠ a := (ne_of_none a5 np).symm
                refine ⟨p, px, n, n + k, rfl, upd_same, rfl, ?_⟩
                first | refine ⟨.inl ⟨by decide, by decide⟩, ?_⟩ | skip
                refine ⟨a, dx, _, rfl, s6 _ _ a5, by show 2 < 1000; decide, ?_⟩
                generalize upd (upd (upd H5 px (.own p)) p (.ins (He.ga K "Space") px [])) p (SpV K px n (n + k) n) = H6 at s6 sp ⊢
                rw [pi_Areas_young]
                have k7 : ∀ {c x}, c ≠ a → H6 c = some x → upd H6 a (.ins (He.ga K "Areas") dx [(("memory" : Str), V.ref m), ("old", V.ref o), ("young", V.ref p)]) c = some x := fun h g => by rw [upd_ne h]; exact g
                have a7 : upd H6 a (.ins (He.ga K "Areas") dx [(("memory" : Str), V.ref m), ("old", V.ref o), ("young", V.ref p)]) a = some (.ins (He.ga K "Areas") dx [(("memory" : Str), V.ref m), ("old", V.ref o), ("young", V.ref p)]) := upd_same
                generalize upd H6 a (.ins (He.ga K "Areas") dx [(("memory" : Str), V.ref m), ("old", V.ref o), ("young", V.ref p)]) = H7 at k7 a7 ⊢
                walk_at "w2"
                first | refine ⟨.inl ⟨by decide, by decide⟩, ?_⟩ | skip
                intro q qx nq nqx nqe
                have s8 := same_mk2 (o1 := .ins (He.ga K "Space") qx []) (o2 := SpV K qx (n + k) (n + 2 * k) (n + k)) nq nqx
                have sq : upd (upd (upd H7 qx (.own q)) q (.ins (He.ga K "Space") qx [])) q (SpV K qx (n + k) (n + 2 * k) (n + k)) q = some (SpV K qx (n + k) (n + 2 * k) (n + k)) := upd_same
                have qa : q ≠ a := (ne_of_none a7 nq).symm
                refine ⟨q, qx, n + k, n + 2 * k, rfl, upd_same, rfl, a, dx, _, rfl, s8 _ _ a7, by show 3 < 1000; decide, ?_⟩
                generalize upd (upd (upd H7 qx (.own q)) q (.ins (He.ga K "Space") qx [])) q (SpV K qx (n + k) (n + 2 * k) (n + k)) = H8 at s8 sq ⊢
                rw [pi_Areas_spare]
                have k9 : ∀ {c x}, c ≠ a → H8 c = some x → upd H8 a (.ins (He.ga K "Areas") dx (F_Areas (.ref m) (.ref o) (.ref p) (.ref q))) c = some x := fun h g => by rw [upd_ne h]; exact g
                have k69 : ∀ {c x}, c ≠ a → H6 c = some x → upd H8 a (.ins (He.ga K "Areas") dx (F_Areas (.ref m) (.ref o) (.ref p) (.ref q))) c = some x := fun h g => k9 h (s8 _ _ (k7 h g))
                have k49 : ∀ {c x}, c ≠ a → H4 c = some x → upd H8 a (.ins (He.ga K "Areas") dx (F_Areas (.ref m) (.ref o) (.ref p) (.ref q))) c = some x := fun h g => k69 h (s6 _ _ (k5 h g))
                have k29 : ∀ {c x}, c ≠ a → H2 c = some x → upd H8 a (.ins (He.ga K "Areas") dx (F_Areas (.ref m) (.ref o) (.ref p) (.ref q))) c = some x := fun h g => k49 h (s4 _ _ (k3 h g))
                have nn : ∀ {Hi : Hp} {c : Addr}, (∀ {c x}, c ≠ a → H c = some x → Hi c = some x) → c ≠ a → Hi c = none → H c = none := fun {Hi c} k h g => by
                  cases e : H c with
                  | none => rfl
                  | some x =>
                    rw [k h e] at g
                    cases g
                refine h ⟨a, dx, m, mx, l, o, ox, p, px, q, qx⟩ _ rfl { ob := upd_same, me := ⟨k29 ma M1.ob, k29 la M1.ls, M1.sz⟩, vw := Vw.rep, ln := List.length_replicate, so := k49 oa so, sp := k69 pa sp, sq := k9 qa sq, nop := ?_, noq := ?_, npq := ?_, lo := Nat.zero_le _, l1 := ⟨Nat.le_refl _, Nat.le_add_right _ _⟩, l2 := ⟨Nat.le_refl _, by show n + k ≤ n + 2 * k; omega⟩, gn := ⟨by show 4 ≤ n; omega, by show n ≤ 2000; omega⟩, gk := ⟨by show 2 ≤ k; omega, by show k ≤ 500; omega⟩ } (none_of (same_mk nm nmx nem) nl) (nn (fun h g => k3 h (s1 _ _ g)) oa no) (nn (fun h g => k5 h (s4 _ _ (k3 h (s1 _ _ g)))) pa np) (nn (fun h g => k7 h (s6 _ _ (k5 h (s4 _ _ (k3 h (s1 _ _ g)))))) qa nq) nm fun c x h g => k29 h (s1 _ _ g)
                · exact ne_of_none (k5 oa so) np
                · exact ne_of_none (k7 oa (s6 _ _ (k5 oa so))) nq
                · exact ne_of_none (k7 pa sp) nq
            · rw [if_neg (by omega)] at h
              exact h
          · rw [odd_whole o]
            rw [youngV_odd o] at h
            walk_at "w2"
            exact h
      · rw [if_neg (by omega)] at h
        exact h
    · rw [odd_whole o]
      rw [oldV_odd o] at h
      walk_at "w2"
      exact h
theorem f_Areas_flip (T : Tx K mg) : Mt P w K mg base 1 "Areas" "flip" ["self"] (sp_Areas_flip K) := by
  refine T.mkMt 41 114 112 (d := d_Areas_flip) (N := ["self", "kept"]) (k := 0) rfl rfl rfl rfl rfl rfl sc_Areas_flip (fun _ _ _ _ _ _ us hl => match us, hl with | [_], _ => rfl) (fun vs H Q E h => ?len) (fun cdv A outer s H vs Q E hr h => ⟨_,
      (pss_cons (ps_set (i := 1) sc_Areas_flip.nd rfl (Or.inl rfl) (pe_fldC (T.cls 112) (T.noat 120) (pv 0)))
        (pss_cons (ps_fldC (T.cls 112) (T.noat 120) (pv 0) (pe_fldC (T.cls 112) (T.noat 121) (pv 0)))
        (pss_one (ps_fldC (T.cls 112) (T.noat 121) (pv 0) (pv 1))))), ?rd⟩)
  case len => first | exact len_Areas_flip h | (repeat (first | (obtain ⟨rfl, _⟩ := h; rfl; done) | obtain ⟨_, h⟩ := h))
  case rd =>
    obtain ⟨A, S, rfl, I, q⟩ := h
    walk_at "w2"
    refine ⟨_, fldIs I.ob, _, fldIs I.ob, A.a, A.dx, _, rfl, I.ob, by show 4 < 1000; decide, ?_⟩
    rw [pf_Areas_young]
    refine ⟨A.a, A.dx, _, rfl, upd_same, by show 4 < 1000; decide, ?_⟩
    rw [pf_Areas_spare, upd_upd]
    exact q _ I.flip fun b o h g => by rw [upd_ne h]; exact g
theorem f_Areas_area_of (T : Tx K mg) : Mt P w K mg base 2 "Areas" "area_of" ["self", "at"] (sp_Areas_area_of K) := by
  have c_Space_has := f_Space_has (P := P) (w := w) (base := base) T
  refine T.mkMt 42 115 112 (d := d_Areas_area_of) (N := ["self", "at"]) (k := 1) rfl rfl rfl rfl rfl rfl sc_Areas_area_of (fun _ _ _ _ _ _ us hl => match us, hl with | [_, _], _ => rfl) (fun vs H Q E h => ?len) (fun cdv A outer s H vs Q E hr h => ⟨_,
      (pss_cons (ps_if (pt_val (pe_mt (K := K) rfl (takes_of rfl rfl rfl rfl) (pe_fldC (T.cls 112) (T.noat 119) (pv 0)) c_Space_has (hr.mono (by decide)) (pa_cons (pv 1) pa_nil))) (pss_one (ps_ret pe_str)) pss_nil)
        (pss_cons (ps_if (pt_val (pe_mt (K := K) rfl (takes_of rfl rfl rfl rfl) (pe_fldC (T.cls 112) (T.noat 120) (pv 0)) c_Space_has (hr.mono (by decide)) (pa_cons (pv 1) pa_nil))) (pss_one (ps_ret pe_str)) pss_nil)
        (pss_one (ps_ret pe_non)))), ?rd⟩)
  case len => first | exact len_Areas_area_of h | (repeat (first | (obtain ⟨rfl, _⟩ := h; rfl; done) | obtain ⟨_, h⟩ := h))
  case rd =>
    obtain ⟨A, S, n, rfl, I, h⟩ := h
    unfold areaW at h
    walk_at "w2"
    refine ⟨_, fldIs I.ob, recv I.so, A.o, A.ox, _, _, _, n, rfl, I.so, ?_⟩
    walk_at "w2"
    split
    · rw [if_pos (by assumption)] at h
      exact h
    · rw [if_neg (by assumption)] at h
      have hf := I.half S.fl
      refine ⟨_, fldIs I.ob, recv hf, _, _, _, _, _, n, rfl, hf, ?_⟩
      walk_at "w2"
      ((repeat' split) <;> (repeat' split at h) <;> first | exact h | (exfalso; omega))
theorem f_Areas_lay_young (T : Tx K mg) : Mt P w K mg base 5 "Areas" "lay_young" ["self", "slots"] (sp_Areas_lay_young K) := by
  have c_need_slots := f_need_slots (P := P) (w := w) (base := base) T
  have c_Space_take := f_Space_take (P := P) (w := w) (base := base) T
  have c_lay := f_lay (P := P) (w := w) (base := base) T
  refine T.mkMt 43 116 112 (d := d_Areas_lay_young) (N := ["self", "slots", "at"]) (k := 4) rfl rfl rfl rfl rfl rfl sc_Areas_lay_young (fun _ _ _ _ _ _ us hl => match us, hl with | [_, _], _ => rfl) (fun vs H Q E h => ?len) (fun cdv A outer s H vs Q E hr h => ⟨_,
      (pss_cons (ps_expr (pe_fn (takes_of rfl rfl rfl rfl) c_need_slots (hr.mono (by decide)) (by rfl) (pa_cons (pv 1) pa_nil)))
        (pss_cons (ps_set (i := 2) sc_Areas_lay_young.nd rfl (Or.inl rfl) (pe_mt (K := K) rfl (takes_of rfl rfl rfl rfl) (pe_fldC (T.cls 112) (T.noat 120) (pv 0)) c_Space_take (hr.mono (by decide)) (pa_cons (pe_op op_gAdd (pv 1) pe_int) pa_nil)))
        (pss_cons (ps_expr (pe_fn (takes_of rfl rfl rfl rfl) c_lay (hr.mono (by decide)) (by rfl) (pa_cons (pe_fldC (T.cls 112) (T.noat 118) (pv 0)) (pa_cons (pv 2) (pa_cons (pv 1) pa_nil)))))
        (pss_one (ps_ret (pv 2)))))), ?rd⟩)
  case len => first | exact len_Areas_lay_young h | (repeat (first | (obtain ⟨rfl, _⟩ := h; rfl; done) | obtain ⟨_, h⟩ := h))
  case rd =>
    obtain ⟨A, S, v, rfl, I, th, h⟩ := h
    have hf := I.half S.fl
    have hl := I.lt S.fl
    walk_at "w2"
    refine ⟨v, rfl, th, ?_⟩
    unfold laidW at h
    cases es : slotsW v with
    | none =>
      rw [es] at h
      exact h
    | some s =>
      rw [es] at h
      obtain ⟨rfl, s8⟩ := slotsW_some es
      dsimp only at h ⊢
      refine ⟨_, fldIs I.ob, recv hf, _, _, _, _, _, _, rfl, hf, .inl ⟨_, rfl⟩, ?_⟩
      rw [takeW_int, if_neg (by omega)]
      by_cases c' : s + 1 ≤ endA S false - topA S false
      · have c : s + 1 ≤ S.b S.fl + S.k - S.t S.fl := c'
        rw [if_pos c'] at h
        have et : ((s : Int) + 1).toNat = s + 1 := by omega
        rw [if_neg (by omega), et]
        have I2 := I.topHalf (f := S.fl) (t := S.t S.fl + (s + 1)) (by omega) (by omega)
        dsimp only
        refine ⟨_, fldIs I2.ob, A.m, A.mx, A.l, _, _, _, rfl, I2.me, .inl ⟨_, rfl⟩, .inl ⟨_, rfl⟩, ?_⟩
        have ew : (S.put S.fl (S.t S.fl + (s + 1))).ws = S.ws := by unfold ArS.put; split <;> rfl
        have hlen := I.ln
        have hb : S.b S.fl + S.k ≤ S.n + 2 * S.k := by unfold ArS.b; split <;> omega
        rw [slotsW_int, if_pos ⟨by omega, by omega⟩, Int.toNat_natCast]
        dsimp only
        rw [ew, placeOf_int, if_pos ⟨by omega, by omega⟩, Int.toNat_natCast]
        dsimp only
        intro H' M k
        refine h H' (I2.words M k (layT_vw I.vw s8) (by rw [layT_len, ew])) fun b o h1 h2 g => k b o h1 (by rw [upd_ne h2]; exact g)
      · have c : ¬ s + 1 ≤ S.b S.fl + S.k - S.t S.fl := c'
        rw [if_neg c'] at h
        rw [if_pos (by omega)]
        exact h
theorem f_Areas_lay_old (T : Tx K mg) : Mt P w K mg base 7 "Areas" "lay_old" ["self", "slots"] (sp_Areas_lay_old K) := by
  have c_need_slots := f_need_slots (P := P) (w := w) (base := base) T
  have c_Space_take := f_Space_take (P := P) (w := w) (base := base) T
  have c_lay := f_lay (P := P) (w := w) (base := base) T
  have c_aged := f_aged (P := P) (w := w) (base := base) T
  refine T.mkMt 44 117 112 (d := d_Areas_lay_old) (N := ["self", "slots", "at"]) (k := 6) rfl rfl rfl rfl rfl rfl sc_Areas_lay_old (fun _ _ _ _ _ _ us hl => match us, hl with | [_, _], _ => rfl) (fun vs H Q E h => ?len) (fun cdv A outer s H vs Q E hr h => ⟨_,
      (pss_cons (ps_expr (pe_fn (takes_of rfl rfl rfl rfl) c_need_slots (hr.mono (by decide)) (by rfl) (pa_cons (pv 1) pa_nil)))
        (pss_cons (ps_set (i := 2) sc_Areas_lay_old.nd rfl (Or.inl rfl) (pe_mt (K := K) rfl (takes_of rfl rfl rfl rfl) (pe_fldC (T.cls 112) (T.noat 119) (pv 0)) c_Space_take (hr.mono (by decide)) (pa_cons (pe_op op_gAdd (pv 1) pe_int) pa_nil)))
        (pss_cons (ps_expr (pe_fn (takes_of rfl rfl rfl rfl) c_lay (hr.mono (by decide)) (by rfl) (pa_cons (pe_fldC (T.cls 112) (T.noat 118) (pv 0)) (pa_cons (pv 2) (pa_cons (pv 1) pa_nil)))))
        (pss_cons (ps_expr (pe_fn (takes_of rfl rfl rfl rfl) c_aged (hr.mono (by decide)) (by rfl) (pa_cons (pe_fldC (T.cls 112) (T.noat 118) (pv 0)) (pa_cons (pv 2) (pa_cons (pe_num (T.num 61) (by rfl)) pa_nil)))))
        (pss_one (ps_ret (pv 2))))))), ?rd⟩)
  case len => first | exact len_Areas_lay_old h | (repeat (first | (obtain ⟨rfl, _⟩ := h; rfl; done) | obtain ⟨_, h⟩ := h))
  case rd =>
    obtain ⟨A, S, v, rfl, I, th, h⟩ := h
    have hl := I.lo
    walk_at "w2"
    refine ⟨v, rfl, th, ?_⟩
    unfold laidW at h
    cases es : slotsW v with
    | none =>
      rw [es] at h
      exact h
    | some s =>
      rw [es] at h
      obtain ⟨rfl, s8⟩ := slotsW_some es
      dsimp only at h ⊢
      refine ⟨_, fldIs I.ob, recv I.so, _, _, _, _, _, _, rfl, I.so, .inl ⟨_, rfl⟩, ?_⟩
      rw [takeW_int, if_neg (by omega)]
      by_cases c' : s + 1 ≤ endA S true - topA S true
      · have c : s + 1 ≤ S.n - S.ot := c'
        rw [if_pos c'] at h
        have et : ((s : Int) + 1).toNat = s + 1 := by omega
        rw [if_neg (by omega), et]
        have I2 := I.topOld (t := S.ot + (s + 1)) (by omega)
        have hlen := I.ln
        have hz := I.me.sz
        dsimp only
        refine ⟨_, fldIs I2.ob, A.m, A.mx, A.l, _, _, _, rfl, I2.me, .inl ⟨_, rfl⟩, .inl ⟨_, rfl⟩, ?_⟩
        rw [slotsW_int, if_pos ⟨by omega, by omega⟩, Int.toNat_natCast]
        dsimp only
        rw [placeOf_int, if_pos ⟨by omega, by omega⟩, Int.toNat_natCast]
        dsimp only
        intro H' M k
        have I3 := I2.words M k (layT_vw I.vw s8) layT_len
        walk_at "w2"
        refine ⟨_, fldIs I3.ob, A.m, A.mx, A.l, _, _, _, rfl, I3.me, I3.vw, .inl ⟨_, rfl⟩, .inl ⟨_, rfl⟩, ?_⟩
        have eH : headW (layT S.ws S.ot s s) (.int (S.ot : Int)) = .ok S.ot (4 * s) := by
          unfold headW
          rw [layT_len, placeOf_int, if_pos ⟨by omega, by omega⟩, Int.toNat_natCast]
          dsimp only
          rw [layT_at (by omega), head_8 s8]
        rw [eH, ageW_int, if_pos (by decide)]
        dsimp only
        have e4 : 4 * (4 * s / 4) + (2 : Int).toNat = 4 * s + 2 := by
          show 4 * (4 * s / 4) + 2 = 4 * s + 2
          omega
        rw [e4]
        have M3 := I3.me.put ((layT S.ws S.ot s s).set S.ot (2 * ((4 * s + 2 : Nat) : Int))) (List.length_set ..)
        walk_at "w2"
        refine h _ (I3.words M3 (fun b o h g => by rw [upd_ne h]; exact g) (I3.vw.set (by rw [word_num (by omega)]; rfl)) (List.length_set ..)) fun b o h1 h2 g => by rw [upd_ne h1]; exact k b o h1 (by rw [upd_ne h2]; exact g)
      · have c : ¬ s + 1 ≤ S.n - S.ot := c'
        rw [if_neg c'] at h
        rw [if_pos (by omega)]
        exact h
end

/-! ## books -/
def bk (ps : List Int) : List (Key × V) := ps.map fun i => (.inl i, .bl true)
def addP (ps : List Int) (i : Int) : List Int := if i ∈ ps then ps else ps ++ [i]
def delP (ps : List Int) (i : Int) : List Int := ps.filter fun j => decide (j ≠ i)
theorem val_bk {ps : List Int} {i : Int} : valV (bk ps) (.inl i : Key) = if i ∈ ps then some (.bl true) else none := by
  induction ps with
  | nil => rfl
  | cons j r ih =>
    by_cases e : j = i
    · subst e
      rw [if_pos (List.mem_cons_self)]
      exact valV_pos rfl
    · have e2 : ¬ ((.inl j : Key) = .inl i) := fun z => e (Sum.inl.inj z)
      refine (valV_neg (p := ((.inl j : Key), V.bl true)) (r := bk r) e2).trans (ih.trans ?_)
      by_cases c : i ∈ r
      · rw [if_pos c, if_pos (List.mem_cons_of_mem _ c)]
      · rw [if_neg c, if_neg fun z => (List.mem_cons.mp z).elim (fun q => e q.symm) c]
theorem put_bk {ps : List Int} {i : Int} : putK (bk ps) (.inl i : Key) (.bl true) = bk (addP ps i) := by
  unfold putK addP
  rw [valV_any, val_bk]
  by_cases c : i ∈ ps
  · rw [if_pos c, if_pos c, if_pos (show (some (V.bl true)).isSome = true from rfl)]
    unfold bk
    rw [List.map_map]
    refine List.map_congr_left fun j _ => ?_
    show (if (.inl j : Key) = .inl i then ((.inl j : Key), V.bl true) else ((.inl j : Key), V.bl true)) = _
    rw [ite_self]
  · rw [if_neg c, if_neg c, if_neg (by decide)]
    unfold bk
    rw [List.map_append]
    rfl
theorem drop_bk {ps : List Int} {i : Int} : dropK (bk ps) (.inl i : Key) = bk (delP ps i) := by
  unfold dropK delP bk
  rw [List.filter_map]
  congr 1
  refine List.filter_congr fun j _ => ?_
  show decide ((.inl j : Key) ≠ .inl i) = decide (j ≠ i)
  by_cases e : j = i
  · subst e
    rw [decide_eq_false (by simp), decide_eq_false (by simp)]
  · have e2 : (.inl j : Key) ≠ .inl i := fun z => e (Sum.inl.inj z)
    rw [decide_eq_true e2, decide_eq_true e]
theorem key_bk {ps : List Int} : (bk ps).map (fun kv => kV kv.1) = ps.map V.int := by
  unfold bk
  rw [List.map_map]
  rfl
theorem mem_addP {ps : List Int} {i j : Int} : j ∈ addP ps i ↔ j ∈ ps ∨ j = i := by
  unfold addP
  split
  · rename_i c
    exact ⟨.inl, fun h => h.elim id fun e => e ▸ c⟩
  · rw [List.mem_append, List.mem_singleton]
theorem nd_addP {ps : List Int} {i : Int} (h : ps.Nodup) : (addP ps i).Nodup := by
  unfold addP
  split
  · exact h
  · rename_i c
    refine List.nodup_append.mpr ⟨h, by simp, fun a ha b hb => ?_⟩
    rw [List.mem_singleton] at hb
    subst hb
    exact fun e => c (e ▸ ha)
theorem len_addP {ps : List Int} {i : Int} : (addP ps i).length ≤ ps.length + 1 := by
  unfold addP
  split
  · omega
  · rw [List.length_append]
    show ps.length + 1 ≤ ps.length + 1
    omega
theorem mem_delP {ps : List Int} {i j : Int} : j ∈ delP ps i ↔ j ∈ ps ∧ j ≠ i := by
  unfold delP
  rw [List.mem_filter, decide_eq_true_eq]
theorem nd_delP {ps : List Int} {i : Int} (h : ps.Nodup) : (delP ps i).Nodup := List.Pairwise.filter _ h
theorem len_delP {ps : List Int} {i : Int} : (delP ps i).length ≤ ps.length := List.length_filter_le ..
theorem sort_one {a b c d : List Int} (na : a.Nodup) (nb : b.Nodup) (m : ∀ i, i ∈ a ↔ i ∈ b) (ca : c.Perm a) (db : d.Perm b) (pc : c.Pairwise (· ≤ ·)) (pd : d.Pairwise (· ≤ ·)) : c = d :=
  List.Perm.eq_of_pairwise (fun _ _ _ _ h1 h2 => Int.le_antisymm h1 h2) pc pd (ca.trans (((List.perm_ext_iff_of_nodup na nb).mpr m).trans db.symm))
structure BookO (K : PySem.W.Frag) (H : Hp) (b dx d : Addr) (ps : List Int) : Prop where
  ob : H b = some (.ins (He.ga K "Book") dx (F_Book (.ref d)))
  ds : H d = some (.dK (bk ps))
  nd : ps.Nodup
theorem BookO.same {K H H' b dx d ps} (h : BookO K H b dx d ps) (s : Same H H') : BookO K H' b dx d ps := ⟨s _ _ h.ob, s _ _ h.ds, h.nd⟩
theorem BookO.ne {K H b dx d ps} (h : BookO K H b dx d ps) : b ≠ d := ne_of h.ob h.ds (by intro z; cases z)
theorem BookO.put {K H b dx d ps} (h : BookO K H b dx d ps) {qs : List Int} (n : qs.Nodup) : BookO K (upd H d (.dK (bk qs))) b dx d qs := ⟨by rw [upd_ne h.ne]; exact h.ob, upd_same, n⟩
def sp_Book___init__ (K : PySem.W.Frag) : Sp := fun vs H Q _ => ∃ b dx, vs = [.ref b] ∧ H b = some (.ins (He.ga K "Book") dx []) ∧ ∀ d H', H d = none → BookO K H' b dx d [] → (∀ c o, c ≠ b → H c = some o → H' c = some o) → Q .non H'
def sp_Book_write (K : PySem.W.Frag) : Sp := fun vs H Q E => ∃ b dx d ps v, vs = [.ref b, v] ∧ BookO K H b dx d ps ∧ ps.length < 1000000 ∧ Thing H v ∧ match placeW v with
  | some n => Q .non (upd H d (.dK (bk (addP ps n))))
  | none => E (Ex K "NoPlace") none H
def sp_Book_rub (K : PySem.W.Frag) : Sp := fun vs H Q E => ∃ b dx d ps v, vs = [.ref b, v] ∧ BookO K H b dx d ps ∧ Thing H v ∧ match placeW v with
  | some n => Q .non (upd H d (.dK (bk (delP ps n)))) ∧ (delP ps n = ps → Q .non H)
  | none => E (Ex K "NoPlace") none H
def sp_Book_has (K : PySem.W.Frag) : Sp := fun vs H Q E => ∃ b dx d ps v, vs = [.ref b, v] ∧ BookO K H b dx d ps ∧ Thing H v ∧ match placeW v with
  | some n => Q (.bl (decide (n ∈ ps))) H
  | none => E (Ex K "NoPlace") none H
def sp_Book_places (K : PySem.W.Frag) : Sp := fun vs H Q _ => ∃ b dx d ps, vs = [.ref b] ∧ BookO K H b dx d ps ∧ ps.length < 1000000 ∧ ∀ (ns : List Int) p H', ns.Perm ps → ns.Pairwise (· ≤ ·) → H p = none → Same H H' → H' p = some (.lst (ns.map V.int)) → Q (.ref p) H'
def sp_Book_clear (K : PySem.W.Frag) : Sp := fun vs H Q _ => ∃ b dx d ps, vs = [.ref b] ∧ BookO K H b dx d ps ∧ ∀ d' H', H d' = none → BookO K H' b dx d' [] → (∀ c o, c ≠ b → H c = some o → H' c = some o) → Q .non H'
section
variable {P : Program} {w : World} {K : PySem.W.Frag} {mg : Str → Option Value} {base : Heap}
theorem f_Book___init__ (T : Tx K mg) : Mi P w K mg base 1 "Book" ["self"] (sp_Book___init__ K) := by
  refine T.mkMi 45 123 13 (d := d_Book___init__) (N := ["self"]) (k := 0) rfl rfl rfl rfl rfl rfl sc_Book___init__ (fun _ _ _ _ _ _ us hl => match us, hl with | [_], _ => rfl) (fun vs H Q E h => ?len) (fun cdv A outer s H vs Q E hr h => ⟨_,
      (pss_one (ps_fldC (T.cls 122) (T.noat 129) (pv 0) pe_dnewK)), ?rd⟩)
  case len => obtain ⟨b, dx, rfl, _⟩ := h; rfl
  case rd =>
    obtain ⟨b, dx, rfl, M, q⟩ := h
    walk_at "w2"
    intro d hd
    have nb : b ≠ d := ne_of_none M hd
    refine ⟨b, dx, _, rfl, by rw [upd_ne nb]; exact M, by decide, ?_⟩
    rw [pi_Book_marks]
    exact q d _ hd ⟨upd_same, by rw [upd_ne nb.symm]; exact upd_same, List.nodup_nil⟩ fun c o hc e => by rw [upd_ne hc, upd_ne (ne_of_none e hd)]; exact e
theorem f_Book_write (T : Tx K mg) : Mt P w K mg base 3 "Book" "write" ["self", "place"] (sp_Book_write K) := by
  have c_place_word := f_place_word (P := P) (w := w) (base := base) T
  refine T.mkMt 46 124 122 (d := d_Book_write) (N := ["self", "place"]) (k := 2) rfl rfl rfl rfl rfl rfl sc_Book_write (fun _ _ _ _ _ _ us hl => match us, hl with | [_, _], _ => rfl) (fun vs H Q E h => ?len) (fun cdv A outer s H vs Q E hr h => ⟨_,
      (pss_cons (ps_expr (pe_fn (takes_of rfl rfl rfl rfl) c_place_word (hr.mono (by decide)) (by rfl) (pa_cons (pv 1) pa_nil)))
        (pss_one (ps_dput (hu_of hr) (pe_fldC (T.cls 122) (T.noat 129) (pv 0)) (pv 1) pe_bl rfl))), ?rd⟩)
  case len => obtain ⟨b, dx, d, ps, v, rfl, _⟩ := h; rfl
  case rd =>
    obtain ⟨b, dx, d, ps, v, rfl, B, hl, th, h⟩ := h
    walk_at "w2"
    rcases th with ⟨n, rfl⟩ | o
    · rw [x_place_word]
      rw [placeW_int] at h
      split
      · rename_i c
        rw [if_pos c] at h
        walk_at "w2"
        refine ⟨_, fldIs B.ob, ?_⟩
        walk_at "w2"
        refine ⟨_, dput_i B.ds (by unfold bk; rw [List.length_map, sizeLine_eq]; omega), ?_⟩
        rw [put_bk]
        exact h
      · rename_i c
        rw [if_neg c] at h
        exact h
    · rw [odd_place_word o]
      rw [placeW_odd o] at h
      exact h
theorem f_Book_rub (T : Tx K mg) : Mt P w K mg base 3 "Book" "rub" ["self", "place"] (sp_Book_rub K) := by
  have c_place_word := f_place_word (P := P) (w := w) (base := base) T
  refine T.mkMt 47 125 122 (d := d_Book_rub) (N := ["self", "place"]) (k := 2) rfl rfl rfl rfl rfl rfl sc_Book_rub (fun _ _ _ _ _ _ us hl => match us, hl with | [_, _], _ => rfl) (fun vs H Q E h => ?len) (fun cdv A outer s H vs Q E hr h => ⟨_,
      (pss_cons (ps_expr (pe_fn (takes_of rfl rfl rfl rfl) c_place_word (hr.mono (by decide)) (by rfl) (pa_cons (pv 1) pa_nil)))
        (pss_one (ps_expr (pe_dpop2 (pe_fldC (T.cls 122) (T.noat 129) (pv 0)) (pv 1) pe_non ⟨rfl, rfl, rfl, rfl⟩)))), ?rd⟩)
  case len => obtain ⟨b, dx, d, ps, v, rfl, _⟩ := h; rfl
  case rd =>
    obtain ⟨b, dx, d, ps, v, rfl, B, th, h⟩ := h
    walk_at "w2"
    rcases th with ⟨n, rfl⟩ | o
    · rw [x_place_word]
      rw [placeW_int] at h
      split
      · rename_i c
        rw [if_pos c] at h
        walk_at "w2"
        refine ⟨_, fldIs B.ob, ?_⟩
        walk_at "w2"
        refine ⟨isD_k B.ds, _, .inl n, B.ds, rfl, fun v e => ?_, fun e => ?_⟩
        · rw [drop_bk]
          exact h.1
        · refine h.2 ?_
          rw [val_bk] at e
          have ni : n ∉ ps := fun z => by rw [if_pos z] at e; cases e
          unfold delP
          rw [List.filter_eq_self]
          exact fun a ha => decide_eq_true fun z => ni (z ▸ ha)
      · rename_i c
        rw [if_neg c] at h
        exact h
    · rw [odd_place_word o]
      rw [placeW_odd o] at h
      exact h
theorem f_Book_has (T : Tx K mg) : Mt P w K mg base 3 "Book" "has" ["self", "place"] (sp_Book_has K) := by
  have c_place_word := f_place_word (P := P) (w := w) (base := base) T
  refine T.mkMt 48 126 122 (d := d_Book_has) (N := ["self", "place"]) (k := 2) rfl rfl rfl rfl rfl rfl sc_Book_has (fun _ _ _ _ _ _ us hl => match us, hl with | [_, _], _ => rfl) (fun vs H Q E h => ?len) (fun cdv A outer s H vs Q E hr h => ⟨_,
      (pss_cons (ps_expr (pe_fn (takes_of rfl rfl rfl rfl) c_place_word (hr.mono (by decide)) (by rfl) (pa_cons (pv 1) pa_nil)))
        (pss_one (ps_ret (pe_cmp (pc_din (hu_of hr) (pv 1) (pe_fldC (T.cls 122) (T.noat 129) (pv 0))))))), ?rd⟩)
  case len => obtain ⟨b, dx, d, ps, v, rfl, _⟩ := h; rfl
  case rd =>
    obtain ⟨b, dx, d, ps, v, rfl, B, th, h⟩ := h
    walk_at "w2"
    rcases th with ⟨n, rfl⟩ | o
    · rw [x_place_word]
      rw [placeW_int] at h
      split
      · rename_i c
        rw [if_pos c] at h
        walk_at "w2"
        refine ⟨_, fldIs B.ob, ?_⟩
        walk_at "w2"
        refine ⟨_, dget_i B.ds, ?_⟩
        rw [val_bk]
        have h : Q (V.bl (decide (n ∈ ps))) H := h
        by_cases m : n ∈ ps
        · rw [decide_eq_true m] at h
          rw [if_pos m]
          exact h
        · rw [decide_eq_false m] at h
          rw [if_neg m]
          exact h
      · rename_i c
        rw [if_neg c] at h
        exact h
    · rw [odd_place_word o]
      rw [placeW_odd o] at h
      exact h
theorem f_Book_places (T : Tx K mg) : Mt P w K mg base 1 "Book" "places" ["self"] (sp_Book_places K) := by
  refine T.mkMt 49 127 122 (d := d_Book_places) (N := ["self"]) (k := 0) rfl rfl rfl rfl rfl rfl sc_Book_places (fun _ _ _ _ _ _ us hl => match us, hl with | [_], _ => rfl) (fun vs H Q E h => ?len) (fun cdv A outer s H vs Q E hr h => ⟨_,
      (pss_one (ps_ret (pe_callB (call_sortedK (K := K) rfl) (by rfl) (T.free 72) (by decide +kernel) (pa_cons (pe_callTy (call_listD rfl) (by rfl) (T.free 78) (by decide +kernel) (pa_cons (pe_fldC (T.cls 122) (T.noat 129) (pv 0)) pa_nil)) pa_nil)))), ?rd⟩)
  case len => obtain ⟨b, dx, d, ps, rfl, _⟩ := h; rfl
  case rd =>
    obtain ⟨b, dx, d, ps, rfl, B, hl, q⟩ := h
    walk_at "w2"
    refine ⟨_, fldIs B.ob, d, _, rfl, .inl B.ds, fun p hp => ?_⟩
    rw [key_bk]
    have s1 := same_new (o := .lst (ps.map V.int)) hp
    refine ⟨p, ps, rfl, .of upd_same, fun ns r hp' hs hr => ?_⟩
    have s2 := same_new (o := .lst (ns.map V.int)) hr
    exact q ns r _ hp' hs (none_of s1 hr) (s1.trans s2) upd_same
end

local macro_rules | `(tactic| walk_at "w2") => `(tactic| try simp only [↓x_var0, ↓x_varS, ↓x_c, ↓x_op, ↓x_un, ↓x_cb, ↓x_nil, ↓x_cons, ↓x_test, ↓x_b, ↓x_ex, ↓x_and, ↓x_or, ↓x_not, ↓x_andV, ↓x_orV, ↓x_notV, ↓x_tif, ↓x_chain, ↓x_menu, ↓x_menuI, ↓x_lst, ↓x_tup, ↓x_dnew, ↓x_callW, ↓x_callN, ↓x_seq, ↓x_next, ↓x_ret, ↓x_retN, ↓x_drop, ↓x_ifS, ↓x_asg, ↓x_name, ↓x_raise, ↓x_fld, ↓x_setF, ↓x_meth, ↓x_make, ↓x_sub, ↓r_min, ↓r_max, ↓x_yes, ↓x_for, ↓x_lock, ↓x_keys, ↓x_cut, ↓x_lc, ↓x_rng1, ↓x_rng2, ↓x_lst1, ↓x_itup, ↓x_rng3, ↓x_three, ↓x_lstg, ↓x_tupg, ↓x_adrS, ↓x_one, ↓x_two, ↓x_adr, ↓x_sl, ↓x_np, ↓x_pt, ↓x_int, ↓x_bm, ↓x_bm0, ↓x_consg, ↓x_nilg, ↓x_dget2, ↓x_dget1, ↓x_dgetN, ↓x_dget, ↓x_din, ↓x_dni, ↓x_dput, ↓x_dpop2, ↓r_isB, ↓r_notB, ↓x_enum, ↓x_zip, ↓x_str, ↓x_strE, ↓r_inS, ↓r_ninS, wipe, List.map_cons, List.map_nil, ↓x_isT, ↓r_isiII, ↓r_isiBB, ↓r_isiIB, ↓r_isiSS, ↓r_neNS, ↓r_neSN, ↓r_neNN, ↓r_eqNS, ↓r_eqSN, ↓r_eqNN, ↓r_eqIS, ↓r_neIS, ↓r_neSI, ↓r_neBS, ↓r_eqBB, ↓r_neBB, ↓x_start, ↓x_K, ↓x_start0, ↓r_i0, ↓r_i, ↓r_u, ↓r_addI, ↓r_addS, ↓r_mulI, ↓r_mulS, ↓r_eqI, ↓r_neI, ↓r_eqS, ↓r_neS, ↓r_absI, ↓r_intI, ↓r_intB, List.length_cons, List.length_nil, List.replicate, List.set_cons_zero, List.set_cons_succ, decide_eq_true_eq, Bool.not_eq_true', decide_eq_false_iff_not, if_true, if_false, Bool.false_eq_true, Bool.true_eq_false, ite_true, ite_false, Bool.not_true, Bool.not_false, c_div, n_ten, c_pow, not_true_eq_false, not_false_eq_true, decide_true, decide_false, true_and, and_true, and_self, true_or, or_true, Int.reduceLT, Int.reduceLE, Int.reduceMul, Int.reduceAdd, Int.reduceSub, Int.reducePow, Int.reduceNeg, Int.reduceDiv, Int.reduceMod, Nat.reducePow, Int.reduceToNat, Int.reduceEq, Int.reduceNe, Nat.reduceLT, Nat.reduceLeDiff, Nat.reduceAdd, ↓x_whole, ↓x_kind])
/-! ## weak names -/
def flatN : V → Bool
  | .non => true
  | .int _ => true
  | _ => false
theorem flatN_I {v : V} (h : flatN v = true) : flatI v = true := by cases v <;> first | rfl | cases h
structure WeakO (K : PySem.W.Frag) (H : Hp) (w dx l : Addr) (ts : List V) : Prop where
  ob : H w = some (.ins (He.ga K "Weak") dx (F_Weak (.ref l)))
  ls : H l = some (.lst ts)
theorem WeakO.same {K H H' w dx l ts} (h : WeakO K H w dx l ts) (s : Same H H') : WeakO K H' w dx l ts := ⟨s _ _ h.ob, s _ _ h.ls⟩
theorem WeakO.ne {K H w dx l ts} (h : WeakO K H w dx l ts) : w ≠ l := ne_of h.ob h.ls (by intro z; cases z)
theorem WeakO.put {K H w dx l ts} (h : WeakO K H w dx l ts) {us : List V} : WeakO K (upd H l (.lst us)) w dx l us := ⟨by rw [upd_ne h.ne]; exact h.ob, upd_same⟩
/-- the names that are there, with their places -/
def pairsOf : Nat → List V → List (List V)
  | _, [] => []
  | k, v :: r => if v = .non then pairsOf (k + 1) r else [.int (k : Int), v] :: pairsOf (k + 1) r
theorem pairsOf_snoc {ts : List V} {v : V} : ∀ k, pairsOf k (ts ++ [v]) = pairsOf k ts ++ (if v = .non then [] else [[.int ((k + ts.length : Nat) : Int), v]]) := by
  induction ts with
  | nil =>
    intro k
    show (if v = .non then pairsOf (k + 1) [] else [.int (k : Int), v] :: pairsOf (k + 1) []) = _
    split <;> rfl
  | cons t r ih =>
    intro k
    show (if t = .non then pairsOf (k + 1) (r ++ [v]) else [.int (k : Int), t] :: pairsOf (k + 1) (r ++ [v])) = (if t = .non then pairsOf (k + 1) r else [.int (k : Int), t] :: pairsOf (k + 1) r) ++ _
    rw [ih (k + 1)]
    have e : k + 1 + r.length = k + (t :: r).length := by rw [List.length_cons]; omega
    rw [e]
    split <;> rfl
theorem pairsOf_len {ts : List V} : ∀ k, (pairsOf k ts).length ≤ ts.length := by
  induction ts with
  | nil => exact fun _ => Nat.le_refl _
  | cons t r ih =>
    intro k
    show (if t = .non then pairsOf (k + 1) r else [.int (k : Int), t] :: pairsOf (k + 1) r).length ≤ r.length + 1
    have := ih (k + 1)
    split
    · omega
    · show (pairsOf (k + 1) r).length + 1 ≤ r.length + 1
      omega
theorem pairsOf_mem {ts : List V} (fl : ∀ t ∈ ts, flatN t = true) : ∀ k, ∀ xs ∈ pairsOf k ts, ∃ i n : Int, xs = [.int i, .int n] := by
  induction ts with
  | nil => exact fun k xs h => (List.not_mem_nil h).elim
  | cons t r ih =>
    intro k xs h
    have h : xs ∈ (if t = .non then pairsOf (k + 1) r else [.int (k : Int), t] :: pairsOf (k + 1) r) := h
    have ih := ih (fun t h => fl t (List.mem_cons_of_mem _ h)) (k + 1) xs
    split at h
    · exact ih h
    · rename_i c
      rcases List.mem_cons.mp h with rfl | h
      · have f := fl t (List.mem_cons_self)
        cases t with
        | int n => exact ⟨_, _, rfl⟩
        | non => exact absurd rfl c
        | _ => cases f
      · exact ih h
def sp_Weak___init__ (K : PySem.W.Frag) : Sp := fun vs H Q _ => ∃ w dx, vs = [.ref w] ∧ H w = some (.ins (He.ga K "Weak") dx []) ∧ ∀ l H', H l = none → WeakO K H' w dx l [] → (∀ c o, c ≠ w → H c = some o → H' c = some o) → Q .non H'
def sp_Weak_name (K : PySem.W.Frag) : Sp := fun vs H Q E => ∃ w dx l ts v, vs = [.ref w, v] ∧ WeakO K H w dx l ts ∧ ts.length < 1000000 ∧ Thing H v ∧ match placeW v with
  | some n => Q (.int ts.length) (upd H l (.lst (ts ++ [.int n])))
  | none => E (Ex K "NoPlace") none H
def sp_Weak_need (K : PySem.W.Frag) : Sp := fun vs H Q E => ∃ w dx l ts v, vs = [.ref w, v] ∧ WeakO K H w dx l ts ∧ Thing H v ∧ match placeOf ts.length v with
  | some _ => Q .non H
  | none => E (Ex K "NoName") none H
def sp_Weak_at (K : PySem.W.Frag) : Sp := fun vs H Q E => ∃ w dx l ts v, vs = [.ref w, v] ∧ WeakO K H w dx l ts ∧ Thing H v ∧ match placeOf ts.length v with
  | some i => Q (ts.getD i .non) H
  | none => E (Ex K "NoName") none H
def sp_Weak_need_there (K : PySem.W.Frag) : Sp := fun vs H Q E => ∃ w dx l ts v, vs = [.ref w, v] ∧ WeakO K H w dx l ts ∧ Thing H v ∧ match placeOf ts.length v with
  | some i => if ts.getD i .non = .non then E (Ex K "NoName") none H else Q .non H
  | none => E (Ex K "NoName") none H
def sp_Weak_move (K : PySem.W.Frag) : Sp := fun vs H Q E => ∃ w dx l ts v z, vs = [.ref w, v, z] ∧ WeakO K H w dx l ts ∧ Thing H v ∧ Thing H z ∧ match placeOf ts.length v with
  | some i => if ts.getD i .non = .non then E (Ex K "NoName") none H else match placeW z with
    | some n => Q .non (upd H l (.lst (ts.set i (.int n))))
    | none => E (Ex K "NoPlace") none H
  | none => E (Ex K "NoName") none H
def sp_Weak_gone (K : PySem.W.Frag) : Sp := fun vs H Q E => ∃ w dx l ts v, vs = [.ref w, v] ∧ WeakO K H w dx l ts ∧ Thing H v ∧ match placeOf ts.length v with
  | some i => if ts.getD i .non = .non then E (Ex K "NoName") none H else Q .non (upd H l (.lst (ts.set i .non)))
  | none => E (Ex K "NoName") none H
def sp_Weak_names (K : PySem.W.Frag) : Sp := fun vs H Q _ => ∃ w dx l ts, vs = [.ref w] ∧ WeakO K H w dx l ts ∧ ts.length < 1000000 ∧ (∀ t ∈ ts, flatN t = true) ∧ ∀ p rs H', H p = none → Same H H' → H' p = some (.lst rs) → TupAll H' rs (pairsOf 0 ts) → Q (.ref p) H'
section
variable {P : Program} {w : World} {K : PySem.W.Frag} {mg : Str → Option Value} {base : Heap}
theorem f_Weak___init__ (T : Tx K mg) : Mi P w K mg base 1 "Weak" ["self"] (sp_Weak___init__ K) := by
  refine T.mkMi 63 148 16 (d := d_Weak___init__) (N := ["self"]) (k := 0) rfl rfl rfl rfl rfl rfl sc_Weak___init__ (fun _ _ _ _ _ _ us hl => match us, hl with | [_], _ => rfl) (fun vs H Q E h => ?len) (fun cdv A outer s H vs Q E hr h => ⟨_,
      (pss_one (ps_fldC (T.cls 147) (T.noat 156) (pv 0) (pe_lst pa_nil))), ?rd⟩)
  case len => obtain ⟨w', dx, rfl, _⟩ := h; rfl
  case rd =>
    obtain ⟨b, dx, rfl, M, q⟩ := h
    walk_at "w2"
    refine ⟨by omega, fun d hd => ?_⟩
    have nb : b ≠ d := ne_of_none M hd
    refine ⟨b, dx, _, rfl, by rw [upd_ne nb]; exact M, by decide, ?_⟩
    rw [pi_Weak_told]
    exact q d _ hd ⟨upd_same, by rw [upd_ne nb.symm]; exact upd_same⟩ fun c o hc e => by rw [upd_ne hc, upd_ne (ne_of_none e hd)]; exact e
theorem f_Weak_name (T : Tx K mg) : Mt P w K mg base 3 "Weak" "name" ["self", "at"] (sp_Weak_name K) := by
  have c_place_word := f_place_word (P := P) (w := w) (base := base) T
  refine T.mkMt 64 149 147 (d := d_Weak_name) (N := ["self", "at"]) (k := 2) rfl rfl rfl rfl rfl rfl sc_Weak_name (fun _ _ _ _ _ _ us hl => match us, hl with | [_, _], _ => rfl) (fun vs H Q E h => ?len) (fun cdv A outer s H vs Q E hr h => ⟨_,
      (pss_cons (ps_expr (pe_fn (takes_of rfl rfl rfl rfl) c_place_word (hr.mono (by decide)) (by rfl) (pa_cons (pv 1) pa_nil)))
        (pss_cons (ps_expr (pe_bm PySem.F.plainAttrs_list PySem.F.slot_list_append PySem.F.type_list_append mt_append (pe_fldC (T.cls 147) (T.noat 156) (pv 0)) (pa_cons (pv 1) pa_nil)))
        (pss_one (ps_ret (pe_op op_sub (pe_callB (call_lenK (K := K) rfl) (by rfl) (T.free 69) PySem.boot_len (pa_cons (pe_fldC (T.cls 147) (T.noat 156) (pv 0)) pa_nil)) pe_int))))), ?rd⟩)
  case len => obtain ⟨w', dx, l, ts, v, rfl, _⟩ := h; rfl
  case rd =>
    obtain ⟨b, dx, l, ts, v, rfl, B, hl, th, h⟩ := h
    walk_at "w2"
    rcases th with ⟨n, rfl⟩ | o
    · rw [x_place_word]
      rw [placeW_int] at h
      split
      · rename_i c
        rw [if_pos c] at h
        walk_at "w2"
        refine ⟨_, fldIs B.ob, r_app B.ls (by rw [sizeLine_eq]; omega) ?_⟩
        walk_at "w2"
        have B2 := B.put (us := ts ++ [.int n])
        refine ⟨_, fldIs B2.ob, r_lenL B2.ls ?_⟩
        walk_at "w2"
        have e : (((ts ++ [V.int n]).length : Nat) : Int) - 1 = (ts.length : Int) := by rw [List.length_append]; show ((ts.length + 1 : Nat) : Int) - 1 = _; omega
        rw [e]
        exact h
      · rename_i c
        rw [if_neg c] at h
        exact h
    · rw [odd_place_word o]
      rw [placeW_odd o] at h
      exact h
theorem f_Weak_need (T : Tx K mg) : Mt P w K mg base 2 "Weak" "need" ["self", "name"] (sp_Weak_need K) := by
  have c_is_whole := f_is_whole (P := P) (w := w) (base := base) T
  refine T.mkMt 65 150 147 (d := d_Weak_need) (N := ["self", "name"]) (k := 1) rfl rfl rfl rfl rfl rfl sc_Weak_need (fun _ _ _ _ _ _ us hl => match us, hl with | [_, _], _ => rfl) (fun vs H Q E h => ?len) (fun cdv A outer s H vs Q E hr h => ⟨_,
      (pss_one (ps_if (PW.pt (pw_or (pt_not (pt_val (pe_fn (takes_of rfl rfl rfl rfl) c_is_whole (hr.mono (by decide)) (by rfl) (pa_cons (pv 1) pa_nil)))) (pw_or1 (pt_not (pt_chain op_le op_lt pe_int (pv 1) (pe_callB (call_lenK (K := K) rfl) (by rfl) (T.free 69) PySem.boot_len (pa_cons (pe_fldC (T.cls 147) (T.noat 156) (pv 0)) pa_nil))))))) (pss_one (ps_raiseK (K := K) rfl rfl (takes_of rfl rfl rfl rfl) (T.says.fact 90 rfl) (T.glo 9) (by rfl))) pss_nil)), ?rd⟩)
  case len => obtain ⟨w', dx, l, ts, v, rfl, _⟩ := h; rfl
  case rd =>
    obtain ⟨b, dx, l, ts, v, rfl, B, th, h⟩ := h
    walk_at "w2"
    rcases th with ⟨n, rfl⟩ | o
    · walk_at "w2"
      rw [placeOf_int] at h
      split
      · refine ⟨_, fldIs B.ob, r_lenL B.ls ?_⟩
        walk_at "w2"
        split
        · rw [if_neg (by omega)] at h
          exact h
        · rw [if_pos (by omega)] at h
          exact h
      · rw [if_neg (by omega)] at h
        exact h
    · rw [odd_whole o]
      rw [placeOf_odd o] at h
      walk_at "w2"
      exact h
theorem f_Weak_at (T : Tx K mg) : Mt P w K mg base 3 "Weak" "at" ["self", "name"] (sp_Weak_at K) := by
  have c_Weak_need := f_Weak_need (P := P) (w := w) (base := base) T
  refine T.mkMt 66 151 147 (d := d_Weak_at) (N := ["self", "name"]) (k := 2) rfl rfl rfl rfl rfl rfl sc_Weak_at (fun _ _ _ _ _ _ us hl => match us, hl with | [_, _], _ => rfl) (fun vs H Q E h => ?len) (fun cdv A outer s H vs Q E hr h => ⟨_,
      (pss_cons (ps_expr (pe_mt (K := K) rfl (takes_of rfl rfl rfl rfl) (pv 0) c_Weak_need (hr.mono (by decide)) (pa_cons (pv 1) pa_nil)))
        (pss_one (ps_ret (pe_ix (ix_seqK (K := K) rfl) (pe_fldC (T.cls 147) (T.noat 156) (pv 0)) (pv 1) (fun _ _ => rfl))))), ?rd⟩)
  case len => obtain ⟨w', dx, l, ts, v, rfl, _⟩ := h; rfl
  case rd =>
    obtain ⟨b, dx, l, ts, v, rfl, B, th, h⟩ := h
    walk_at "w2"
    refine ⟨recv B.ob, b, dx, l, ts, v, rfl, B, th, ?_⟩
    cases e : placeOf ts.length v with
    | none =>
      rw [e] at h
      exact h
    | some i =>
      rw [e] at h
      obtain ⟨rfl, hi⟩ := placeOf_some e
      refine ⟨_, fldIs B.ob, ?_⟩
      exact r_ixL B.ls (by rw [List.getElem?_eq_getElem hi, List.getD_eq_getElem?_getD, List.getElem?_eq_getElem hi]; rfl) h
theorem f_Weak_need_there (T : Tx K mg) : Mt P w K mg base 3 "Weak" "need_there" ["self", "name"] (sp_Weak_need_there K) := by
  have c_Weak_need := f_Weak_need (P := P) (w := w) (base := base) T
  refine T.mkMt 67 152 147 (d := d_Weak_need_there) (N := ["self", "name"]) (k := 2) rfl rfl rfl rfl rfl rfl sc_Weak_need_there (fun _ _ _ _ _ _ us hl => match us, hl with | [_, _], _ => rfl) (fun vs H Q E h => ?len) (fun cdv A outer s H vs Q E hr h => ⟨_,
      (pss_cons (ps_expr (pe_mt (K := K) rfl (takes_of rfl rfl rfl rfl) (pv 0) c_Weak_need (hr.mono (by decide)) (pa_cons (pv 1) pa_nil)))
        (pss_one (ps_if (pt_cmpR op_isN (pe_ix (ix_seqK (K := K) rfl) (pe_fldC (T.cls 147) (T.noat 156) (pv 0)) (pv 1) (fun _ _ => rfl)) pe_non (nomark _)) (pss_one (ps_raiseK (K := K) rfl rfl (takes_of rfl rfl rfl rfl) (T.says.fact 90 rfl) (T.glo 9) (by rfl))) pss_nil))), ?rd⟩)
  case len => obtain ⟨w', dx, l, ts, v, rfl, _⟩ := h; rfl
  case rd =>
    obtain ⟨b, dx, l, ts, v, rfl, B, th, h⟩ := h
    walk_at "w2"
    refine ⟨recv B.ob, b, dx, l, ts, v, rfl, B, th, ?_⟩
    cases e : placeOf ts.length v with
    | none =>
      rw [e] at h
      exact h
    | some i =>
      rw [e] at h
      obtain ⟨rfl, hi⟩ := placeOf_some e
      have h : if ts.getD i .non = .non then E (Ex K "NoName") none H else Q .non H := h
      walk_at "w2"
      refine ⟨_, fldIs B.ob, ?_⟩
      refine r_ixL B.ls (v := ts.getD i .non) (by rw [List.getElem?_eq_getElem hi, List.getD_eq_getElem?_getD, List.getElem?_eq_getElem hi]; rfl) ?_
      walk_at "w2"
      exact h
theorem f_Weak_move (T : Tx K mg) : Mt P w K mg base 4 "Weak" "move" ["self", "name", "at"] (sp_Weak_move K) := by
  have c_Weak_need_there := f_Weak_need_there (P := P) (w := w) (base := base) T
  have c_place_word := f_place_word (P := P) (w := w) (base := base) T
  refine T.mkMt 68 153 147 (d := d_Weak_move) (N := ["self", "name", "at"]) (k := 3) rfl rfl rfl rfl rfl rfl sc_Weak_move (fun _ _ _ _ _ _ us hl => match us, hl with | [_, _, _], _ => rfl) (fun vs H Q E h => ?len) (fun cdv A outer s H vs Q E hr h => ⟨_,
      (pss_cons (ps_expr (pe_mt (K := K) rfl (takes_of rfl rfl rfl rfl) (pv 0) c_Weak_need_there (hr.mono (by decide)) (pa_cons (pv 1) pa_nil)))
        (pss_cons (ps_expr (pe_fn (takes_of rfl rfl rfl rfl) c_place_word (hr.mono (by decide)) (by rfl) (pa_cons (pv 2) pa_nil)))
        (pss_one (ps_asg (pv 2) (pg_sub (pe_fldC (T.cls 147) (T.noat 156) (pv 0)) (pv 1) set_list))))), ?rd⟩)
  case len => obtain ⟨w', dx, l, ts, v, z, rfl, _⟩ := h; rfl
  case rd =>
    obtain ⟨b, dx, l, ts, v, z, rfl, B, th, tz, h⟩ := h
    walk_at "w2"
    refine ⟨recv B.ob, b, dx, l, ts, v, rfl, B, th, ?_⟩
    cases e : placeOf ts.length v with
    | none =>
      rw [e] at h
      exact h
    | some i =>
      rw [e] at h
      obtain ⟨rfl, hi⟩ := placeOf_some e
      have h : if ts.getD i .non = .non then E (Ex K "NoName") none H else match placeW z with
        | some n => Q .non (upd H l (.lst (ts.set i (.int n))))
        | none => E (Ex K "NoPlace") none H := h
      show if ts.getD i .non = .non then _ else _
      split
      · rename_i c
        rw [if_pos c] at h
        exact h
      · rename_i c
        rw [if_neg c] at h
        walk_at "w2"
        rcases tz with ⟨n, rfl⟩ | o
        · rw [x_place_word]
          rw [placeW_int] at h
          split
          · rename_i c
            rw [if_pos c] at h
            walk_at "w2"
            refine ⟨_, fldIs B.ob, r_setL B.ls (by omega) (by omega) ?_⟩
            rw [Int.toNat_natCast]
            exact h
          · rename_i c
            rw [if_neg c] at h
            exact h
        · rw [odd_place_word o]
          rw [placeW_odd o] at h
          exact h
theorem f_Weak_gone (T : Tx K mg) : Mt P w K mg base 4 "Weak" "gone" ["self", "name"] (sp_Weak_gone K) := by
  have c_Weak_need_there := f_Weak_need_there (P := P) (w := w) (base := base) T
  refine T.mkMt 69 154 147 (d := d_Weak_gone) (N := ["self", "name"]) (k := 3) rfl rfl rfl rfl rfl rfl sc_Weak_gone (fun _ _ _ _ _ _ us hl => match us, hl with | [_, _], _ => rfl) (fun vs H Q E h => ?len) (fun cdv A outer s H vs Q E hr h => ⟨_,
      (pss_cons (ps_expr (pe_mt (K := K) rfl (takes_of rfl rfl rfl rfl) (pv 0) c_Weak_need_there (hr.mono (by decide)) (pa_cons (pv 1) pa_nil)))
        (pss_one (ps_asg pe_non (pg_sub (pe_fldC (T.cls 147) (T.noat 156) (pv 0)) (pv 1) set_list)))), ?rd⟩)
  case len => obtain ⟨w', dx, l, ts, v, rfl, _⟩ := h; rfl
  case rd =>
    obtain ⟨b, dx, l, ts, v, rfl, B, th, h⟩ := h
    walk_at "w2"
    refine ⟨recv B.ob, b, dx, l, ts, v, rfl, B, th, ?_⟩
    cases e : placeOf ts.length v with
    | none =>
      rw [e] at h
      exact h
    | some i =>
      rw [e] at h
      obtain ⟨rfl, hi⟩ := placeOf_some e
      have h : if ts.getD i .non = .non then E (Ex K "NoName") none H else Q .non (upd H l (.lst (ts.set i .non))) := h
      show if ts.getD i .non = .non then _ else _
      split
      · rename_i c
        rw [if_pos c] at h
        exact h
      · rename_i c
        rw [if_neg c] at h
        walk_at "w2"
        refine ⟨_, fldIs B.ob, r_setL B.ls (by omega) (by omega) ?_⟩
        rw [Int.toNat_natCast]
        exact h
theorem f_Weak_names (T : Tx K mg) : Mt P w K mg base 1 "Weak" "names" ["self"] (sp_Weak_names K) := by
  refine T.mkMt 70 155 147 (d := d_Weak_names) (N := ["self", "name", "at"]) (k := 0) rfl rfl rfl rfl rfl rfl sc_Weak_names (fun _ _ _ _ _ _ us hl => match us, hl with | [_], _ => rfl) (fun vs H Q E h => ?len) (fun cdv A outer s H vs Q E hr h => ⟨_,
      (pss_one (ps_ret (pe_lc (own := [("name", 1), ("at", 2)]) (g := gTup K 2 (gCons (gName 1) (gCons (gName 2) gNil))) rfl sc_Weak_names.nd (pi_enum (by rfl) (T.free 73) (pa_cons (pe_fldC (T.cls 147) (T.noat 156) (pv 0)) pa_nil)) (blkOk_by (own := [("name", 1), ("at", 2)]) (N := ["self", "name", "at"]) (sc := defScope s_Weak_names) (by decide +kernel)) (fun _ _ _ _ _ => (pg_tup (n := 2) rfl (pgs_cons (pg_name (i := 1) sc_Weak_names.nd rfl (Or.inl rfl)) (pgs_cons (pg_name (i := 2) sc_Weak_names.nd rfl (Or.inl rfl)) pgs_nil)))) (fun _ _ _ _ _ => pts_one (pt_cmpR op_notN (pv 2) pe_non (nomark _))) (fun _ _ _ _ _ => (pe_tup (pa_cons (pv 1) (pa_cons (pv 2) pa_nil))))))), ?rd⟩)
  case len => obtain ⟨w', dx, l, ts, rfl, _⟩ := h; rfl
  case rd =>
    obtain ⟨b, dx, l, ts, rfl, B, hl, fl, q⟩ := h
    walk_at "w2"
    refine ⟨_, fldIs B.ob, l, ts, rfl, .of B.ls, fun D hD => lc_it (walk_enum (xs := ts)) (Qd := fun H' => Q (.ref D) H') (fun i H' => ∃ rs, Same H H' ∧ H' D = some (.lst rs) ∧ TupAll H' rs (pairsOf 0 (ts.take i))) ⟨[], same_new hD, upd_same, .nil⟩ (fun i H' _ ⟨rs, s, _⟩ => .of (s _ _ B.ls)) ?_ ?_⟩
    · rintro i x H1 H' hi ⟨rs, s, hd, t⟩ ⟨T, y, z, rfl, hT, rfl, e1, e2⟩
      cases Option.some.inj e1
      have e2 : ts[i]? = some z := e2
      have sT := same_new (o := .tup [.int (i : Nat), z]) hT
      walk_at "w2"
      refine ⟨_, .inl (.inl upd_same), rfl, ?_⟩
      walk_at "w2"
      have ez : ts.take (i + 1) = ts.take i ++ [z] := by rw [List.take_add_one, e2]; rfl
      have el : (ts.take i).length = i := by rw [List.length_take]; omega
      have zm : z ∈ ts := List.mem_of_getElem? e2
      rw [ez, pairsOf_snoc, Nat.zero_add, el]
      by_cases c : z = .non
      · subst c
        rw [if_neg (fun z => z rfl), if_pos rfl, List.append_nil]
        exact ⟨rs, s.trans sT, sT _ _ hd, t.same sT⟩
      · rw [if_pos c, if_neg c]
        refine ⟨by rw [sizeLine_eq]; omega, fun p hp => ?_⟩
        have sp := same_new (o := .tup [.int (i : Nat), z]) hp
        have tl := t.len
        have pl := pairsOf_len (ts := ts.take i) 0
        have hd2 := (sT.trans sp) _ _ hd
        have nD : p ≠ D := (ne_of_none (sT _ _ hd) hp).symm
        refine ⟨rs, hd2, by rw [sizeLine_eq]; omega, _, ?_, upd_same, ?_⟩
        · exact fun c o e => by rw [upd_ne (ne_of_none e hD)]; exact (s.trans (sT.trans sp)) _ _ e
        · refine ((t.same (sT.trans sp)).put hd2 (by intro xs z; cases z)).snoc (by rw [upd_ne nD]; exact upd_same) fun x hx => ?_
          rcases List.mem_cons.mp hx with rfl | hx
          · rfl
          · rw [List.mem_singleton] at hx
            subst hx
            exact flatN_I (fl _ zm)
    · rintro H' ⟨rs, s, hd, t⟩
      rw [List.take_length] at t
      exact q D rs H' hD s hd t
end

local macro_rules | `(tactic| walk_at "w2") => `(tactic| try simp only [↓x_var0, ↓x_varS, ↓x_c, ↓x_op, ↓x_un, ↓x_cb, ↓x_nil, ↓x_cons, ↓x_test, ↓x_b, ↓x_ex, ↓x_and, ↓x_or, ↓x_not, ↓x_andV, ↓x_orV, ↓x_notV, ↓x_tif, ↓x_chain, ↓x_menu, ↓x_menuI, ↓x_lst, ↓x_tup, ↓x_dnew, ↓x_callW, ↓x_callN, ↓x_seq, ↓x_next, ↓x_ret, ↓x_retN, ↓x_drop, ↓x_ifS, ↓x_asg, ↓x_name, ↓x_raise, ↓x_fld, ↓x_setF, ↓x_meth, ↓x_make, ↓x_sub, ↓r_min, ↓r_max, ↓x_yes, ↓x_for, ↓x_lock, ↓x_keys, ↓x_cut, ↓x_lc, ↓x_rng1, ↓x_rng2, ↓x_lst1, ↓x_itup, ↓x_rng3, ↓x_three, ↓x_lstg, ↓x_tupg, ↓x_adrS, ↓x_one, ↓x_two, ↓x_adr, ↓x_sl, ↓x_np, ↓x_pt, ↓x_int, ↓x_bm, ↓x_bm0, ↓x_consg, ↓x_nilg, ↓x_dget2, ↓x_dget1, ↓x_dgetN, ↓x_dget, ↓x_din, ↓x_dni, ↓x_dput, ↓x_dpop2, ↓r_isB, ↓r_notB, ↓x_enum, ↓x_zip, ↓x_str, ↓x_strE, ↓r_inS, ↓r_ninS, wipe, List.map_cons, List.map_nil, ↓x_isT, ↓r_isiII, ↓r_isiBB, ↓r_isiIB, ↓r_isiSS, ↓r_neNS, ↓r_neSN, ↓r_neNN, ↓r_eqNS, ↓r_eqSN, ↓r_eqNN, ↓r_eqIS, ↓r_neIS, ↓r_neSI, ↓r_neBS, ↓r_eqBB, ↓r_neBB, ↓x_start, ↓x_K, ↓x_start0, ↓r_i0, ↓r_i, ↓r_u, ↓r_addI, ↓r_addS, ↓r_mulI, ↓r_mulS, ↓r_eqI, ↓r_neI, ↓r_eqS, ↓r_neS, ↓r_absI, ↓r_intI, ↓r_intB, List.length_cons, List.length_nil, List.replicate, List.set_cons_zero, List.set_cons_succ, decide_eq_true_eq, Bool.not_eq_true', decide_eq_false_iff_not, if_true, if_false, Bool.false_eq_true, Bool.true_eq_false, ite_true, ite_false, Bool.not_true, Bool.not_false, c_div, n_ten, c_pow, not_true_eq_false, not_false_eq_true, decide_true, decide_false, true_and, and_true, and_self, true_or, or_true, Int.reduceLT, Int.reduceLE, Int.reduceMul, Int.reduceAdd, Int.reduceSub, Int.reducePow, Int.reduceNeg, Int.reduceDiv, Int.reduceMod, Nat.reducePow, Int.reduceToNat, Int.reduceEq, Int.reduceNe, Nat.reduceLT, Nat.reduceLeDiff, Nat.reduceAdd, ↓x_whole, ↓x_kind])
/-! ## last words -/
/-- what waits: nothing, or a place and a number -/
structure WtAll (H : Hp) (rs : List V) (ws : List (Option (Int × Int))) : Prop where
  len : rs.length = ws.length
  non : ∀ i : Nat, ws[i]? = some none → rs[i]? = some V.non
  pair : ∀ (i : Nat) a n, ws[i]? = some (some (a, n)) → ∃ tp, rs[i]? = some (V.ref tp) ∧ H tp = some (.tup [.int a, .int n])
theorem WtAll.nil {H : Hp} : WtAll H [] [] := ⟨rfl, fun i e => (by cases e), fun i a n e => by cases e⟩
theorem WtAll.fr {H H' : Hp} {rs ws} (h : WtAll H rs ws) (s : ∀ c xs, H c = some (.tup xs) → H' c = some (.tup xs)) : WtAll H' rs ws := ⟨h.len, h.non, fun i a n e => let ⟨tp, e1, e2⟩ := h.pair i a n e; ⟨tp, e1, s _ _ e2⟩⟩
theorem WtAll.same {H H' : Hp} {rs ws} (h : WtAll H rs ws) (s : Same H H') : WtAll H' rs ws := h.fr fun c xs e => s _ _ e
theorem WtAll.put {H : Hp} {rs ws} {D : Addr} {o o' : HO} (h : WtAll H rs ws) (e : H D = some o) (n : ∀ xs, o ≠ .tup xs) : WtAll (upd H D o') rs ws := h.fr fun c xs e' => by rw [upd_ne (ne_of e' e fun z => n _ z.symm)]; exact e'
theorem WtAll.snoc {H : Hp} {rs ws} {tp : Addr} {a n : Int} (h : WtAll H rs ws) (e : H tp = some (.tup [.int a, .int n])) : WtAll H (rs ++ [.ref tp]) (ws ++ [some (a, n)]) := by
  have l := h.len
  refine ⟨by rw [List.length_append, List.length_append, l]; rfl, fun i q => ?_, fun i b m q => ?_⟩
  · rw [List.getElem?_append] at q ⊢
    rw [l]
    split at q
    · rw [if_pos ‹_›]
      exact h.non i q
    · cases h2 : i - ws.length with
      | zero => rw [h2] at q; cases q
      | succ k => rw [h2] at q; cases q
  · rw [List.getElem?_append] at q ⊢
    rw [l]
    split at q
    · rw [if_pos ‹_›]
      exact h.pair i b m q
    · rw [if_neg ‹_›]
      cases h2 : i - ws.length with
      | zero =>
        rw [h2] at q
        cases q
        exact ⟨tp, rfl, e⟩
      | succ k => rw [h2] at q; cases q
theorem WtAll.set {H : Hp} {rs ws} {j : Nat} {tp : Addr} {a n : Int} (h : WtAll H rs ws) (e : H tp = some (.tup [.int a, .int n])) : WtAll H (rs.set j (.ref tp)) (ws.set j (some (a, n))) := by
  have l := h.len
  refine ⟨by rw [List.length_set, List.length_set, l], fun i q => ?_, fun i b m q => ?_⟩
  · rw [List.getElem?_set] at q ⊢
    rw [l]
    split at q
    · split at q
      · cases q
      · cases q
    · rw [if_neg ‹_›]
      exact h.non i q
  · rw [List.getElem?_set] at q ⊢
    rw [l]
    split at q
    · rename_i c
      rw [if_pos c]
      split at q
      · cases q
        rw [if_pos ‹_›]
        exact ⟨tp, rfl, e⟩
      · cases q
    · rw [if_neg ‹_›]
      exact h.pair i b m q
theorem WtAll.rub {H : Hp} {rs ws} {j : Nat} (h : WtAll H rs ws) : WtAll H (rs.set j .non) (ws.set j none) := by
  have l := h.len
  refine ⟨by rw [List.length_set, List.length_set, l], fun i q => ?_, fun i b m q => ?_⟩
  · rw [List.getElem?_set] at q ⊢
    rw [l]
    split at q
    · rename_i c
      rw [if_pos c]
      split at q
      · rw [if_pos ‹_›]
      · cases q
    · rw [if_neg ‹_›]
      exact h.non i q
  · rw [List.getElem?_set] at q ⊢
    rw [l]
    split at q
    · split at q
      · cases q
      · cases q
    · rw [if_neg ‹_›]
      exact h.pair i b m q
def pendOf : Nat → List (Option (Int × Int)) → List (List V)
  | _, [] => []
  | k, none :: r => pendOf (k + 1) r
  | k, some (a, n) :: r => [.int (k : Int), .int a, .int n] :: pendOf (k + 1) r
def pendAt (k : Nat) : Option (Int × Int) → List (List V)
  | none => []
  | some (a, n) => [[.int (k : Int), .int a, .int n]]
theorem pendOf_snoc {ws : List (Option (Int × Int))} {w : Option (Int × Int)} : ∀ k, pendOf k (ws ++ [w]) = pendOf k ws ++ pendAt (k + ws.length) w := by
  induction ws with
  | nil =>
    intro k
    cases w <;> rfl
  | cons t r ih =>
    intro k
    have e : k + (t :: r).length = k + 1 + r.length := by rw [List.length_cons]; omega
    rw [e]
    cases t with
    | none => exact ih (k + 1)
    | some p => exact congrArg (_ :: ·) (ih (k + 1))
theorem pendOf_len {ws : List (Option (Int × Int))} : ∀ k, (pendOf k ws).length ≤ ws.length := by
  induction ws with
  | nil => exact fun _ => Nat.le_refl _
  | cons t r ih =>
    intro k
    have := ih (k + 1)
    cases t with
    | none =>
      show (pendOf (k + 1) r).length ≤ r.length + 1
      omega
    | some p =>
      show (pendOf (k + 1) r).length + 1 ≤ r.length + 1
      omega
theorem pendOf_mem {ws : List (Option (Int × Int))} : ∀ k, ∀ xs ∈ pendOf k ws, ∃ i a n : Int, xs = [.int i, .int a, .int n] := by
  induction ws with
  | nil => exact fun k xs h => (List.not_mem_nil h).elim
  | cons t r ih =>
    intro k xs h
    cases t with
    | none => exact ih (k + 1) xs h
    | some p =>
      rcases List.mem_cons.mp h with rfl | h
      · exact ⟨_, _, _, rfl⟩
      · exact ih (k + 1) xs h
def numW : V → Option Int
  | .int n => if (n.natAbs : Int) ≤ 1000000000000 then some n else none
  | _ => none
theorem numW_int {n : Int} : numW (.int n) = if (n.natAbs : Int) ≤ 1000000000000 then some n else none := rfl
theorem numW_odd {H : Hp} {v : V} (h : Odd H v) : numW v = none := by
  cases v with
  | int i => exact (odd_not h).elim
  | _ => rfl
theorem numW_some {v : V} {n : Int} (h : numW v = some n) : v = .int n ∧ (n.natAbs : Int) ≤ 1000000000000 := by
  cases v with
  | int j =>
    rw [numW_int] at h
    split at h
    · cases h
      exact ⟨rfl, ‹_›⟩
    · cases h
  | _ => cases h
structure LastO (K : PySem.W.Frag) (H : Hp) (b dx d e : Addr) (rs : List V) (ws : List (Option (Int × Int))) (ss : List Int) : Prop where
  ob : H b = some (.ins (He.ga K "Lasts") dx (F_Lasts (.ref d) (.ref e)))
  wa : H d = some (.lst rs)
  wt : WtAll H rs ws
  sk : H e = some (.lst (ss.map V.int))
  de : d ≠ e
theorem LastO.same {K H H' b dx d e rs ws ss} (h : LastO K H b dx d e rs ws ss) (s : Same H H') : LastO K H' b dx d e rs ws ss := ⟨s _ _ h.ob, s _ _ h.wa, h.wt.same s, s _ _ h.sk, h.de⟩
theorem LastO.putD {K H b dx d e rs ws ss rs' ws'} (h : LastO K H b dx d e rs ws ss) (t : WtAll H rs' ws') : LastO K (upd H d (.lst rs')) b dx d e rs' ws' ss :=
  ⟨by rw [upd_ne (ne_of h.ob h.wa (by intro z; cases z))]; exact h.ob, upd_same, t.put h.wa (by intro xs z; cases z), by rw [upd_ne h.de.symm]; exact h.sk, h.de⟩
theorem LastO.putE {K H b dx d e rs ws ss ss'} (h : LastO K H b dx d e rs ws ss) : LastO K (upd H e (.lst (ss'.map V.int))) b dx d e rs ws ss' :=
  ⟨by rw [upd_ne (ne_of h.ob h.sk (by intro z; cases z))]; exact h.ob, by rw [upd_ne h.de]; exact h.wa, h.wt.put h.sk (by intro xs z; cases z), upd_same, h.de⟩
/-- the pair that waits at a ticket -/
def tickOf (ws : List (Option (Int × Int))) (v : V) : Option (Nat × Int × Int) := match placeOf ws.length v with
  | none => none
  | some i => match ws.getD i none with
    | none => none
    | some (a, n) => some (i, a, n)
theorem tick_some {ws v i a n} (h : tickOf ws v = some (i, a, n)) : v = .int (i : Int) ∧ i < ws.length ∧ ws[i]? = some (some (a, n)) := by
  unfold tickOf at h
  cases e : placeOf ws.length v with
  | none => rw [e] at h; cases h
  | some j =>
    rw [e] at h
    obtain ⟨e1, e2⟩ := placeOf_some e
    have ej := getD_at (d := none) e2
    have h : (match ws.getD j none with
      | none => none
      | some (a, n) => some (j, a, n)) = some (i, a, n) := h
    cases e3 : ws.getD j none with
    | none => rw [e3] at h; cases h
    | some p =>
      rw [e3] at h ej
      cases h
      exact ⟨e1, e2, ej⟩
def sp_Lasts___init__ (K : PySem.W.Frag) : Sp := fun vs H Q _ => ∃ b dx, vs = [.ref b] ∧ H b = some (.ins (He.ga K "Lasts") dx []) ∧ ∀ d e H', H d = none → H e = none → LastO K H' b dx d e [] [] [] → (∀ c o, c ≠ b → H c = some o → H' c = some o) → Q .non H'
def sp_Lasts_give (K : PySem.W.Frag) : Sp := fun vs H Q E => ∃ b dx d e rs ws ss v z, vs = [.ref b, v, z] ∧ LastO K H b dx d e rs ws ss ∧ ws.length < 1000000 ∧ Thing H v ∧ Thing H z ∧ match placeW v with
  | some a => (match numW z with
    | some n => ∀ H' rs', LastO K H' b dx d e rs' (ws ++ [some (a, n)]) ss → (∀ c o, c ≠ d → H c = some o → H' c = some o) → Q (.int ws.length) H'
    | none => E (Ex K "BadNumber") none H)
  | none => E (Ex K "NoPlace") none H
def sp_Lasts_need (K : PySem.W.Frag) : Sp := fun vs H Q E => ∃ b dx d e rs ws ss v, vs = [.ref b, v] ∧ LastO K H b dx d e rs ws ss ∧ Thing H v ∧ match tickOf ws v with
  | some _ => Q .non H
  | none => E (Ex K "NoName") none H
def sp_Lasts_move (K : PySem.W.Frag) : Sp := fun vs H Q E => ∃ b dx d e rs ws ss v z, vs = [.ref b, v, z] ∧ LastO K H b dx d e rs ws ss ∧ Thing H v ∧ Thing H z ∧ match tickOf ws v with
  | some (i, a, n) => (match placeW z with
    | some a' => ∀ H' rs', LastO K H' b dx d e rs' (ws.set i (some (a', n))) ss → (∀ c o, c ≠ d → H c = some o → H' c = some o) → Q .non H'
    | none => E (Ex K "NoPlace") none H)
  | none => E (Ex K "NoName") none H
def sp_Lasts_say (K : PySem.W.Frag) : Sp := fun vs H Q E => ∃ b dx d e rs ws ss v, vs = [.ref b, v] ∧ LastO K H b dx d e rs ws ss ∧ ss.length < 1000000 ∧ Thing H v ∧ match tickOf ws v with
  | some (i, a, n) => ∀ H' rs', LastO K H' b dx d e rs' (ws.set i none) (ss ++ [n]) → (∀ c o, c ≠ d → c ≠ e → H c = some o → H' c = some o) → Q .non H'
  | none => E (Ex K "NoName") none H
def sp_Lasts_pending (K : PySem.W.Frag) : Sp := fun vs H Q _ => ∃ b dx d e rs ws ss, vs = [.ref b] ∧ LastO K H b dx d e rs ws ss ∧ ws.length < 1000000 ∧ ∀ p ps H', H p = none → Same H H' → H' p = some (.lst ps) → TupAll H' ps (pendOf 0 ws) → Q (.ref p) H'
def sp_Lasts_said (K : PySem.W.Frag) : Sp := fun vs H Q _ => ∃ b dx d e rs ws ss, vs = [.ref b] ∧ LastO K H b dx d e rs ws ss ∧ ∀ p, H p = none → Q (.ref p) (upd H p (.lst (ss.map V.int)))
section
variable {P : Program} {w : World} {K : PySem.W.Frag} {mg : Str → Option Value} {base : Heap}
theorem f_Lasts___init__ (T : Tx K mg) : Mi P w K mg base 1 "Lasts" ["self"] (sp_Lasts___init__ K) := by
  refine T.mkMi 56 138 15 (d := d_Lasts___init__) (N := ["self"]) (k := 0) rfl rfl rfl rfl rfl rfl sc_Lasts___init__ (fun _ _ _ _ _ _ us hl => match us, hl with | [_], _ => rfl) (fun vs H Q E h => ?len) (fun cdv A outer s H vs Q E hr h => ⟨_,
      (pss_cons (ps_fldC (T.cls 137) (T.noat 145) (pv 0) (pe_lst pa_nil))
        (pss_one (ps_fldC (T.cls 137) (T.noat 146) (pv 0) (pe_lst pa_nil)))), ?rd⟩)
  case len => obtain ⟨b, dx, rfl, _⟩ := h; rfl
  case rd =>
    obtain ⟨b, dx, rfl, M, q⟩ := h
    walk_at "w2"
    refine ⟨by omega, fun d hd => ?_⟩
    have nb : b ≠ d := ne_of_none M hd
    refine ⟨b, dx, _, rfl, by rw [upd_ne nb]; exact M, by decide, by omega, fun e he => ?_⟩
    rw [pi_Lasts_waiting] at he ⊢
    have ed : e ≠ d := by
      intro z
      rw [z, upd_ne nb.symm, upd_same] at he
      cases he
    have eb : b ≠ e := by
      intro z
      rw [← z, upd_same] at he
      cases he
    have he0 : H e = none := by
      rw [upd_ne eb.symm, upd_ne ed] at he
      exact he
    refine ⟨b, dx, _, rfl, by rw [upd_ne eb, upd_same], by show 1 < 1000; decide, ?_⟩
    rw [pi_Lasts_spoken]
    refine q d e _ hd he0 ⟨upd_same, ?_, .nil, ?_, ed.symm⟩ fun c o hc g => ?_
    · rw [upd_ne nb.symm, upd_ne ed.symm, upd_ne nb.symm, upd_same]
    · rw [upd_ne eb.symm, upd_same]
      rfl
    · rw [upd_ne hc, upd_ne (ne_of_none g he0), upd_ne hc, upd_ne (ne_of_none g hd)]
      exact g
theorem f_Lasts_need (T : Tx K mg) : Mt P w K mg base 2 "Lasts" "need" ["self", "ticket"] (sp_Lasts_need K) := by
  have c_is_whole := f_is_whole (P := P) (w := w) (base := base) T
  refine T.mkMt 58 140 137 (d := d_Lasts_need) (N := ["self", "ticket"]) (k := 1) rfl rfl rfl rfl rfl rfl sc_Lasts_need (fun _ _ _ _ _ _ us hl => match us, hl with | [_, _], _ => rfl) (fun vs H Q E h => ?len) (fun cdv A outer s H vs Q E hr h => ⟨_,
      (pss_one (ps_if (PW.pt (pw_or (pt_not (pt_val (pe_fn (takes_of rfl rfl rfl rfl) c_is_whole (hr.mono (by decide)) (by rfl) (pa_cons (pv 1) pa_nil)))) (pw_or (pt_not (pt_chain op_le op_lt pe_int (pv 1) (pe_callB (call_lenK (K := K) rfl) (by rfl) (T.free 69) PySem.boot_len (pa_cons (pe_fldC (T.cls 137) (T.noat 145) (pv 0)) pa_nil)))) (pw_or1 (pt_cmpR op_isN (pe_ix (ix_seqK (K := K) rfl) (pe_fldC (T.cls 137) (T.noat 145) (pv 0)) (pv 1) (fun _ _ => rfl)) pe_non (nomark _)))))) (pss_one (ps_raiseK (K := K) rfl rfl (takes_of rfl rfl rfl rfl) (T.says.fact 90 rfl) (T.glo 9) (by rfl))) pss_nil)), ?rd⟩)
  case len => obtain ⟨b, dx, d, e, rs, ws, ss, v, rfl, _⟩ := h; rfl
  case rd =>
    obtain ⟨b, dx, d, e, rs, ws, ss, v, rfl, B, th, h⟩ := h
    walk_at "w2"
    have ll := B.wt.len
    rcases th with ⟨n, rfl⟩ | o
    · walk_at "w2"
      unfold tickOf at h
      rw [placeOf_int] at h
      split
      · refine ⟨_, fldIs B.ob, r_lenL B.wa ?_⟩
        walk_at "w2"
        split
        · rw [if_neg (by omega)] at h
          exact h
        · rename_i c0 c1
          rw [if_pos (by omega)] at h
          obtain ⟨i, rfl⟩ := Int.eq_ofNat_of_zero_le c0
          rw [Int.toNat_natCast] at h
          have hi : i < ws.length := by omega
          have ei := getD_at (d := none) hi
          refine ⟨_, fldIs B.ob, ?_⟩
          cases ew : ws.getD i none with
          | none =>
            rw [ew] at ei
            refine r_ixL B.wa (B.wt.non i ei) ?_
            walk_at "w2"
            have h : (match (match ws.getD i none with
              | none => none
              | some (a, n) => some (i, a, n)) with
              | some _ => Q .non H
              | none => E (Ex K "NoName") none H) := h
            rw [ew] at h
            exact h
          | some p =>
            rw [ew] at ei
            obtain ⟨tp, e1, e2⟩ := B.wt.pair i p.1 p.2 ei
            refine r_ixL B.wa e1 ?_
            walk_at "w2"
            have h : (match (match ws.getD i none with
              | none => none
              | some (a, n) => some (i, a, n)) with
              | some _ => Q .non H
              | none => E (Ex K "NoName") none H) := h
            rw [ew] at h
            first | exact h | (rw [if_neg (by intro z; cases z)]; exact h)
      · rw [if_neg (by omega)] at h
        exact h
    · rw [odd_whole o]
      unfold tickOf at h
      rw [placeOf_odd o] at h
      walk_at "w2"
      exact h
theorem f_Lasts_move (T : Tx K mg) : Mt P w K mg base 3 "Lasts" "move" ["self", "ticket", "at"] (sp_Lasts_move K) := by
  have c_Lasts_need := f_Lasts_need (P := P) (w := w) (base := base) T
  have c_place_word := f_place_word (P := P) (w := w) (base := base) T
  refine T.mkMt 59 141 137 (d := d_Lasts_move) (N := ["self", "ticket", "at"]) (k := 2) rfl rfl rfl rfl rfl rfl sc_Lasts_move (fun _ _ _ _ _ _ us hl => match us, hl with | [_, _, _], _ => rfl) (fun vs H Q E h => ?len) (fun cdv A outer s H vs Q E hr h => ⟨_,
      (pss_cons (ps_expr (pe_mt (K := K) rfl (takes_of rfl rfl rfl rfl) (pv 0) c_Lasts_need (hr.mono (by decide)) (pa_cons (pv 1) pa_nil)))
        (pss_cons (ps_expr (pe_fn (takes_of rfl rfl rfl rfl) c_place_word (hr.mono (by decide)) (by rfl) (pa_cons (pv 2) pa_nil)))
        (pss_one (ps_asg (pe_tup (pa_cons (pv 2) (pa_cons (pe_ix (ix_seqK (K := K) rfl) (pe_ix (ix_seqK (K := K) rfl) (pe_fldC (T.cls 137) (T.noat 145) (pv 0)) (pv 1) (fun _ _ => rfl)) pe_int (fun _ _ => rfl)) pa_nil))) (pg_sub (pe_fldC (T.cls 137) (T.noat 145) (pv 0)) (pv 1) set_list))))), ?rd⟩)
  case len => obtain ⟨b, dx, d, e, rs, ws, ss, v, z, rfl, _⟩ := h; rfl
  case rd =>
    obtain ⟨b, dx, d, e, rs, ws, ss, v, z, rfl, B, th, tz, h⟩ := h
    walk_at "w2"
    refine ⟨recv B.ob, _, _, _, _, _, _, _, _, rfl, B, th, ?_⟩
    cases et : tickOf ws v with
    | none =>
      rw [et] at h
      exact h
    | some t =>
      obtain ⟨i, a, n⟩ := t
      rw [et] at h
      obtain ⟨rfl, hi, ew⟩ := tick_some et
      obtain ⟨tp, e1, e2⟩ := B.wt.pair i a n ew
      have ll := B.wt.len
      walk_at "w2"
      rcases tz with ⟨a', rfl⟩ | o
      · rw [x_place_word]
        rw [placeW_int] at h
        split
        · rename_i c
          rw [if_pos c] at h
          walk_at "w2"
          refine ⟨_, fldIs B.ob, r_ixL B.wa e1 (r_ixT (i := 1) e2 rfl ⟨by rw [sizeLine_eq]; omega, fun p hp => ?_⟩)⟩
          have sp := same_new (o := .tup [.int a', .int n]) hp
          have B1 := B.same sp
          refine ⟨_, fldIs B1.ob, r_setL B1.wa (by omega) (by omega) ?_⟩
          rw [Int.toNat_natCast]
          exact h _ _ (B1.putD (B1.wt.set (tp := p) upd_same)) fun c o hc g => by rw [upd_ne hc]; exact sp _ _ g
        · rename_i c
          rw [if_neg c] at h
          exact h
      · rw [odd_place_word o]
        rw [placeW_odd o] at h
        exact h
theorem f_Lasts_say (T : Tx K mg) : Mt P w K mg base 3 "Lasts" "say" ["self", "ticket"] (sp_Lasts_say K) := by
  have c_Lasts_need := f_Lasts_need (P := P) (w := w) (base := base) T
  refine T.mkMt 60 142 137 (d := d_Lasts_say) (N := ["self", "ticket"]) (k := 2) rfl rfl rfl rfl rfl rfl sc_Lasts_say (fun _ _ _ _ _ _ us hl => match us, hl with | [_, _], _ => rfl) (fun vs H Q E h => ?len) (fun cdv A outer s H vs Q E hr h => ⟨_,
      (pss_cons (ps_expr (pe_mt (K := K) rfl (takes_of rfl rfl rfl rfl) (pv 0) c_Lasts_need (hr.mono (by decide)) (pa_cons (pv 1) pa_nil)))
        (pss_cons (ps_expr (pe_bm PySem.F.plainAttrs_list PySem.F.slot_list_append PySem.F.type_list_append mt_append (pe_fldC (T.cls 137) (T.noat 146) (pv 0)) (pa_cons (pe_ix (ix_seqK (K := K) rfl) (pe_ix (ix_seqK (K := K) rfl) (pe_fldC (T.cls 137) (T.noat 145) (pv 0)) (pv 1) (fun _ _ => rfl)) pe_int (fun _ _ => rfl)) pa_nil)))
        (pss_one (ps_asg pe_non (pg_sub (pe_fldC (T.cls 137) (T.noat 145) (pv 0)) (pv 1) set_list))))), ?rd⟩)
  case len => obtain ⟨b, dx, d, e, rs, ws, ss, v, rfl, _⟩ := h; rfl
  case rd =>
    obtain ⟨b, dx, d, e, rs, ws, ss, v, rfl, B, hl, th, h⟩ := h
    walk_at "w2"
    refine ⟨recv B.ob, _, _, _, _, _, _, _, _, rfl, B, th, ?_⟩
    cases et : tickOf ws v with
    | none =>
      rw [et] at h
      exact h
    | some t =>
      obtain ⟨i, a, n⟩ := t
      rw [et] at h
      obtain ⟨rfl, hi, ew⟩ := tick_some et
      obtain ⟨tp, e1, e2⟩ := B.wt.pair i a n ew
      have ll := B.wt.len
      walk_at "w2"
      refine ⟨_, fldIs B.ob, ty_lst B.sk, _, fldIs B.ob, r_ixL B.wa e1 (r_ixT (i := 1) e2 rfl ⟨e, _, _, rfl, rfl, B.sk, by rw [List.length_map, sizeLine_eq]; omega, ?_⟩)⟩
      have es : ss.map V.int ++ [V.int n] = (ss ++ [n]).map V.int := by rw [List.map_append]; rfl
      rw [es]
      have B1 := B.putE (ss' := ss ++ [n])
      refine ⟨_, fldIs B1.ob, r_setL B1.wa (by omega) (by omega) ?_⟩
      rw [Int.toNat_natCast]
      exact h _ _ (B1.putD B1.wt.rub) fun c o hc hc' g => by rw [upd_ne hc, upd_ne hc']; exact g
theorem f_Lasts_pending (T : Tx K mg) : Mt P w K mg base 1 "Lasts" "pending" ["self"] (sp_Lasts_pending K) := by
  refine T.mkMt 61 143 137 (d := d_Lasts_pending) (N := ["self", "found", "ticket", "pair"]) (k := 0) rfl rfl rfl rfl rfl rfl sc_Lasts_pending (fun _ _ _ _ _ _ us hl => match us, hl with | [_], _ => rfl) (fun vs H Q E h => ?len) (fun cdv A outer s H vs Q E hr h => ⟨_,
      (pss_cons (ps_set (i := 1) sc_Lasts_pending.nd rfl (Or.inl rfl) (pe_lst pa_nil))
        (pss_cons (ps_for (passes_of rfl) rfl (pi_enum (by rfl) (T.free 73) (pa_cons (pe_fldC (T.cls 137) (T.noat 145) (pv 0)) pa_nil)) (pg_tup (n := 2) rfl (pgs_cons (pg_name (i := 2) sc_Lasts_pending.nd rfl (Or.inl rfl)) (pgs_cons (pg_name (i := 3) sc_Lasts_pending.nd rfl (Or.inl rfl)) pgs_nil))) (pss_one (ps_if (pt_cmpR op_notN (pv 3) pe_non (nomark _)) (pss_one (ps_expr (pe_bm PySem.F.plainAttrs_list PySem.F.slot_list_append PySem.F.type_list_append mt_append (pv 1) (pa_cons (pe_tup (pa_cons (pv 2) (pa_cons (pe_ix (ix_seqK (K := K) rfl) (pv 3) pe_int (fun _ _ => rfl)) (pa_cons (pe_ix (ix_seqK (K := K) rfl) (pv 3) pe_int (fun _ _ => rfl)) pa_nil)))) pa_nil)))) pss_nil)))
        (pss_one (ps_ret (pv 1))))), ?rd⟩)
  case len => obtain ⟨b, dx, d, e, rs, ws, ss, rfl, _⟩ := h; rfl
  case rd =>
    obtain ⟨b, dx, d, e, rs, ws, ss, rfl, B, hl, q⟩ := h
    walk_at "w2"
    have ll := B.wt.len
    refine ⟨by omega, fun D hD => ?_⟩
    have sD := same_new (o := .lst []) hD
    have B1 := B.same sD
    refine ⟨_, fldIs B1.ob, d, rs, rfl, .of B1.wa, for_it (walk_enum (xs := rs)) (fun i σ H' => ∃ o2 o3 ps, σ = [some (.ref b), some (.ref D), o2, o3] ∧ Same H H' ∧ H' D = some (.lst ps) ∧ TupAll H' ps (pendOf 0 (ws.take i))) ⟨_, _, [], rfl, sD, upd_same, .nil⟩ ?_ ?_ ?_⟩
    · rintro i σ H' _ ⟨o2, o3, ps, rfl, s, _⟩
      exact .of (s _ _ B.wa)
    · rintro i x σ H1 H' hi ⟨o2, o3, ps, rfl, s, hd, t⟩ ⟨T, y, z, rfl, hT, rfl, e1, e2⟩
      cases Option.some.inj e1
      have e2 : rs[i]? = some z := e2
      have sT := same_new (o := .tup [.int (i : Nat), z]) hT
      have hi' : i < ws.length := by omega
      have ei := getD_at (d := none) hi'
      have ez : ws.take (i + 1) = ws.take i ++ [ws.getD i none] := by rw [List.take_add_one, ei]; rfl
      have el : (ws.take i).length = i := by rw [List.length_take]; omega
      have pl := pendOf_len (ws := ws.take i) 0
      walk_at "w2"
      refine ⟨_, .inl (.inl upd_same), rfl, ?_⟩
      walk_at "w2"
      cases ew : ws.getD i none with
      | none =>
        rw [ew] at ei ez
        have ezn : z = .non := Option.some.inj (e2.symm.trans (B.wt.non i ei))
        subst ezn
        rw [if_neg (fun z => z rfl)]
        refine ⟨_, _, ps, rfl, s.trans sT, sT _ _ hd, ?_⟩
        rw [ez, pendOf_snoc]
        show TupAll _ ps (pendOf 0 (ws.take i) ++ [])
        rw [List.append_nil]
        exact t.same sT
      | some p =>
        obtain ⟨a, n⟩ := p
        rw [ew] at ei ez
        obtain ⟨tp, e3, e4⟩ := B.wt.pair i a n ei
        cases Option.some.inj (e2.symm.trans e3)
        rw [if_pos (by intro z; cases z)]
        have e5 := (s.trans sT) _ _ e4
        have hdT := sT _ _ hd
        refine ⟨ty_lst hdT, r_ixT (i := 0) e5 rfl (r_ixT (i := 1) e5 rfl ⟨by rw [sizeLine_eq]; omega, fun p hp => ?_⟩)⟩
        have sp := same_new (o := .tup [.int (i : Nat), .int a, .int n]) hp
        have tl := t.len
        have hd2 := sp _ _ hdT
        have nD : p ≠ D := (ne_of_none hdT hp).symm
        refine ⟨D, ps, _, rfl, rfl, hd2, by rw [sizeLine_eq]; omega, _, _, _, rfl, ?_, upd_same, ?_⟩
        · exact fun c o g => by rw [upd_ne (ne_of_none g hD)]; exact (s.trans (sT.trans sp)) _ _ g
        · rw [ez, pendOf_snoc, Nat.zero_add, el]
          refine ((t.same (sT.trans sp)).put hd2 (by intro xs z; cases z)).snoc (by rw [upd_ne nD]; exact upd_same) fun x hx => ?_
          rcases List.mem_cons.mp hx with rfl | hx
          · rfl
          rcases List.mem_cons.mp hx with rfl | hx
          · rfl
          · rw [List.mem_singleton] at hx
            subst hx
            rfl
    · rintro σ H' ⟨o2, o3, ps, rfl, s, hd, t⟩
      rw [ll, List.take_length] at t
      walk_at "w2"
      exact q D ps H' hD s hd t
theorem f_Lasts_said (T : Tx K mg) : Mt P w K mg base 1 "Lasts" "said" ["self"] (sp_Lasts_said K) := by
  refine T.mkMt 62 144 137 (d := d_Lasts_said) (N := ["self"]) (k := 0) rfl rfl rfl rfl rfl rfl sc_Lasts_said (fun _ _ _ _ _ _ us hl => match us, hl with | [_], _ => rfl) (fun vs H Q E h => ?len) (fun cdv A outer s H vs Q E hr h => ⟨_,
      (pss_one (ps_ret (pe_callTy (call_listK (K := K) rfl) (by rfl) (T.free 78) (by decide +kernel) (pa_cons (pe_fldC (T.cls 137) (T.noat 146) (pv 0)) pa_nil)))), ?rd⟩)
  case len => obtain ⟨b, dx, d, e, rs, ws, ss, rfl, _⟩ := h; rfl
  case rd =>
    obtain ⟨b, dx, d, e, rs, ws, ss, rfl, B, q⟩ := h
    walk_at "w2"
    refine ⟨_, fldIs B.ob, e, _, rfl, .inl (.of B.sk), fun p hp => q p hp⟩
end

local macro_rules | `(tactic| walk_at "w2") => `(tactic| try simp only [↓x_var0, ↓x_varS, ↓x_c, ↓x_op, ↓x_un, ↓x_cb, ↓x_nil, ↓x_cons, ↓x_test, ↓x_b, ↓x_ex, ↓x_and, ↓x_or, ↓x_not, ↓x_andV, ↓x_orV, ↓x_notV, ↓x_tif, ↓x_chain, ↓x_menu, ↓x_menuI, ↓x_lst, ↓x_tup, ↓x_dnew, ↓x_callW, ↓x_callN, ↓x_seq, ↓x_next, ↓x_ret, ↓x_retN, ↓x_drop, ↓x_ifS, ↓x_asg, ↓x_name, ↓x_raise, ↓x_fld, ↓x_setF, ↓x_meth, ↓x_make, ↓x_sub, ↓r_min, ↓r_max, ↓x_yes, ↓x_for, ↓x_lock, ↓x_keys, ↓x_cut, ↓x_lc, ↓x_rng1, ↓x_rng2, ↓x_lst1, ↓x_itup, ↓x_rng3, ↓x_three, ↓x_lstg, ↓x_tupg, ↓x_adrS, ↓x_one, ↓x_two, ↓x_adr, ↓x_sl, ↓x_np, ↓x_pt, ↓x_int, ↓x_bm, ↓x_bm0, ↓x_consg, ↓x_nilg, ↓x_dget2, ↓x_dget1, ↓x_dgetN, ↓x_dget, ↓x_din, ↓x_dni, ↓x_dput, ↓x_dpop2, ↓r_isB, ↓r_notB, ↓x_enum, ↓x_zip, ↓x_str, ↓x_strE, ↓r_inS, ↓r_ninS, wipe, List.map_cons, List.map_nil, ↓x_isT, ↓r_isiII, ↓r_isiBB, ↓r_isiIB, ↓r_isiSS, ↓r_neNS, ↓r_neSN, ↓r_neNN, ↓r_eqNS, ↓r_eqSN, ↓r_eqNN, ↓r_eqIS, ↓r_neIS, ↓r_neSI, ↓r_neBS, ↓r_eqBB, ↓r_neBB, ↓x_start, ↓x_K, ↓x_start0, ↓r_i0, ↓r_i, ↓r_u, ↓r_addI, ↓r_addS, ↓r_mulI, ↓r_mulS, ↓r_eqI, ↓r_neI, ↓r_eqS, ↓r_neS, ↓r_absI, ↓r_intI, ↓r_intB, List.length_cons, List.length_nil, List.replicate, List.set_cons_zero, List.set_cons_succ, decide_eq_true_eq, Bool.not_eq_true', decide_eq_false_iff_not, if_true, if_false, Bool.false_eq_true, Bool.true_eq_false, ite_true, ite_false, Bool.not_true, Bool.not_false, c_div, n_ten, c_pow, not_true_eq_false, not_false_eq_true, decide_true, decide_false, true_and, and_true, and_self, true_or, or_true, Int.reduceLT, Int.reduceLE, Int.reduceMul, Int.reduceAdd, Int.reduceSub, Int.reducePow, Int.reduceNeg, Int.reduceDiv, Int.reduceMod, Nat.reducePow, Int.reduceToNat, Int.reduceEq, Int.reduceNe, Nat.reduceLT, Nat.reduceLeDiff, Nat.reduceAdd, ↓x_whole, ↓x_kind])
/-! ## hands -/
structure HandO (K : PySem.W.Frag) (H : Hp) (h hx l : Addr) (ws : List Int) : Prop where
  ob : H h = some (.ins (He.ga K "Hands") hx (F_Hands (.ref l)))
  ls : H l = some (.lst (ws.map V.int))
  vw : Vw ws
  sz : ws.length ≤ 6
theorem HandO.same {K H H' h hx l ws} (o : HandO K H h hx l ws) (s : Same H H') : HandO K H' h hx l ws := ⟨s _ _ o.ob, s _ _ o.ls, o.vw, o.sz⟩
theorem HandO.ne {K H h hx l ws} (o : HandO K H h hx l ws) : h ≠ l := ne_of o.ob o.ls (by intro z; cases z)
theorem HandO.put {K H h hx l ws} (o : HandO K H h hx l ws) {i : Nat} {n : Int} (hn : (wordOf n).isSome = true) : HandO K (upd H l (.lst ((ws.set i n).map V.int))) h hx l (ws.set i n) :=
  ⟨by rw [upd_ne o.ne]; exact o.ob, upd_same, o.vw.set hn, by rw [List.length_set]; exact o.sz⟩
def handsV : V → Option Nat
  | .int n => if 1 ≤ n ∧ n ≤ 6 then some n.toNat else none
  | _ => none
theorem handsV_int {n : Int} : handsV (.int n) = if 1 ≤ n ∧ n ≤ 6 then some n.toNat else none := rfl
theorem handsV_odd {H : Hp} {v : V} (h : Odd H v) : handsV v = none := by
  cases v with
  | int i => exact (odd_not h).elim
  | _ => rfl
theorem handsV_some {v : V} {n : Nat} (h : handsV v = some n) : v = .int (n : Int) ∧ 1 ≤ n ∧ n ≤ 6 := by
  cases v with
  | int j =>
    rw [handsV_int] at h
    split at h
    · have e := Option.some.inj h
      exact ⟨by rw [← e]; congr 1; omega, by omega⟩
    · cases h
  | _ => cases h
def placesW (ws : List Int) : List Int := ws.filterMap fun w => match wordOf w with
  | some (.place p) => some p
  | _ => none
def sp_Hands___init__ (K : PySem.W.Frag) : Sp := fun vs H Q E => ∃ h dx v, vs = [.ref h, v] ∧ H h = some (.ins (He.ga K "Hands") dx []) ∧ Thing H v ∧ match handsV v with
  | some n => ∀ l H', H l = none → HandO K H' h dx l (List.replicate n (-1)) → (∀ b o, b ≠ h → H b = some o → H' b = some o) → Q .non H'
  | none => E (Ex K "BadCount") none H
def sp_Hands_need (K : PySem.W.Frag) : Sp := fun vs H Q E => ∃ h dx l ws v, vs = [.ref h, v] ∧ HandO K H h dx l ws ∧ Thing H v ∧ match placeOf ws.length v with
  | some _ => Q .non H
  | none => E (Ex K "NoHand") none H
def sp_Hands_get (K : PySem.W.Frag) : Sp := fun vs H Q E => ∃ h dx l ws v, vs = [.ref h, v] ∧ HandO K H h dx l ws ∧ Thing H v ∧ match placeOf ws.length v with
  | some i => Q (.int (ws.getD i 0)) H
  | none => E (Ex K "NoHand") none H
def sp_Hands_put (K : PySem.W.Frag) : Sp := fun vs H Q E => ∃ h dx l ws v z, vs = [.ref h, v, z] ∧ HandO K H h dx l ws ∧ Thing H v ∧ Thing H z ∧ match placeOf ws.length v with
  | some i => (match wordV z with
    | some n => Q .non (upd H l (.lst ((ws.set i n).map V.int)))
    | none => E (Ex K "BadWord") none H)
  | none => E (Ex K "NoHand") none H
def sp_Hands_row (K : PySem.W.Frag) : Sp := fun vs H Q _ => ∃ h dx l ws, vs = [.ref h] ∧ HandO K H h dx l ws ∧ ∀ p, H p = none → Q (.ref p) (upd H p (.lst (ws.map V.int)))
section
variable {P : Program} {w : World} {K : PySem.W.Frag} {mg : Str → Option Value} {base : Heap}
theorem f_Hands___init__ (T : Tx K mg) : Mi P w K mg base 2 "Hands" ["self", "many"] (sp_Hands___init__ K) := by
  have c_is_whole := f_is_whole (P := P) (w := w) (base := base) T
  refine T.mkMi 51 131 14 (d := d_Hands___init__) (N := ["self", "many", "hand"]) (k := 1) rfl rfl rfl rfl rfl rfl sc_Hands___init__ (fun _ _ _ _ _ _ us hl => match us, hl with | [_, _], _ => rfl) (fun vs H Q E h => ?len) (fun cdv A outer s H vs Q E hr h => ⟨_,
      (pss_cons (ps_if (PW.pt (pw_or (pt_not (pt_val (pe_fn (takes_of rfl rfl rfl rfl) c_is_whole (hr.mono (by decide)) (by rfl) (pa_cons (pv 1) pa_nil)))) (pw_or1 (pt_not (pt_chain op_le op_le pe_int (pv 1) (pe_num (T.num 67) (by rfl))))))) (pss_one (ps_raiseK (K := K) rfl rfl (takes_of rfl rfl rfl rfl) (T.says.fact 84 rfl) (T.glo 3) (by rfl))) pss_nil)
        (pss_one (ps_fldC (T.cls 130) (T.noat 136) (pv 0) (pe_lc (own := [("hand", 2)]) (g := gName 2) rfl sc_Hands___init__.nd (pi_range1 rfl (T.free 71) (pa_cons (pv 1) pa_nil)) (blkOk_by (own := [("hand", 2)]) (N := ["self", "many", "hand"]) (sc := defScope s_Hands___init__) (by decide +kernel)) (fun _ _ _ _ _ => (pg_name (i := 2) sc_Hands___init__.nd rfl (Or.inl rfl))) (fun _ _ _ _ _ => pts_nil) (fun _ _ _ _ _ => (pe_num (T.num 59) (by rfl))))))), ?rd⟩)
  case len => first | exact len_Hands___init__ h | (repeat (first | (obtain ⟨rfl, _⟩ := h; rfl; done) | obtain ⟨_, h⟩ := h))
  case rd =>
    obtain ⟨m, dx, v, rfl, M, th, h⟩ := h
    walk_at "w2"
    rcases th with ⟨n, rfl⟩ | o
    · walk_at "w2"
      rw [handsV_int] at h
      split
      · split
        · rw [if_neg (by omega)] at h
          exact h
        · rw [if_pos (by omega)] at h
          refine ⟨by omega, by omega, fun D hD => lc_mapR (fun _ => .int (-1)) (fun _ => rfl) (by rw [sizeLine_eq]; omega) (fun i hi acc Q q => ?_) ?_⟩
          · walk_at "w2"
            exact q
          · have nD : m ≠ D := ne_of_none M hD
            refine ⟨m, dx, _, rfl, by rw [upd_ne nD]; exact M, by show 0 < 1000; decide, ?_⟩
            rw [pi_Hands_kept]
            have er : (List.range n.toNat).map (fun _ => V.int (-1)) = (List.replicate n.toNat (-1 : Int)).map V.int := by rw [List.map_replicate, List.map_const', List.length_range]
            rw [er]
            refine h D _ hD ⟨upd_same, ?_, Vw.rep, by rw [List.length_replicate]; omega⟩ fun b o hb e => ?_
            · rw [upd_ne nD.symm, upd_same]
            · rw [upd_ne hb, upd_ne (ne_of_none e hD)]
              exact e
      · rw [if_neg (by omega)] at h
        exact h
    · rw [odd_whole o]
      rw [handsV_odd o] at h
      walk_at "w2"
      exact h
theorem f_Hands_need (T : Tx K mg) : Mt P w K mg base 2 "Hands" "need" ["self", "hand"] (sp_Hands_need K) := by
  have c_is_whole := f_is_whole (P := P) (w := w) (base := base) T
  refine T.mkMt 52 132 130 (d := d_Hands_need) (N := ["self", "hand"]) (k := 1) rfl rfl rfl rfl rfl rfl sc_Hands_need (fun _ _ _ _ _ _ us hl => match us, hl with | [_, _], _ => rfl) (fun vs H Q E h => ?len) (fun cdv A outer s H vs Q E hr h => ⟨_,
      (pss_one (ps_if (PW.pt (pw_or (pt_not (pt_val (pe_fn (takes_of rfl rfl rfl rfl) c_is_whole (hr.mono (by decide)) (by rfl) (pa_cons (pv 1) pa_nil)))) (pw_or1 (pt_not (pt_chain op_le op_lt pe_int (pv 1) (pe_callB (call_lenK (K := K) rfl) (by rfl) (T.free 69) PySem.boot_len (pa_cons (pe_fldC (T.cls 130) (T.noat 136) (pv 0)) pa_nil))))))) (pss_one (ps_raiseK (K := K) rfl rfl (takes_of rfl rfl rfl rfl) (T.says.fact 89 rfl) (T.glo 8) (by rfl))) pss_nil)), ?rd⟩)
  case len => first | exact len_Hands_need h | (repeat (first | (obtain ⟨rfl, _⟩ := h; rfl; done) | obtain ⟨_, h⟩ := h))
  case rd =>
    obtain ⟨m, dx, l, ws, v, rfl, M, th, h⟩ := h
    walk_at "w2"
    rcases th with ⟨n, rfl⟩ | o
    · walk_at "w2"
      rw [placeOf_int] at h
      split
      · refine ⟨_, fldIs M.ob, r_lenL M.ls ?_⟩
        walk_at "w2"
        rw [List.length_map]
        split
        · rw [if_neg (by omega)] at h
          exact h
        · rw [if_pos (by omega)] at h
          exact h
      · rw [if_neg (by omega)] at h
        exact h
    · rw [odd_whole o]
      rw [placeOf_odd o] at h
      walk_at "w2"
      exact h
theorem f_Hands_get (T : Tx K mg) : Mt P w K mg base 3 "Hands" "get" ["self", "hand"] (sp_Hands_get K) := by
  have c_Hands_need := f_Hands_need (P := P) (w := w) (base := base) T
  refine T.mkMt 53 133 130 (d := d_Hands_get) (N := ["self", "hand"]) (k := 2) rfl rfl rfl rfl rfl rfl sc_Hands_get (fun _ _ _ _ _ _ us hl => match us, hl with | [_, _], _ => rfl) (fun vs H Q E h => ?len) (fun cdv A outer s H vs Q E hr h => ⟨_,
      (pss_cons (ps_expr (pe_mt (K := K) rfl (takes_of rfl rfl rfl rfl) (pv 0) c_Hands_need (hr.mono (by decide)) (pa_cons (pv 1) pa_nil)))
        (pss_one (ps_ret (pe_ix (ix_seqK (K := K) rfl) (pe_fldC (T.cls 130) (T.noat 136) (pv 0)) (pv 1) (fun _ _ => rfl))))), ?rd⟩)
  case len => first | exact len_Hands_get h | (repeat (first | (obtain ⟨rfl, _⟩ := h; rfl; done) | obtain ⟨_, h⟩ := h))
  case rd =>
    obtain ⟨m, dx, l, ws, v, rfl, M, th, h⟩ := h
    walk_at "w2"
    refine ⟨recv M.ob, m, dx, l, ws, v, rfl, M, th, ?_⟩
    cases e : placeOf ws.length v with
    | none =>
      rw [e] at h
      exact h
    | some i =>
      rw [e] at h
      obtain ⟨rfl, hi⟩ := placeOf_some e
      refine ⟨_, fldIs M.ob, ?_⟩
      refine r_ixL M.ls ?_ h
      rw [List.getElem?_map, getD_at (d := 0) hi]
      rfl
theorem f_Hands_put (T : Tx K mg) : Mt P w K mg base 3 "Hands" "put" ["self", "hand", "word"] (sp_Hands_put K) := by
  have c_Hands_need := f_Hands_need (P := P) (w := w) (base := base) T
  have c_kind := f_kind (P := P) (w := w) (base := base) T
  refine T.mkMt 54 134 130 (d := d_Hands_put) (N := ["self", "hand", "word"]) (k := 2) rfl rfl rfl rfl rfl rfl sc_Hands_put (fun _ _ _ _ _ _ us hl => match us, hl with | [_, _, _], _ => rfl) (fun vs H Q E h => ?len) (fun cdv A outer s H vs Q E hr h => ⟨_,
      (pss_cons (ps_expr (pe_mt (K := K) rfl (takes_of rfl rfl rfl rfl) (pv 0) c_Hands_need (hr.mono (by decide)) (pa_cons (pv 1) pa_nil)))
        (pss_cons (ps_expr (pe_fn (takes_of rfl rfl rfl rfl) c_kind (hr.mono (by decide)) (by rfl) (pa_cons (pv 2) pa_nil)))
        (pss_one (ps_asg (pv 2) (pg_sub (pe_fldC (T.cls 130) (T.noat 136) (pv 0)) (pv 1) set_list))))), ?rd⟩)
  case len => first | exact len_Hands_put h | (repeat (first | (obtain ⟨rfl, _⟩ := h; rfl; done) | obtain ⟨_, h⟩ := h))
  case rd =>
    obtain ⟨m, dx, l, ws, v, z, rfl, M, th, tz, h⟩ := h
    walk_at "w2"
    refine ⟨recv M.ob, m, dx, l, ws, v, rfl, M, th, ?_⟩
    cases e : placeOf ws.length v with
    | none =>
      rw [e] at h
      exact h
    | some i =>
      rw [e] at h
      obtain ⟨rfl, hi⟩ := placeOf_some e
      walk_at "w2"
      rcases tz with ⟨n, rfl⟩ | o
      · rw [x_kind]
        rw [wordV_int] at h
        cases ew : wordOf n with
        | none =>
          rw [ew] at h
          exact h
        | some w =>
          rw [ew] at h
          refine ⟨_, fldIs M.ob, ?_⟩
          refine r_setL M.ls (by omega) (by rw [List.length_map]; omega) ?_
          rw [Int.toNat_natCast, ← List.map_set]
          exact h
      · rw [odd_kind o]
        rw [wordV_odd o] at h
        exact h
theorem f_Hands_row (T : Tx K mg) : Mt P w K mg base 1 "Hands" "row" ["self"] (sp_Hands_row K) := by
  refine T.mkMt 55 135 130 (d := d_Hands_row) (N := ["self"]) (k := 0) rfl rfl rfl rfl rfl rfl sc_Hands_row (fun _ _ _ _ _ _ us hl => match us, hl with | [_], _ => rfl) (fun vs H Q E h => ?len) (fun cdv A outer s H vs Q E hr h => ⟨_,
      (pss_one (ps_ret (pe_callTy (call_listK (K := K) rfl) (by rfl) (T.free 78) (by decide +kernel) (pa_cons (pe_fldC (T.cls 130) (T.noat 136) (pv 0)) pa_nil)))), ?rd⟩)
  case len => first | exact len_Hands_row h | (repeat (first | (obtain ⟨rfl, _⟩ := h; rfl; done) | obtain ⟨_, h⟩ := h))
  case rd =>
    obtain ⟨m, dx, l, ws, rfl, M, q⟩ := h
    walk_at "w2"
    exact ⟨_, fldIs M.ob, l, _, rfl, .inl (.of M.ls), q⟩
end
structure RoA where
  (r rx h hx hl b bx w wx wl la lax d e : Addr)
structure RoS where
  (hs : List Int) (bd : Addr) (bs : List Int) (ts : List V) (rs : List V) (ws : List (Option (Int × Int))) (ss : List Int)
/-- roots: where the parts stand, what they hold -/
structure RootO (K : PySem.W.Frag) (H : Hp) (A : RoA) (S : RoS) : Prop where
  ob : H A.r = some (.ins (He.ga K "Roots") A.rx (F_Roots (.ref A.h) (.ref A.b) (.ref A.w) (.ref A.la)))
  ho : HandO K H A.h A.hx A.hl S.hs
  bo : BookO K H A.b A.bx S.bd S.bs
  wo : WeakO K H A.w A.wx A.wl S.ts
  lo : LastO K H A.la A.lax A.d A.e S.rs S.ws S.ss
  n1 : A.hl ≠ A.wl
  n2 : A.hl ≠ A.d
  n3 : A.hl ≠ A.e
  n4 : A.wl ≠ A.d
  n5 : A.wl ≠ A.e
theorem RootO.same {K H H' A S} (h : RootO K H A S) (s : Same H H') : RootO K H' A S := { h with ob := s _ _ h.ob, ho := h.ho.same s, bo := h.bo.same s, wo := h.wo.same s, lo := h.lo.same s }
def sp_Roots_starts (K : PySem.W.Frag) : Sp := fun vs H Q _ => ∃ r rx h hx l ws, ∃ f2 f3 f4 : V, vs = [.ref r] ∧ H r = some (.ins (He.ga K "Roots") rx (F_Roots (.ref h) f2 f3 f4)) ∧ HandO K H h hx l ws ∧
  ∀ p H', H p = none → Same H H' → H' p = some (.lst ((placesW ws).map V.int)) → Q (.ref p) H'
def sp_Roots___init__ (K : PySem.W.Frag) : Sp := fun vs H Q E => ∃ r dx v, vs = [.ref r, v] ∧ H r = some (.ins (He.ga K "Roots") dx []) ∧ Thing H v ∧ match handsV v with
  | some n => ∀ A S H', A.r = r → S = ⟨List.replicate n (-1), S.bd, [], [], [], [], []⟩ → RootO K H' A S → (∀ c, c = A.h ∨ c = A.hl ∨ c = A.b ∨ c = S.bd ∨ c = A.w ∨ c = A.wl ∨ c = A.la ∨ c = A.d ∨ c = A.e → H c = none) → (∀ b o, b ≠ r → H b = some o → H' b = some o) → Q .non H'
  | none => ∀ H', (∀ b o, b ≠ r → H b = some o → H' b = some o) → E (Ex K "BadCount") none H'
def gPlace : V → Option V
  | .int x => match wordOf x with
    | some (.place p) => some (.int p)
    | _ => none
  | _ => none
def kidV : Wd → Option V
  | .place p => some (.int p)
  | _ => none
theorem gPlace_word {x : Int} {w : Wd} (e : wordOf x = some w) : gPlace (.int x) = kidV w := by
  unfold gPlace
  dsimp only
  rw [e]
  cases w <;> rfl
theorem places_map {ws : List Int} : (ws.map V.int).filterMap gPlace = (placesW ws).map V.int := by
  unfold placesW
  rw [List.filterMap_map, List.map_filterMap]
  congr 1
  funext x
  show gPlace (.int x) = _
  unfold gPlace
  dsimp only
  cases wordOf x with
  | none => rfl
  | some w => cases w <;> rfl
section
variable {P : Program} {w : World} {K : PySem.W.Frag} {mg : Str → Option Value} {base : Heap}
theorem f_Roots___init__ (T : Tx K mg) : Mi P w K mg base 4 "Roots" ["self", "many"] (sp_Roots___init__ K) := by
  have c_Hands___init__ := f_Hands___init__ (P := P) (w := w) (base := base) T
  have c_Book___init__ := f_Book___init__ (P := P) (w := w) (base := base) T
  have c_Weak___init__ := f_Weak___init__ (P := P) (w := w) (base := base) T
  have c_Lasts___init__ := f_Lasts___init__ (P := P) (w := w) (base := base) T
  refine T.mkMi 71 158 17 (d := d_Roots___init__) (N := ["self", "many"]) (k := 3) rfl rfl rfl rfl rfl rfl sc_Roots___init__ (fun _ _ _ _ _ _ us hl => match us, hl with | [_, _], _ => rfl) (fun vs H Q E h => ?len) (fun cdv A outer s H vs Q E hr h => ⟨_,
      (pss_cons (ps_fldC (T.cls 157) (T.noat 160) (pv 0) (pe_mk (K := K) rfl (takes_of rfl rfl rfl rfl) c_Hands___init__ (hr.mono (by decide)) (by rfl) (pa_cons (pv 1) pa_nil)))
        (pss_cons (ps_fldC (T.cls 157) (T.noat 161) (pv 0) (pe_mk0 (K := K) rfl (takes_of rfl rfl rfl rfl) c_Book___init__ (hr.mono (by decide)) (by rfl)))
        (pss_cons (ps_fldC (T.cls 157) (T.noat 162) (pv 0) (pe_mk0 (K := K) rfl (takes_of rfl rfl rfl rfl) c_Weak___init__ (hr.mono (by decide)) (by rfl)))
        (pss_one (ps_fldC (T.cls 157) (T.noat 163) (pv 0) (pe_mk0 (K := K) rfl (takes_of rfl rfl rfl rfl) c_Lasts___init__ (hr.mono (by decide)) (by rfl))))))), ?rd⟩)
  case len => first | exact len_Roots___init__ h | (repeat (first | (obtain ⟨rfl, _⟩ := h; rfl; done) | obtain ⟨_, h⟩ := h))
  case rd =>
    obtain ⟨r, dx, v, rfl, HR, th, h⟩ := h
    walk_at "w2"
    intro hh hx nh nhx nhe
    have sm := same_mk (C := He.ga K "Hands") nh nhx nhe
    refine ⟨hh, hx, v, rfl, upd_same, thing_same sm th, ?_⟩
    cases ev : handsV v with
    | none =>
      rw [ev] at h
      exact h _ fun b o _ g => sm _ _ g
    | some n =>
      rw [ev] at h
      dsimp only
      intro l H2 nl M1 k1
      have s1 := same_init nh nhx nhe k1
      have ra : hh ≠ r := (ne_of_none HR nh).symm
      walk_at "w2"
      refine ⟨r, dx, _, rfl, s1 _ _ HR, by decide, ?_⟩
      rw [pi_Roots_hands]
      have k3 : ∀ {c x}, c ≠ r → H2 c = some x → upd H2 r (.ins (He.ga K "Roots") dx [(("hands" : Str), V.ref hh)]) c = some x := fun h g => by rw [upd_ne h]; exact g
      have a3 : upd H2 r (.ins (He.ga K "Roots") dx [(("hands" : Str), V.ref hh)]) r = some (.ins (He.ga K "Roots") dx [(("hands" : Str), V.ref hh)]) := upd_same
      generalize upd H2 r (.ins (He.ga K "Roots") dx [(("hands" : Str), V.ref hh)]) = H3 at k3 a3 ⊢
      intro b bx nb nbx nbe
      refine ⟨b, bx, rfl, upd_same, fun bd H4 nbd B4 k4 => ?_⟩
      have s4 := same_init nb nbx nbe k4
      have ba : b ≠ r := (ne_of_none a3 nb).symm
      walk_at "w2"
      refine ⟨r, dx, _, rfl, s4 _ _ a3, by show 1 < 1000; decide, ?_⟩
      rw [pi_Roots_book]
      have k5 : ∀ {c x}, c ≠ r → H4 c = some x → upd H4 r (.ins (He.ga K "Roots") dx [(("hands" : Str), V.ref hh), ("book", V.ref b)]) c = some x := fun h g => by rw [upd_ne h]; exact g
      have a5 : upd H4 r (.ins (He.ga K "Roots") dx [(("hands" : Str), V.ref hh), ("book", V.ref b)]) r = some (.ins (He.ga K "Roots") dx [(("hands" : Str), V.ref hh), ("book", V.ref b)]) := upd_same
      generalize upd H4 r (.ins (He.ga K "Roots") dx [(("hands" : Str), V.ref hh), ("book", V.ref b)]) = H5 at k5 a5 ⊢
      intro w wx nw nwx nwe
      refine ⟨w, wx, rfl, upd_same, fun wl H6 nwl W6 k6 => ?_⟩
      have s6 := same_init nw nwx nwe k6
      have wa : w ≠ r := (ne_of_none a5 nw).symm
      walk_at "w2"
      refine ⟨r, dx, _, rfl, s6 _ _ a5, by show 2 < 1000; decide, ?_⟩
      rw [pi_Roots_weaks]
      have k7 : ∀ {c x}, c ≠ r → H6 c = some x → upd H6 r (.ins (He.ga K "Roots") dx [(("hands" : Str), V.ref hh), ("book", V.ref b), ("weaks", V.ref w)]) c = some x := fun h g => by rw [upd_ne h]; exact g
      have a7 : upd H6 r (.ins (He.ga K "Roots") dx [(("hands" : Str), V.ref hh), ("book", V.ref b), ("weaks", V.ref w)]) r = some (.ins (He.ga K "Roots") dx [(("hands" : Str), V.ref hh), ("book", V.ref b), ("weaks", V.ref w)]) := upd_same
      generalize upd H6 r (.ins (He.ga K "Roots") dx [(("hands" : Str), V.ref hh), ("book", V.ref b), ("weaks", V.ref w)]) = H7 at k7 a7 ⊢
      intro la lx nla nlx nle
      refine ⟨la, lx, rfl, upd_same, fun d e H8 nd ne L8 k8 => ?_⟩
      have s8 := same_init nla nlx nle k8
      have laa : la ≠ r := (ne_of_none a7 nla).symm
      walk_at "w2"
      refine ⟨r, dx, _, rfl, s8 _ _ a7, by show 3 < 1000; decide, ?_⟩
      rw [pi_Roots_lasts]
      have k9 : ∀ {c x}, c ≠ r → H8 c = some x → upd H8 r (.ins (He.ga K "Roots") dx (F_Roots (.ref hh) (.ref b) (.ref w) (.ref la))) c = some x := fun h g => by rw [upd_ne h]; exact g
      have k69 : ∀ {c x}, c ≠ r → H6 c = some x → upd H8 r (.ins (He.ga K "Roots") dx (F_Roots (.ref hh) (.ref b) (.ref w) (.ref la))) c = some x := fun h g => k9 h (s8 _ _ (k7 h g))
      have k49 : ∀ {c x}, c ≠ r → H4 c = some x → upd H8 r (.ins (He.ga K "Roots") dx (F_Roots (.ref hh) (.ref b) (.ref w) (.ref la))) c = some x := fun h g => k69 h (s6 _ _ (k5 h g))
      have k29 : ∀ {c x}, c ≠ r → H2 c = some x → upd H8 r (.ins (He.ga K "Roots") dx (F_Roots (.ref hh) (.ref b) (.ref w) (.ref la))) c = some x := fun h g => k49 h (s4 _ _ (k3 h g))
      have nn : ∀ {Hi : Hp} {c : Addr}, (∀ {c x}, c ≠ r → H c = some x → Hi c = some x) → c ≠ r → Hi c = none → H c = none := fun {Hi c} k h g => by
        cases e : H c with
        | none => rfl
        | some x =>
          rw [k h e] at g
          cases g
      have lr : ∀ {Hi : Hp} {c : Addr} {o : HO} {xs : List V}, Hi r = some o → (∃ C d fs, o = .ins C d fs) → Hi c = some (.lst xs) → c ≠ r := fun g ⟨C, d, fs, e⟩ g2 => ne_of g2 g (by rw [e]; intro z; cases z)
      have l2 := lr (s1 _ _ HR) ⟨_, _, _, rfl⟩ M1.ls
      have l6 := lr (s6 _ _ a5) ⟨_, _, _, rfl⟩ W6.ls
      have l8 := lr (s8 _ _ a7) ⟨_, _, _, rfl⟩ L8.wa
      have l8' := lr (s8 _ _ a7) ⟨_, _, _, rfl⟩ L8.sk
      have l4 : bd ≠ r := ne_of B4.ds (s4 _ _ a3) (by intro z; cases z)
      have g1 : ∀ {c x}, c ≠ r → H c = some x → H3 c = some x := fun h g => k3 h (s1 _ _ g)
      have g3 : ∀ {c x}, c ≠ r → H c = some x → H5 c = some x := fun h g => k5 h (s4 _ _ (g1 h g))
      have g5 : ∀ {c x}, c ≠ r → H c = some x → H7 c = some x := fun h g => k7 h (s6 _ _ (g3 h g))
      refine h ⟨r, dx, hh, hx, l, b, bx, w, wx, wl, la, lx, d, e⟩ ⟨List.replicate n (-1), bd, [], [], [], [], []⟩ _ rfl rfl ⟨upd_same, ⟨k29 ra M1.ob, k29 l2 M1.ls, M1.vw, M1.sz⟩, ⟨k49 ba B4.ob, k49 l4 B4.ds, B4.nd⟩, ⟨k69 wa W6.ob, k69 l6 W6.ls⟩, ⟨k9 laa L8.ob, k9 l8 L8.wa, WtAll.nil, k9 l8' L8.sk, L8.de⟩, ?_, ?_, ?_, ?_, ?_⟩ ?_ fun b o h g => k9 h (s8 _ _ (g5 h g))
      · exact ne_of_none ((same_mk nw nwx nwe) _ _ (k5 l2 (s4 _ _ (k3 l2 M1.ls)))) nwl
      · exact ne_of_none ((same_mk nla nlx nle) _ _ (k7 l2 (s6 _ _ (k5 l2 (s4 _ _ (k3 l2 M1.ls)))))) nd
      · exact ne_of_none ((same_mk nla nlx nle) _ _ (k7 l2 (s6 _ _ (k5 l2 (s4 _ _ (k3 l2 M1.ls)))))) ne
      · exact ne_of_none ((same_mk nla nlx nle) _ _ (k7 l6 W6.ls)) nd
      · exact ne_of_none ((same_mk nla nlx nle) _ _ (k7 l6 W6.ls)) ne
      · rintro c (rfl | rfl | rfl | rfl | rfl | rfl | rfl | rfl | rfl)
        · exact nh
        · exact none_of sm nl
        · exact nn g1 ba nb
        · exact nn g1 l4 (none_of (same_mk nb nbx nbe) nbd)
        · exact nn g3 wa nw
        · exact nn g3 l6 (none_of (same_mk nw nwx nwe) nwl)
        · exact nn g5 laa nla
        · exact nn g5 l8 (none_of (same_mk nla nlx nle) nd)
        · exact nn g5 l8' (none_of (same_mk nla nlx nle) ne)
end

/-! ## cells of a law's own: by places, rows of words -/
structure CeL where
  (p : Nat) (r : Addr) (ws : List Int)
def kvsOf (f : Nat → Int) (C : List CeL) : List (Key × V) := C.map fun c => (.inl (f c.p), .ref c.r)
theorem kvs_none {f : Nat → Int} {C : List CeL} {n : Int} (h : ∀ c ∈ C, f c.p ≠ n) : valV (kvsOf f C) (.inl n : Key) = none := by
  induction C with
  | nil => rfl
  | cons c r ih =>
    have e2 : ¬ ((.inl (f c.p) : Key) = .inl n) := fun z => h c (List.mem_cons_self) (Sum.inl.inj z)
    exact (valV_neg (p := ((.inl (f c.p) : Key), V.ref c.r)) (r := kvsOf f r) e2).trans (ih fun c m => h c (List.mem_cons_of_mem _ m))
theorem kvs_some {f : Nat → Int} {C : List CeL} {c : CeL} (nd : C.Pairwise fun a b => f a.p ≠ f b.p) (h : c ∈ C) : valV (kvsOf f C) (.inl (f c.p) : Key) = some (.ref c.r) := by
  induction C with
  | nil => exact (List.not_mem_nil h).elim
  | cons a r ih =>
    obtain ⟨n1, n2⟩ := List.pairwise_cons.mp nd
    rcases List.mem_cons.mp h with rfl | h
    · exact valV_pos rfl
    · have e2 : ¬ ((.inl (f a.p) : Key) = .inl (f c.p)) := fun z => n1 c h (Sum.inl.inj z)
      exact (valV_neg (p := ((.inl (f a.p) : Key), V.ref a.r)) (r := kvsOf f r) e2).trans (ih n2 h)
theorem kvs_put {f : Nat → Int} {C : List CeL} {c : CeL} (h : ∀ a ∈ C, f a.p ≠ f c.p) : putK (kvsOf f C) (.inl (f c.p) : Key) (.ref c.r) = kvsOf f (C ++ [c]) := by
  unfold putK
  rw [valV_any, kvs_none h]
  show kvsOf f C ++ [(.inl (f c.p), .ref c.r)] = _
  unfold kvsOf
  rw [List.map_append]
  rfl
/-- which cells are laid, where their rows are, what they hold -/
structure CellsO (f : Nat → Int) (H : Hp) (S : ArS) (d : Addr) (C : List CeL) : Prop where
  dd : H d = some (.dK (kvsOf f C))
  rw_ : ∀ c ∈ C, H c.r = some (.lst (c.ws.map V.int))
  hd : ∀ c ∈ C, ∃ a, a ≤ 2 ∧ headAt (S.ws.getD c.p 0) = some (4 * c.ws.length + a)
  sl : ∀ c ∈ C, ∀ j, j < c.ws.length → S.ws.getD (c.p + 1 + j) 0 = c.ws.getD j 0
  ar : ∀ c ∈ C, c.p + c.ws.length < S.ot ∨ (S.b S.fl ≤ c.p ∧ c.p + c.ws.length < S.t S.fl)
  dj : C.Pairwise fun a b => a.p + a.ws.length < b.p ∨ b.p + b.ws.length < a.p
  rd : C.Pairwise fun a b => a.r ≠ b.r
theorem CellsO.same {f H H' S d C} (h : CellsO f H S d C) (s : Same H H') : CellsO f H' S d C := { h with dd := s _ _ h.dd, rw_ := fun c m => s _ _ (h.rw_ c m) }
theorem CellsO.keys {f H S d C} (h : CellsO f H S d C) (inj : ∀ a b, f a = f b → a = b) : C.Pairwise fun a b => f a.p ≠ f b.p := h.dj.imp fun {a b} q e => by
  have := inj _ _ e
  omega
/-- another heap, in which dict and rows are as they were -/
theorem CellsO.keep {f H H' S d C} (h : CellsO f H S d C) (k : ∀ b o, (b = d ∨ ∃ c ∈ C, b = c.r) → H b = some o → H' b = some o) : CellsO f H' S d C := { h with dd := k _ _ (.inl rfl) h.dd, rw_ := fun c m => k _ _ (.inr ⟨c, m, rfl⟩) (h.rw_ c m) }
theorem CellsO.lt {f H S d C} (h : CellsO f H S d C) (e : S.ws.length = S.n + 2 * S.k) (lo : S.ot ≤ S.n) (l1 : S.t S.fl ≤ S.b S.fl + S.k) : ∀ c ∈ C, c.p + c.ws.length < S.ws.length := fun c m => by
  have hb : S.b S.fl + S.k ≤ S.n + 2 * S.k := by unfold ArS.b; split <;> omega
  rcases h.ar c m with q | q <;> omega
theorem layT_high {ws : List Int} {i s t j : Nat} (h : i + t < j) : (layT ws i s t).getD j 0 = ws.getD j 0 := by
  induction t with
  | zero =>
    show (ws.set i (8 * (s : Int))).getD j 0 = _
    rw [List.getD_eq_getElem?_getD, List.getElem?_set_ne (by omega), ← List.getD_eq_getElem?_getD]
  | succ t ih =>
    rw [layT_succ, List.getD_eq_getElem?_getD, List.getElem?_set_ne (by omega), ← List.getD_eq_getElem?_getD, ih (by omega)]
theorem layT_low' {ws : List Int} {i s t j : Nat} (h : j < i) : (layT ws i s t).getD j 0 = ws.getD j 0 := by
  induction t with
  | zero =>
    show (ws.set i (8 * (s : Int))).getD j 0 = _
    rw [List.getD_eq_getElem?_getD, List.getElem?_set_ne (by omega), ← List.getD_eq_getElem?_getD]
  | succ t ih =>
    rw [layT_succ, List.getD_eq_getElem?_getD, List.getElem?_set_ne (by omega), ← List.getD_eq_getElem?_getD, ih]
theorem laidS_off {S : ArS} {old : Bool} {s j : Nat} (h : j < topA S old ∨ topA S old + s < j) : (laidS S old s).ws.getD j 0 = S.ws.getD j 0 := by
  cases old
  · show (layT S.ws (S.t S.fl) s s).getD j 0 = _
    have h : j < S.t S.fl ∨ S.t S.fl + s < j := h
    rcases h with h | h
    · exact layT_low' h
    · exact layT_high h
  · show ((layT S.ws S.ot s s).set S.ot _).getD j 0 = _
    have h : j < S.ot ∨ S.ot + s < j := h
    rw [List.getD_eq_getElem?_getD, List.getElem?_set_ne (by omega), ← List.getD_eq_getElem?_getD]
    rcases h with h | h
    · exact layT_low' h
    · exact layT_high h
theorem laidS_ot {S : ArS} {old : Bool} {s : Nat} : (laidS S old s).ot = if old then S.ot + (s + 1) else S.ot := by
  cases old
  · show (S.put S.fl _).ot = _
    unfold ArS.put
    cases S.fl <;> rfl
  · rfl
theorem laidS_same {S : ArS} {old : Bool} {s : Nat} : (laidS S old s).fl = S.fl ∧ (laidS S old s).n = S.n ∧ (laidS S old s).k = S.k ∧ ∀ f, (laidS S old s).b f = S.b f := by
  cases old
  · show (S.put S.fl _).fl = _ ∧ (S.put S.fl _).n = _ ∧ (S.put S.fl _).k = _ ∧ ∀ f, (S.put S.fl _).b f = S.b f
    unfold ArS.put ArS.b
    cases S.fl <;> exact ⟨rfl, rfl, rfl, fun f => rfl⟩
  · exact ⟨rfl, rfl, rfl, fun f => rfl⟩
theorem laidS_t {S : ArS} {old : Bool} {s : Nat} : (laidS S old s).t S.fl = if old then S.t S.fl else S.t S.fl + (s + 1) := by
  cases old
  · show (S.put S.fl _).t S.fl = _
    unfold ArS.put ArS.t
    cases S.fl <;> rfl
  · rfl
theorem laidS_t' {S : ArS} {old : Bool} {s : Nat} : (laidS S old s).t (!S.fl) = S.t (!S.fl) := by
  cases old
  · show (S.put S.fl _).t (!S.fl) = _
    unfold ArS.put ArS.t
    cases S.fl <;> rfl
  · rfl
theorem CellsO.fresh {f H S d C s old} (h : CellsO f H S d C) (lo : S.ot ≤ S.n) (lbt : S.b S.fl ≤ S.t S.fl) (fit : topA S old + (s + 1) ≤ endA S old) : ∀ c ∈ C, c.p + c.ws.length < topA S old ∨ topA S old + s < c.p := fun c m => by
  have nb : S.n ≤ S.b S.fl := by unfold ArS.b; split <;> omega
  have lb : S.n ≤ S.b S.fl := nb
  cases old
  · show c.p + c.ws.length < S.t S.fl ∨ _
    have fit : S.t S.fl + (s + 1) ≤ S.b S.fl + S.k := fit
    rcases h.ar c m with q | q <;> omega
  · have : S.ot + (s + 1) ≤ S.n := fit
    show c.p + c.ws.length < S.ot ∨ S.ot + s < c.p
    rcases h.ar c m with q | q <;> omega
/-- a cell more -/
theorem CellsO.lay {f H H' S d C s old r} (h : CellsO f H S d C) (s8 : s ≤ 8) (ln : S.ws.length = S.n + 2 * S.k) (lo : S.ot ≤ S.n) (lb : S.b S.fl ≤ S.t S.fl) (fit : topA S old + (s + 1) ≤ endA S old)
    (hd : H' d = some (.dK (kvsOf f (C ++ [⟨topA S old, r, List.replicate s (-1)⟩])))) (hr : H' r = some (.lst ((List.replicate s (-1 : Int)).map V.int))) (k : ∀ c ∈ C, H' c.r = H c.r) (nr : ∀ c ∈ C, c.r ≠ r) :
    CellsO f H' (laidS S old s) d (C ++ [⟨topA S old, r, List.replicate s (-1)⟩]) := by
  have nb : S.n ≤ S.b S.fl := by unfold ArS.b; split <;> omega
  have hbk : S.b S.fl + S.k ≤ S.n + 2 * S.k := by unfold ArS.b; split <;> omega
  have hl : topA S old + s < S.ws.length := by
    cases old
    · have : S.t S.fl + (s + 1) ≤ S.b S.fl + S.k := fit
      show S.t S.fl + s < _
      omega
    · have : S.ot + (s + 1) ≤ S.n := fit
      show S.ot + s < _
      omega
  have off : ∀ c ∈ C, c.p + c.ws.length < topA S old ∨ topA S old + s < c.p := fun c m => by
    cases old
    · show c.p + c.ws.length < S.t S.fl ∨ _
      rcases h.ar c m with q | q <;> omega
    · have : S.ot + (s + 1) ≤ S.n := fit
      show c.p + c.ws.length < S.ot ∨ S.ot + s < c.p
      rcases h.ar c m with q | q <;> omega
  obtain ⟨e1, e2, e3, e4⟩ := laidS_same (S := S) (old := old) (s := s)
  have rl : (List.replicate s (-1 : Int)).length = s := List.length_replicate
  refine ⟨hd, fun c m => ?_, fun c m => ?_, fun c m j hj => ?_, fun c m => ?_, ?_, ?_⟩
  · rcases List.mem_append.mp m with m | m
    · rw [k c m]
      exact h.rw_ c m
    · rw [List.mem_singleton.mp m]
      exact hr
  · rcases List.mem_append.mp m with m | m
    · rw [laidS_off (by rcases off c m with q | q <;> omega)]
      exact h.hd c m
    · rw [List.mem_singleton.mp m]
      refine ⟨if old then 2 else 0, by split <;> omega, ?_⟩
      rw [laidS_head s8 hl]
      show _ = some (4 * (List.replicate s (-1 : Int)).length + _)
      rw [rl]
  · rcases List.mem_append.mp m with m | m
    · rw [laidS_off (by rcases off c m with q | q <;> omega)]
      exact h.sl c m j hj
    · rw [List.mem_singleton.mp m] at hj ⊢
      have hj : j < s := by rw [← rl]; exact hj
      rw [laidS_slot hj hl]
      show _ = (List.replicate s (-1 : Int)).getD j 0
      rw [List.getD_eq_getElem?_getD, List.getElem?_replicate, if_pos hj]
      rfl
  · rw [e1, e4, laidS_ot, laidS_t]
    rcases List.mem_append.mp m with m | m
    · rcases h.ar c m with q | q
      · refine .inl ?_
        split <;> omega
      · refine .inr ⟨q.1, ?_⟩
        split <;> omega
    · rw [List.mem_singleton.mp m]
      show topA S old + (List.replicate s (-1 : Int)).length < _ ∨ S.b S.fl ≤ topA S old ∧ topA S old + (List.replicate s (-1 : Int)).length < _
      rw [rl]
      cases old
      · refine .inr ⟨lb, ?_⟩
        show S.t S.fl + s < S.t S.fl + (s + 1)
        omega
      · refine .inl ?_
        show S.ot + s < S.ot + (s + 1)
        omega
  · refine List.pairwise_append.mpr ⟨h.dj, List.pairwise_singleton _ _, fun a ha b hb => ?_⟩
    rw [List.mem_singleton.mp hb]
    show _ ∨ topA S old + (List.replicate s (-1 : Int)).length < _
    rw [rl]
    exact off a ha
  · refine List.pairwise_append.mpr ⟨h.rd, List.pairwise_singleton _ _, fun a ha b hb => ?_⟩
    rw [List.mem_singleton.mp hb]
    exact nr a ha
theorem pair_mem {α : Type} {R : α → α → Prop} (sy : ∀ a b, R a b → R b a) : ∀ {C : List α}, C.Pairwise R → ∀ {a b : α}, a ∈ C → b ∈ C → a ≠ b → R a b
  | [], _, _, _, h, _, _ => (List.not_mem_nil h).elim
  | x :: r, p, a, b, ha, hb, ne => by
    obtain ⟨p1, p2⟩ := List.pairwise_cons.mp p
    rcases List.mem_cons.mp ha with ea | ha'
    · rcases List.mem_cons.mp hb with eb | hb'
      · exact absurd (ea.trans eb.symm) ne
      · rw [ea]
        exact p1 b hb'
    · rcases List.mem_cons.mp hb with eb | hb'
      · rw [eb]
        exact sy _ _ (p1 a ha')
      · exact pair_mem sy p2 ha' hb' ne
theorem CellsO.apart {f H S d C} (h : CellsO f H S d C) {a b : CeL} (ha : a ∈ C) (hb : b ∈ C) (ne : a ≠ b) : (a.p + a.ws.length < b.p ∨ b.p + b.ws.length < a.p) ∧ a.r ≠ b.r :=
  ⟨pair_mem (fun _ _ q => q.symm) h.dj ha hb ne, pair_mem (fun _ _ q => q.symm) h.rd ha hb ne⟩
theorem CellsO.same_p {f H S d C} (h : CellsO f H S d C) {a b : CeL} (ha : a ∈ C) (hb : b ∈ C) (e : a.p = b.p) : a = b := by
  by_cases e2 : a = b
  · exact e2
  · have := (h.apart ha hb e2).1
    omega
/-- one slot of a cell is written -/
def setC (C : List CeL) (p j : Nat) (n : Int) : List CeL := C.map fun c => if c.p = p then { c with ws := c.ws.set j n } else c
theorem setC_kvs {f : Nat → Int} {C : List CeL} {p j : Nat} {n : Int} : kvsOf f (setC C p j n) = kvsOf f C := by
  unfold kvsOf setC
  rw [List.map_map]
  congr 1
  funext c
  show ((.inl (f (if c.p = p then _ else c).p), .ref (if c.p = p then _ else c).r) : Key × V) = _
  split <;> rfl
theorem CellsO.put {f H H' S d C} {c : CeL} {j : Nat} {n : Int} (h : CellsO f H S d C) (m : c ∈ C) (hj : j < c.ws.length) (hl : c.p + c.ws.length < S.ws.length) (hd : H' d = H d) (hr : H' c.r = some (.lst ((c.ws.set j n).map V.int))) (k : ∀ a ∈ C, a.r ≠ c.r → H' a.r = H a.r) :
    CellsO f H' { S with ws := S.ws.set (c.p + 1 + j) n } d (setC C c.p j n) := by
  have el : ∀ b ∈ setC C c.p j n, ∃ a ∈ C, b.p = a.p ∧ b.r = a.r ∧ b.ws.length = a.ws.length ∧ ((a = c ∧ b.ws = c.ws.set j n) ∨ (a ≠ c ∧ b = a)) := fun b mb => by
    obtain ⟨a, ma, rfl⟩ := List.mem_map.mp mb
    by_cases e : a.p = c.p
    · have ea := h.same_p ma m e
      subst ea
      rw [if_pos rfl]
      exact ⟨a, ma, rfl, rfl, List.length_set .., .inl ⟨rfl, rfl⟩⟩
    · rw [if_neg e]
      exact ⟨a, ma, rfl, rfl, rfl, .inr ⟨fun z => e (by rw [z]), rfl⟩⟩
  have pw : ∀ {R : CeL → CeL → Prop}, (∀ a b a' b' : CeL, a'.p = a.p → a'.r = a.r → a'.ws.length = a.ws.length → b'.p = b.p → b'.r = b.r → b'.ws.length = b.ws.length → R a b → R a' b') → C.Pairwise R → (setC C c.p j n).Pairwise R := fun {R} tr q => by
    refine List.pairwise_map.mpr (q.imp fun {a b} r => tr _ _ _ _ ?_ ?_ ?_ ?_ ?_ ?_ r) <;> split <;> first | rfl | exact List.length_set ..
  refine ⟨by rw [hd, setC_kvs]; exact h.dd, fun b mb => ?_, fun b mb => ?_, fun b mb i hi => ?_, fun b mb => ?_, pw (fun a b a' b' e1 e2 e3 e4 e5 e6 q => by rw [e1, e3, e4, e6]; exact q) h.dj, pw (fun a b a' b' e1 e2 e3 e4 e5 e6 q => by rw [e2, e5]; exact q) h.rd⟩
  · obtain ⟨a, ma, e1, e2, e3, ⟨rfl, e4⟩ | ⟨ne, rfl⟩⟩ := el b mb
    · rw [e2, e4]
      exact hr
    · rw [k b ma (h.apart ma m ne).2]
      exact h.rw_ b ma
  · obtain ⟨a, ma, e1, e2, e3, e4⟩ := el b mb
    obtain ⟨ag, h1, h2⟩ := h.hd a ma
    refine ⟨ag, h1, ?_⟩
    rw [e1, e3, getD_set (by omega), if_neg ?_]
    · exact h2
    · rcases e4 with ⟨rfl, -⟩ | ⟨ne, -⟩
      · omega
      · have := (h.apart ma m ne).1
        omega
  · obtain ⟨a, ma, e1, e2, e3, ⟨rfl, e4⟩ | ⟨ne, rfl⟩⟩ := el b mb
    · rw [e3] at hi
      rw [e1, e4, getD_set (by omega), getD_set hj]
      by_cases e : j = i
      · subst e
        rw [if_pos rfl, if_pos rfl]
      · rw [if_neg (by omega), if_neg e]
        exact h.sl a ma i hi
    · have := (h.apart ma m ne).1
      rw [getD_set (by omega), if_neg (by omega)]
      exact h.sl b ma i hi
  · obtain ⟨a, ma, e1, e2, e3, -⟩ := el b mb
    show b.p + b.ws.length < S.ot ∨ S.b S.fl ≤ b.p ∧ b.p + b.ws.length < S.t S.fl
    rw [e1, e3]
    exact h.ar a ma
/-- the head that a cell has -/
theorem CellsO.head {f H S d C} (h : CellsO f H S d C) {c : CeL} (m : c ∈ C) (hl : c.p + c.ws.length < S.ws.length) : ∃ k, headW S.ws (.int (c.p : Int)) = .ok c.p k ∧ k / 4 = c.ws.length ∧ k ≤ 34 := by
  obtain ⟨a, h1, h2⟩ := h.hd c m
  obtain ⟨-, h3, -⟩ := headAt_some h2
  exact ⟨_, ans_head' (by omega) h2, by omega, h3⟩
theorem getD_rangeI {ts : List Int} : (List.range ts.length).map (fun i => ts.getD i 0) = ts := by
  refine List.ext_getElem (by rw [List.length_map, List.length_range]) fun i h1 h2 => ?_
  rw [List.getElem_map, List.getElem_range, List.getD_eq_getElem?_getD, List.getElem?_eq_getElem h2]
  rfl
theorem PlAll_ints {ns : List Int} : PlAll (ns.map V.int) (ns.map PyData.int) := by
  induction ns with
  | nil => exact .nil
  | cons n r ih => exact .cons (.int n) ih
theorem eqv_nil {ns : List Int} : PyData.eqv (.list (ns.map PyData.int)) (.list []) = decide (ns = []) := by
  cases ns with
  | nil => rfl
  | cons n r => rfl
theorem r_neNil {K : PySem.W.Frag} {H : Hp} {Q : VK} {a b : Addr} {ns : List Int} (h1 : H a = some (.lst (ns.map V.int))) (h2 : H b = some (.lst [])) (q : Q (.bl (!decide (ns = []))) H) : gNe K (.ref a) (.ref b) H Q :=
  r_nePl h1 h2 PlAll_ints .nil (by rw [eqv_nil]; exact q)
theorem r_eqNil {K : PySem.W.Frag} {H : Hp} {Q : VK} {a b : Addr} {ns : List Int} (h1 : H a = some (.lst (ns.map V.int))) (h2 : H b = some (.lst [])) (q : Q (.bl (decide (ns = []))) H) : gEq K (.ref a) (.ref b) H Q :=
  r_eqPl h1 h2 PlAll_ints .nil (by rw [eqv_nil]; exact q)
/-- a word tells a number, nothing, or one of these cells -/
def ClW (C : List CeL) (w : Int) : Prop := (wordOf w).isSome = true ∧ ∀ p, wordOf w = some (.place p) → ∃ c ∈ C, p = (c.p : Int)
theorem ClW.mono {C D : List CeL} {w : Int} (h : ClW C w) (s : ∀ c ∈ C, ∃ d ∈ D, d.p = c.p) : ClW D w := ⟨h.1, fun p e => let ⟨c, m, q⟩ := h.2 p e; let ⟨d, m2, q2⟩ := s c m; ⟨d, m2, by rw [q2]; exact q⟩⟩
theorem ClW.num {C : List CeL} {n : Int} (h : (n.natAbs : Int) ≤ 1000000000000) : ClW C (2 * n) := ⟨by rw [word_num h]; rfl, fun p e => by rw [word_num h] at e; cases e⟩
theorem ClW.non {C : List CeL} : ClW C (-1) := ⟨rfl, fun p e => by cases e⟩
theorem ClW.cell {C : List CeL} {c : CeL} (m : c ∈ C) (h : c.p ≤ 9999) : ClW C (2 * (c.p : Int) + 1) := ⟨by rw [word_place (by omega) (by omega)]; rfl, fun p e => by rw [word_place (by omega) (by omega)] at e; cases e; exact ⟨c, m, rfl⟩⟩
theorem cl_word {w p : Int} (h : wordOf w = some (.place p)) : w = 2 * p + 1 := by
  unfold wordOf at h
  repeat' split at h
  all_goals first
    | (cases h; done)
    | (cases h; omega)
/-- how a row is looked up by a word -/
theorem row_of {C : List CeL} (nd : C.Pairwise fun a b => 2 * (a.p : Int) + 1 ≠ 2 * (b.p : Int) + 1) {w : Int} (h : ClW C w) : (∃ c ∈ C, w = 2 * (c.p : Int) + 1 ∧ wordOf w = some (.place c.p) ∧ valV (kvsOf (fun p => 2 * (p : Int) + 1) C) (.inl w : Key) = some (.ref c.r)) ∨ ((∀ p, wordOf w ≠ some (.place p)) ∧ valV (kvsOf (fun p => 2 * (p : Int) + 1) C) (.inl w : Key) = none) := by
  cases e : wordOf w with
  | none =>
    have h1 := h.1
    rw [e] at h1
    cases h1
  | some x =>
    have other : (∀ p, x ≠ .place p) → valV (kvsOf (fun p => 2 * (p : Int) + 1) C) (.inl w : Key) = none := fun ne => kvs_none fun c m z => by
      have : wordOf w = some (.place c.p) ∨ ∃ y, wordOf w = some y := .inr ⟨x, e⟩
      unfold wordOf at e
      repeat' split at e
      all_goals first
        | (cases e; done)
        | (cases e; omega)
        | (cases e; exact ne _ rfl)
    cases x with
    | place p =>
      obtain ⟨c, m, rfl⟩ := h.2 p e
      have := cl_word e
      exact .inl ⟨c, m, this, rfl, by rw [this]; exact kvs_some (f := fun p => 2 * (p : Int) + 1) nd m⟩
    | nothing => exact .inr ⟨(fun p z => by cases z), other (fun p z => by cases z)⟩
    | num n => exact .inr ⟨(fun p z => by cases z), other (fun p z => by cases z)⟩

/-! ## cells without a heap -/
structure CelP (S : ArS) (C : List CeL) : Prop where
  hd : ∀ c ∈ C, ∃ a, a ≤ 2 ∧ headAt (S.ws.getD c.p 0) = some (4 * c.ws.length + a)
  sl : ∀ c ∈ C, ∀ j, j < c.ws.length → S.ws.getD (c.p + 1 + j) 0 = c.ws.getD j 0
  ar : ∀ c ∈ C, c.p + c.ws.length < S.ot ∨ (S.b S.fl ≤ c.p ∧ c.p + c.ws.length < S.t S.fl)
  dj : C.Pairwise fun a b => a.p + a.ws.length < b.p ∨ b.p + b.ws.length < a.p
theorem CellsO.cp {f H S d C} (h : CellsO f H S d C) : CelP S C := ⟨h.hd, h.sl, h.ar, h.dj⟩
theorem CelP.nil {S : ArS} : CelP S [] := ⟨(fun c m => (List.not_mem_nil m).elim), (fun c m => (List.not_mem_nil m).elim), (fun c m => (List.not_mem_nil m).elim), .nil⟩
theorem CelP.lt {S C} (h : CelP S C) (e : S.ws.length = S.n + 2 * S.k) (lo : S.ot ≤ S.n) (l1 : S.t S.fl ≤ S.b S.fl + S.k) : ∀ c ∈ C, c.p + c.ws.length < S.ws.length := fun c m => by
  have hb : S.b S.fl + S.k ≤ S.n + 2 * S.k := by unfold ArS.b; split <;> omega
  rcases h.ar c m with q | q <;> omega
theorem CelP.apart {S C} (h : CelP S C) {a b : CeL} (ha : a ∈ C) (hb : b ∈ C) (ne : a ≠ b) : a.p + a.ws.length < b.p ∨ b.p + b.ws.length < a.p := pair_mem (fun _ _ q => q.symm) h.dj ha hb ne
theorem CelP.same_p {S C} (h : CelP S C) {a b : CeL} (ha : a ∈ C) (hb : b ∈ C) (e : a.p = b.p) : a = b := by
  by_cases e2 : a = b
  · exact e2
  · have := h.apart ha hb e2
    omega
theorem CelP.head {S C} (h : CelP S C) {c : CeL} (m : c ∈ C) (hl : c.p + c.ws.length < S.ws.length) : ∃ k, headW S.ws (.int (c.p : Int)) = .ok c.p k ∧ k / 4 = c.ws.length ∧ k ≤ 34 := by
  obtain ⟨a, h1, h2⟩ := h.hd c m
  obtain ⟨-, h3, -⟩ := headAt_some h2
  exact ⟨_, ans_head' (by omega) h2, by omega, h3⟩
theorem CelP.fresh {S C s old} (h : CelP S C) (lo : S.ot ≤ S.n) (lbt : S.b S.fl ≤ S.t S.fl) (fit : topA S old + (s + 1) ≤ endA S old) : ∀ c ∈ C, c.p + c.ws.length < topA S old ∨ topA S old + s < c.p := fun c m => by
  have nb : S.n ≤ S.b S.fl := by unfold ArS.b; split <;> omega
  cases old
  · show c.p + c.ws.length < S.t S.fl ∨ _
    have fit : S.t S.fl + (s + 1) ≤ S.b S.fl + S.k := fit
    rcases h.ar c m with q | q <;> omega
  · have : S.ot + (s + 1) ≤ S.n := fit
    show c.p + c.ws.length < S.ot ∨ S.ot + s < c.p
    rcases h.ar c m with q | q <;> omega
/-- a cell more -/
theorem CelP.lay {S C s old} {r : Addr} (h : CelP S C) (s8 : s ≤ 8) (ln : S.ws.length = S.n + 2 * S.k) (lo : S.ot ≤ S.n) (lb : S.b S.fl ≤ S.t S.fl) (fit : topA S old + (s + 1) ≤ endA S old) :
    CelP (laidS S old s) (C ++ [⟨topA S old, r, List.replicate s (-1)⟩]) := by
  have nb : S.n ≤ S.b S.fl := by unfold ArS.b; split <;> omega
  have hbk : S.b S.fl + S.k ≤ S.n + 2 * S.k := by unfold ArS.b; split <;> omega
  have hl : topA S old + s < S.ws.length := by
    cases old
    · have : S.t S.fl + (s + 1) ≤ S.b S.fl + S.k := fit
      show S.t S.fl + s < _
      omega
    · have : S.ot + (s + 1) ≤ S.n := fit
      show S.ot + s < _
      omega
  have off := h.fresh lo lb fit
  obtain ⟨e1, e2, e3, e4⟩ := laidS_same (S := S) (old := old) (s := s)
  have rl : (List.replicate s (-1 : Int)).length = s := List.length_replicate
  refine ⟨fun c m => ?_, fun c m j hj => ?_, fun c m => ?_, ?_⟩
  · rcases List.mem_append.mp m with m | m
    · rw [laidS_off (by rcases off c m with q | q <;> omega)]
      exact h.hd c m
    · rw [List.mem_singleton.mp m]
      refine ⟨if old then 2 else 0, by split <;> omega, ?_⟩
      rw [laidS_head s8 hl]
      show _ = some (4 * (List.replicate s (-1 : Int)).length + _)
      rw [rl]
  · rcases List.mem_append.mp m with m | m
    · rw [laidS_off (by rcases off c m with q | q <;> omega)]
      exact h.sl c m j hj
    · rw [List.mem_singleton.mp m] at hj ⊢
      have hj : j < s := by rw [← rl]; exact hj
      rw [laidS_slot hj hl]
      show _ = (List.replicate s (-1 : Int)).getD j 0
      rw [List.getD_eq_getElem?_getD, List.getElem?_replicate, if_pos hj]
      rfl
  · rw [e1, e4, laidS_ot, laidS_t]
    rcases List.mem_append.mp m with m | m
    · rcases h.ar c m with q | q
      · refine .inl ?_
        split <;> omega
      · refine .inr ⟨q.1, ?_⟩
        split <;> omega
    · rw [List.mem_singleton.mp m]
      show topA S old + (List.replicate s (-1 : Int)).length < _ ∨ S.b S.fl ≤ topA S old ∧ topA S old + (List.replicate s (-1 : Int)).length < _
      rw [rl]
      cases old
      · refine .inr ⟨lb, ?_⟩
        show S.t S.fl + s < S.t S.fl + (s + 1)
        omega
      · refine .inl ?_
        show S.ot + s < S.ot + (s + 1)
        omega
  · refine List.pairwise_append.mpr ⟨h.dj, List.pairwise_singleton _ _, fun a ha b hb => ?_⟩
    rw [List.mem_singleton.mp hb]
    show _ ∨ topA S old + (List.replicate s (-1 : Int)).length < _
    rw [rl]
    exact off a ha
/-- the words that cells take -/
def sumW (C : List CeL) : Nat := (C.map fun c => c.ws.length + 1).sum
theorem sumW_app {C : List CeL} {c : CeL} : sumW (C ++ [c]) = sumW C + (c.ws.length + 1) := by
  unfold sumW
  rw [List.map_append, List.sum_append]
  rfl
/-- the words of the cell at a place -/
def wC (C : List CeL) (x : Int) : Int := match C.find? fun c => decide ((c.p : Int) = x) with
  | some c => (c.ws.length : Int) + 1
  | none => 0
theorem wC_mem {S C} (h : CelP S C) {c : CeL} (m : c ∈ C) : wC C c.p = (c.ws.length : Int) + 1 := by
  unfold wC
  cases e : C.find? fun a => decide ((a.p : Int) = c.p) with
  | none =>
    have := List.find?_eq_none.mp e c m
    exact absurd (decide_eq_true rfl) this
  | some a =>
    have h1 := List.find?_some e
    have h2 := List.mem_of_find?_eq_some e
    rw [decide_eq_true_eq] at h1
    rw [h.same_p h2 m (by omega)]
theorem wC_ge {C : List CeL} {x : Int} : 0 ≤ wC C x := by
  unfold wC
  split <;> omega
theorem wC_sum {S C} (h : CelP S C) : (((C.map fun c => (c.p : Int))).map (wC C)).sum = (sumW C : Int) := by
  have : ∀ D : List CeL, (∀ c ∈ D, c ∈ C) → ((D.map fun c => (c.p : Int)).map (wC C)).sum = (sumW D : Int) := by
    intro D
    induction D with
    | nil => intro _; rfl
    | cons c r ih =>
      intro hm
      have e : sumW (c :: r) = (c.ws.length + 1) + sumW r := rfl
      rw [List.map_cons, List.map_cons, List.sum_cons, ih (fun c m => hm c (List.mem_cons_of_mem _ m)), wC_mem h (hm c List.mem_cons_self), e]
      omega
  exact this C fun c m => m
theorem sum_ge {w : Int → Int} (h : ∀ x, 0 ≤ w x) : ∀ xs : List Int, 0 ≤ (xs.map w).sum
  | [] => Int.le_refl _
  | x :: r => by
    rw [List.map_cons, List.sum_cons]
    have := sum_ge h r
    have := h x
    omega
theorem sum_perm {xs ys : List Int} (h : xs.Perm ys) : xs.sum = ys.sum := by
  induction h with
  | nil => rfl
  | cons x _ ih => rw [List.sum_cons, List.sum_cons, ih]
  | swap x y l => rw [List.sum_cons, List.sum_cons, List.sum_cons, List.sum_cons]; omega
  | trans _ _ h1 h2 => exact h1.trans h2
/-! ## dicts of numbers -/
def kvI (ps : List (Int × Int)) : List (Key × V) := ps.map fun p => (.inl p.1, .int p.2)
theorem kvI_none {ps : List (Int × Int)} {n : Int} (h : ∀ p ∈ ps, p.1 ≠ n) : valV (kvI ps) (.inl n : Key) = none := by
  induction ps with
  | nil => rfl
  | cons p r ih =>
    have e2 : ¬ ((.inl p.1 : Key) = .inl n) := fun z => h p (List.mem_cons_self) (Sum.inl.inj z)
    exact (valV_neg (p := ((.inl p.1 : Key), V.int p.2)) (r := kvI r) e2).trans (ih fun c m => h c (List.mem_cons_of_mem _ m))
theorem kvI_some {ps : List (Int × Int)} {p : Int × Int} (nd : ps.Pairwise fun a b => a.1 ≠ b.1) (h : p ∈ ps) : valV (kvI ps) (.inl p.1 : Key) = some (.int p.2) := by
  induction ps with
  | nil => exact (List.not_mem_nil h).elim
  | cons a r ih =>
    obtain ⟨n1, n2⟩ := List.pairwise_cons.mp nd
    rcases List.mem_cons.mp h with rfl | h
    · exact valV_pos rfl
    · have e2 : ¬ ((.inl a.1 : Key) = .inl p.1) := fun z => n1 p h (Sum.inl.inj z)
      exact (valV_neg (p := ((.inl a.1 : Key), V.int a.2)) (r := kvI r) e2).trans (ih n2 h)
theorem kvI_put {ps : List (Int × Int)} {p : Int × Int} (h : ∀ a ∈ ps, a.1 ≠ p.1) : putK (kvI ps) (.inl p.1 : Key) (.int p.2) = kvI (ps ++ [p]) := by
  unfold putK
  rw [valV_any, kvI_none h]
  show kvI ps ++ [(.inl p.1, .int p.2)] = _
  unfold kvI
  rw [List.map_append]
  rfl
theorem kvI_len {ps : List (Int × Int)} : (kvI ps).length = ps.length := List.length_map ..
theorem kvI_flat {ps : List (Int × Int)} : ∀ p ∈ kvI ps, flatB p.2 = true := fun p m => by
  obtain ⟨q, -, rfl⟩ := List.mem_map.mp m
  rfl
theorem kvI_nd {ps : List (Int × Int)} (nd : (ps.map (·.1)).Nodup) : ((kvI ps).map (·.1)).Nodup := by
  have e : (kvI ps).map (·.1) = (ps.map (·.1)).map (fun n => (.inl n : Key)) := by
    unfold kvI
    rw [List.map_map, List.map_map]
    rfl
  rw [e]
  exact List.Pairwise.map _ (fun a b h z => h (Sum.inl.inj z)) nd
theorem kvI_pw {ps : List (Int × Int)} (nd : (ps.map (·.1)).Nodup) : ps.Pairwise fun a b => a.1 ≠ b.1 := List.pairwise_map.mp nd
/-! ## where cells go -/
def goL (w : Int → Int) : Int → List Int → List (Int × Int)
  | _, [] => []
  | t, a :: r => (a, t) :: goL w (t + w a) r
theorem goL_fst {w : Int → Int} : ∀ {xs : List Int} {t : Int}, (goL w t xs).map (·.1) = xs
  | [], _ => rfl
  | a :: r, t => by
    show a :: (goL w (t + w a) r).map (·.1) = _
    rw [goL_fst]
theorem goL_app {w : Int → Int} {a : Int} : ∀ {xs : List Int} {t : Int}, goL w t (xs ++ [a]) = goL w t xs ++ [(a, t + (xs.map w).sum)]
  | [], t => by
    show [(a, t)] = [(a, t + 0)]
    rw [Int.add_zero]
  | b :: r, t => by
    show (b, t) :: goL w (t + w b) (r ++ [a]) = (b, t) :: (goL w (t + w b) r ++ [_])
    rw [goL_app, List.map_cons, List.sum_cons, Int.add_assoc]
theorem goL_len {w : Int → Int} {xs : List Int} {t : Int} : (goL w t xs).length = xs.length := by
  have := congrArg List.length (goL_fst (w := w) (xs := xs) (t := t))
  rwa [List.length_map] at this
theorem goL_at {w : Int → Int} : ∀ {xs : List Int} {t : Int} {i : Nat} {a : Int}, xs[i]? = some a → (a, t + ((xs.take i).map w).sum) ∈ goL w t xs
  | [], _, _, _, e => by cases e
  | b :: r, t, 0, a, e => by
    cases e
    rw [List.take_zero]
    show (b, t + 0) ∈ (b, t) :: _
    rw [Int.add_zero]
    exact List.mem_cons_self
  | b :: r, t, i + 1, a, e => by
    have e : r[i]? = some a := e
    have := goL_at (w := w) (t := t + w b) e
    rw [List.take_succ_cons, List.map_cons, List.sum_cons, ← Int.add_assoc]
    exact List.mem_cons_of_mem _ this
theorem go_le {w : Int → Int} : ∀ {xs : List Int} {t : Int} {i : Nat} {a : Int}, (xs.Pairwise fun a b => a + w a ≤ b) → (∀ x ∈ xs, t ≤ x) → xs[i]? = some a → t + ((xs.take i).map w).sum ≤ a
  | [], _, _, _, _, _, e => by cases e
  | b :: r, t, 0, a, _, h, e => by
    cases e
    rw [List.take_zero]
    show t + 0 ≤ b
    have := h b List.mem_cons_self
    omega
  | b :: r, t, i + 1, a, pw, h, e => by
    have e : r[i]? = some a := e
    obtain ⟨p1, p2⟩ := List.pairwise_cons.mp pw
    rw [List.take_succ_cons, List.map_cons, List.sum_cons, ← Int.add_assoc]
    refine go_le p2 (fun x m => ?_) e
    have := p1 x m
    have := h b List.mem_cons_self
    omega
/-- places of cells, rising -/
theorem CelP.rise {S C} (h : CelP S C) {xs : List Int} (so : xs.Pairwise (· ≤ ·)) (nd : xs.Nodup) (hm : ∀ x ∈ xs, ∃ c ∈ C, x = (c.p : Int)) : xs.Pairwise fun a b => a + wC C a ≤ b := by
  have pq : xs.Pairwise fun a b => a ≤ b ∧ a ≠ b := List.pairwise_and_iff.mpr ⟨so, nd⟩
  refine List.Pairwise.imp_of_mem (fun {a b} ma mb q => ?_) pq
  obtain ⟨c, mc, rfl⟩ := hm a ma
  obtain ⟨d, md, rfl⟩ := hm b mb
  rw [wC_mem h mc]
  have ne : c ≠ d := fun z => q.2 (by rw [z])
  have := h.apart mc md ne
  omega

local macro_rules | `(tactic| walk_at "w3") => `(tactic| try simp only [↓x_var0, ↓x_varS, ↓x_c, ↓x_op, ↓x_un, ↓x_cb, ↓x_nil, ↓x_cons, ↓x_test, ↓x_b, ↓x_ex, ↓x_and, ↓x_or, ↓x_not, ↓x_andV, ↓x_orV, ↓x_notV, ↓x_tif, ↓x_chain, ↓x_menu, ↓x_menuI, ↓x_lst, ↓x_tup, ↓x_dnew, ↓x_callW, ↓x_callN, ↓x_seq, ↓x_next, ↓x_ret, ↓x_retN, ↓x_drop, ↓x_ifS, ↓x_asg, ↓x_name, ↓x_raise, ↓x_fld, ↓x_setF, ↓x_meth, ↓x_make, ↓x_sub, ↓r_min, ↓r_max, ↓x_yes, ↓x_for, ↓x_lock, ↓x_keys, ↓x_cut, ↓x_lc, ↓x_rng1, ↓x_rng2, ↓x_lst1, ↓x_itup, ↓x_rng3, ↓x_three, ↓x_lstg, ↓x_tupg, ↓x_adrS, ↓x_one, ↓x_two, ↓x_adr, ↓x_sl, ↓x_np, ↓x_pt, ↓x_int, ↓x_bm, ↓x_bm0, ↓x_consg, ↓x_nilg, ↓x_dget2, ↓x_dget1, ↓x_dgetN, ↓x_dget, ↓x_din, ↓x_dni, ↓x_dput, ↓x_dpop2, ↓r_isB, ↓r_notB, ↓x_enum, ↓x_zip, ↓x_str, ↓x_strE, ↓r_inS, ↓r_ninS, wipe, List.map_cons, List.map_nil, ↓x_isT, ↓r_isiII, ↓r_isiBB, ↓r_isiIB, ↓r_isiSS, ↓r_neNS, ↓r_neSN, ↓r_neNN, ↓r_eqNS, ↓r_eqSN, ↓r_eqNN, ↓r_eqIS, ↓r_neIS, ↓r_neSI, ↓r_neBS, ↓r_eqBB, ↓r_neBB, ↓x_start, ↓x_K, ↓x_start0, ↓r_i0, ↓r_i, ↓r_u, ↓r_addI, ↓r_addS, ↓r_mulI, ↓r_mulS, ↓r_eqI, ↓r_neI, ↓r_eqS, ↓r_neS, ↓r_absI, ↓r_intI, ↓r_intB, List.length_cons, List.length_nil, List.replicate, List.set_cons_zero, List.set_cons_succ, decide_eq_true_eq, Bool.not_eq_true', decide_eq_false_iff_not, if_true, if_false, Bool.false_eq_true, Bool.true_eq_false, ite_true, ite_false, Bool.not_true, Bool.not_false, c_div, n_ten, c_pow, not_true_eq_false, not_false_eq_true, decide_true, decide_false, true_and, and_true, and_self, true_or, or_true, Int.reduceLT, Int.reduceLE, Int.reduceMul, Int.reduceAdd, Int.reduceSub, Int.reducePow, Int.reduceNeg, Int.reduceDiv, Int.reduceMod, Nat.reducePow, Int.reduceToNat, Int.reduceEq, Int.reduceNe, Nat.reduceLT, Nat.reduceLeDiff, Nat.reduceAdd, ↓x_whole, ↓x_kind, Int.natCast_one])
theorem CelP.age {S C} (h : CelP S C) {c : CeL} {a : Nat} (m : c ∈ C) (hl : c.p < S.ws.length) (ha : a ≤ 2) (h8 : c.ws.length ≤ 8) : CelP { S with ws := S.ws.set c.p (2 * ((4 * c.ws.length + a : Nat) : Int)) } C := by
  refine ⟨fun d md => ?_, fun d md j hj => ?_, h.ar, h.dj⟩
  · show ∃ a', a' ≤ 2 ∧ headAt ((S.ws.set c.p _).getD d.p 0) = _
    rw [getD_set hl]
    by_cases e : c.p = d.p
    · have := h.same_p m md e
      subst this
      rw [if_pos rfl]
      refine ⟨a, ha, ?_⟩
      unfold headAt
      rw [word_num (by omega)]
      dsimp only
      rw [if_pos (by omega), Int.toNat_natCast]
    · rw [if_neg e]
      exact h.hd d md
  · show (S.ws.set c.p _).getD (d.p + 1 + j) 0 = _
    rw [getD_set hl, if_neg ?_]
    · exact h.sl d md j hj
    · intro e
      by_cases e2 : c = d
      · subst e2
        omega
      · have := h.apart m md e2
        omega
theorem setC_mem {C : List CeL} {p j : Nat} {n : Int} {b : CeL} (m : b ∈ setC C p j n) : ∃ a ∈ C, b.p = a.p ∧ b.r = a.r ∧ b.ws.length = a.ws.length ∧ ((a.p = p ∧ b.ws = a.ws.set j n) ∨ (a.p ≠ p ∧ b = a)) := by
  obtain ⟨a, ma, rfl⟩ := List.mem_map.mp m
  by_cases e : a.p = p
  · rw [if_pos e]
    exact ⟨a, ma, rfl, rfl, List.length_set .., .inl ⟨e, rfl⟩⟩
  · rw [if_neg e]
    exact ⟨a, ma, rfl, rfl, rfl, .inr ⟨e, rfl⟩⟩
theorem setC_p {C : List CeL} {p j : Nat} {n : Int} : (setC C p j n).map (fun c => (c.p : Int)) = C.map fun c => (c.p : Int) := by
  unfold setC
  rw [List.map_map]
  congr 1
  funext c
  show ((if c.p = p then { c with ws := c.ws.set j n } else c).p : Int) = c.p
  split <;> rfl
theorem setC_len {C : List CeL} {p j : Nat} {n : Int} : (setC C p j n).length = C.length := List.length_map ..
theorem setC_at {C : List CeL} {p j i : Nat} {n : Int} {c : CeL} (h : C[i]? = some c) : ∃ d, (setC C p j n)[i]? = some d ∧ d.p = c.p ∧ d.ws.length = c.ws.length := by
  unfold setC
  rw [List.getElem?_map, h]
  refine ⟨_, rfl, ?_, ?_⟩
  · show (if c.p = p then { c with ws := c.ws.set j n } else c).p = c.p
    split <;> rfl
  · show (if c.p = p then { c with ws := c.ws.set j n } else c).ws.length = c.ws.length
    split
    · exact List.length_set ..
    · rfl
theorem CelP.put {S C} {c : CeL} {j : Nat} {n : Int} (h : CelP S C) (m : c ∈ C) (hj : j < c.ws.length) (hl : c.p + c.ws.length < S.ws.length) : CelP { S with ws := S.ws.set (c.p + 1 + j) n } (setC C c.p j n) := by
  have ap : ∀ a ∈ C, a.p ≠ c.p → a.p + a.ws.length < c.p ∨ c.p + c.ws.length < a.p := fun a ma ne => h.apart ma m fun z => ne (by rw [z])
  refine ⟨fun b mb => ?_, fun b mb i hi => ?_, fun b mb => ?_, ?_⟩
  · obtain ⟨a, ma, e1, e2, e3, e4⟩ := setC_mem mb
    show ∃ a', a' ≤ 2 ∧ headAt ((S.ws.set _ n).getD b.p 0) = _
    rw [e1, e3, getD_set (by omega), if_neg ?_]
    · exact h.hd a ma
    · rcases e4 with ⟨e4, -⟩ | ⟨ne, -⟩
      · omega
      · have := ap a ma ne
        omega
  · obtain ⟨a, ma, e1, e2, e3, e4⟩ := setC_mem mb
    show (S.ws.set _ n).getD (b.p + 1 + i) 0 = _
    rcases e4 with ⟨e4, e5⟩ | ⟨ne, rfl⟩
    · have := h.same_p ma m e4
      subst this
      rw [e3] at hi
      rw [e1, e5, getD_set (by omega), getD_set hj]
      by_cases e : j = i
      · subst e
        rw [if_pos rfl, if_pos rfl]
      · rw [if_neg (by omega), if_neg e]
        exact h.sl a ma i hi
    · have := ap b ma ne
      rw [getD_set (by omega), if_neg (by omega)]
      exact h.sl b ma i hi
  · obtain ⟨a, ma, e1, e2, e3, e4⟩ := setC_mem mb
    show b.p + b.ws.length < S.ot ∨ S.b S.fl ≤ b.p ∧ b.p + b.ws.length < S.t S.fl
    rw [e1, e3]
    exact h.ar a ma
  · unfold setC
    refine List.pairwise_map.mpr (h.dj.imp fun {a b} q => ?_)
    have f : ∀ x : CeL, (if x.p = c.p then { x with ws := x.ws.set j n } else x).p = x.p ∧ (if x.p = c.p then { x with ws := x.ws.set j n } else x).ws.length = x.ws.length := fun x => by
      split
      · exact ⟨rfl, List.length_set ..⟩
      · exact ⟨rfl, rfl⟩
    rw [(f a).1, (f a).2, (f b).1, (f b).2]
    exact q
/-- slots of a cell, the first t of them, that are due in the book -/
def dueC (n : Nat) (c : CeL) (t : Nat) : List Int := (List.range t).filterMap fun s => if 2 * (c.p : Int) + 1 < 2 * (n : Int) ∧ c.ws.getD s 0 % 2 = 1 ∧ 2 * (n : Int) < c.ws.getD s 0 then some ((c.p + 1 + s : Nat) : Int) else none
theorem dueC_succ {n : Nat} {c : CeL} {t : Nat} : dueC n c (t + 1) = dueC n c t ++ (if 2 * (c.p : Int) + 1 < 2 * (n : Int) ∧ c.ws.getD t 0 % 2 = 1 ∧ 2 * (n : Int) < c.ws.getD t 0 then [((c.p + 1 + t : Nat) : Int)] else []) := by
  unfold dueC
  rw [List.range_succ, List.filterMap_append]
  congr 1
  rw [List.filterMap_cons, List.filterMap_nil]
  by_cases h : 2 * (c.p : Int) + 1 < 2 * (n : Int) ∧ c.ws.getD t 0 % 2 = 1 ∧ 2 * (n : Int) < c.ws.getD t 0
  · rw [if_pos h, if_pos h]
  · rw [if_neg h, if_neg h]
def dueL (n : Nat) (C : List CeL) : List Int := C.flatMap fun c => dueC n c c.ws.length
theorem mem_dueC {n : Nat} {c : CeL} {t : Nat} {x : Int} : x ∈ dueC n c t ↔ ∃ s, s < t ∧ x = ((c.p + 1 + s : Nat) : Int) ∧ 2 * (c.p : Int) + 1 < 2 * (n : Int) ∧ c.ws.getD s 0 % 2 = 1 ∧ 2 * (n : Int) < c.ws.getD s 0 := by
  unfold dueC
  rw [List.mem_filterMap]
  constructor
  · rintro ⟨s, hs, e⟩
    split at e
    · cases e
      exact ⟨s, List.mem_range.mp hs, rfl, by assumption⟩
    · cases e
  · rintro ⟨s, hs, rfl, h⟩
    exact ⟨s, List.mem_range.mpr hs, by rw [if_pos h]⟩
theorem dueC_nd {n : Nat} {c : CeL} : ∀ {t : Nat}, (dueC n c t).Nodup
  | 0 => List.nodup_nil
  | t + 1 => by
    rw [dueC_succ]
    refine List.nodup_append.mpr ⟨dueC_nd, by split <;> simp, fun a ha b hb e => ?_⟩
    obtain ⟨s, hs, rfl, -⟩ := mem_dueC.mp ha
    split at hb
    · rw [List.mem_singleton.mp hb] at e
      omega
    · exact (List.not_mem_nil hb).elim
theorem dueC_len {n : Nat} {c : CeL} {t : Nat} : (dueC n c t).length ≤ t := by
  have := List.length_filterMap_le (fun s => if 2 * (c.p : Int) + 1 < 2 * (n : Int) ∧ c.ws.getD s 0 % 2 = 1 ∧ 2 * (n : Int) < c.ws.getD s 0 then some ((c.p + 1 + s : Nat) : Int) else none) (List.range t)
  rw [List.length_range] at this
  exact this
theorem mem_dueL {n : Nat} {C : List CeL} {x : Int} : x ∈ dueL n C ↔ ∃ c ∈ C, ∃ s, s < c.ws.length ∧ x = ((c.p + 1 + s : Nat) : Int) ∧ 2 * (c.p : Int) + 1 < 2 * (n : Int) ∧ c.ws.getD s 0 % 2 = 1 ∧ 2 * (n : Int) < c.ws.getD s 0 := by
  unfold dueL
  rw [List.mem_flatMap]
  exact ⟨fun ⟨c, m, h⟩ => ⟨c, m, mem_dueC.mp h⟩, fun ⟨c, m, h⟩ => ⟨c, m, mem_dueC.mpr h⟩⟩
theorem dueL_nd {n : Nat} {C : List CeL} (h : C.Pairwise fun a b => a.p + a.ws.length < b.p ∨ b.p + b.ws.length < a.p) : (dueL n C).Nodup := by
  induction C with
  | nil => exact List.nodup_nil
  | cons c r ih =>
    obtain ⟨h1, h2⟩ := List.pairwise_cons.mp h
    show (dueC n c c.ws.length ++ dueL n r).Nodup
    refine List.nodup_append.mpr ⟨dueC_nd, ih h2, fun a ha b hb e => ?_⟩
    obtain ⟨s, hs, rfl, -⟩ := mem_dueC.mp ha
    obtain ⟨d, md, s', hs', rfl, -⟩ := mem_dueL.mp hb
    have := h1 d md
    omega
theorem dueL_take {n : Nat} {C : List CeL} {i : Nat} {c : CeL} (h : C[i]? = some c) : dueL n (C.take (i + 1)) = dueL n (C.take i) ++ dueC n c c.ws.length := by
  have hi := (List.getElem?_eq_some_iff.mp h)
  obtain ⟨hl, he⟩ := hi
  rw [List.take_succ_eq_append_getElem hl]
  unfold dueL
  rw [List.flatMap_append, he]
  simp
theorem dueL_len {n : Nat} {C : List CeL} (h : ∀ c ∈ C, c.ws.length ≤ 8) : (dueL n C).length ≤ 8 * C.length := by
  induction C with
  | nil => exact Nat.le_refl _
  | cons c r ih =>
    show (dueC n c c.ws.length ++ dueL n r).length ≤ _
    rw [List.length_append, List.length_cons]
    have := dueC_len (n := n) (c := c) (t := c.ws.length)
    have := h c (List.mem_cons_self)
    have := ih fun c m => h c (List.mem_cons_of_mem _ m)
    omega
theorem rep_flat {n : Nat} : (List.replicate n [V.int (-1)]).flatten = (List.replicate n (-1 : Int)).map V.int := by
  induction n with
  | zero => rfl
  | succ n ih => rw [List.replicate_succ, List.flatten_cons, ih, List.replicate_succ]; rfl
theorem due_set {S C} (h : CelP S C) {c : CeL} {s : Nat} {w : Int} {n : Nat} (m : c ∈ C) (hs : s < c.ws.length) {x : Int} : x ∈ dueL n (setC C c.p s w) ↔ (x ∈ dueL n C ∧ x ≠ ((c.p + 1 + s : Nat) : Int)) ∨ (x = ((c.p + 1 + s : Nat) : Int) ∧ 2 * (c.p : Int) + 1 < 2 * (n : Int) ∧ w % 2 = 1 ∧ 2 * (n : Int) < w) := by
  constructor
  · intro hx
    obtain ⟨b, mb, s', hs', rfl, h1, h2, h3⟩ := mem_dueL.mp hx
    obtain ⟨a, ma, rfl⟩ := List.mem_map.mp mb
    by_cases e : a.p = c.p
    · have ea := h.same_p ma m e
      subst ea
      rw [if_pos rfl] at hs' h1 h2 h3 ⊢
      dsimp only at hs' h1 h2 h3 ⊢
      rw [List.length_set] at hs'
      rw [getD_set hs] at h2 h3
      by_cases e2 : s = s'
      · subst e2
        rw [if_pos rfl] at h2 h3
        exact .inr ⟨rfl, h1, h2, h3⟩
      · rw [if_neg e2] at h2 h3
        exact .inl ⟨mem_dueL.mpr ⟨a, ma, s', hs', rfl, h1, h2, h3⟩, by omega⟩
    · rw [if_neg e] at hs' h1 h2 h3 ⊢
      have := h.apart ma m (fun z => e (by rw [z]))
      exact .inl ⟨mem_dueL.mpr ⟨a, ma, s', hs', rfl, h1, h2, h3⟩, by omega⟩
  · rintro (⟨hx, ne⟩ | ⟨rfl, h1, h2, h3⟩)
    · obtain ⟨a, ma, s', hs', rfl, h1, h2, h3⟩ := mem_dueL.mp hx
      refine mem_dueL.mpr ⟨_, List.mem_map.mpr ⟨a, ma, rfl⟩, s', ?_⟩
      by_cases e : a.p = c.p
      · have ea := h.same_p ma m e
        subst ea
        rw [if_pos rfl]
        dsimp only
        rw [List.length_set, getD_set hs, if_neg (by omega)]
        exact ⟨hs', rfl, h1, h2, h3⟩
      · rw [if_neg e]
        exact ⟨hs', rfl, h1, h2, h3⟩
    · refine mem_dueL.mpr ⟨_, List.mem_map.mpr ⟨c, m, rfl⟩, s, ?_⟩
      rw [if_pos rfl]
      dsimp only
      rw [List.length_set, getD_set hs, if_pos rfl]
      exact ⟨hs, rfl, h1, h2, h3⟩
theorem due_lay {n : Nat} {C : List CeL} {p s : Nat} {r : Addr} {x : Int} : x ∈ dueL n (C ++ [⟨p, r, List.replicate s (-1)⟩]) ↔ x ∈ dueL n C := by
  constructor
  · intro hx
    obtain ⟨c, m, s', hs', rfl, h1, h2, h3⟩ := mem_dueL.mp hx
    rcases List.mem_append.mp m with m | m
    · exact mem_dueL.mpr ⟨c, m, s', hs', rfl, h1, h2, h3⟩
    · rw [List.mem_singleton.mp m] at hs' h3
      dsimp only at hs' h3
      rw [List.length_replicate] at hs'
      rw [List.getD_eq_getElem?_getD, List.getElem?_replicate, if_pos hs'] at h3
      have h3 : 2 * (n : Int) < -1 := h3
      omega
  · intro hx
    obtain ⟨c, m, h⟩ := mem_dueL.mp hx
    exact mem_dueL.mpr ⟨c, List.mem_append_left _ m, h⟩
theorem wd_odd {w : Int} {x : Wd} (h : wordOf w = some x) (n : ∀ p, x ≠ .place p) : ¬ (w % 2 = 1 ∧ 0 < w) := by
  unfold wordOf at h
  repeat' split at h
  all_goals first
    | (cases h; done)
    | (cases h; omega)
    | (cases h; exact absurd rfl (n _))
theorem old_is {S : ArS} {C : List CeL} (h : CelP S C) (fl : S.fl = false) (lo : S.ot ≤ S.n) {c : CeL} (m : c ∈ C) : areaW S c.p = .str "old" ↔ c.p < S.n := by
  have a := h.ar c m
  have eb : S.b S.fl = S.n := by unfold ArS.b; rw [fl]; rfl
  unfold areaW
  constructor
  · intro e
    split at e
    · omega
    · split at e <;> cases e
  · intro l
    rw [if_pos (by omega)]

/-! ## going over places -/
def addN (acc xs : List Int) : List Int := xs.foldl (fun a x => if x ∈ a then a else a ++ [x]) acc
theorem addN_nil {a : List Int} : addN a [] = a := rfl
theorem addN_cons {a xs : List Int} {x : Int} : addN a (x :: xs) = addN (if x ∈ a then a else a ++ [x]) xs := rfl
theorem addN_app {a xs ys : List Int} : addN a (xs ++ ys) = addN (addN a xs) ys := List.foldl_append ..
theorem addN_snoc {a xs : List Int} {x : Int} : addN a (xs ++ [x]) = if x ∈ addN a xs then addN a xs else addN a xs ++ [x] := by
  rw [addN_app]
  rfl
theorem addN_pre : ∀ {xs a : List Int}, ∃ t, addN a xs = a ++ t
  | [], a => ⟨[], (List.append_nil a).symm⟩
  | x :: r, a => by
    rw [addN_cons]
    split
    · exact addN_pre
    · obtain ⟨t, e⟩ := addN_pre (xs := r) (a := a ++ [x])
      exact ⟨x :: t, by rw [e, List.append_assoc]; rfl⟩
theorem addN_nd : ∀ {xs a : List Int}, a.Nodup → (addN a xs).Nodup
  | [], _, h => h
  | x :: r, a, h => by
    rw [addN_cons]
    split
    · exact addN_nd h
    · rename_i n
      refine addN_nd (List.nodup_append.mpr ⟨h, List.nodup_cons.mpr ⟨List.not_mem_nil, List.nodup_nil⟩, fun u hu v hv e => ?_⟩)
      rw [List.mem_singleton.mp hv] at e
      exact n (e ▸ hu)
theorem addN_mem : ∀ {xs a : List Int} {y : Int}, y ∈ addN a xs → y ∈ a ∨ y ∈ xs
  | [], _, _, h => .inl h
  | x :: r, a, y, h => by
    rw [addN_cons] at h
    split at h
    · rcases addN_mem h with h | h
      · exact .inl h
      · exact .inr (List.mem_cons_of_mem _ h)
    · rcases addN_mem h with h | h
      · rcases List.mem_append.mp h with h | h
        · exact .inl h
        · exact .inr (by rw [List.mem_singleton.mp h]; exact List.mem_cons_self)
      · exact .inr (List.mem_cons_of_mem _ h)
def reachR (kids : Int → List Int) : Nat → List Int → Nat → List Int
  | 0, f, _ => f
  | k + 1, f, t => if t < f.length then reachR kids k (addN f (kids (f.getD t 0))) (t + 1) else f
theorem reachR_end {kids : Int → List Int} {k : Nat} {f : List Int} {t : Nat} (h : f.length ≤ t) : reachR kids k f t = f := by
  cases k with
  | zero => rfl
  | succ k => exact if_neg (by omega)
theorem reachR_step {kids : Int → List Int} {k : Nat} {f : List Int} {t : Nat} (h : t < f.length) : reachR kids (k + 1) f t = reachR kids k (addN f (kids (f.getD t 0))) (t + 1) := if_pos h
/-- how many places can be come to -/
theorem nd_len {f U : List Int} (nd : f.Nodup) (h : ∀ x ∈ f, x ∈ U) : f.length ≤ U.length := by
  induction f generalizing U with
  | nil => exact Nat.zero_le _
  | cons x r ih =>
    obtain ⟨n1, n2⟩ := List.nodup_cons.mp nd
    have hx := h x List.mem_cons_self
    have := ih (U := U.erase x) n2 fun y m => (List.mem_erase_of_ne (fun (z : y = x) => n1 (by rw [← z]; exact m))).mpr (h y (List.mem_cons_of_mem _ m))
    rw [List.length_erase_of_mem hx] at this
    have := List.length_pos_of_mem hx
    rw [List.length_cons]
    omega
theorem reach_in {kids : Int → List Int} {U : List Int} (hk : ∀ x ∈ U, ∀ y ∈ kids x, y ∈ U) : ∀ {k : Nat} {f : List Int} {t : Nat}, (∀ x ∈ f, x ∈ U) → ∀ x ∈ reachR kids k f t, x ∈ U
  | 0, _, _, h => h
  | k + 1, f, t, h => by
    unfold reachR
    split
    · rename_i ht
      refine reach_in hk fun x m => ?_
      rcases addN_mem m with m | m
      · exact h x m
      · refine hk _ (h _ (List.mem_of_getElem? (i := t) ?_)) x m
        rw [List.getD_eq_getElem?_getD, List.getElem?_eq_getElem ht]
        rfl
    · exact h
theorem reach_nd {kids : Int → List Int} : ∀ {k : Nat} {f : List Int} {t : Nat}, f.Nodup → (reachR kids k f t).Nodup
  | 0, _, _, h => h
  | k + 1, f, t, h => by
    unfold reachR
    split
    · exact reach_nd (addN_nd h)
    · exact h
/-- the places in a row of words -/
def placeIn (w : Int) : Option Int := if 0 < w ∧ w % 2 = 1 then some (w / 2) else none
def kidsL (ws : List Int) : List Int := ws.filterMap placeIn
theorem wd_place {w : Int} {x : Wd} (h : wordOf w = some x) : placeIn w = match x with | .place p => some p | _ => none := by
  unfold wordOf at h
  unfold placeIn
  repeat' split at h
  all_goals first
    | (cases h; done)
    | (cases h; rw [if_neg (by omega)]; done)
    | (cases h; rw [if_pos (by omega)]; done)
theorem kidsT_row {ws row : List Int} {i : Nat} (hv : ∀ w ∈ row, (wordOf w).isSome = true) (h : ∀ j, j < row.length → ws.getD (i + 1 + j) 0 = row.getD j 0) : ∀ {t : Nat}, t ≤ row.length → kidsT ws i t = kidsL (row.take t)
  | 0, _ => by rw [List.take_zero]; rfl
  | t + 1, ht => by
    have ht' : t < row.length := ht
    have eg : row.getD t 0 = row[t] := by rw [List.getD_eq_getElem?_getD, List.getElem?_eq_getElem ht']; rfl
    rw [kidsT_succ, kidsT_row hv h (Nat.le_of_lt ht'), h t ht', List.take_succ_eq_append_getElem ht', eg]
    unfold kidsL
    rw [List.filterMap_append]
    congr 1
    have := hv row[t] (List.getElem_mem ht')
    cases e : wordOf row[t] with
    | none => rw [e] at this; cases this
    | some x =>
      rw [List.filterMap_cons, List.filterMap_nil, wd_place e]
      cases x <;> rfl
/-- the places in the cell at a place -/
def kC (C : List CeL) (x : Int) : List Int := match C.find? fun c => decide ((c.p : Int) = x) with
  | some c => kidsL c.ws
  | none => []
theorem kC_mem {S C} (h : CelP S C) {c : CeL} (m : c ∈ C) : kC C c.p = kidsL c.ws := by
  unfold kC
  cases e : C.find? fun a => decide ((a.p : Int) = c.p) with
  | none =>
    have := List.find?_eq_none.mp e c m
    exact absurd (decide_eq_true rfl) this
  | some a =>
    have h1 := List.find?_some e
    have h2 := List.mem_of_find?_eq_some e
    rw [decide_eq_true_eq] at h1
    rw [h.same_p h2 m (by omega)]
def plcC (C : List CeL) : List Int := C.map fun c => (c.p : Int)
theorem kC_in {S C} (h : CelP S C) (hw : ∀ c ∈ C, ∀ w ∈ c.ws, ClW C w) : ∀ x ∈ plcC C, ∀ y ∈ kC C x, y ∈ plcC C := by
  intro x hx y hy
  obtain ⟨c, m, rfl⟩ := List.mem_map.mp hx
  rw [kC_mem h m] at hy
  obtain ⟨w, mw, e⟩ := List.mem_filterMap.mp hy
  obtain ⟨h1, h2⟩ := hw c m w mw
  cases e2 : wordOf w with
  | none => rw [e2] at h1; cases h1
  | some x =>
    rw [wd_place e2] at e
    cases x with
    | place p =>
      obtain ⟨d, md, ed⟩ := h2 p e2
      cases e
      exact List.mem_map.mpr ⟨d, md, ed.symm⟩
    | _ => cases e
def reachC (C : List CeL) (ks : List Int) : List Int := reachR (kC C) C.length (addN [] ks) 0
/-- a dict of places met -/
def kvT (ps : List Int) : List (Key × V) := ps.map fun i => (.inl i, .bl true)
theorem kvT_val {ps : List Int} {i : Int} : valV (kvT ps) (.inl i : Key) = if i ∈ ps then some (.bl true) else none := by
  induction ps with
  | nil => rfl
  | cons j r ih =>
    by_cases e : j = i
    · subst e
      rw [if_pos List.mem_cons_self]
      exact valV_pos rfl
    · have e2 : ¬ ((.inl j : Key) = .inl i) := fun z => e (Sum.inl.inj z)
      refine (valV_neg (p := ((.inl j : Key), V.bl true)) (r := kvT r) e2).trans (ih.trans ?_)
      simp only [List.mem_cons, show ¬ i = j from fun z => e z.symm, false_or]
theorem kvT_put {ps : List Int} {i : Int} (h : ¬ i ∈ ps) : putK (kvT ps) (.inl i : Key) (.bl true) = kvT (ps ++ [i]) := by
  unfold putK
  rw [valV_any, kvT_val, if_neg h]
  show kvT ps ++ [(.inl i, .bl true)] = _
  unfold kvT
  rw [List.map_append]
  rfl

local macro_rules | `(tactic| walk_at "w3") => `(tactic| try simp only [↓x_var0, ↓x_varS, ↓x_c, ↓x_op, ↓x_un, ↓x_cb, ↓x_nil, ↓x_cons, ↓x_test, ↓x_b, ↓x_ex, ↓x_and, ↓x_or, ↓x_not, ↓x_andV, ↓x_orV, ↓x_notV, ↓x_tif, ↓x_chain, ↓x_menu, ↓x_menuI, ↓x_lst, ↓x_tup, ↓x_dnew, ↓x_callW, ↓x_callN, ↓x_seq, ↓x_next, ↓x_ret, ↓x_retN, ↓x_drop, ↓x_ifS, ↓x_asg, ↓x_name, ↓x_raise, ↓x_fld, ↓x_setF, ↓x_meth, ↓x_make, ↓x_sub, ↓r_min, ↓r_max, ↓x_yes, ↓x_for, ↓x_lock, ↓x_keys, ↓x_cut, ↓x_lc, ↓x_rng1, ↓x_rng2, ↓x_lst1, ↓x_itup, ↓x_rng3, ↓x_three, ↓x_lstg, ↓x_tupg, ↓x_adrS, ↓x_one, ↓x_two, ↓x_adr, ↓x_sl, ↓x_np, ↓x_pt, ↓x_int, ↓x_bm, ↓x_bm0, ↓x_consg, ↓x_nilg, ↓x_dget2, ↓x_dget1, ↓x_dgetN, ↓x_dget, ↓x_din, ↓x_dni, ↓x_dput, ↓x_dpop2, ↓r_isB, ↓r_notB, ↓x_enum, ↓x_zip, ↓x_str, ↓x_strE, ↓r_inS, ↓r_ninS, wipe, List.map_cons, List.map_nil, ↓x_isT, ↓r_isiII, ↓r_isiBB, ↓r_isiIB, ↓r_isiSS, ↓r_neNS, ↓r_neSN, ↓r_neNN, ↓r_eqNS, ↓r_eqSN, ↓r_eqNN, ↓r_eqIS, ↓r_neIS, ↓r_neSI, ↓r_neBS, ↓r_eqBB, ↓r_neBB, ↓x_start, ↓x_K, ↓x_start0, ↓r_i0, ↓r_i, ↓r_u, ↓r_addI, ↓r_addS, ↓r_mulI, ↓r_mulS, ↓r_eqI, ↓r_neI, ↓r_eqS, ↓r_neS, ↓r_absI, ↓r_intI, ↓r_intB, List.length_cons, List.length_nil, List.replicate, List.set_cons_zero, List.set_cons_succ, decide_eq_true_eq, Bool.not_eq_true', decide_eq_false_iff_not, if_true, if_false, Bool.false_eq_true, Bool.true_eq_false, ite_true, ite_false, Bool.not_true, Bool.not_false, c_div, n_ten, c_pow, not_true_eq_false, not_false_eq_true, decide_true, decide_false, true_and, and_true, and_self, true_or, or_true, Int.reduceLT, Int.reduceLE, Int.reduceMul, Int.reduceAdd, Int.reduceSub, Int.reducePow, Int.reduceNeg, Int.reduceDiv, Int.reduceMod, Nat.reducePow, Int.reduceToNat, Int.reduceEq, Int.reduceNe, Nat.reduceLT, Nat.reduceLeDiff, Nat.reduceAdd, ↓x_whole, ↓x_kind, Int.natCast_one])
/-! ## what a copy does -/
theorem cpT_at {ws : List Int} {i j : Nat} : ∀ {t u : Nat}, j + t ≤ ws.length → (cpT ws i j t).getD u 0 = if j ≤ u ∧ u < j + t then ws.getD (i + (u - j)) 0 else ws.getD u 0
  | 0, u, _ => by rw [if_neg (by omega)]; rfl
  | t + 1, u, h => by
    rw [cpT_succ, getD_set (by rw [cpT_len]; omega), cpT_at (t := t) (by omega)]
    by_cases e : j + t = u
    · rw [if_pos e, if_pos (by omega)]
      congr 1
      omega
    · rw [if_neg e]
      by_cases e2 : j ≤ u ∧ u < j + t
      · rw [if_pos e2, if_pos (by omega)]
      · rw [if_neg e2, if_neg (by omega)]
theorem cpT_vw {ws : List Int} (h : Vw ws) {i j : Nat} : ∀ {t : Nat}, i + t ≤ ws.length → Vw (cpT ws i j t)
  | 0, _ => h
  | t + 1, ht => by
    rw [cpT_succ]
    obtain ⟨w, e⟩ := h.get (show i + t < ws.length by omega)
    exact (cpT_vw h (by omega)).set (by rw [e]; rfl)

local macro_rules | `(tactic| walk_at "w3") => `(tactic| try simp only [↓x_var0, ↓x_varS, ↓x_c, ↓x_op, ↓x_un, ↓x_cb, ↓x_nil, ↓x_cons, ↓x_test, ↓x_b, ↓x_ex, ↓x_and, ↓x_or, ↓x_not, ↓x_andV, ↓x_orV, ↓x_notV, ↓x_tif, ↓x_chain, ↓x_menu, ↓x_menuI, ↓x_lst, ↓x_tup, ↓x_dnew, ↓x_callW, ↓x_callN, ↓x_seq, ↓x_next, ↓x_ret, ↓x_retN, ↓x_drop, ↓x_ifS, ↓x_asg, ↓x_name, ↓x_raise, ↓x_fld, ↓x_setF, ↓x_meth, ↓x_make, ↓x_sub, ↓r_min, ↓r_max, ↓x_yes, ↓x_for, ↓x_lock, ↓x_keys, ↓x_cut, ↓x_lc, ↓x_rng1, ↓x_rng2, ↓x_lst1, ↓x_itup, ↓x_rng3, ↓x_three, ↓x_lstg, ↓x_tupg, ↓x_adrS, ↓x_one, ↓x_two, ↓x_adr, ↓x_sl, ↓x_np, ↓x_pt, ↓x_int, ↓x_bm, ↓x_bm0, ↓x_consg, ↓x_nilg, ↓x_dget2, ↓x_dget1, ↓x_dgetN, ↓x_dget, ↓x_din, ↓x_dni, ↓x_dput, ↓x_dpop2, ↓r_isB, ↓r_notB, ↓x_enum, ↓x_zip, ↓x_str, ↓x_strE, ↓r_inS, ↓r_ninS, wipe, List.map_cons, List.map_nil, ↓x_isT, ↓r_isiII, ↓r_isiBB, ↓r_isiIB, ↓r_isiSS, ↓r_neNS, ↓r_neSN, ↓r_neNN, ↓r_eqNS, ↓r_eqSN, ↓r_eqNN, ↓r_eqIS, ↓r_neIS, ↓r_neSI, ↓r_neBS, ↓r_eqBB, ↓r_neBB, ↓x_start, ↓x_K, ↓x_start0, ↓r_i0, ↓r_i, ↓r_u, ↓r_addI, ↓r_addS, ↓r_mulI, ↓r_mulS, ↓r_eqI, ↓r_neI, ↓r_eqS, ↓r_neS, ↓r_absI, ↓r_intI, ↓r_intB, List.length_cons, List.length_nil, List.replicate, List.set_cons_zero, List.set_cons_succ, decide_eq_true_eq, Bool.not_eq_true', decide_eq_false_iff_not, if_true, if_false, Bool.false_eq_true, Bool.true_eq_false, ite_true, ite_false, Bool.not_true, Bool.not_false, c_div, n_ten, c_pow, not_true_eq_false, not_false_eq_true, decide_true, decide_false, true_and, and_true, and_self, true_or, or_true, Int.reduceLT, Int.reduceLE, Int.reduceMul, Int.reduceAdd, Int.reduceSub, Int.reducePow, Int.reduceNeg, Int.reduceDiv, Int.reduceMod, Nat.reducePow, Int.reduceToNat, Int.reduceEq, Int.reduceNe, Nat.reduceLT, Nat.reduceLeDiff, Nat.reduceAdd, ↓x_whole, ↓x_kind, Int.natCast_one, Int.natCast_one])

local macro_rules | `(tactic| walk_at "w3") => `(tactic| try simp only [↓x_var0, ↓x_varS, ↓x_c, ↓x_op, ↓x_un, ↓x_cb, ↓x_nil, ↓x_cons, ↓x_test, ↓x_b, ↓x_ex, ↓x_and, ↓x_or, ↓x_not, ↓x_andV, ↓x_orV, ↓x_notV, ↓x_tif, ↓x_chain, ↓x_menu, ↓x_menuI, ↓x_lst, ↓x_tup, ↓x_dnew, ↓x_callW, ↓x_callN, ↓x_seq, ↓x_next, ↓x_ret, ↓x_retN, ↓x_drop, ↓x_ifS, ↓x_asg, ↓x_name, ↓x_raise, ↓x_fld, ↓x_setF, ↓x_meth, ↓x_make, ↓x_sub, ↓r_min, ↓r_max, ↓x_yes, ↓x_for, ↓x_lock, ↓x_keys, ↓x_cut, ↓x_lc, ↓x_rng1, ↓x_rng2, ↓x_lst1, ↓x_itup, ↓x_rng3, ↓x_three, ↓x_lstg, ↓x_tupg, ↓x_adrS, ↓x_one, ↓x_two, ↓x_adr, ↓x_sl, ↓x_np, ↓x_pt, ↓x_int, ↓x_bm, ↓x_bm0, ↓x_consg, ↓x_nilg, ↓x_dget2, ↓x_dget1, ↓x_dgetN, ↓x_dget, ↓x_din, ↓x_dni, ↓x_dput, ↓x_dpop2, ↓r_isB, ↓r_notB, ↓x_enum, ↓x_zip, ↓x_str, ↓x_strE, ↓r_inS, ↓r_ninS, wipe, List.map_cons, List.map_nil, ↓x_isT, ↓r_isiII, ↓r_isiBB, ↓r_isiIB, ↓r_isiSS, ↓r_neNS, ↓r_neSN, ↓r_neNN, ↓r_eqNS, ↓r_eqSN, ↓r_eqNN, ↓r_eqIS, ↓r_neIS, ↓r_neSI, ↓r_neBS, ↓r_eqBB, ↓r_neBB, ↓x_start, ↓x_K, ↓x_start0, ↓r_i0, ↓r_i, ↓r_u, ↓r_addI, ↓r_addS, ↓r_mulI, ↓r_mulS, ↓r_eqI, ↓r_neI, ↓r_eqS, ↓r_neS, ↓r_absI, ↓r_intI, ↓r_intB, List.length_cons, List.length_nil, List.replicate, List.set_cons_zero, List.set_cons_succ, decide_eq_true_eq, Bool.not_eq_true', decide_eq_false_iff_not, if_true, if_false, Bool.false_eq_true, Bool.true_eq_false, ite_true, ite_false, Bool.not_true, Bool.not_false, c_div, n_ten, c_pow, not_true_eq_false, not_false_eq_true, decide_true, decide_false, true_and, and_true, and_self, true_or, or_true, Int.reduceLT, Int.reduceLE, Int.reduceMul, Int.reduceAdd, Int.reduceSub, Int.reducePow, Int.reduceNeg, Int.reduceDiv, Int.reduceMod, Nat.reducePow, Int.reduceToNat, Int.reduceEq, Int.reduceNe, Nat.reduceLT, Nat.reduceLeDiff, Nat.reduceAdd, ↓x_whole, ↓x_kind, Int.natCast_one, Int.natCast_one])
/-! ## what is come to: closed, and the least so -/
theorem addN_sub {xs a : List Int} {x : Int} (h : x ∈ a) : x ∈ addN a xs := by
  obtain ⟨t, e⟩ := addN_pre (xs := xs) (a := a)
  rw [e]
  exact List.mem_append_left _ h
theorem addN_all : ∀ {xs a : List Int} {x : Int}, x ∈ xs → x ∈ addN a xs
  | [], _, _, h => (List.not_mem_nil h).elim
  | y :: r, a, x, h => by
    rw [addN_cons]
    rcases List.mem_cons.mp h with rfl | h
    · split
      · rename_i c
        exact addN_sub c
      · exact addN_sub (List.mem_append_right _ (List.mem_singleton.mpr rfl))
    · exact addN_all h
theorem reach_sub {kids : Int → List Int} : ∀ {k : Nat} {f : List Int} {t : Nat} {x : Int}, x ∈ f → x ∈ reachR kids k f t
  | 0, _, _, _, h => h
  | k + 1, f, t, x, h => by
    unfold reachR
    split
    · exact reach_sub (addN_sub h)
    · exact h
theorem reach_closed {kids : Int → List Int} {U : List Int} (hk : ∀ x ∈ U, ∀ y ∈ kids x, y ∈ U) : ∀ {k : Nat} {f : List Int} {t : Nat}, f.Nodup → (∀ x ∈ f, x ∈ U) → U.length ≤ k + t → (∀ i, i < t → ∀ x, f[i]? = some x → ∀ y ∈ kids x, y ∈ f) →
    ∀ x ∈ reachR kids k f t, ∀ y ∈ kids x, y ∈ reachR kids k f t
  | 0, f, t, nd, hf, hl, hc => fun x m y my => by
    obtain ⟨i, ei⟩ := List.getElem?_of_mem m
    have h1 := (List.getElem?_eq_some_iff.mp ei).1
    have h2 : f.length ≤ U.length := nd_len nd hf
    have h1 : i < f.length := h1
    exact hc i (by omega) x ei y my
  | k + 1, f, t, nd, hf, hl, hc => by
    by_cases c : t < f.length
    · rw [reachR_step c]
      have et : f[t]? = some (f.getD t 0) := getD_at (d := 0) c
      refine reach_closed hk (addN_nd nd) (fun x m => ?_) (by omega) fun i hi x ei y my => ?_
      · rcases addN_mem m with m | m
        · exact hf x m
        · exact hk _ (hf _ (List.mem_of_getElem? et)) x m
      · obtain ⟨z, ez⟩ := addN_pre (xs := kids (f.getD t 0)) (a := f)
        have ei' : f[i]? = some x := by
          rw [ez, List.getElem?_append, if_pos (by omega)] at ei
          exact ei
        by_cases q : i = t
        · subst q
          rw [et] at ei'
          cases ei'
          exact addN_all my
        · exact addN_sub (hc i (by omega) x ei' y my)
    · rw [reachR_end (by omega)]
      intro x m y my
      obtain ⟨i, ei⟩ := List.getElem?_of_mem m
      have h1 := (List.getElem?_eq_some_iff.mp ei).1
      exact hc i (by omega) x ei y my
theorem reach_min {kids : Int → List Int} {p : Int → Prop} (hk : ∀ x, p x → ∀ y ∈ kids x, p y) : ∀ {k : Nat} {f : List Int} {t : Nat}, (∀ x ∈ f, p x) → ∀ x ∈ reachR kids k f t, p x
  | 0, _, _, h => h
  | k + 1, f, t, h => by
    unfold reachR
    split
    · rename_i c
      refine reach_min hk fun x m => ?_
      rcases addN_mem m with m | m
      · exact h x m
      · exact hk _ (h _ (List.mem_of_getElem? (getD_at (d := 0) c))) x m
    · exact h
/-- the cells come to -/
structure ReC (C : List CeL) (ks kept : List Int) : Prop where
  nd : kept.Nodup
  cl : ∀ x ∈ kept, ∃ c ∈ C, x = (c.p : Int)
  st : ∀ x ∈ ks, x ∈ kept
  kd : ∀ c ∈ C, (c.p : Int) ∈ kept → ∀ y ∈ kidsL c.ws, y ∈ kept
  mn : ∀ p : Int → Prop, (∀ x ∈ ks, p x) → (∀ c ∈ C, p c.p → ∀ y ∈ kidsL c.ws, p y) → ∀ x ∈ kept, p x
theorem reachC_is {S : ArS} {C : List CeL} {ks : List Int} (h : CelP S C) (hw : ∀ c ∈ C, ∀ w ∈ c.ws, ClW C w) (hk : ∀ x ∈ ks, x ∈ plcC C) : ReC C ks (reachC C ks) := by
  have kin := kC_in h hw
  have i0 : ∀ x ∈ addN [] ks, x ∈ plcC C := fun x m => (addN_mem m).elim (fun z => (List.not_mem_nil z).elim) (hk x)
  have n0 : (addN [] ks).Nodup := addN_nd List.nodup_nil
  have sub := reach_in kin (k := C.length) (t := 0) i0
  refine ⟨reach_nd n0, fun x m => ?_, fun x m => reach_sub (addN_all m), fun c mc m y my => ?_, fun p h1 h2 x m => ?_⟩
  · obtain ⟨c, mc, e⟩ := List.mem_map.mp (sub x m)
    exact ⟨c, mc, e.symm⟩
  · refine reach_closed kin n0 i0 (by unfold plcC; rw [List.length_map]; omega) (fun i hi => absurd hi (Nat.not_lt_zero i)) _ m y ?_
    rw [kC_mem h mc]
    exact my
  · refine (reach_min (kids := kC C) (p := fun x => p x ∧ x ∈ plcC C) (fun x hx y my => ?_) (fun x m => ?_) x m).1
    · obtain ⟨c, mc, e⟩ := List.mem_map.mp hx.2
      have e : (c.p : Int) = x := e
      subst e
      rw [kC_mem h mc] at my
      exact ⟨h2 c mc hx.1 y my, kin _ hx.2 y (by rw [kC_mem h mc]; exact my)⟩
    · rcases addN_mem m with m | m
      · exact (List.not_mem_nil m).elim
      · exact ⟨h1 x m, hk x m⟩
theorem kids_place {w : Int} {x : Wd} (h : wordOf w = some x) {y : Int} : placeIn w = some y ↔ wordOf w = some (.place y) := by
  have e := wd_place h
  cases x with
  | place p =>
    have e : placeIn w = some p := e
    rw [e, h]
    exact ⟨fun z => (by cases z; rfl), fun z => (by cases z; rfl)⟩
  | num p =>
    have e : placeIn w = none := e
    rw [e, h]
    exact ⟨fun z => (by cases z), fun z => (by cases z)⟩
  | nothing =>
    have e : placeIn w = none := e
    rw [e, h]
    exact ⟨fun z => (by cases z), fun z => (by cases z)⟩

local macro_rules | `(tactic| walk_at "w3") => `(tactic| try simp only [↓x_var0, ↓x_varS, ↓x_c, ↓x_op, ↓x_un, ↓x_cb, ↓x_nil, ↓x_cons, ↓x_test, ↓x_b, ↓x_ex, ↓x_and, ↓x_or, ↓x_not, ↓x_andV, ↓x_orV, ↓x_notV, ↓x_tif, ↓x_chain, ↓x_menu, ↓x_menuI, ↓x_lst, ↓x_tup, ↓x_dnew, ↓x_callW, ↓x_callN, ↓x_seq, ↓x_next, ↓x_ret, ↓x_retN, ↓x_drop, ↓x_ifS, ↓x_asg, ↓x_name, ↓x_raise, ↓x_fld, ↓x_setF, ↓x_meth, ↓x_make, ↓x_sub, ↓r_min, ↓r_max, ↓x_yes, ↓x_for, ↓x_lock, ↓x_keys, ↓x_cut, ↓x_lc, ↓x_rng1, ↓x_rng2, ↓x_lst1, ↓x_itup, ↓x_rng3, ↓x_three, ↓x_lstg, ↓x_tupg, ↓x_adrS, ↓x_one, ↓x_two, ↓x_adr, ↓x_sl, ↓x_np, ↓x_pt, ↓x_int, ↓x_bm, ↓x_bm0, ↓x_consg, ↓x_nilg, ↓x_dget2, ↓x_dget1, ↓x_dgetN, ↓x_dget, ↓x_din, ↓x_dni, ↓x_dput, ↓x_dpop2, ↓r_isB, ↓r_notB, ↓x_enum, ↓x_zip, ↓x_str, ↓x_strE, ↓r_inS, ↓r_ninS, wipe, List.map_cons, List.map_nil, ↓x_isT, ↓r_isiII, ↓r_isiBB, ↓r_isiIB, ↓r_isiSS, ↓r_neNS, ↓r_neSN, ↓r_neNN, ↓r_eqNS, ↓r_eqSN, ↓r_eqNN, ↓r_eqIS, ↓r_neIS, ↓r_neSI, ↓r_neBS, ↓r_eqBB, ↓r_neBB, ↓x_start, ↓x_K, ↓x_start0, ↓r_i0, ↓r_i, ↓r_u, ↓r_addI, ↓r_addS, ↓r_mulI, ↓r_mulS, ↓r_eqI, ↓r_neI, ↓r_eqS, ↓r_neS, ↓r_absI, ↓r_intI, ↓r_intB, List.length_cons, List.length_nil, List.replicate, List.set_cons_zero, List.set_cons_succ, decide_eq_true_eq, Bool.not_eq_true', decide_eq_false_iff_not, if_true, if_false, Bool.false_eq_true, Bool.true_eq_false, ite_true, ite_false, Bool.not_true, Bool.not_false, c_div, n_ten, c_pow, not_true_eq_false, not_false_eq_true, decide_true, decide_false, true_and, and_true, and_self, true_or, or_true, Int.reduceLT, Int.reduceLE, Int.reduceMul, Int.reduceAdd, Int.reduceSub, Int.reducePow, Int.reduceNeg, Int.reduceDiv, Int.reduceMod, Nat.reducePow, Int.reduceToNat, Int.reduceEq, Int.reduceNe, Nat.reduceLT, Nat.reduceLeDiff, Nat.reduceAdd, ↓x_whole, ↓x_kind, Int.natCast_one, Int.natCast_one])
/-! ## rows that are gone through from the left -/
def mapT {α : Type} (f : α → α) (xs : List α) (t : Nat) : List α := (xs.take t).map f ++ xs.drop t
section
variable {α : Type} {f : α → α} {xs : List α} {t j : Nat} {x : α}
theorem mapT_zero : mapT f xs 0 = xs := rfl
theorem mapT_all (h : xs.length ≤ t) : mapT f xs t = xs.map f := by
  unfold mapT
  rw [List.take_of_length_le h, List.drop_of_length_le h, List.append_nil]
theorem mapT_len : (mapT f xs t).length = xs.length := by
  unfold mapT
  rw [List.length_append, List.length_map, List.length_take, List.length_drop]
  omega
theorem mapT_get (h : t ≤ j) : (mapT f xs t)[j]? = xs[j]? := by
  unfold mapT
  rw [List.getElem?_append]
  have hl : ((xs.take t).map f).length = min t xs.length := by rw [List.length_map, List.length_take]
  rw [hl]
  by_cases c : j < min t xs.length
  · omega
  · rw [if_neg c, List.getElem?_drop]
    by_cases d : j < xs.length
    · congr 1
      omega
    · rw [List.getElem?_eq_none (by omega), List.getElem?_eq_none (by omega)]
theorem mapT_done (h : j < t) : (mapT f xs t)[j]? = (xs[j]?).map f := by
  unfold mapT
  rw [List.getElem?_append]
  have hl : ((xs.take t).map f).length = min t xs.length := by rw [List.length_map, List.length_take]
  rw [hl]
  by_cases c : j < min t xs.length
  · rw [if_pos c, List.getElem?_map, List.getElem?_take, if_pos h]
  · rw [if_neg c, List.getElem?_drop, List.getElem?_eq_none (by omega), List.getElem?_eq_none (by omega)]
    rfl
theorem mapT_set (h : xs[t]? = some x) : (mapT f xs t).set t (f x) = mapT f xs (t + 1) := by
  obtain ⟨ht, e⟩ := List.getElem?_eq_some_iff.mp h
  refine List.ext_getElem? fun j => ?_
  rw [List.getElem?_set]
  by_cases c : t = j
  · subst c
    rw [if_pos rfl, if_pos (by rw [mapT_len]; exact ht), mapT_done (Nat.lt_succ_self _), h]
    rfl
  · rw [if_neg c]
    by_cases d : j < t
    · rw [mapT_done d, mapT_done (by omega)]
    · rw [mapT_get (by omega), mapT_get (by omega)]
theorem mapT_skip (h : xs[t]? = some x) (e : f x = x) : mapT f xs (t + 1) = mapT f xs t := by
  rw [← mapT_set h, e]
  refine List.ext_getElem? fun j => ?_
  rw [List.getElem?_set]
  by_cases c : t = j
  · subst c
    obtain ⟨ht, -⟩ := List.getElem?_eq_some_iff.mp h
    rw [if_pos rfl, if_pos (by rw [mapT_len]; exact ht), mapT_get (Nat.le_refl _), h]
  · rw [if_neg c]
end
/-! ## words, names and tickets that go along -/
def turnW (f : Int → Int) (w : Int) : Int := match placeIn w with
  | some p => 2 * f p + 1
  | none => w
def nmG (g : Int → Option Int) : V → V
  | .int p => match g p with
    | some q => .int q
    | none => .non
  | v => v
def tkG (g : Int → Option Int) : Option (Int × Int) → Option (Int × Int)
  | some (p, n) => (g p).map fun q => (q, n)
  | none => none
def sdG (g : Int → Option Int) : Option (Int × Int) → List Int
  | some (p, n) => if (g p).isSome then [] else [n]
  | none => []
def saidG (g : Int → Option Int) (ws : List (Option (Int × Int))) : List Int := ws.flatMap (sdG g)
theorem saidG_snoc {g : Int → Option Int} {ws : List (Option (Int × Int))} {t : Nat} {x : Option (Int × Int)} (h : ws[t]? = some x) : saidG g (ws.take (t + 1)) = saidG g (ws.take t) ++ sdG g x := by
  unfold saidG
  rw [List.take_add_one, h, List.flatMap_append]
  congr 1
  show sdG g x ++ [] = _
  rw [List.append_nil]
theorem pairs_step {g : Int → Option Int} {ts : List V} (fl : ∀ t ∈ ts, flatN t = true) {xs : List V} {rest : List (List V)} : ∀ {k m : Nat}, ts.length - m ≤ k → pairsOf m (ts.drop m) = xs :: rest →
    ∃ a, ∃ p : Int, m ≤ a ∧ a < ts.length ∧ xs = [.int (a : Int), .int p] ∧ ts[a]? = some (.int p) ∧ rest = pairsOf (a + 1) (ts.drop (a + 1)) ∧ mapT (nmG g) ts a = mapT (nmG g) ts m := by
  intro k
  induction k with
  | zero =>
    intro m h e
    rw [List.drop_of_length_le (by omega)] at e
    cases e
  | succ k ih =>
    intro m h e
    by_cases c : m < ts.length
    · have em : ts[m]? = some ts[m] := List.getElem?_eq_getElem c
      rw [List.drop_eq_getElem_cons c] at e
      have e : (if ts[m] = .non then pairsOf (m + 1) (ts.drop (m + 1)) else [.int (m : Int), ts[m]] :: pairsOf (m + 1) (ts.drop (m + 1))) = xs :: rest := e
      by_cases n : ts[m] = .non
      · rw [if_pos n] at e
        obtain ⟨a, p, h1, h2, h3, h4, h5, h6⟩ := ih (by omega) e
        refine ⟨a, p, by omega, h2, h3, h4, h5, h6.trans (mapT_skip em ?_)⟩
        rw [n]
        rfl
      · rw [if_neg n] at e
        have f := fl _ (List.getElem_mem c)
        cases ev : ts[m] with
        | int p =>
          rw [ev] at e
          cases e
          exact ⟨m, p, Nat.le_refl _, c, rfl, by rw [em, ev], rfl, rfl⟩
        | non => exact absurd ev n
        | _ => rw [ev] at f; cases f
    · rw [List.drop_of_length_le (by omega)] at e
      cases e
theorem pairs_end {g : Int → Option Int} {ts : List V} (fl : ∀ t ∈ ts, flatN t = true) : ∀ {k m : Nat}, ts.length - m ≤ k → pairsOf m (ts.drop m) = [] → mapT (nmG g) ts m = ts.map (nmG g) := by
  intro k
  induction k with
  | zero =>
    intro m h e
    exact mapT_all (by omega)
  | succ k ih =>
    intro m h e
    by_cases c : m < ts.length
    · have em : ts[m]? = some ts[m] := List.getElem?_eq_getElem c
      rw [List.drop_eq_getElem_cons c] at e
      have e : (if ts[m] = .non then pairsOf (m + 1) (ts.drop (m + 1)) else [.int (m : Int), ts[m]] :: pairsOf (m + 1) (ts.drop (m + 1))) = [] := e
      by_cases n : ts[m] = .non
      · rw [if_pos n] at e
        rw [← ih (by omega) e]
        exact (mapT_skip em (by rw [n]; rfl)).symm
      · rw [if_neg n] at e
        cases e
    · exact mapT_all (by omega)
theorem pend_step {g : Int → Option Int} {ws : List (Option (Int × Int))} {xs : List V} {rest : List (List V)} : ∀ {k m : Nat}, ws.length - m ≤ k → pendOf m (ws.drop m) = xs :: rest →
    ∃ a, ∃ p n : Int, m ≤ a ∧ a < ws.length ∧ xs = [.int (a : Int), .int p, .int n] ∧ ws[a]? = some (some (p, n)) ∧ rest = pendOf (a + 1) (ws.drop (a + 1)) ∧ mapT (tkG g) ws a = mapT (tkG g) ws m ∧ saidG g (ws.take a) = saidG g (ws.take m) := by
  intro k
  induction k with
  | zero =>
    intro m h e
    rw [List.drop_of_length_le (by omega)] at e
    cases e
  | succ k ih =>
    intro m h e
    by_cases c : m < ws.length
    · have em : ws[m]? = some ws[m] := List.getElem?_eq_getElem c
      rw [List.drop_eq_getElem_cons c] at e
      cases ev : ws[m] with
      | none =>
        rw [ev] at e em
        obtain ⟨a, p, n, h1, h2, h3, h4, h5, h6, h7⟩ := ih (m := m + 1) (by omega) e
        refine ⟨a, p, n, by omega, h2, h3, h4, h5, h6.trans (mapT_skip em rfl), h7.trans ?_⟩
        rw [saidG_snoc em]
        exact List.append_nil _
      | some q =>
        rw [ev] at e em
        cases e
        exact ⟨m, q.1, q.2, Nat.le_refl _, c, rfl, em, rfl, rfl, rfl⟩
    · rw [List.drop_of_length_le (by omega)] at e
      cases e
theorem pend_end {g : Int → Option Int} {ws : List (Option (Int × Int))} : ∀ {k m : Nat}, ws.length - m ≤ k → pendOf m (ws.drop m) = [] → mapT (tkG g) ws m = ws.map (tkG g) ∧ saidG g (ws.take m) = saidG g ws := by
  intro k
  induction k with
  | zero =>
    intro m h e
    exact ⟨mapT_all (by omega), by rw [List.take_of_length_le (by omega)]⟩
  | succ k ih =>
    intro m h e
    by_cases c : m < ws.length
    · have em : ws[m]? = some ws[m] := List.getElem?_eq_getElem c
      rw [List.drop_eq_getElem_cons c] at e
      cases ev : ws[m] with
      | none =>
        rw [ev] at e em
        obtain ⟨h1, h2⟩ := ih (m := m + 1) (by omega) e
        rw [← h1, ← h2, saidG_snoc em]
        exact ⟨(mapT_skip em rfl).symm, (List.append_nil _).symm⟩
      | some q =>
        rw [ev] at e
        cases e
    · exact ⟨mapT_all (by omega), by rw [List.take_of_length_le (by omega)]⟩
theorem said_len {g : Int → Option Int} : ∀ {ws : List (Option (Int × Int))}, (saidG g ws).length ≤ ws.length
  | [] => Nat.le_refl _
  | x :: r => by
    show (sdG g x ++ saidG g r).length ≤ r.length + 1
    have := said_len (g := g) (ws := r)
    rw [List.length_append]
    have : (sdG g x).length ≤ 1 := by
      cases x with
      | none => exact Nat.zero_le _
      | some q =>
        show (if (g q.1).isSome then [] else [q.2]).length ≤ 1
        split
        · exact Nat.zero_le _
        · exact Nat.le_refl _
    omega
theorem turnW_place {f : Int → Int} {w p : Int} (h : wordOf w = some (.place p)) : turnW f w = 2 * f p + 1 := by
  unfold turnW
  rw [wd_place h]
theorem turnW_other {f : Int → Int} {w : Int} {x : Wd} (h : wordOf w = some x) (n : ∀ p, x ≠ .place p) : turnW f w = w := by
  unfold turnW
  rw [wd_place h]
  cases x with
  | place p => exact absurd rfl (n p)
  | _ => rfl
/-! ## cells whose slots are gone through, each as far as told -/
def tC (f : Int → Int) (n : Nat → Nat) (C : List CeL) : List CeL := C.map fun c => { c with ws := mapT (turnW f) c.ws (n c.p) }
theorem tC_zero {f : Int → Int} {C : List CeL} : tC f (fun _ => 0) C = C := by
  unfold tC
  exact List.map_id' C
theorem tC_cong {f : Int → Int} {n m : Nat → Nat} {C : List CeL} (h : ∀ c ∈ C, mapT (turnW f) c.ws (n c.p) = mapT (turnW f) c.ws (m c.p)) : tC f n C = tC f m C := by
  unfold tC
  exact List.map_congr_left fun c mc => by rw [h c mc]
theorem tC_mem {f : Int → Int} {n : Nat → Nat} {C : List CeL} {b : CeL} (m : b ∈ tC f n C) : ∃ c ∈ C, b.p = c.p ∧ b.ws = mapT (turnW f) c.ws (n c.p) := by
  obtain ⟨c, mc, rfl⟩ := List.mem_map.mp m
  exact ⟨c, mc, rfl, rfl⟩
theorem tC_set {f : Int → Int} {n : Nat → Nat} {C : List CeL} {p j : Nat} {w : Int} (hp : n p = j) (h : ∀ c ∈ C, c.p = p → c.ws[j]? = some w) : setC (tC f n C) p j (turnW f w) = tC f (fun q => if q = p then j + 1 else n q) C := by
  unfold setC tC
  rw [List.map_map]
  refine List.map_congr_left fun c mc => ?_
  show (if c.p = p then ({ p := c.p, r := c.r, ws := (mapT (turnW f) c.ws (n c.p)).set j (turnW f w) } : CeL) else { p := c.p, r := c.r, ws := mapT (turnW f) c.ws (n c.p) }) = ({ p := c.p, r := c.r, ws := mapT (turnW f) c.ws (if c.p = p then j + 1 else n c.p) } : CeL)
  by_cases e : c.p = p
  · rw [if_pos e, if_pos e]
    congr 1
    rw [e, hp]
    exact mapT_set (h c mc e)
  · rw [if_neg e, if_neg e]
theorem tups_get {H : Hp} {rs : List V} {yss : List (List V)} (h : TupAll H rs yss) : ∀ {i : Nat} {x : V}, rs[i]? = some x → ∃ tp xs, x = .ref tp ∧ H tp = some (.tup xs) ∧ yss[i]? = some xs := by
  induction h with
  | nil => exact fun e => by cases e
  | cons h f t ih =>
    intro i x e
    cases i with
    | zero => cases e; exact ⟨_, _, rfl, h, rfl⟩
    | succ i => exact ih e

local macro_rules | `(tactic| walk_at "w3") => `(tactic| try simp only [↓x_var0, ↓x_varS, ↓x_c, ↓x_op, ↓x_un, ↓x_cb, ↓x_nil, ↓x_cons, ↓x_test, ↓x_b, ↓x_ex, ↓x_and, ↓x_or, ↓x_not, ↓x_andV, ↓x_orV, ↓x_notV, ↓x_tif, ↓x_chain, ↓x_menu, ↓x_menuI, ↓x_lst, ↓x_tup, ↓x_dnew, ↓x_callW, ↓x_callN, ↓x_seq, ↓x_next, ↓x_ret, ↓x_retN, ↓x_drop, ↓x_ifS, ↓x_asg, ↓x_name, ↓x_raise, ↓x_fld, ↓x_setF, ↓x_meth, ↓x_make, ↓x_sub, ↓r_min, ↓r_max, ↓x_yes, ↓x_for, ↓x_lock, ↓x_keys, ↓x_cut, ↓x_lc, ↓x_rng1, ↓x_rng2, ↓x_lst1, ↓x_itup, ↓x_rng3, ↓x_three, ↓x_lstg, ↓x_tupg, ↓x_adrS, ↓x_one, ↓x_two, ↓x_adr, ↓x_sl, ↓x_np, ↓x_pt, ↓x_int, ↓x_bm, ↓x_bm0, ↓x_consg, ↓x_nilg, ↓x_dget2, ↓x_dget1, ↓x_dgetN, ↓x_dget, ↓x_din, ↓x_dni, ↓x_dput, ↓x_dpop2, ↓r_isB, ↓r_notB, ↓x_enum, ↓x_zip, ↓x_str, ↓x_strE, ↓r_inS, ↓r_ninS, wipe, List.map_cons, List.map_nil, ↓x_isT, ↓r_isiII, ↓r_isiBB, ↓r_isiIB, ↓r_isiSS, ↓r_neNS, ↓r_neSN, ↓r_neNN, ↓r_eqNS, ↓r_eqSN, ↓r_eqNN, ↓r_eqIS, ↓r_neIS, ↓r_neSI, ↓r_neBS, ↓r_eqBB, ↓r_neBB, ↓x_start, ↓x_K, ↓x_start0, ↓r_i0, ↓r_i, ↓r_u, ↓r_addI, ↓r_addS, ↓r_mulI, ↓r_mulS, ↓r_eqI, ↓r_neI, ↓r_eqS, ↓r_neS, ↓r_absI, ↓r_intI, ↓r_intB, List.length_cons, List.length_nil, List.replicate, List.set_cons_zero, List.set_cons_succ, decide_eq_true_eq, Bool.not_eq_true', decide_eq_false_iff_not, if_true, if_false, Bool.false_eq_true, Bool.true_eq_false, ite_true, ite_false, Bool.not_true, Bool.not_false, c_div, n_ten, c_pow, not_true_eq_false, not_false_eq_true, decide_true, decide_false, true_and, and_true, and_self, true_or, or_true, Int.reduceLT, Int.reduceLE, Int.reduceMul, Int.reduceAdd, Int.reduceSub, Int.reducePow, Int.reduceNeg, Int.reduceDiv, Int.reduceMod, Nat.reducePow, Int.reduceToNat, Int.reduceEq, Int.reduceNe, Nat.reduceLT, Nat.reduceLeDiff, Nat.reduceAdd, ↓x_whole, ↓x_kind, Int.natCast_one, Int.natCast_one])
/-! ## areas and roots -/
structure PairO (K : PySem.W.Frag) (H : Hp) (A : ArA) (R : RoA) (S : ArS) (U : RoS) : Prop where
  ar : ArO K H A S
  ro : RootO K H R U
  m1 : A.l ≠ R.hl
  m2 : A.l ≠ R.wl
  m3 : A.l ≠ R.d
  m4 : A.l ≠ R.e
section
variable {K : PySem.W.Frag} {H H' : Hp} {A : ArA} {R : RoA} {S S' : ArS} {U : RoS}
theorem PairO.same (h : PairO K H A R S U) (s : Same H H') : PairO K H' A R S U := { h with ar := h.ar.same s, ro := h.ro.same s }
/-- all but what areas and roots hold stays -/
def Kc (A : ArA) (R : RoA) (bd : Addr) (H H' : Hp) : Prop := ∀ b o, b ≠ A.a → b ≠ A.l → b ≠ A.o → b ≠ A.p → b ≠ A.q → b ≠ R.hl → b ≠ R.wl → b ≠ R.d → b ≠ R.e → b ≠ R.b → b ≠ bd → H b = some o → H' b = some o
theorem fs_ne {C D dx ex : Addr} {fs gs : List (Str × V)} (h : fs.map Prod.fst ≠ gs.map Prod.fst) : HO.ins C dx fs ≠ .ins D ex gs := fun z => h (by rw [(HO.ins.inj z).2.2])
theorem RootO.frP (h : RootO K H R U) (k : ∀ b o, (b = R.r ∨ b = R.h ∨ b = R.hl ∨ b = R.b ∨ b = U.bd ∨ b = R.w ∨ b = R.wl ∨ b = R.la ∨ b = R.d ∨ b = R.e) → H b = some o → H' b = some o) (kt : ∀ c xs, H c = some (.tup xs) → H' c = some (.tup xs)) : RootO K H' R U :=
  { h with ob := k _ _ (.inl rfl) h.ob, ho := ⟨k _ _ (.inr (.inl rfl)) h.ho.ob, k _ _ (.inr (.inr (.inl rfl))) h.ho.ls, h.ho.vw, h.ho.sz⟩, bo := ⟨k _ _ (.inr (.inr (.inr (.inl rfl)))) h.bo.ob, k _ _ (.inr (.inr (.inr (.inr (.inl rfl))))) h.bo.ds, h.bo.nd⟩, wo := ⟨k _ _ (.inr (.inr (.inr (.inr (.inr (.inl rfl)))))) h.wo.ob, k _ _ (.inr (.inr (.inr (.inr (.inr (.inr (.inl rfl))))))) h.wo.ls⟩, lo := ⟨k _ _ (.inr (.inr (.inr (.inr (.inr (.inr (.inr (.inl rfl)))))))) h.lo.ob, k _ _ (.inr (.inr (.inr (.inr (.inr (.inr (.inr (.inr (.inl rfl))))))))) h.lo.wa, h.lo.wt.fr kt, k _ _ (.inr (.inr (.inr (.inr (.inr (.inr (.inr (.inr (.inr rfl))))))))) h.lo.sk, h.lo.de⟩ }
theorem ArO.frP (h : ArO K H A S) (k : ∀ b o, (b = A.a ∨ b = A.m ∨ b = A.l ∨ b = A.o ∨ b = A.p ∨ b = A.q) → H b = some o → H' b = some o) : ArO K H' A S :=
  { h with ob := k _ _ (.inl rfl) h.ob, me := ⟨k _ _ (.inr (.inl rfl)) h.me.ob, k _ _ (.inr (.inr (.inl rfl))) h.me.ls, h.me.sz⟩, so := k _ _ (.inr (.inr (.inr (.inl rfl)))) h.so, sp := k _ _ (.inr (.inr (.inr (.inr (.inl rfl))))) h.sp, sq := k _ _ (.inr (.inr (.inr (.inr (.inr rfl))))) h.sq }
/-- where the areas' own things stand, no root's thing does -/
theorem PairO.offA (h : PairO K H A R S U) {x : Addr} (hx : x = A.a ∨ x = A.l ∨ x = A.o ∨ x = A.p ∨ x = A.q) : ∀ b, (b = R.r ∨ b = R.h ∨ b = R.hl ∨ b = R.b ∨ b = U.bd ∨ b = R.w ∨ b = R.wl ∨ b = R.la ∨ b = R.d ∨ b = R.e) → b ≠ x := by
  have ra := h.ar.ob
  have rl := h.ar.me.ls
  have lst : ∀ {c xs}, H c = some (.lst xs) → c ≠ A.l → c ≠ x := fun {c xs} g n => by
    rcases hx with rfl | rfl | rfl | rfl | rfl
    · exact ne_of g ra (by intro z; cases z)
    · exact n
    · exact ne_of g h.ar.so fun z => spv_lst z.symm
    · exact ne_of g h.ar.sp fun z => spv_lst z.symm
    · exact ne_of g h.ar.sq fun z => spv_lst z.symm
  have ins : ∀ {c C dx fs}, H c = some (.ins C dx fs) → fs.map Prod.fst ≠ ([("memory" : Str), "old", "young", "spare"]) → fs.length ≠ 3 → c ≠ x := fun {c C dx fs} g n n3 => by
    rcases hx with rfl | rfl | rfl | rfl | rfl
    · exact ne_of g ra (fs_ne n)
    · exact ne_of g rl (by intro z; cases z)
    · exact ne_of g h.ar.so fun z => spv_fs n3 z.symm
    · exact ne_of g h.ar.sp fun z => spv_fs n3 z.symm
    · exact ne_of g h.ar.sq fun z => spv_fs n3 z.symm
  have dk : U.bd ≠ x := by
    have g := h.ro.bo.ds
    rcases hx with rfl | rfl | rfl | rfl | rfl
    · exact ne_of g ra (by intro z; cases z)
    · exact ne_of g rl (by intro z; cases z)
    · exact ne_of g h.ar.so (by intro z; cases z)
    · exact ne_of g h.ar.sp (by intro z; cases z)
    · exact ne_of g h.ar.sq (by intro z; cases z)
  rintro b (rfl | rfl | rfl | rfl | rfl | rfl | rfl | rfl | rfl | rfl)
  · exact ins h.ro.ob (by show [("hands" : Str), "book", "weaks", "lasts"] ≠ _; decide +kernel) (by show 4 ≠ 3; decide)
  · exact ins h.ro.ho.ob (by show [("kept" : Str)] ≠ _; decide +kernel) (by show 1 ≠ 3; decide)
  · exact lst h.ro.ho.ls h.m1.symm
  · exact ins h.ro.bo.ob (by show [("marks" : Str)] ≠ _; decide +kernel) (by show 1 ≠ 3; decide)
  · exact dk
  · exact ins h.ro.wo.ob (by show [("told" : Str)] ≠ _; decide +kernel) (by show 1 ≠ 3; decide)
  · exact lst h.ro.wo.ls h.m2.symm
  · exact ins h.ro.lo.ob (by show [("waiting" : Str), "spoken"] ≠ _; decide +kernel) (by show 2 ≠ 3; decide)
  · exact lst h.ro.lo.wa h.m3.symm
  · exact lst h.ro.lo.sk h.m4.symm
theorem PairO.arS (h : PairO K H A R S U) (I : ArO K H' A S') (k : ∀ b o, b ≠ A.a → b ≠ A.l → b ≠ A.o → b ≠ A.p → b ≠ A.q → H b = some o → H' b = some o) : PairO K H' A R S' U :=
  { h with ar := I, ro := h.ro.frP (fun b o m g => k b o (h.offA (.inl rfl) b m) (h.offA (.inr (.inl rfl)) b m) (h.offA (.inr (.inr (.inl rfl))) b m) (h.offA (.inr (.inr (.inr (.inl rfl)))) b m) (h.offA (.inr (.inr (.inr (.inr rfl)))) b m) g) fun c xs g => k _ _ (ne_of g h.ar.ob (by intro z; cases z)) (ne_of g h.ar.me.ls (by intro z; cases z)) (ne_of g h.ar.so (by intro z; cases z)) (ne_of g h.ar.sp (by intro z; cases z)) (ne_of g h.ar.sq (by intro z; cases z)) g }
theorem PairO.wput (h : PairO K H A R S U) {ws : List Int} (vw : Vw ws) (e : ws.length = S.ws.length) : PairO K (upd H A.l (.lst (ws.map V.int))) A R { S with ws := ws } U :=
  h.arS (h.ar.words (h.ar.me.put ws e) (fun b o n g => (upd_ne n).trans g) vw e) fun b o _ n _ _ _ g => (upd_ne n).trans g
theorem PairO.topO (h : PairO K H A R S U) {t : Nat} (ht : t ≤ S.n) : PairO K (upd H A.o (SpV K A.ox 0 S.n t)) A R { S with ot := t } U :=
  h.arS (h.ar.topOld ht) fun b o _ _ n _ _ g => (upd_ne n).trans g
theorem PairO.topH (h : PairO K H A R S U) {f : Bool} {t : Nat} (h0 : S.b f ≤ t) (h1 : t ≤ S.b f + S.k) : PairO K (upd H (A.y f) (SpV K (A.yx f) (S.b f) (S.b f + S.k) t)) A R (S.put f t) U :=
  h.arS (h.ar.topHalf h0 h1) fun b o _ _ _ n1 n2 g => (upd_ne (by unfold ArA.y; split <;> assumption)).trans g
theorem PairO.flip (h : PairO K H A R S U) : PairO K (upd H A.a (.ins (He.ga K "Areas") A.dx (F_Areas (.ref A.m) (.ref A.o) (.ref (A.y !S.fl)) (.ref (A.y S.fl))))) A R { S with fl := !S.fl } U :=
  h.arS h.ar.flip fun b o n _ _ _ _ g => (upd_ne n).trans g
theorem PairO.roS {R : RoA} {U U' : RoS} (h : PairO K H A R S U) (I : RootO K H' R U') (k : ∀ b o, (b = A.a ∨ b = A.m ∨ b = A.l ∨ b = A.o ∨ b = A.p ∨ b = A.q) → H b = some o → H' b = some o) : PairO K H' A R S U' := { h with ar := h.ar.frP k, ro := I }
/-- areas' things are no lists or dicts of the roots -/
theorem PairO.offL (h : PairO K H A R S U) {x : Addr} {xs : List V} (e : H x = some (.lst xs)) (n : A.l ≠ x) : ∀ b, (b = A.a ∨ b = A.m ∨ b = A.l ∨ b = A.o ∨ b = A.p ∨ b = A.q) → b ≠ x := by
  rintro b (rfl | rfl | rfl | rfl | rfl | rfl)
  · exact ne_of h.ar.ob e (by intro z; cases z)
  · exact ne_of h.ar.me.ob e (by intro z; cases z)
  · exact n
  · exact ne_of h.ar.so e spv_lst
  · exact ne_of h.ar.sp e spv_lst
  · exact ne_of h.ar.sq e spv_lst
theorem PairO.hput (h : PairO K H A R S U) {i : Nat} {n : Int} (hn : (wordOf n).isSome = true) : PairO K (upd H R.hl (.lst ((U.hs.set i n).map V.int))) A R S { U with hs := U.hs.set i n } := by
  have r := h.ro
  have f : ∀ {b o}, H b = some o → (∀ xs, o ≠ .lst xs) → upd H R.hl (.lst ((U.hs.set i n).map V.int)) b = some o := fun g n => (upd_ne (ne_of g r.ho.ls (n _))).trans g
  have n1 : ∀ {C d fs xs}, HO.ins C d fs ≠ .lst xs := fun z => by cases z
  refine h.roS { r with ob := f r.ob (fun _ => n1), ho := r.ho.put hn, bo := ⟨f r.bo.ob (fun _ => n1), f r.bo.ds (fun _ z => by cases z), r.bo.nd⟩, wo := ⟨f r.wo.ob (fun _ => n1), (upd_ne r.n1.symm).trans r.wo.ls⟩, lo := ⟨f r.lo.ob (fun _ => n1), (upd_ne r.n2.symm).trans r.lo.wa, r.lo.wt.put r.ho.ls (fun _ z => by cases z), (upd_ne r.n3.symm).trans r.lo.sk, r.lo.de⟩ } fun b o m g => (upd_ne (h.offL r.ho.ls h.m1 b m)).trans g
theorem PairO.wkput (h : PairO K H A R S U) {us : List V} : PairO K (upd H R.wl (.lst us)) A R S { U with ts := us } := by
  have r := h.ro
  have f : ∀ {b o}, H b = some o → (∀ xs, o ≠ .lst xs) → upd H R.wl (.lst us) b = some o := fun g n => (upd_ne (ne_of g r.wo.ls (n _))).trans g
  have n1 : ∀ {C d fs xs}, HO.ins C d fs ≠ .lst xs := fun z => by cases z
  refine h.roS { r with ob := f r.ob (fun _ => n1), ho := ⟨f r.ho.ob (fun _ => n1), (upd_ne r.n1).trans r.ho.ls, r.ho.vw, r.ho.sz⟩, bo := ⟨f r.bo.ob (fun _ => n1), f r.bo.ds (fun _ z => by cases z), r.bo.nd⟩, wo := r.wo.put, lo := ⟨f r.lo.ob (fun _ => n1), (upd_ne r.n4.symm).trans r.lo.wa, r.lo.wt.put r.wo.ls (fun _ z => by cases z), (upd_ne r.n5.symm).trans r.lo.sk, r.lo.de⟩ } fun b o m g => (upd_ne (h.offL r.wo.ls h.m2 b m)).trans g
theorem PairO.lsput {rs ws ss} (h : PairO K H A R S U) (L : LastO K H' R.la R.lax R.d R.e rs ws ss) (k : ∀ c o, c ≠ R.d → c ≠ R.e → H c = some o → H' c = some o) : PairO K H' A R S { U with rs := rs, ws := ws, ss := ss } := by
  have r := h.ro
  have i : ∀ {b C d fs}, H b = some (.ins C d fs) → H' b = some (.ins C d fs) := fun g => k _ _ (ne_of g r.lo.wa (by intro z; cases z)) (ne_of g r.lo.sk (by intro z; cases z)) g
  refine h.roS { r with ob := i r.ob, ho := ⟨i r.ho.ob, k _ _ r.n2 r.n3 r.ho.ls, r.ho.vw, r.ho.sz⟩, bo := ⟨i r.bo.ob, k _ _ (ne_of r.bo.ds r.lo.wa (by intro z; cases z)) (ne_of r.bo.ds r.lo.sk (by intro z; cases z)) r.bo.ds, r.bo.nd⟩, wo := ⟨i r.wo.ob, k _ _ r.n4 r.n5 r.wo.ls⟩, lo := L } fun b o m g => k _ _ (h.offL r.lo.wa h.m3 b m) (h.offL r.lo.sk h.m4 b m) g
theorem PairO.bput (h : PairO K H A R S U) {qs : List Int} (n : qs.Nodup) : PairO K (upd H U.bd (.dK (bk qs))) A R S { U with bs := qs } := by
  have r := h.ro
  have f : ∀ {b o}, H b = some o → (∀ xs, o ≠ .dK xs) → upd H U.bd (.dK (bk qs)) b = some o := fun g n => (upd_ne (ne_of g r.bo.ds (n _))).trans g
  have n1 : ∀ {C d fs xs}, HO.ins C d fs ≠ .dK xs := fun z => by cases z
  have n2 : ∀ {ys xs}, HO.lst ys ≠ .dK xs := fun z => by cases z
  refine h.roS { r with ob := f r.ob (fun _ => n1), ho := ⟨f r.ho.ob (fun _ => n1), f r.ho.ls (fun _ => n2), r.ho.vw, r.ho.sz⟩, bo := r.bo.put n, wo := ⟨f r.wo.ob (fun _ => n1), f r.wo.ls (fun _ => n2)⟩, lo := ⟨f r.lo.ob (fun _ => n1), f r.lo.wa (fun _ => n2), r.lo.wt.put r.bo.ds (fun _ z => by cases z), f r.lo.sk (fun _ => n2), r.lo.de⟩ } ?_
  rintro b o (rfl | rfl | rfl | rfl | rfl | rfl) g
  · exact (upd_ne (ne_of h.ar.ob r.bo.ds (by intro z; cases z))).trans g
  · exact (upd_ne (ne_of h.ar.me.ob r.bo.ds (by intro z; cases z))).trans g
  · exact (upd_ne (ne_of h.ar.me.ls r.bo.ds (by intro z; cases z))).trans g
  · exact (upd_ne (ne_of h.ar.so r.bo.ds (by intro z; cases z))).trans g
  · exact (upd_ne (ne_of h.ar.sp r.bo.ds (by intro z; cases z))).trans g
  · exact (upd_ne (ne_of h.ar.sq r.bo.ds (by intro z; cases z))).trans g
theorem PairO.bnew (h : PairO K H A R S U) {d' : Addr} {qs : List Int} (B : BookO K H' R.b R.bx d' qs) (k : ∀ c o, c ≠ R.b → H c = some o → H' c = some o) : PairO K H' A R S { U with bd := d', bs := qs } := by
  have r := h.ro
  have kb : [("marks" : Str)] ≠ [("memory" : Str), "old", "young", "spare"] := by decide +kernel
  have lst : ∀ {c xs}, H c = some (.lst xs) → H' c = some (.lst xs) := fun g => k _ _ (ne_of g r.bo.ob (by intro z; cases z)) g
  have ins : ∀ {c C dx fs}, H c = some (.ins C dx fs) → fs.map Prod.fst ≠ ([("marks" : Str)]) → H' c = some (.ins C dx fs) := fun g n => k _ _ (ne_of g r.bo.ob (fs_ne n)) g
  refine h.roS { r with ob := ins r.ob (by show [("hands" : Str), "book", "weaks", "lasts"] ≠ _; decide +kernel), ho := ⟨ins r.ho.ob (by show [("kept" : Str)] ≠ _; decide +kernel), lst r.ho.ls, r.ho.vw, r.ho.sz⟩, bo := B, wo := ⟨ins r.wo.ob (by show [("told" : Str)] ≠ _; decide +kernel), lst r.wo.ls⟩, lo := ⟨ins r.lo.ob (by show [("waiting" : Str), "spoken"] ≠ _; decide +kernel), lst r.lo.wa, r.lo.wt.fr (fun c xs g => k _ _ (ne_of g r.bo.ob (by intro z; cases z)) g), lst r.lo.sk, r.lo.de⟩ } ?_
  rintro b o (rfl | rfl | rfl | rfl | rfl | rfl) g
  · exact k _ _ (ne_of h.ar.ob r.bo.ob (fs_ne (by show [("memory" : Str), "old", "young", "spare"] ≠ [("marks" : Str)]; decide +kernel))) g
  · exact k _ _ (ne_of h.ar.me.ob r.bo.ob (fs_ne (by show [("size" : Str), "words"] ≠ [("marks" : Str)]; decide +kernel))) g
  · exact k _ _ (ne_of h.ar.me.ls r.bo.ob (by intro z; cases z)) g
  · exact k _ _ (ne_of h.ar.so r.bo.ob (fs_ne (by show [("begin" : Str), "end", "top"] ≠ [("marks" : Str)]; decide +kernel))) g
  · exact k _ _ (ne_of h.ar.sp r.bo.ob (fs_ne (by show [("begin" : Str), "end", "top"] ≠ [("marks" : Str)]; decide +kernel))) g
  · exact k _ _ (ne_of h.ar.sq r.bo.ob (fs_ne (by show [("begin" : Str), "end", "top"] ≠ [("marks" : Str)]; decide +kernel))) g
/-- another object changes -/
theorem PairO.fr (h : PairO K H A R S U) (k : ∀ b o, (b = A.a ∨ b = A.m ∨ b = A.l ∨ b = A.o ∨ b = A.p ∨ b = A.q ∨ b = R.r ∨ b = R.h ∨ b = R.hl ∨ b = R.b ∨ b = U.bd ∨ b = R.w ∨ b = R.wl ∨ b = R.la ∨ b = R.d ∨ b = R.e) → H b = some o → H' b = some o) (kt : ∀ c xs, H c = some (.tup xs) → H' c = some (.tup xs)) : PairO K H' A R S U :=
  { h with ar := h.ar.frP fun b o m g => k b o (by rcases m with m | m | m | m | m | m <;> simp only [m, true_or, or_true]) g, ro := h.ro.frP (fun b o m g => k b o (by rcases m with m | m | m | m | m | m | m | m | m | m <;> simp only [m, true_or, or_true]) g) kt }
/-- none of the own lists -/
def OffP (A : ArA) (R : RoA) (c : Addr) : Prop := c ≠ A.l ∧ c ≠ R.hl ∧ c ≠ R.wl ∧ c ≠ R.d ∧ c ≠ R.e
theorem PairO.off (h : PairO K H A R S U) {c : Addr} {xs : List V} {o : HO} (e : H c = some (.lst xs)) (n : OffP A R c) : PairO K (upd H c o) A R S U := by
  have i : ∀ {b C d fs}, H b = some (.ins C d fs) → upd H c o b = some (.ins C d fs) := fun g => (upd_ne (ne_of g e (by intro z; cases z))).trans g
  have t : ∀ b ys, H b = some (.tup ys) → upd H c o b = some (.tup ys) := fun b ys g => (upd_ne (ne_of g e (by intro z; cases z))).trans g
  have l : ∀ {b ys}, c ≠ b → H b = some (.lst ys) → upd H c o b = some (.lst ys) := fun n g => (upd_ne n.symm).trans g
  have r := h.ro
  exact { h with ar := h.ar.put e n.1.symm, ro := { r with ob := i r.ob, ho := ⟨i r.ho.ob, l n.2.1 r.ho.ls, r.ho.vw, r.ho.sz⟩, bo := ⟨i r.bo.ob, (upd_ne (ne_of r.bo.ds e (by intro z; cases z))).trans r.bo.ds, r.bo.nd⟩, wo := ⟨i r.wo.ob, l n.2.2.1 r.wo.ls⟩, lo := ⟨i r.lo.ob, l n.2.2.2.1 r.lo.wa, r.lo.wt.fr t, l n.2.2.2.2 r.lo.sk, r.lo.de⟩ } }
theorem PairO.offD (h : PairO K H A R S U) {c : Addr} {kv : List (Key × V)} {o : HO} (e : H c = some (.dK kv)) (n : c ≠ U.bd) : PairO K (upd H c o) A R S U := by
  have i : ∀ {b C d fs}, H b = some (.ins C d fs) → upd H c o b = some (.ins C d fs) := fun g => (upd_ne (ne_of g e (by intro z; cases z))).trans g
  have t : ∀ b ys, H b = some (.tup ys) → upd H c o b = some (.tup ys) := fun b ys g => (upd_ne (ne_of g e (by intro z; cases z))).trans g
  have l : ∀ {b ys}, H b = some (.lst ys) → upd H c o b = some (.lst ys) := fun g => (upd_ne (ne_of g e (by intro z; cases z))).trans g
  have r := h.ro
  exact { h with ar := h.ar.off (ne_of h.ar.me.ls e (by intro z; cases z)) (fun C d fs g => by rw [e] at g; cases g), ro := { r with ob := i r.ob, ho := ⟨i r.ho.ob, l r.ho.ls, r.ho.vw, r.ho.sz⟩, bo := ⟨i r.bo.ob, (upd_ne n.symm).trans r.bo.ds, r.bo.nd⟩, wo := ⟨i r.wo.ob, l r.wo.ls⟩, lo := ⟨i r.lo.ob, l r.lo.wa, r.lo.wt.fr t, l r.lo.sk, r.lo.de⟩ } }
theorem PairO.offl (h : PairO K H A R S U) {p : Addr} (np : H p = none) : OffP A R p ∧ p ≠ U.bd := ⟨⟨(ne_of_none h.ar.me.ls np).symm, (ne_of_none h.ro.ho.ls np).symm, (ne_of_none h.ro.wo.ls np).symm, (ne_of_none h.ro.lo.wa np).symm, (ne_of_none h.ro.lo.sk np).symm⟩, (ne_of_none h.ro.bo.ds np).symm⟩
end

local macro_rules | `(tactic| walk_at "w3") => `(tactic| try simp only [↓x_var0, ↓x_varS, ↓x_c, ↓x_op, ↓x_un, ↓x_cb, ↓x_nil, ↓x_cons, ↓x_test, ↓x_b, ↓x_ex, ↓x_and, ↓x_or, ↓x_not, ↓x_andV, ↓x_orV, ↓x_notV, ↓x_tif, ↓x_chain, ↓x_menu, ↓x_menuI, ↓x_lst, ↓x_tup, ↓x_dnew, ↓x_callW, ↓x_callN, ↓x_seq, ↓x_next, ↓x_ret, ↓x_retN, ↓x_drop, ↓x_ifS, ↓x_asg, ↓x_name, ↓x_raise, ↓x_fld, ↓x_setF, ↓x_meth, ↓x_make, ↓x_sub, ↓r_min, ↓r_max, ↓x_yes, ↓x_for, ↓x_lock, ↓x_keys, ↓x_cut, ↓x_lc, ↓x_rng1, ↓x_rng2, ↓x_lst1, ↓x_itup, ↓x_rng3, ↓x_three, ↓x_lstg, ↓x_tupg, ↓x_adrS, ↓x_one, ↓x_two, ↓x_adr, ↓x_sl, ↓x_np, ↓x_pt, ↓x_int, ↓x_bm, ↓x_bm0, ↓x_consg, ↓x_nilg, ↓x_dget2, ↓x_dget1, ↓x_dgetN, ↓x_dget, ↓x_din, ↓x_dni, ↓x_dput, ↓x_dpop2, ↓r_isB, ↓r_notB, ↓x_enum, ↓x_zip, ↓x_str, ↓x_strE, ↓r_inS, ↓r_ninS, wipe, List.map_cons, List.map_nil, ↓x_isT, ↓r_isiII, ↓r_isiBB, ↓r_isiIB, ↓r_isiSS, ↓r_neNS, ↓r_neSN, ↓r_neNN, ↓r_eqNS, ↓r_eqSN, ↓r_eqNN, ↓r_eqIS, ↓r_neIS, ↓r_neSI, ↓r_neBS, ↓r_eqBB, ↓r_neBB, ↓x_start, ↓x_K, ↓x_start0, ↓r_i0, ↓r_i, ↓r_u, ↓r_addI, ↓r_addS, ↓r_mulI, ↓r_mulS, ↓r_eqI, ↓r_neI, ↓r_eqS, ↓r_neS, ↓r_absI, ↓r_intI, ↓r_intB, List.length_cons, List.length_nil, List.replicate, List.set_cons_zero, List.set_cons_succ, decide_eq_true_eq, Bool.not_eq_true', decide_eq_false_iff_not, if_true, if_false, Bool.false_eq_true, Bool.true_eq_false, ite_true, ite_false, Bool.not_true, Bool.not_false, c_div, n_ten, c_pow, not_true_eq_false, not_false_eq_true, decide_true, decide_false, true_and, and_true, and_self, true_or, or_true, Int.reduceLT, Int.reduceLE, Int.reduceMul, Int.reduceAdd, Int.reduceSub, Int.reducePow, Int.reduceNeg, Int.reduceDiv, Int.reduceMod, Nat.reducePow, Int.reduceToNat, Int.reduceEq, Int.reduceNe, Nat.reduceLT, Nat.reduceLeDiff, Nat.reduceAdd, ↓x_whole, ↓x_kind, Int.natCast_one, Int.natCast_one])
/-! ## where cells go, by a list of pairs -/
def goG (ps : List (Int × Int)) (x : Int) : Option Int := (ps.find? fun p => decide (p.1 = x)).map (·.2)
def goF (ps : List (Int × Int)) (x : Int) : Int := (goG ps x).getD 0
theorem goG_val : ∀ {ps : List (Int × Int)} {x : Int}, valV (kvI ps) (.inl x : Key) = (goG ps x).map V.int
  | [], x => rfl
  | p :: r, x => by
    unfold goG
    rw [List.find?_cons]
    by_cases e : p.1 = x
    · subst e
      rw [decide_eq_true rfl]
      exact valV_pos rfl
    · rw [decide_eq_false e]
      have e2 : ¬ ((.inl p.1 : Key) = .inl x) := fun z => e (Sum.inl.inj z)
      exact (valV_neg (p := ((.inl p.1 : Key), V.int p.2)) (r := kvI r) e2).trans goG_val
theorem goG_mem {ps : List (Int × Int)} (nd : ps.Pairwise fun a b => a.1 ≠ b.1) {p : Int × Int} (m : p ∈ ps) : goG ps p.1 = some p.2 := by
  have h := kvI_some nd m
  rw [goG_val] at h
  cases e : goG ps p.1 with
  | none => rw [e] at h; cases h
  | some q => rw [e] at h; cases h; rfl
theorem goG_none {ps : List (Int × Int)} {x : Int} (h : ∀ p ∈ ps, p.1 ≠ x) : goG ps x = none := by
  have h := kvI_none h
  rw [goG_val] at h
  cases e : goG ps x with
  | none => rfl
  | some q => rw [e] at h; cases h
theorem goG_in {ps : List (Int × Int)} {x q : Int} (h : goG ps x = some q) : (x, q) ∈ ps := by
  unfold goG at h
  cases e : ps.find? fun p => decide (p.1 = x) with
  | none => rw [e] at h; cases h
  | some p =>
    rw [e] at h
    have h : some p.2 = some q := h
    have h1 := List.find?_some e
    have h2 := List.mem_of_find?_eq_some e
    rw [decide_eq_true_eq] at h1
    have : p = (x, q) := Prod.ext h1 (Option.some.inj h)
    rw [← this]
    exact h2

local macro_rules | `(tactic| walk_at "w3") => `(tactic| try simp only [↓x_var0, ↓x_varS, ↓x_c, ↓x_op, ↓x_un, ↓x_cb, ↓x_nil, ↓x_cons, ↓x_test, ↓x_b, ↓x_ex, ↓x_and, ↓x_or, ↓x_not, ↓x_andV, ↓x_orV, ↓x_notV, ↓x_tif, ↓x_chain, ↓x_menu, ↓x_menuI, ↓x_lst, ↓x_tup, ↓x_dnew, ↓x_callW, ↓x_callN, ↓x_seq, ↓x_next, ↓x_ret, ↓x_retN, ↓x_drop, ↓x_ifS, ↓x_asg, ↓x_name, ↓x_raise, ↓x_fld, ↓x_setF, ↓x_meth, ↓x_make, ↓x_sub, ↓r_min, ↓r_max, ↓x_yes, ↓x_for, ↓x_lock, ↓x_keys, ↓x_cut, ↓x_lc, ↓x_rng1, ↓x_rng2, ↓x_lst1, ↓x_itup, ↓x_rng3, ↓x_three, ↓x_lstg, ↓x_tupg, ↓x_adrS, ↓x_one, ↓x_two, ↓x_adr, ↓x_sl, ↓x_np, ↓x_pt, ↓x_int, ↓x_bm, ↓x_bm0, ↓x_consg, ↓x_nilg, ↓x_dget2, ↓x_dget1, ↓x_dgetN, ↓x_dget, ↓x_din, ↓x_dni, ↓x_dput, ↓x_dpop2, ↓r_isB, ↓r_notB, ↓x_enum, ↓x_zip, ↓x_str, ↓x_strE, ↓r_inS, ↓r_ninS, wipe, List.map_cons, List.map_nil, ↓x_isT, ↓r_isiII, ↓r_isiBB, ↓r_isiIB, ↓r_isiSS, ↓r_neNS, ↓r_neSN, ↓r_neNN, ↓r_eqNS, ↓r_eqSN, ↓r_eqNN, ↓r_eqIS, ↓r_neIS, ↓r_neSI, ↓r_neBS, ↓r_eqBB, ↓r_neBB, ↓x_start, ↓x_K, ↓x_start0, ↓r_i0, ↓r_i, ↓r_u, ↓r_addI, ↓r_addS, ↓r_mulI, ↓r_mulS, ↓r_eqI, ↓r_neI, ↓r_eqS, ↓r_neS, ↓r_absI, ↓r_intI, ↓r_intB, List.length_cons, List.length_nil, List.replicate, List.set_cons_zero, List.set_cons_succ, decide_eq_true_eq, Bool.not_eq_true', decide_eq_false_iff_not, if_true, if_false, Bool.false_eq_true, Bool.true_eq_false, ite_true, ite_false, Bool.not_true, Bool.not_false, c_div, n_ten, c_pow, not_true_eq_false, not_false_eq_true, decide_true, decide_false, true_and, and_true, and_self, true_or, or_true, Int.reduceLT, Int.reduceLE, Int.reduceMul, Int.reduceAdd, Int.reduceSub, Int.reducePow, Int.reduceNeg, Int.reduceDiv, Int.reduceMod, Nat.reducePow, Int.reduceToNat, Int.reduceEq, Int.reduceNe, Nat.reduceLT, Nat.reduceLeDiff, Nat.reduceAdd, ↓x_whole, ↓x_kind, Int.natCast_one, Int.natCast_one, Int.natCast_one])
/-! ## copying -/
/-- behind a copy -/
def copT (ws : List Int) (i t s a : Nat) : List Int := ((cpT ws i t (s + 1)).set t (2 * ((4 * s + a : Nat) : Int))).set i (2 * (t : Int) + 1)
theorem copT_len {ws : List Int} {i t s a : Nat} : (copT ws i t s a).length = ws.length := by
  unfold copT
  rw [List.length_set, List.length_set, cpT_len]
theorem copT_at {ws : List Int} {i t s a u : Nat} (hi : i < ws.length) (ht : t + s < ws.length) : (copT ws i t s a).getD u 0 = if u = i then 2 * (t : Int) + 1 else if u = t then 2 * ((4 * s + a : Nat) : Int) else if t < u ∧ u ≤ t + s then ws.getD (i + (u - t)) 0 else ws.getD u 0 := by
  unfold copT
  rw [getD_set (by rw [List.length_set, cpT_len]; omega), getD_set (by rw [cpT_len]; omega), cpT_at (by omega)]
  by_cases e1 : u = i
  · rw [if_pos e1.symm, if_pos e1]
  · rw [if_neg (fun z => e1 z.symm), if_neg e1]
    by_cases e2 : u = t
    · rw [if_pos e2.symm, if_pos e2]
    · rw [if_neg (fun z => e2 z.symm), if_neg e2]
      by_cases e3 : t < u ∧ u ≤ t + s
      · rw [if_pos (by omega), if_pos e3]
      · rw [if_neg (by omega), if_neg e3]
def sp_copied (K : PySem.W.Frag) : Sp := fun vs H Q E => ∃ m mx l ws v s sx b e t z, vs = [.ref m, v, .ref s, z] ∧ MemO K H m mx l ws ∧ Vw ws ∧ SpO K H s sx b e t ∧ Thing H v ∧ Thing H z ∧ match headW ws v with
  | .noPlace => E (Ex K "NoPlace") none H
  | .noCell => E (Ex K "NoCell") none H
  | .ok i h => match ageW z with
    | none => E (Ex K "BadCount") none H
    | some a => if (h / 4 + 1 : Nat) ≤ (e : Int) - t then (i + h / 4 < ws.length ∧ e ≤ ws.length ∧ e ≤ 9999 ∧ (i < t ∨ t + h / 4 < i)) ∧
        ∀ H', MemO K H' m mx l (copT ws i t (h / 4) a) → Vw (copT ws i t (h / 4) a) → SpO K H' s sx b e (t + (h / 4 + 1)) → (∀ c o, c ≠ l → c ≠ s → H c = some o → H' c = some o) → Q (.int (t : Int)) H'
      else E (Ex K "NoRoom") none H
section
variable {P : Program} {w : World} {K : PySem.W.Frag} {mg : Str → Option Value} {base : Heap}
theorem f_copied (T : Tx K mg) : Fn P w K mg base 7 "copied" ["memory", "at", "space", "age"] (sp_copied K) := by
  have c_words_of := f_words_of (P := P) (w := w) (base := base) T
  have c_is_whole := f_is_whole (P := P) (w := w) (base := base) T
  have c_Space_take := f_Space_take (P := P) (w := w) (base := base) T
  have c_Memory_copy := f_Memory_copy (P := P) (w := w) (base := base) T
  have c_aged := f_aged (P := P) (w := w) (base := base) T
  have c_send := f_send (P := P) (w := w) (base := base) T
  refine T.mkFn 16 34 (d := d_copied) (N := ["memory", "at", "space", "age", "many", "goal"]) (k := 6) rfl rfl rfl rfl rfl sc_copied (fun _ _ _ _ _ _ us hl => match us, hl with | [_, _, _, _], _ => rfl) (fun vs H Q E h => ?len) (fun cdv A outer s H vs Q E hr h => ⟨_,
      (pss_cons (ps_set (i := 4) sc_copied.nd rfl (Or.inl rfl) (pe_fn (takes_of rfl rfl rfl rfl) c_words_of (hr.mono (by decide)) (by rfl) (pa_cons (pv 0) (pa_cons (pv 1) pa_nil))))
        (pss_cons (ps_if (PW.pt (pw_or (pt_not (pt_val (pe_fn (takes_of rfl rfl rfl rfl) c_is_whole (hr.mono (by decide)) (by rfl) (pa_cons (pv 3) pa_nil)))) (pw_or1 (pt_not (pt_chain op_le op_le pe_int (pv 3) (pe_num (T.num 61) (by rfl))))))) (pss_one (ps_raiseK (K := K) rfl rfl (takes_of rfl rfl rfl rfl) (T.says.fact 84 rfl) (T.glo 3) (by rfl))) pss_nil)
        (pss_cons (ps_set (i := 5) sc_copied.nd rfl (Or.inl rfl) (pe_mt (K := K) rfl (takes_of rfl rfl rfl rfl) (pv 2) c_Space_take (hr.mono (by decide)) (pa_cons (pv 4) pa_nil)))
        (pss_cons (ps_expr (pe_mt (K := K) rfl (takes_of rfl rfl rfl rfl) (pv 0) c_Memory_copy (hr.mono (by decide)) (pa_cons (pv 1) (pa_cons (pv 5) (pa_cons (pv 4) pa_nil)))))
        (pss_cons (ps_expr (pe_fn (takes_of rfl rfl rfl rfl) c_aged (hr.mono (by decide)) (by rfl) (pa_cons (pv 0) (pa_cons (pv 5) (pa_cons (pv 3) pa_nil)))))
        (pss_cons (ps_expr (pe_fn (takes_of rfl rfl rfl rfl) c_send (hr.mono (by decide)) (by rfl) (pa_cons (pv 0) (pa_cons (pv 1) (pa_cons (pv 5) pa_nil)))))
        (pss_one (ps_ret (pv 5))))))))), ?rd⟩)
  case len => obtain ⟨m, mx, l, ws, v, s, sx, b, e, t, z, rfl, _⟩ := h; rfl
  case rd =>
    obtain ⟨m, mx, l, ws, v, s, sx, b, e, t, z, rfl, M, vw, sp, th, tz, h⟩ := h
    walk_at "w3"
    refine ⟨m, mx, l, ws, v, rfl, M, vw, th, ?_⟩
    cases eh : headW ws v with
    | noPlace =>
      rw [eh] at h
      exact h
    | noCell =>
      rw [eh] at h
      exact h
    | ok i k =>
      rw [eh] at h
      dsimp only at h ⊢
      obtain ⟨rfl, hi, ea⟩ := head_ok eh
      obtain ⟨-, h34, -⟩ := headAt_some ea
      walk_at "w3"
      rcases tz with ⟨n, rfl⟩ | o
      · walk_at "w3"
        rw [ageW_int] at h
        split
        · split
          · rw [if_neg (by omega)] at h
            exact h
          · rw [if_pos (by omega)] at h
            dsimp only at h
            refine ⟨recv sp, s, sx, b, e, t, _, rfl, sp, .inl ⟨_, rfl⟩, ?_⟩
            rw [takeW_int, if_neg (by omega)]
            by_cases fit : ((k / 4 + 1 : Nat) : Int) ≤ (e : Int) - t
            · rw [if_pos fit] at h
              obtain ⟨⟨f1, f2, f3, f4⟩, q⟩ := h
              rw [if_neg (by omega)]
              dsimp only
              rw [Int.toNat_natCast]
              have k1 : ∀ c o, c ≠ s → H c = some o → upd H s (SpV K sx b e (t + (k / 4 + 1))) c = some o := fun c o n g => (upd_ne n).trans g
              have M1 : MemO K (upd H s (SpV K sx b e (t + (k / 4 + 1)))) m mx l ws := ⟨k1 _ _ (ne_of M.ob sp fun z => spv_fs (by show 2 ≠ 3; decide) z.symm) M.ob, k1 _ _ (ne_of M.ls sp fun z => spv_lst z.symm) M.ls, M.sz⟩
              have sp1 : SpO K (upd H s (SpV K sx b e (t + (k / 4 + 1)))) s sx b e (t + (k / 4 + 1)) := upd_same
              generalize upd H s (SpV K sx b e (t + (k / 4 + 1))) = H1 at k1 M1 sp1 ⊢
              refine ⟨recv M1.ob, m, mx, l, ws, _, _, _, rfl, M1, .inl ⟨_, rfl⟩, .inl ⟨_, rfl⟩, .inl ⟨_, rfl⟩, ?_⟩
              rw [cpOf_int, if_pos (by omega), stretchOf_int, if_pos (by omega), Int.toNat_natCast]
              dsimp only
              rw [stretchOf_int, if_pos (by omega), Int.toNat_natCast]
              dsimp only
              rw [Int.toNat_natCast]
              intro H2 M2 k2 _
              have v2 : Vw (cpT ws i t (k / 4 + 1)) := cpT_vw vw (by omega)
              have l2 : (cpT ws i t (k / 4 + 1)).length = ws.length := cpT_len
              have h2 : headW (cpT ws i t (k / 4 + 1)) (.int (t : Int)) = .ok t k := ans_head' (by omega) (by rw [cpT_at (by omega), if_pos (by omega), Nat.sub_self, Nat.add_zero]; exact ea)
              refine ⟨m, mx, l, _, _, _, rfl, M2, v2, .inl ⟨_, rfl⟩, .inl ⟨_, rfl⟩, ?_⟩
              rw [h2]
              dsimp only
              rw [ageW_int, if_pos (by omega)]
              dsimp only
              have w3 : (wordOf (2 * ((4 * (k / 4) + n.toNat : Nat) : Int))).isSome = true := by rw [word_num (by omega)]; rfl
              have M3 := M2.put ((cpT ws i t (k / 4 + 1)).set t (2 * ((4 * (k / 4) + n.toNat : Nat) : Int))) (List.length_set ..)
              have v3 := v2.set (i := t) w3
              have h3 : headW ((cpT ws i t (k / 4 + 1)).set t (2 * ((4 * (k / 4) + n.toNat : Nat) : Int))) (.int (i : Int)) = .ok i k := ans_head' (by rw [List.length_set]; omega) (by rw [getD_set (by omega), if_neg (by omega), cpT_at (by omega), if_neg (by omega)]; exact ea)
              have k3 : ∀ c o, c ≠ l → H2 c = some o → upd H2 l (.lst (((cpT ws i t (k / 4 + 1)).set t (2 * ((4 * (k / 4) + n.toNat : Nat) : Int))).map V.int)) c = some o := fun c o n g => (upd_ne n).trans g
              generalize upd H2 l (.lst (((cpT ws i t (k / 4 + 1)).set t (2 * ((4 * (k / 4) + n.toNat : Nat) : Int))).map V.int)) = H3 at M3 k3 ⊢
              refine ⟨m, mx, l, _, _, _, rfl, M3, v3, .inl ⟨_, rfl⟩, .inl ⟨_, rfl⟩, ?_⟩
              rw [h3]
              dsimp only
              rw [placeW_int, if_pos (by omega)]
              dsimp only
              have w4 : (wordOf (2 * (t : Int) + 1)).isSome = true := by rw [word_place (by omega) (by omega)]; rfl
              have M4 := M3.put (((cpT ws i t (k / 4 + 1)).set t (2 * ((4 * (k / 4) + n.toNat : Nat) : Int))).set i (2 * (t : Int) + 1)) (List.length_set ..)
              have ls : l ≠ s := ne_of M1.ls sp1 fun z => spv_lst z.symm
              exact q _ M4 (v3.set (i := i) w4) ((upd_ne ls.symm).trans (k3 _ _ ls.symm (k2 _ _ ls.symm sp1))) fun c o n1 n2 g => (upd_ne n1).trans (k3 _ _ n1 (k2 _ _ n1 (k1 _ _ n2 g)))
            · rw [if_neg fit] at h
              rw [if_pos (by omega)]
              exact h
        · rw [if_neg (by omega)] at h
          exact h
      · rw [odd_whole o]
        rw [ageW_odd o] at h
        walk_at "w3"
        exact h
end
/-- where a word leads -/
inductive Mv where
  | noPlace | noCell | ok (w : Int)
def movedW (ws : List Int) (n : Int) : Mv := match wordOf n with
  | some (.place p) => (match placeOf ws.length (.int p) with
    | none => .noPlace
    | some i => match wordOf (ws.getD i 0) with
      | some (.place g) => .ok (2 * g + 1)
      | _ => match headAt (ws.getD i 0) with
        | none => .noCell
        | some _ => .ok n)
  | _ => .ok n
def sp_moved (K : PySem.W.Frag) : Sp := fun vs H Q E => ∃ m mx l ws n, vs = [.ref m, .int n] ∧ MemO K H m mx l ws ∧ Vw ws ∧ (wordOf n).isSome = true ∧ match movedW ws n with
  | .noPlace => E (Ex K "NoPlace") none H
  | .noCell => E (Ex K "NoCell") none H
  | .ok w => Q (.int w) H
section
variable {P : Program} {w : World} {K : PySem.W.Frag} {mg : Str → Option Value} {base : Heap}
theorem f_moved (T : Tx K mg) : Fn P w K mg base 6 "moved" ["memory", "word"] (sp_moved K) := by
  have c_kind := f_kind (P := P) (w := w) (base := base) T
  have c_sent_to := f_sent_to (P := P) (w := w) (base := base) T
  have c_worth := f_worth (P := P) (w := w) (base := base) T
  have c_place_word := f_place_word (P := P) (w := w) (base := base) T
  refine T.mkFn 17 35 (d := d_moved) (N := ["memory", "word", "goal"]) (k := 5) rfl rfl rfl rfl rfl sc_moved (fun _ _ _ _ _ _ us hl => match us, hl with | [_, _], _ => rfl) (fun vs H Q E h => ?len) (fun cdv A outer s H vs Q E hr h => ⟨_,
      (pss_cons (ps_if (pt_cmpR (op_neK (K := K) rfl hr.units) (pe_fn (takes_of rfl rfl rfl rfl) c_kind (hr.mono (by decide)) (by rfl) (pa_cons (pv 1) pa_nil)) pe_str (nomark _)) (pss_one (ps_ret (pv 1))) pss_nil)
        (pss_cons (ps_set (i := 2) sc_moved.nd rfl (Or.inl rfl) (pe_fn (takes_of rfl rfl rfl rfl) c_sent_to (hr.mono (by decide)) (by rfl) (pa_cons (pv 0) (pa_cons (pe_fn (takes_of rfl rfl rfl rfl) c_worth (hr.mono (by decide)) (by rfl) (pa_cons (pv 1) pa_nil)) pa_nil))))
        (pss_cons (ps_if (pt_cmpR op_isN (pv 2) pe_non (nomark _)) (pss_one (ps_ret (pv 1))) pss_nil)
        (pss_one (ps_ret (pe_fn (takes_of rfl rfl rfl rfl) c_place_word (hr.mono (by decide)) (by rfl) (pa_cons (pv 2) pa_nil))))))), ?rd⟩)
  case len => obtain ⟨m, mx, l, ws, n, rfl, _⟩ := h; rfl
  case rd =>
    obtain ⟨m, mx, l, ws, n, rfl, M, vw, hn, h⟩ := h
    walk_at "w3"
    unfold movedW at h
    cases e : wordOf n with
    | none =>
      rw [e] at hn
      cases hn
    | some x =>
      rw [e] at h
      cases x with
      | place p =>
        dsimp only at h ⊢
        simp only [k_pp, not_true_eq_false, if_false, x_worth, e]
        have hp : 0 ≤ p ∧ p ≤ 9999 := by
          have := cl_word e
          unfold wordOf at e
          repeat' split at e
          all_goals first
            | (cases e; done)
            | omega
        refine ⟨m, mx, l, ws, _, rfl, M, vw, .inl ⟨_, rfl⟩, ?_⟩
        rw [show (Wd.place p).worth = V.int p from rfl]
        cases ep : placeOf ws.length (.int p) with
        | none =>
          rw [ep] at h
          dsimp only at h ⊢
          exact h
        | some i =>
          rw [ep] at h
          dsimp only at h ⊢
          obtain ⟨e1, hi⟩ := placeOf_some ep
          obtain ⟨y, ey⟩ := vw.get hi
          rw [ey] at h ⊢
          cases y with
          | place g =>
            dsimp only at h ⊢
            rw [if_neg (by intro z; cases z)]
            have hg : 0 ≤ g ∧ g ≤ 9999 := by
              have := cl_word ey
              unfold wordOf at ey
              repeat' split at ey
              all_goals first
                | (cases ey; done)
                | omega
            rw [x_place_word, if_pos hg]
            exact h
          | _ =>
            dsimp only at h ⊢
            cases eh : headAt (ws.getD i 0) with
            | none =>
              rw [eh] at h
              exact h
            | some k =>
              rw [eh] at h
              dsimp only at h ⊢
              rw [if_pos rfl]
              exact h
      | _ =>
        dsimp only at h ⊢
        simp only [k_np, k_Np, not_false_eq_true, if_true]
        exact h
end

local macro_rules | `(tactic| walk_at "w3") => `(tactic| try simp only [↓x_var0, ↓x_varS, ↓x_c, ↓x_op, ↓x_un, ↓x_cb, ↓x_nil, ↓x_cons, ↓x_test, ↓x_b, ↓x_ex, ↓x_and, ↓x_or, ↓x_not, ↓x_andV, ↓x_orV, ↓x_notV, ↓x_tif, ↓x_chain, ↓x_menu, ↓x_menuI, ↓x_lst, ↓x_tup, ↓x_dnew, ↓x_callW, ↓x_callN, ↓x_seq, ↓x_next, ↓x_ret, ↓x_retN, ↓x_drop, ↓x_ifS, ↓x_asg, ↓x_name, ↓x_raise, ↓x_fld, ↓x_setF, ↓x_meth, ↓x_make, ↓x_sub, ↓r_min, ↓r_max, ↓x_yes, ↓x_for, ↓x_lock, ↓x_keys, ↓x_cut, ↓x_lc, ↓x_rng1, ↓x_rng2, ↓x_lst1, ↓x_itup, ↓x_rng3, ↓x_three, ↓x_lstg, ↓x_tupg, ↓x_adrS, ↓x_one, ↓x_two, ↓x_adr, ↓x_sl, ↓x_np, ↓x_pt, ↓x_int, ↓x_bm, ↓x_bm0, ↓x_consg, ↓x_nilg, ↓x_dget2, ↓x_dget1, ↓x_dgetN, ↓x_dget, ↓x_din, ↓x_dni, ↓x_dput, ↓x_dpop2, ↓r_isB, ↓r_notB, ↓x_enum, ↓x_zip, ↓x_str, ↓x_strE, ↓r_inS, ↓r_ninS, wipe, List.map_cons, List.map_nil, ↓x_isT, ↓r_isiII, ↓r_isiBB, ↓r_isiIB, ↓r_isiSS, ↓r_neNS, ↓r_neSN, ↓r_neNN, ↓r_eqNS, ↓r_eqSN, ↓r_eqNN, ↓r_eqIS, ↓r_neIS, ↓r_neSI, ↓r_neBS, ↓r_eqBB, ↓r_neBB, ↓x_start, ↓x_K, ↓x_start0, ↓r_i0, ↓r_i, ↓r_u, ↓r_addI, ↓r_addS, ↓r_mulI, ↓r_mulS, ↓r_eqI, ↓r_neI, ↓r_eqS, ↓r_neS, ↓r_absI, ↓r_intI, ↓r_intB, List.length_cons, List.length_nil, List.replicate, List.set_cons_zero, List.set_cons_succ, decide_eq_true_eq, Bool.not_eq_true', decide_eq_false_iff_not, if_true, if_false, Bool.false_eq_true, Bool.true_eq_false, ite_true, ite_false, Bool.not_true, Bool.not_false, c_div, n_ten, c_pow, not_true_eq_false, not_false_eq_true, decide_true, decide_false, true_and, and_true, and_self, true_or, or_true, Int.reduceLT, Int.reduceLE, Int.reduceMul, Int.reduceAdd, Int.reduceSub, Int.reducePow, Int.reduceNeg, Int.reduceDiv, Int.reduceMod, Nat.reducePow, Int.reduceToNat, Int.reduceEq, Int.reduceNe, Nat.reduceLT, Nat.reduceLeDiff, Nat.reduceAdd, ↓x_whole, ↓x_kind, Int.natCast_one, Int.natCast_one, Int.natCast_one, Int.natCast_one])
/-! ## the young collection: who went where -/
def agO (S : ArS) (p : Nat) : Nat := match headAt (S.ws.getD p 0) with
  | some h => h % 4
  | none => 0
def Yng (S : ArS) (p : Int) : Prop := (S.b S.fl : Int) ≤ p ∧ p < S.t S.fl
def stY (S : ArS) (qs : List CeL) : Nat := sumW (qs.filter fun c => decide (agO S c.p = 0))
def grY (S : ArS) (qs : List CeL) : Nat := sumW (qs.filter fun c => !decide (agO S c.p = 0))
/-- where the next one goes -/
def nqY (S : ArS) (qs : List CeL) (c : CeL) : Nat := if agO S c.p = 0 then S.b (!S.fl) + stY S qs else S.ot + grY S qs
def fwA (S : ArS) : List CeL → List CeL → List (CeL × Nat)
  | _, [] => []
  | pre, c :: r => (c, nqY S pre c) :: fwA S (pre ++ [c]) r
def fwY (S : ArS) (qs : List CeL) : List (CeL × Nat) := fwA S [] qs
theorem fwA_snoc {S : ArS} {c : CeL} : ∀ {r pre : List CeL}, fwA S pre (r ++ [c]) = fwA S pre r ++ [(c, nqY S (pre ++ r) c)]
  | [], pre => by
    rw [List.append_nil]
    rfl
  | a :: r, pre => by
    show _ :: fwA S (pre ++ [a]) (r ++ [c]) = _ :: (fwA S (pre ++ [a]) r ++ _)
    rw [fwA_snoc, List.append_assoc]
    rfl
theorem fwA_fst {S : ArS} : ∀ {r pre : List CeL}, (fwA S pre r).map (·.1) = r
  | [], _ => rfl
  | a :: r, pre => by
    show a :: (fwA S (pre ++ [a]) r).map (·.1) = _
    rw [fwA_fst]
theorem fwY_snoc {S : ArS} {qs : List CeL} {c : CeL} : fwY S (qs ++ [c]) = fwY S qs ++ [(c, nqY S qs c)] := fwA_snoc
theorem fwY_fst {S : ArS} {qs : List CeL} : (fwY S qs).map (·.1) = qs := fwA_fst
def psY (S : ArS) (qs : List CeL) : List (Int × Int) := (fwY S qs).map fun x => ((x.1.p : Int), (x.2 : Int))
theorem psY_snoc {S : ArS} {qs : List CeL} {c : CeL} : psY S (qs ++ [c]) = psY S qs ++ [((c.p : Int), (nqY S qs c : Int))] := by
  unfold psY
  rw [fwY_snoc, List.map_append]
  rfl
theorem goG_app {ps : List (Int × Int)} {a b x : Int} : goG (ps ++ [(a, b)]) x = match goG ps x with
  | some q => some q
  | none => if a = x then some b else none := by
  unfold goG
  rw [List.find?_append]
  cases ps.find? fun p => decide (p.1 = x) with
  | some q => rfl
  | none =>
    show (([(a, b)].find? fun p => decide (p.1 = x))).map (·.2) = if a = x then some b else none
    by_cases e : a = x
    · rw [if_pos e, List.find?_cons_of_pos (by exact decide_eq_true e)]
      rfl
    · rw [if_neg e, List.find?_cons_of_neg (by rw [decide_eq_true_iff]; exact e)]
      rfl
/-- a word, so far as its cell went -/
def trY (S : ArS) (qs : List CeL) (w : Int) : Int := turnW (fun p => (goG (psY S qs) p).getD p) w
def dnY (S : ArS) (qs : List CeL) (w : Int) : Prop := ∀ p, placeIn w = some p → Yng S p → (goG (psY S qs) p).isSome = true
def Tn (S : ArS) (qs : List CeL) (w0 w : Int) : Prop := w = w0 ∨ (dnY S qs w0 ∧ w = trY S qs w0)
theorem psY_mem {S : ArS} {qs : List CeL} {p q : Int} (h : (p, q) ∈ psY S qs) : ∃ x ∈ fwY S qs, p = x.1.p ∧ q = x.2 := by
  obtain ⟨x, m, e⟩ := List.mem_map.mp h
  cases e
  exact ⟨x, m, rfl, rfl⟩
theorem fw_mem {S : ArS} {qs : List CeL} {x : CeL × Nat} (h : x ∈ fwY S qs) : x.1 ∈ qs := by
  have := List.mem_map_of_mem (f := (·.1)) h
  rwa [fwY_fst] at this
theorem fw_of {S : ArS} {qs : List CeL} {c : CeL} (h : c ∈ qs) : ∃ q, (c, q) ∈ fwY S qs := by
  rw [← fwY_fst (S := S) (qs := qs)] at h
  obtain ⟨x, m, rfl⟩ := List.mem_map.mp h
  exact ⟨x.2, m⟩
theorem goY_snoc {S : ArS} {qs : List CeL} {c : CeL} {p q : Int} (h : goG (psY S qs) p = some q) : goG (psY S (qs ++ [c])) p = some q := by
  rw [psY_snoc, goG_app, h]
theorem goY_new {S : ArS} {qs : List CeL} {c : CeL} (h : ∀ d ∈ qs, d.p ≠ c.p) : goG (psY S (qs ++ [c])) (c.p : Int) = some (nqY S qs c : Int) := by
  rw [psY_snoc, goG_app, goG_none]
  · exact if_pos rfl
  · intro x m e
    obtain ⟨y, my, e1, -⟩ := psY_mem (p := x.1) (q := x.2) m
    exact h _ (fw_mem my) (by omega)
theorem dn_snoc {S : ArS} {qs : List CeL} {c : CeL} {w : Int} (h : dnY S qs w) : dnY S (qs ++ [c]) w := fun p e y => by
  obtain ⟨q, eq⟩ := Option.isSome_iff_exists.mp (h p e y)
  rw [goY_snoc eq]
  rfl
theorem tr_snoc {S : ArS} {qs : List CeL} {c : CeL} {w : Int} (h : dnY S qs w) (y : Yng S c.p) : trY S (qs ++ [c]) w = trY S qs w := by
  unfold trY turnW
  cases e : placeIn w with
  | none => rfl
  | some p =>
    dsimp only
    congr 2
    rw [psY_snoc, goG_app]
    cases g : goG (psY S qs) p with
    | some q => rfl
    | none =>
      dsimp only
      by_cases f : (c.p : Int) = p
      · have := h p e (f ▸ y)
        rw [g] at this
        cases this
      · rw [if_neg f]
theorem Tn.snoc {S : ArS} {qs : List CeL} {c : CeL} {w0 w : Int} (h : Tn S qs w0 w) (y : Yng S c.p) : Tn S (qs ++ [c]) w0 w := by
  rcases h with h | ⟨h1, h2⟩
  · exact .inl h
  · exact .inr ⟨dn_snoc h1, by rw [tr_snoc h1 y]; exact h2⟩
theorem stY_snoc {S : ArS} {qs : List CeL} {c : CeL} : stY S (qs ++ [c]) = stY S qs + (if agO S c.p = 0 then c.ws.length + 1 else 0) := by
  unfold stY
  rw [List.filter_append]
  by_cases e : agO S c.p = 0
  · rw [List.filter_cons_of_pos (by exact decide_eq_true e), if_pos e, List.filter_nil, sumW_app]
  · rw [List.filter_cons_of_neg (by rw [decide_eq_true_iff]; exact e), if_neg e, List.filter_nil, List.append_nil]
    rfl
theorem grY_snoc {S : ArS} {qs : List CeL} {c : CeL} : grY S (qs ++ [c]) = grY S qs + (if agO S c.p = 0 then 0 else c.ws.length + 1) := by
  unfold grY
  rw [List.filter_append]
  by_cases e : agO S c.p = 0
  · rw [List.filter_cons_of_neg (by rw [decide_eq_true e]; exact Bool.false_ne_true), if_pos e, List.filter_nil, List.append_nil]
    rfl
  · rw [List.filter_cons_of_pos (by rw [decide_eq_false e]; rfl), if_neg e, List.filter_nil, sumW_app]
theorem st_gr {S : ArS} : ∀ {qs : List CeL}, stY S qs + grY S qs = sumW qs := fun {qs} => by
  induction qs with
  | nil => rfl
  | cons c r ih =>
    have h1 : stY S (c :: r) = (if agO S c.p = 0 then c.ws.length + 1 else 0) + stY S r := by
      unfold stY
      by_cases e : agO S c.p = 0
      · rw [List.filter_cons_of_pos (by exact decide_eq_true e), if_pos e]
        rfl
      · rw [List.filter_cons_of_neg (by rw [decide_eq_true_iff]; exact e), if_neg e, Nat.zero_add]
    have h2 : grY S (c :: r) = (if agO S c.p = 0 then 0 else c.ws.length + 1) + grY S r := by
      unfold grY
      by_cases e : agO S c.p = 0
      · rw [List.filter_cons_of_neg (by rw [decide_eq_true e]; exact Bool.false_ne_true), if_pos e, Nat.zero_add]
      · rw [List.filter_cons_of_pos (by rw [decide_eq_false e]; rfl), if_neg e]
        rfl
    have h3 : sumW (c :: r) = (c.ws.length + 1) + sumW r := rfl
    rw [h1, h2, h3]
    split <;> omega
theorem nd_lenG {α : Type} [BEq α] [LawfulBEq α] {f U : List α} (nd : f.Nodup) (h : ∀ x ∈ f, x ∈ U) : f.length ≤ U.length := by
  induction f generalizing U with
  | nil => exact Nat.zero_le _
  | cons x r ih =>
    obtain ⟨n1, n2⟩ := List.nodup_cons.mp nd
    have hx := h x List.mem_cons_self
    have := ih (U := U.erase x) n2 fun y m => (List.mem_erase_of_ne (fun (z : y = x) => n1 (by rw [← z]; exact m))).mpr (h y (List.mem_cons_of_mem _ m))
    rw [List.length_erase_of_mem hx] at this
    have := List.length_pos_of_mem hx
    rw [List.length_cons]
    omega
/-- cells apart within a stretch have no more words than it -/
theorem sum_in {b t : Nat} : ∀ {qs : List CeL}, (qs.Pairwise fun a b => a.p + a.ws.length < b.p ∨ b.p + b.ws.length < a.p) → (∀ c ∈ qs, b ≤ c.p ∧ c.p + c.ws.length < t) → sumW qs ≤ t - b := fun {qs} hp hb => by
  have key : ∀ {qs : List CeL}, (qs.Pairwise fun a b => a.p + a.ws.length < b.p ∨ b.p + b.ws.length < a.p) → (qs.flatMap fun c => List.range' c.p (c.ws.length + 1)).Nodup ∧ (qs.flatMap fun c => List.range' c.p (c.ws.length + 1)).length = sumW qs := fun {qs} h => by
    induction qs with
    | nil => exact ⟨.nil, rfl⟩
    | cons c r ih =>
      obtain ⟨h1, h2⟩ := List.pairwise_cons.mp h
      obtain ⟨i1, i2⟩ := ih h2
      rw [List.flatMap_cons]
      refine ⟨List.nodup_append.mpr ⟨List.nodup_range', i1, fun a ha x hx e => ?_⟩, ?_⟩
      · obtain ⟨d, md, hd⟩ := List.mem_flatMap.mp hx
        rw [List.mem_range'_1] at ha hd
        have := h1 d md
        omega
      · rw [List.length_append, i2, List.length_range']
        rfl
  obtain ⟨k1, k2⟩ := key hp
  rw [← k2]
  have := nd_lenG (U := List.range' b (t - b)) k1 fun x m => by
    obtain ⟨d, md, hd⟩ := List.mem_flatMap.mp m
    rw [List.mem_range'_1] at hd
    have := hb d md
    rw [List.mem_range'_1]
    omega
  rwa [List.length_range'] at this
structure Y0 (S : ArS) (C : List CeL) : Prop where
  cp : CelP S C
  cw : ∀ c ∈ C, ∀ w ∈ c.ws, ClW C w
  ln : S.ws.length = S.n + 2 * S.k
  lo : S.ot ≤ S.n
  sz : S.n + 2 * S.k ≤ 9999
  lb : S.b S.fl ≤ S.t S.fl ∧ S.t S.fl ≤ S.b S.fl + S.k
  es : S.t (!S.fl) = S.b (!S.fl)
  rm : S.ot + (S.t S.fl - S.b S.fl) ≤ S.n
theorem bb_of {S : ArS} : (S.b S.fl + S.k ≤ S.b (!S.fl) ∨ S.b (!S.fl) + S.k ≤ S.b S.fl) ∧ S.n ≤ S.b S.fl ∧ S.n ≤ S.b (!S.fl) ∧ S.b S.fl + S.k ≤ S.n + 2 * S.k ∧ S.b (!S.fl) + S.k ≤ S.n + 2 * S.k := by
  unfold ArS.b
  cases S.fl <;> simp <;> omega
theorem Y0.side {S : ArS} {C : List CeL} (P : Y0 S C) {c : CeL} (m : c ∈ C) : (¬ Yng S c.p ∧ c.p + c.ws.length < S.ot) ∨ (Yng S c.p ∧ S.b S.fl ≤ c.p ∧ c.p + c.ws.length < S.t S.fl) := by
  have := bb_of (S := S)
  have := P.lo
  unfold Yng
  rcases P.cp.ar c m with h | h
  · exact .inl ⟨by omega, h⟩
  · exact .inr ⟨by omega, h⟩
theorem Y0.sum {S : ArS} {C qs : List CeL} (P : Y0 S C) (mq : ∀ c ∈ qs, c ∈ C ∧ Yng S c.p) (nd : qs.Pairwise fun a b => a.p ≠ b.p) : sumW qs ≤ S.t S.fl - S.b S.fl := by
  refine sum_in (List.Pairwise.imp_of_mem (fun {a b} ma mb h => P.cp.apart (mq a ma).1 (mq b mb).1 fun z => h (by rw [z])) nd) fun c mc => ?_
  rcases P.side (mq c mc).1 with ⟨h, -⟩ | ⟨-, h⟩
  · exact absurd (mq c mc).2 h
  · exact h
structure Yg (S0 : ArS) (C qs : List CeL) (S : ArS) : Prop where
  n : S.n = S0.n
  k : S.k = S0.k
  fl : S.fl = S0.fl
  ty : S.t S0.fl = S0.t S0.fl
  ts : S.t (!S0.fl) = S0.b (!S0.fl) + stY S0 qs
  ot : S.ot = S0.ot + grY S0 qs
  ln : S.ws.length = S0.ws.length
  mq : ∀ c ∈ qs, c ∈ C ∧ Yng S0 c.p
  nd : qs.Pairwise fun a b => a.p ≠ b.p
  sn : ∀ x ∈ fwY S0 qs, S.ws.getD x.1.p 0 = 2 * (x.2 : Int) + 1
  un : ∀ c ∈ C, (∀ d ∈ qs, d.p ≠ c.p) → S.ws.getD c.p 0 = S0.ws.getD c.p 0
  sy : ∀ c ∈ C, Yng S0 c.p → ∀ j, j < c.ws.length → S.ws.getD (c.p + 1 + j) 0 = c.ws.getD j 0
  so : ∀ c ∈ C, ¬ Yng S0 c.p → ∀ j, j < c.ws.length → Tn S0 qs (c.ws.getD j 0) (S.ws.getD (c.p + 1 + j) 0)
  nh : ∀ x ∈ fwY S0 qs, S.ws.getD x.2 0 = 2 * ((4 * x.1.ws.length + (if agO S0 x.1.p = 0 then 1 else 2) : Nat) : Int)
  ns : ∀ x ∈ fwY S0 qs, ∀ j, j < x.1.ws.length → Tn S0 qs (x.1.ws.getD j 0) (S.ws.getD (x.2 + 1 + j) 0)
  nb : ∀ x ∈ fwY S0 qs, (agO S0 x.1.p = 0 → S0.b (!S0.fl) ≤ x.2 ∧ x.2 + x.1.ws.length < S.t (!S0.fl)) ∧ (agO S0 x.1.p ≠ 0 → S0.ot ≤ x.2 ∧ x.2 + x.1.ws.length < S.ot)
  nj : (fwY S0 qs).Pairwise fun a b => a.2 + a.1.ws.length < b.2 ∨ b.2 + b.1.ws.length < a.2
theorem Yg.init {S : ArS} {C : List CeL} (P : Y0 S C) : Yg S C [] S where
  n := rfl
  k := rfl
  fl := rfl
  ty := rfl
  ts := P.es
  ot := rfl
  ln := rfl
  mq := fun c m => (List.not_mem_nil m).elim
  nd := .nil
  sn := fun c m => (List.not_mem_nil m).elim
  un := fun c m _ => rfl
  sy := fun c m _ j hj => P.cp.sl c m j hj
  so := fun c m _ j hj => .inl (P.cp.sl c m j hj)
  nh := fun c m => (List.not_mem_nil m).elim
  ns := fun c m => (List.not_mem_nil m).elim
  nb := fun c m => (List.not_mem_nil m).elim
  nj := .nil
section
variable {S0 S : ArS} {C qs : List CeL} {c : CeL}
/-- behind a copy -/
def copS (S0 S : ArS) (qs : List CeL) (c : CeL) : ArS := { (if agO S0 c.p = 0 then S.put (!S0.fl) (S.t (!S0.fl) + (c.ws.length + 1)) else { S with ot := S.ot + (c.ws.length + 1) }) with ws := copT S.ws c.p (nqY S0 qs c) c.ws.length (if agO S0 c.p = 0 then 1 else 2) }
theorem copS_is : (copS S0 S qs c).n = S.n ∧ (copS S0 S qs c).k = S.k ∧ (copS S0 S qs c).fl = S.fl ∧ (copS S0 S qs c).t S0.fl = S.t S0.fl ∧ (copS S0 S qs c).t (!S0.fl) = S.t (!S0.fl) + (if agO S0 c.p = 0 then c.ws.length + 1 else 0) ∧ (copS S0 S qs c).ot = S.ot + (if agO S0 c.p = 0 then 0 else c.ws.length + 1) ∧ (copS S0 S qs c).ws = copT S.ws c.p (nqY S0 qs c) c.ws.length (if agO S0 c.p = 0 then 1 else 2) := by
  unfold copS ArS.put ArS.t
  by_cases e : agO S0 c.p = 0
  · rw [if_pos e, if_pos e, if_pos e]
    cases S0.fl <;> simp [e]
  · rw [if_neg e, if_neg e, if_neg e]
    cases S0.fl <;> simp [e]
/-- there is room for who is not there yet -/
theorem Yg.fits (P : Y0 S0 C) (G : Yg S0 C qs S) (mc : c ∈ C) (yc : Yng S0 c.p) (nc : ∀ d ∈ qs, d.p ≠ c.p) : (agO S0 c.p = 0 → nqY S0 qs c = S.t (!S0.fl) ∧ nqY S0 qs c + c.ws.length < S0.b (!S0.fl) + S0.k ∧ S0.b (!S0.fl) ≤ nqY S0 qs c) ∧ (agO S0 c.p ≠ 0 → nqY S0 qs c = S.ot ∧ nqY S0 qs c + c.ws.length < S0.n ∧ S0.ot ≤ nqY S0 qs c) := by
  have h1 := P.sum (qs := qs ++ [c]) (fun d md => by
    rcases List.mem_append.mp md with md | md
    · exact G.mq d md
    · rw [List.mem_singleton.mp md]
      exact ⟨mc, yc⟩) (List.pairwise_append.mpr ⟨G.nd, List.pairwise_cons.mpr ⟨(fun _ m => (List.not_mem_nil m).elim), .nil⟩, fun a ma b mb => by
    rw [List.mem_singleton.mp mb]
    exact nc a ma⟩)
  rw [sumW_app, ← st_gr (S := S0)] at h1
  have := P.lb
  have := P.rm
  have := G.ts
  have := G.ot
  unfold nqY
  refine ⟨fun e => ?_, fun e => ?_⟩
  · rw [if_pos e]
    omega
  · rw [if_neg e]
    omega
theorem Yg.copy (P : Y0 S0 C) (G : Yg S0 C qs S) (mc : c ∈ C) (yc : Yng S0 c.p) (nc : ∀ d ∈ qs, d.p ≠ c.p) : Yg S0 C (qs ++ [c]) (copS S0 S qs c) := by
  obtain ⟨s1, s2, s3, s4, s5, s6, s7⟩ := copS_is (S0 := S0) (S := S) (qs := qs) (c := c)
  obtain ⟨f1, f2⟩ := G.fits P mc yc nc
  have bb := bb_of (S := S0)
  have lo := P.lo
  have lb := P.lb
  have gts := G.ts
  have gty := G.ty
  have got := G.ot
  have pl := P.ln
  have gl := G.ln
  obtain ⟨-, c1, c2⟩ : Yng S0 c.p ∧ S0.b S0.fl ≤ c.p ∧ c.p + c.ws.length < S0.t S0.fl := by
    rcases P.side mc with ⟨h, -⟩ | h
    · exact absurd yc h
    · exact h
  obtain ⟨q, eq⟩ : ∃ q, q = nqY S0 qs c := ⟨_, rfl⟩
  obtain ⟨a, ea⟩ : ∃ a, a = agO S0 c.p := ⟨_, rfl⟩
  rw [← eq, ← ea] at f1 f2 s7
  rw [← ea] at s5 s6
  have hq : (S0.b (!S0.fl) ≤ q ∧ q + c.ws.length < S0.b (!S0.fl) + S0.k ∧ S.t (!S0.fl) ≤ q) ∨ (S0.ot ≤ q ∧ q + c.ws.length < S0.n ∧ S.ot ≤ q) := by
    by_cases e : a = 0
    · have := f1 e
      exact .inl (by omega)
    · have := f2 e
      exact .inr (by omega)
  have hqn : q + c.ws.length < S.ws.length := by omega
  have hcn : c.p < S.ws.length := by omega
  have cat : ∀ u, (copS S0 S qs c).ws.getD u 0 = if u = c.p then 2 * (q : Int) + 1 else if u = q then 2 * ((4 * c.ws.length + (if a = 0 then 1 else 2) : Nat) : Int) else if q < u ∧ u ≤ q + c.ws.length then S.ws.getD (c.p + (u - q)) 0 else S.ws.getD u 0 := fun u => by
    rw [s7]
    exact copT_at hcn hqn
  have cs : ∀ u, u ≠ c.p → (u < q ∨ q + c.ws.length < u) → (copS S0 S qs c).ws.getD u 0 = S.ws.getD u 0 := fun u h1 h2 => by
    rw [cat, if_neg h1, if_neg (by omega), if_neg (by omega)]
  have qc : c.p < q ∨ q + c.ws.length < c.p := by omega
  have fx : ∀ x ∈ fwY S0 qs, (S0.b (!S0.fl) ≤ x.2 ∧ x.2 + x.1.ws.length < S.t (!S0.fl)) ∨ (S0.ot ≤ x.2 ∧ x.2 + x.1.ws.length < S.ot) := fun x mx => by
    obtain ⟨h1, h2⟩ := G.nb x mx
    by_cases e : agO S0 x.1.p = 0
    · exact .inl (h1 e)
    · exact .inr (h2 e)
  have stk : S.t (!S0.fl) ≤ S0.b (!S0.fl) + S0.k ∧ S.ot ≤ S0.n := by
    have h1 := P.sum G.mq G.nd
    rw [← st_gr (S := S0)] at h1
    have := P.rm
    omega
  have fq : ∀ x ∈ fwY S0 qs, (x.2 + x.1.ws.length < q ∨ q + c.ws.length < x.2) ∧ (x.2 + x.1.ws.length < c.p ∨ c.p + c.ws.length < x.2) := fun x mx => by
    rcases fx x mx with h | h <;> rcases hq with h' | h' <;> omega
  have dq : ∀ d ∈ C, (d.p + d.ws.length < q ∨ q + c.ws.length < d.p) := fun d md => by
    rcases P.side md with ⟨-, h⟩ | ⟨-, h⟩ <;> rcases hq with h' | h' <;> omega
  have dc : ∀ d ∈ C, d.p ≠ c.p → d.p + d.ws.length < c.p ∨ c.p + c.ws.length < d.p := fun d md ne => P.cp.apart md mc fun z => ne (by rw [z])
  have qn : (c, q) ∈ fwY S0 (qs ++ [c]) := by
    rw [fwY_snoc, eq]
    exact List.mem_append_right _ (List.mem_singleton.mpr rfl)
  have fm : ∀ x ∈ fwY S0 (qs ++ [c]), x ∈ fwY S0 qs ∨ x = (c, q) := fun x mx => by
    rw [fwY_snoc, ← eq] at mx
    rcases List.mem_append.mp mx with h | h
    · exact .inl h
    · exact .inr (List.mem_singleton.mp h)
  refine ⟨s1.trans G.n, s2.trans G.k, s3.trans G.fl, s4.trans G.ty, ?_, ?_, ?_, ?_, ?_, ?_, ?_, ?_, ?_, ?_, ?_, ?_, ?_⟩
  · rw [s5, stY_snoc, G.ts, ea]
    omega
  · rw [s6, grY_snoc, G.ot, ea]
    omega
  · rw [s7, copT_len]
    exact G.ln
  · intro d md
    rcases List.mem_append.mp md with md | md
    · exact G.mq d md
    · rw [List.mem_singleton.mp md]
      exact ⟨mc, yc⟩
  · refine List.pairwise_append.mpr ⟨G.nd, List.pairwise_cons.mpr ⟨(fun _ m => (List.not_mem_nil m).elim), .nil⟩, fun a ma b mb => ?_⟩
    rw [List.mem_singleton.mp mb]
    exact nc a ma
  · intro x mx
    rcases fm x mx with mx | rfl
    · have h1 := nc _ (fw_mem mx)
      have h2 := dq _ (G.mq _ (fw_mem mx)).1
      rw [cs _ h1 (by omega)]
      exact G.sn x mx
    · rw [cat, if_pos rfl]
  · intro d md h
    have h1 : d.p ≠ c.p := (h c (List.mem_append_right _ (List.mem_singleton.mpr rfl))).symm
    have h2 := dq d md
    rw [cs _ h1 (by omega)]
    exact G.un d md fun e me => h e (List.mem_append_left _ me)
  · intro d md yd j hj
    have h2 := dq d md
    have h3 := dc d md
    rw [cs _ (by omega) (by omega)]
    exact G.sy d md yd j hj
  · intro d md yd j hj
    have h2 := dq d md
    have h3 := dc d md
    rw [cs _ (by omega) (by omega)]
    exact (G.so d md yd j hj).snoc yc
  · intro x mx
    rcases fm x mx with mx | rfl
    · have h1 := fq x mx
      rw [cs _ (by omega) (by omega)]
      exact G.nh x mx
    · show (copS S0 S qs c).ws.getD q 0 = _
      rw [cat, if_neg (by omega), if_pos rfl, ea]
  · intro x mx j hj
    rcases fm x mx with mx | rfl
    · have h1 := fq x mx
      rw [cs _ (by omega) (by omega)]
      exact (G.ns x mx j hj).snoc yc
    · show Tn S0 _ (c.ws.getD j 0) ((copS S0 S qs c).ws.getD (q + 1 + j) 0)
      have hj : j < c.ws.length := hj
      rw [cat, if_neg (by omega), if_neg (by omega), if_pos (by omega), show c.p + (q + 1 + j - q) = c.p + 1 + j from by omega]
      exact .inl (G.sy c mc yc j hj)
  · intro x mx
    rcases fm x mx with mx | rfl
    · obtain ⟨h1, h2⟩ := G.nb x mx
      refine ⟨fun e => ?_, fun e => ?_⟩
      · have := h1 e
        rw [s5]
        omega
      · have := h2 e
        rw [s6]
        omega
    · show (agO S0 c.p = 0 → S0.b (!S0.fl) ≤ q ∧ q + c.ws.length < _) ∧ (agO S0 c.p ≠ 0 → S0.ot ≤ q ∧ q + c.ws.length < _)
      rw [← ea]
      refine ⟨fun e => ?_, fun e => ?_⟩
      · have := f1 e
        rw [s5, if_pos e]
        omega
      · have := f2 e
        rw [s6, if_neg e]
        omega
  · rw [fwY_snoc, ← eq]
    refine List.pairwise_append.mpr ⟨G.nj, List.pairwise_cons.mpr ⟨(fun _ m => (List.not_mem_nil m).elim), .nil⟩, fun x mx b mb => ?_⟩
    rw [List.mem_singleton.mp mb]
    exact (fq x mx).1
end
/-! ### words -/
section
variable {S0 S : ArS} {C qs : List CeL} {c : CeL}
theorem app_ind {P : List CeL → Prop} (h : ∀ ys c, P ys → Yng S0 (CeL.p c) → P (ys ++ [c])) : ∀ {t qs : List CeL}, P qs → (∀ c ∈ t, Yng S0 c.p) → P (qs ++ t)
  | [], qs, a, _ => by rw [List.append_nil]; exact a
  | c :: r, qs, a, m => by
    have := app_ind h (t := r) (h qs c a (m c List.mem_cons_self)) fun d md => m d (List.mem_cons_of_mem _ md)
    rwa [List.append_assoc] at this
/-- a word that went along -/
def Dn (S : ArS) (qs : List CeL) (w0 w : Int) : Prop := dnY S qs w0 ∧ w = trY S qs w0
theorem Dn.app {w0 w : Int} (h : Dn S0 qs w0 w) {t : List CeL} (m : ∀ c ∈ t, Yng S0 c.p) : Dn S0 (qs ++ t) w0 w :=
  app_ind (S0 := S0) (P := fun ys => Dn S0 ys w0 w) (fun ys c g y => ⟨dn_snoc g.1, by rw [tr_snoc g.1 y]; exact g.2⟩) h m
theorem Dn.tn {w0 w : Int} (h : Dn S0 qs w0 w) : Tn S0 qs w0 w := .inr h
theorem Yg.go (G : Yg S0 C qs S) (m : c ∈ qs) : ∃ q, (c, q) ∈ fwY S0 qs ∧ goG (psY S0 qs) (c.p : Int) = some (q : Int) := by
  obtain ⟨q, mq⟩ := fw_of (S := S0) m
  refine ⟨q, mq, goG_mem (p := ((c.p : Int), (q : Int))) ?_ (List.mem_map.mpr ⟨_, mq, rfl⟩)⟩
  unfold psY
  have h := G.nd
  rw [← fwY_fst (S := S0) (qs := qs), List.pairwise_map] at h
  rw [List.pairwise_map]
  exact h.imp fun {a b} n e => n (by have e : (a.1.p : Int) = b.1.p := e; omega)
theorem Yg.go_y (G : Yg S0 C qs S) {p q : Int} (h : goG (psY S0 qs) p = some q) : ∃ x ∈ fwY S0 qs, p = x.1.p ∧ q = x.2 ∧ Yng S0 p := by
  obtain ⟨x, mx, e1, e2⟩ := psY_mem (goG_in h)
  exact ⟨x, mx, e1, e2, by rw [e1]; exact (G.mq _ (fw_mem mx)).2⟩
theorem Yg.go_n (G : Yg S0 C qs S) {p : Int} (h : ¬ Yng S0 p) : goG (psY S0 qs) p = none := by
  cases e : goG (psY S0 qs) p with
  | none => rfl
  | some q =>
    obtain ⟨-, -, -, -, y⟩ := G.go_y e
    exact absurd y h
theorem Yg.stk (P : Y0 S0 C) (G : Yg S0 C qs S) : S.t (!S0.fl) ≤ S0.b (!S0.fl) + S0.k ∧ S.ot ≤ S0.n := by
  have h1 := P.sum G.mq G.nd
  rw [← st_gr (S := S0)] at h1
  have := P.rm
  have := P.lb
  have := G.ts
  have := G.ot
  omega
/-- where new ones lie is nothing young -/
theorem Yg.new_n (P : Y0 S0 C) (G : Yg S0 C qs S) {x : CeL × Nat} (mx : x ∈ fwY S0 qs) : ¬ Yng S0 (x.2 : Int) ∧ x.2 + x.1.ws.length < S.ws.length := by
  have bb := bb_of (S := S0)
  have := G.stk P
  have := P.lb
  have := P.lo
  have := P.ln
  have := G.ln
  obtain ⟨h1, h2⟩ := G.nb x mx
  unfold Yng
  by_cases e : agO S0 x.1.p = 0
  · have := h1 e
    omega
  · have := h2 e
    omega
theorem trY_none {w : Int} (h : placeIn w = none) : trY S0 qs w = w := by
  unfold trY turnW
  rw [h]
theorem trY_go {w p q : Int} (h : placeIn w = some p) (g : goG (psY S0 qs) p = some q) : trY S0 qs w = 2 * q + 1 := by
  unfold trY turnW
  rw [h]
  dsimp only
  rw [g]
  rfl
theorem placeIn_is {w p : Int} (h : placeIn w = some p) : w = 2 * p + 1 ∧ 0 ≤ p := by
  unfold placeIn at h
  split at h
  · cases h
    omega
  · cases h
theorem placeIn_of {p : Int} (h : 0 ≤ p) : placeIn (2 * p + 1) = some p := by
  unfold placeIn
  rw [if_pos (by omega)]
  congr 1
  omega
theorem trY_stay (G : Yg S0 C qs S) {w p : Int} (h : placeIn w = some p) (y : ¬ Yng S0 p) : trY S0 qs w = w := by
  unfold trY turnW
  rw [h]
  dsimp only
  rw [G.go_n y]
  exact (placeIn_is h).1.symm
/-- a word that is no young one's is as it should be -/
theorem Tn.stay (G : Yg S0 C qs S) {w0 w : Int} (h : Tn S0 qs w0 w) (n : ∀ p, placeIn w = some p → ¬ Yng S0 p) : Dn S0 qs w0 w := by
  rcases h with h | h
  · subst h
    refine ⟨fun p e y => absurd y (n p e), ?_⟩
    cases e : placeIn w with
    | none => rw [trY_none e]
    | some p => rw [trY_stay G e (n p e)]
  · exact h
/-- a young one's word is as it was -/
theorem Tn.young (P : Y0 S0 C) (G : Yg S0 C qs S) {w0 w p : Int} (h : Tn S0 qs w0 w) (e : placeIn w = some p) (y : Yng S0 p) : w = w0 := by
  rcases h with h | ⟨h1, h2⟩
  · exact h
  · cases e0 : placeIn w0 with
    | none =>
      rw [trY_none e0] at h2
      exact h2
    | some p0 =>
      by_cases y0 : Yng S0 p0
      · obtain ⟨q, eq⟩ := Option.isSome_iff_exists.mp (h1 p0 e0 y0)
        rw [trY_go e0 eq] at h2
        obtain ⟨x, mx, -, e2, -⟩ := G.go_y eq
        subst h2 e2
        rw [placeIn_of (by omega)] at e
        cases e
        exact absurd y (G.new_n P mx).1
      · rw [trY_stay G e0 y0] at h2
        exact h2
def yk1 (S : ArS) (w : Int) : List Int := match placeIn w with
  | some p => if (S.b S.fl : Int) ≤ p ∧ p < S.t S.fl then [p] else []
  | none => []
def ykL (S : ArS) (ws : List Int) : List Int := ws.flatMap (yk1 S)
theorem yk1_y {w p : Int} (h : placeIn w = some p) (y : Yng S0 p) : yk1 S0 w = [p] := by
  unfold yk1
  rw [h]
  exact if_pos y
theorem yk1_n {w : Int} (h : ∀ p, placeIn w = some p → ¬ Yng S0 p) : yk1 S0 w = [] := by
  unfold yk1
  cases e : placeIn w with
  | none => rfl
  | some p => exact if_neg (h p e)
/-- places where a slot lies that goes along -/
def SlY (S0 : ArS) (C qs : List CeL) (v : Nat) (w0 : Int) : Prop := (∃ c ∈ C, ¬ Yng S0 c.p ∧ ∃ j, j < c.ws.length ∧ v = c.p + 1 + j ∧ w0 = c.ws.getD j 0) ∨ ∃ x ∈ fwY S0 qs, ∃ j, j < x.1.ws.length ∧ v = x.2 + 1 + j ∧ w0 = x.1.ws.getD j 0
theorem Yg.tn (G : Yg S0 C qs S) {v : Nat} {w0 : Int} (h : SlY S0 C qs v w0) : Tn S0 qs w0 (S.ws.getD v 0) := by
  rcases h with ⟨c, mc, y, j, hj, rfl, rfl⟩ | ⟨x, mx, j, hj, rfl, rfl⟩
  · exact G.so c mc y j hj
  · exact G.ns x mx j hj
theorem SlY.snoc {v : Nat} {w0 : Int} (h : SlY S0 C qs v w0) : SlY S0 C (qs ++ [c]) v w0 := by
  rcases h with h | ⟨x, mx, h⟩
  · exact .inl h
  · exact .inr ⟨x, by rw [fwY_snoc]; exact List.mem_append_left _ mx, h⟩
end

local macro_rules | `(tactic| walk_at "w3") => `(tactic| try simp only [↓x_var0, ↓x_varS, ↓x_c, ↓x_op, ↓x_un, ↓x_cb, ↓x_nil, ↓x_cons, ↓x_test, ↓x_b, ↓x_ex, ↓x_and, ↓x_or, ↓x_not, ↓x_andV, ↓x_orV, ↓x_notV, ↓x_tif, ↓x_chain, ↓x_menu, ↓x_menuI, ↓x_lst, ↓x_tup, ↓x_dnew, ↓x_callW, ↓x_callN, ↓x_seq, ↓x_next, ↓x_ret, ↓x_retN, ↓x_drop, ↓x_ifS, ↓x_asg, ↓x_name, ↓x_raise, ↓x_fld, ↓x_setF, ↓x_meth, ↓x_make, ↓x_sub, ↓r_min, ↓r_max, ↓x_yes, ↓x_for, ↓x_lock, ↓x_keys, ↓x_cut, ↓x_lc, ↓x_rng1, ↓x_rng2, ↓x_lst1, ↓x_itup, ↓x_rng3, ↓x_three, ↓x_lstg, ↓x_tupg, ↓x_adrS, ↓x_one, ↓x_two, ↓x_adr, ↓x_sl, ↓x_np, ↓x_pt, ↓x_int, ↓x_bm, ↓x_bm0, ↓x_consg, ↓x_nilg, ↓x_dget2, ↓x_dget1, ↓x_dgetN, ↓x_dget, ↓x_din, ↓x_dni, ↓x_dput, ↓x_dpop2, ↓r_isB, ↓r_notB, ↓x_enum, ↓x_zip, ↓x_str, ↓x_strE, ↓r_inS, ↓r_ninS, wipe, List.map_cons, List.map_nil, ↓x_isT, ↓r_isiII, ↓r_isiBB, ↓r_isiIB, ↓r_isiSS, ↓r_neNS, ↓r_neSN, ↓r_neNN, ↓r_eqNS, ↓r_eqSN, ↓r_eqNN, ↓r_eqIS, ↓r_neIS, ↓r_neSI, ↓r_neBS, ↓r_eqBB, ↓r_neBB, ↓x_start, ↓x_K, ↓x_start0, ↓r_i0, ↓r_i, ↓r_u, ↓r_addI, ↓r_addS, ↓r_mulI, ↓r_mulS, ↓r_eqI, ↓r_neI, ↓r_eqS, ↓r_neS, ↓r_absI, ↓r_intI, ↓r_intB, List.length_cons, List.length_nil, List.replicate, List.set_cons_zero, List.set_cons_succ, decide_eq_true_eq, Bool.not_eq_true', decide_eq_false_iff_not, if_true, if_false, Bool.false_eq_true, Bool.true_eq_false, ite_true, ite_false, Bool.not_true, Bool.not_false, c_div, n_ten, c_pow, not_true_eq_false, not_false_eq_true, decide_true, decide_false, true_and, and_true, and_self, true_or, or_true, Int.reduceLT, Int.reduceLE, Int.reduceMul, Int.reduceAdd, Int.reduceSub, Int.reducePow, Int.reduceNeg, Int.reduceDiv, Int.reduceMod, Nat.reducePow, Int.reduceToNat, Int.reduceEq, Int.reduceNe, Nat.reduceLT, Nat.reduceLeDiff, Nat.reduceAdd, ↓x_whole, ↓x_kind, Int.natCast_one, Int.natCast_one, Int.natCast_one, Int.natCast_one, Int.natCast_one])
/-! ## the young collection: one word more goes along -/
section
variable {S0 S : ArS} {C qs : List CeL} {c : CeL}
theorem Yg.nx (P : Y0 S0 C) (G : Yg S0 C qs S) {x : CeL × Nat} (mx : x ∈ fwY S0 qs) : (∀ d ∈ C, x.2 + x.1.ws.length < d.p ∨ d.p + d.ws.length < x.2) ∧ x.2 + x.1.ws.length < S.ws.length := by
  have bb := bb_of (S := S0)
  have := G.stk P
  have := P.lb
  have := P.lo
  have := P.ln
  have := G.ln
  obtain ⟨h1, h2⟩ := G.nb x mx
  by_cases e : agO S0 x.1.p = 0
  · have := h1 e
    refine ⟨fun d md => ?_, by omega⟩
    rcases P.side md with ⟨-, h⟩ | ⟨-, h⟩ <;> omega
  · have := h2 e
    refine ⟨fun d md => ?_, by omega⟩
    rcases P.side md with ⟨-, h⟩ | ⟨-, h⟩ <;> omega
theorem SlY.off (P : Y0 S0 C) (G : Yg S0 C qs S) {v : Nat} {w0 : Int} (h : SlY S0 C qs v w0) : v < S.ws.length ∧ (∀ d ∈ C, v ≠ d.p) ∧ (∀ d ∈ C, Yng S0 d.p → ∀ j, j < d.ws.length → v ≠ d.p + 1 + j) ∧ ∀ x ∈ fwY S0 qs, v ≠ x.2 := by
  have pl := P.ln
  have gl := G.ln
  have lo := P.lo
  rcases h with ⟨c, mc, y, j, hj, rfl, rfl⟩ | ⟨x, mx, j, hj, rfl, rfl⟩
  · have hc : c.p + c.ws.length < S0.ot := by
      rcases P.side mc with ⟨-, h⟩ | ⟨h, -⟩
      · exact h
      · exact absurd h y
    refine ⟨by omega, fun d md e => ?_, fun d md yd i hi e => ?_, fun x mx e => ?_⟩
    · by_cases ee : c = d
      · subst ee; omega
      · have := P.cp.apart mc md ee; omega
    · by_cases ee : c = d
      · exact y (ee ▸ yd)
      · have := P.cp.apart mc md ee; omega
    · have := (G.nx P mx).1 c mc
      omega
  · obtain ⟨h1, h2⟩ := G.nx P mx
    refine ⟨by omega, fun d md e => ?_, fun d md yd i hi e => ?_, fun z mz e => ?_⟩
    · have := h1 d md; omega
    · have := h1 d md; omega
    · by_cases ee : x = z
      · subst ee; omega
      · have := pair_mem (fun _ _ q => q.symm) G.nj mx mz ee; omega
theorem SlY.uniq (P : Y0 S0 C) (G : Yg S0 C qs S) {v : Nat} {w0 w1 : Int} (h : SlY S0 C qs v w0) (h' : SlY S0 C qs v w1) : w0 = w1 := by
  rcases h with ⟨c, mc, y, j, hj, rfl, rfl⟩ | ⟨x, mx, j, hj, rfl, rfl⟩ <;> rcases h' with ⟨d, md, yd, i, hi, e, rfl⟩ | ⟨z, mz, i, hi, e, rfl⟩
  · by_cases ee : c = d
    · subst ee
      rw [show j = i from by omega]
    · have := P.cp.apart mc md ee; omega
  · have := (G.nx P mz).1 c mc; omega
  · have := (G.nx P mx).1 d md; omega
  · by_cases ee : x = z
    · subst ee
      rw [show j = i from by omega]
    · have := pair_mem (fun _ _ q => q.symm) G.nj mx mz ee; omega
theorem Yg.put (P : Y0 S0 C) (G : Yg S0 C qs S) {v : Nat} {w0 w' : Int} (h : SlY S0 C qs v w0) (d : Dn S0 qs w0 w') : Yg S0 C qs { S with ws := S.ws.set v w' } := by
  obtain ⟨o1, o2, o3, o4⟩ := h.off P G
  have at_ : ∀ u, ({ S with ws := S.ws.set v w' } : ArS).ws.getD u 0 = if v = u then w' else S.ws.getD u 0 := fun u => getD_set o1
  refine { n := G.n, k := G.k, fl := G.fl, ty := G.ty, ts := G.ts, ot := G.ot, ln := (List.length_set ..).trans G.ln, mq := G.mq, nd := G.nd, nb := G.nb, nj := G.nj, sn := fun x mx => ?_, un := fun c mc hc => ?_, sy := fun c mc yc j hj => ?_, so := fun c mc yc j hj => ?_, nh := fun x mx => ?_, ns := fun x mx j hj => ?_ }
  · rw [at_, if_neg (o2 _ (G.mq _ (fw_mem mx)).1)]
    exact G.sn x mx
  · rw [at_, if_neg (o2 c mc)]
    exact G.un c mc hc
  · rw [at_, if_neg (o3 c mc yc j hj)]
    exact G.sy c mc yc j hj
  · rw [at_]
    split
    · rename_i e
      have := h.uniq P G (w1 := c.ws.getD j 0) (.inl ⟨c, mc, yc, j, hj, e, rfl⟩)
      rw [← this]
      exact d.tn
    · exact G.so c mc yc j hj
  · rw [at_, if_neg (o4 x mx)]
    exact G.nh x mx
  · rw [at_]
    split
    · rename_i e
      have := h.uniq P G (w1 := x.1.ws.getD j 0) (.inr ⟨x, mx, j, hj, e, rfl⟩)
      rw [← this]
      exact d.tn
    · exact G.ns x mx j hj
/-- slots stay where a cell is copied -/
theorem Yg.cop_sl (P : Y0 S0 C) (G : Yg S0 C qs S) (mc : c ∈ C) (yc : Yng S0 c.p) (nc : ∀ d ∈ qs, d.p ≠ c.p) {v : Nat} {w0 : Int} (h : SlY S0 C qs v w0) : (copS S0 S qs c).ws.getD v 0 = S.ws.getD v 0 := by
  obtain ⟨o1, o2, o3, o4⟩ := h.off P G
  have G' := G.copy P mc yc nc
  obtain ⟨-, -, -, -, -, -, s7⟩ := copS_is (S0 := S0) (S := S) (qs := qs) (c := c)
  have mn : (c, nqY S0 qs c) ∈ fwY S0 (qs ++ [c]) := by
    rw [fwY_snoc]
    exact List.mem_append_right _ (List.mem_singleton.mpr rfl)
  have hn : (∀ d ∈ C, nqY S0 qs c + c.ws.length < d.p ∨ d.p + d.ws.length < nqY S0 qs c) ∧ nqY S0 qs c + c.ws.length < (copS S0 S qs c).ws.length := G'.nx P mn
  have hl := G'.ln
  have gl := G.ln
  have h4 := (h.snoc (c := c)).off P G'
  have h5 : ∀ j, j < c.ws.length → v ≠ nqY S0 qs c + 1 + j := fun j hj e => by
    subst e
    rcases h with ⟨d, md, y, i, hi, e, rfl⟩ | ⟨x, mx, i, hi, e, rfl⟩
    · have := hn.1 d md; omega
    · have hp := G'.nj
      rw [fwY_snoc] at hp
      have := (List.pairwise_append.mp hp).2.2 x mx _ (List.mem_singleton.mpr rfl)
      have : x.2 + x.1.ws.length < nqY S0 qs c ∨ nqY S0 qs c + c.ws.length < x.2 := this
      omega
  have h6 : v ≠ nqY S0 qs c := h4.2.2.2 _ mn
  have hcl : c.p < S.ws.length := by
    have := P.lb
    have := bb_of (S := S0)
    have := P.ln
    rcases P.side mc with ⟨-, h⟩ | ⟨-, h⟩
    · have := P.lo; omega
    · omega
  have hn2 : nqY S0 qs c + c.ws.length < S.ws.length := by
    have := hn.2
    have : nqY S0 qs c + c.ws.length < (copS S0 S qs c).ws.length := this
    omega
  rw [s7, copT_at hcl hn2, if_neg (o2 c mc), if_neg h6, if_neg]
  intro z
  exact h5 (v - (nqY S0 qs c + 1)) (by omega) (by omega)
/-- what one word's going along does -/
structure Go1 (S0 : ArS) (C qs qs' : List CeL) (S S' : ArS) (w0 w' : Int) : Prop where
  g : Yg S0 C qs' S'
  q : qs'.map (fun c => (c.p : Int)) = addN (qs.map fun c => (c.p : Int)) (yk1 S0 w0)
  d : Dn S0 qs' w0 w'
  x : ∃ t, qs' = qs ++ t
  s : ∀ v u, SlY S0 C qs v u → S'.ws.getD v 0 = S.ws.getD v 0
theorem go_stay (G : Yg S0 C qs S) {w0 w : Int} (h : Tn S0 qs w0 w) (n : ∀ p, placeIn w = some p → ¬ Yng S0 p) : Go1 S0 C qs qs S S w0 w := by
  have d := h.stay G n
  refine ⟨G, ?_, d, ⟨[], (List.append_nil _).symm⟩, fun _ _ _ => rfl⟩
  cases e : placeIn w0 with
  | none =>
    rw [yk1_n fun p z => by rw [e] at z; cases z]
    rfl
  | some p =>
    by_cases y : Yng S0 p
    · rw [yk1_y e y, addN_cons, addN_nil, if_pos]
      obtain ⟨q, eq⟩ := Option.isSome_iff_exists.mp (d.1 p e y)
      obtain ⟨x, mx, e1, -, -⟩ := G.go_y eq
      exact List.mem_map.mpr ⟨x.1, fw_mem mx, e1.symm⟩
    · rw [yk1_n fun p' z => by rw [e] at z; cases z; exact y]
      rfl
theorem go_sent (P : Y0 S0 C) (G : Yg S0 C qs S) {w : Int} (mq : c ∈ qs) (e : placeIn w = some (c.p : Int)) : ∃ q : Nat, S.ws.getD c.p 0 = 2 * (q : Int) + 1 ∧ q < S0.ws.length ∧ Go1 S0 C qs qs S S w (2 * (q : Int) + 1) := by
  obtain ⟨q, mf, g⟩ := G.go mq
  have yc := (G.mq c mq).2
  have h1 := (G.nx P mf).2
  have h2 := G.ln
  refine ⟨q, G.sn _ mf, (by have h1 : q + c.ws.length < S.ws.length := h1; omega), G, ?_, ⟨fun p' e' y => ?_, (trY_go e g).symm⟩, ⟨[], (List.append_nil _).symm⟩, fun _ _ _ => rfl⟩
  · rw [yk1_y e yc, addN_cons, addN_nil, if_pos]
    exact List.mem_map.mpr ⟨c, mq, rfl⟩
  · rw [e] at e'
    cases e'
    rw [g]
    rfl
theorem go_new (P : Y0 S0 C) (G : Yg S0 C qs S) {w : Int} (mc : c ∈ C) (yc : Yng S0 c.p) (nc : ∀ d ∈ qs, d.p ≠ c.p) (e : placeIn w = some (c.p : Int)) : Go1 S0 C qs (qs ++ [c]) S (copS S0 S qs c) w (2 * (nqY S0 qs c : Int) + 1) := by
  have g := goY_new (S := S0) nc
  refine ⟨G.copy P mc yc nc, ?_, ⟨fun p' e' y => ?_, (trY_go e g).symm⟩, ⟨[c], rfl⟩, fun v u h => G.cop_sl P mc yc nc h⟩
  · rw [yk1_y e yc, addN_cons, addN_nil, if_neg, List.map_append]
    · rfl
    · intro m
      obtain ⟨d, md, ed⟩ := List.mem_map.mp m
      exact nc d md (by omega)
  · rw [e] at e'
    cases e'
    rw [g]
    rfl
end
/-! ### rows of words -/
section
variable {S0 S S' S'' : ArS} {C qs qs' qs'' : List CeL}
structure Go2 (S0 : ArS) (C qs qs' : List CeL) (S S' : ArS) (ys : List Int) : Prop where
  g : Yg S0 C qs' S'
  q : qs'.map (fun c => (c.p : Int)) = addN (qs.map fun c => (c.p : Int)) ys
  x : ∃ t, qs' = qs ++ t
  k : ∀ u x, SlY S0 C qs u x → Dn S0 qs x (S.ws.getD u 0) → Dn S0 qs' x (S'.ws.getD u 0)
theorem pre_y (G : Yg S0 C qs' S') (x : ∃ t, qs' = qs ++ t) : ∃ t, qs' = qs ++ t ∧ ∀ c ∈ t, Yng S0 c.p := by
  obtain ⟨t, e⟩ := x
  exact ⟨t, e, fun c m => (G.mq c (by rw [e]; exact List.mem_append_right _ m)).2⟩
theorem Dn.pre {w0 w : Int} (d : Dn S0 qs w0 w) (G : Yg S0 C qs' S') (x : ∃ t, qs' = qs ++ t) : Dn S0 qs' w0 w := by
  obtain ⟨t, rfl, m⟩ := pre_y G x
  exact d.app m
theorem SlY.pre {u : Nat} {w0 : Int} (h : SlY S0 C qs u w0) (x : ∃ t, qs' = qs ++ t) : SlY S0 C qs' u w0 := by
  obtain ⟨t, rfl⟩ := x
  induction t generalizing qs with
  | nil => rwa [List.append_nil]
  | cons c r ih =>
    have := ih (h.snoc (c := c))
    rwa [List.append_assoc] at this
theorem Go2.refl (G : Yg S0 C qs S) : Go2 S0 C qs qs S S [] := ⟨G, rfl, ⟨[], (List.append_nil _).symm⟩, fun _ _ _ d => d⟩
theorem Go2.trans {ys zs : List Int} (a : Go2 S0 C qs qs' S S' ys) (b : Go2 S0 C qs' qs'' S' S'' zs) : Go2 S0 C qs qs'' S S'' (ys ++ zs) := by
  refine ⟨b.g, ?_, ?_, fun u x h d => b.k u x (h.pre a.x) (a.k u x h d)⟩
  · rw [b.q, a.q, addN_app]
  · obtain ⟨t, e⟩ := a.x
    obtain ⟨s, e'⟩ := b.x
    exact ⟨t ++ s, by rw [e', e, List.append_assoc]⟩
theorem Go1.two {w0 w' : Int} (a : Go1 S0 C qs qs' S S' w0 w') : Go2 S0 C qs qs' S S' (yk1 S0 w0) := ⟨a.g, a.q, a.x, fun u x h d => by
  rw [a.s u x h]
  exact d.pre a.g a.x⟩
/-- a slot goes along -/
theorem Go1.slot (P : Y0 S0 C) {v : Nat} {w0 w' : Int} (a : Go1 S0 C qs qs' S S' w0 w') (h : SlY S0 C qs v w0) : Go2 S0 C qs qs' S { S' with ws := S'.ws.set v w' } (yk1 S0 w0) ∧ (S'.ws.set v w').getD v 0 = w' := by
  have h' := h.pre a.x
  have o := (h'.off P a.g).1
  have at_ : ∀ u, (S'.ws.set v w').getD u 0 = if v = u then w' else S'.ws.getD u 0 := fun u => getD_set o
  refine ⟨⟨a.g.put P h' a.d, a.q, a.x, fun u x hu d => ?_⟩, by rw [at_, if_pos rfl]⟩
  show Dn S0 qs' x ((S'.ws.set v w').getD u 0)
  rw [at_]
  split
  · rename_i e
    subst e
    rw [← h'.uniq P a.g (hu.pre a.x)]
    exact a.d
  · rw [a.s u x hu]
    exact d.pre a.g a.x
end

local macro_rules | `(tactic| walk_at "w3") => `(tactic| try simp only [↓x_var0, ↓x_varS, ↓x_c, ↓x_op, ↓x_un, ↓x_cb, ↓x_nil, ↓x_cons, ↓x_test, ↓x_b, ↓x_ex, ↓x_and, ↓x_or, ↓x_not, ↓x_andV, ↓x_orV, ↓x_notV, ↓x_tif, ↓x_chain, ↓x_menu, ↓x_menuI, ↓x_lst, ↓x_tup, ↓x_dnew, ↓x_callW, ↓x_callN, ↓x_seq, ↓x_next, ↓x_ret, ↓x_retN, ↓x_drop, ↓x_ifS, ↓x_asg, ↓x_name, ↓x_raise, ↓x_fld, ↓x_setF, ↓x_meth, ↓x_make, ↓x_sub, ↓r_min, ↓r_max, ↓x_yes, ↓x_for, ↓x_lock, ↓x_keys, ↓x_cut, ↓x_lc, ↓x_rng1, ↓x_rng2, ↓x_lst1, ↓x_itup, ↓x_rng3, ↓x_three, ↓x_lstg, ↓x_tupg, ↓x_adrS, ↓x_one, ↓x_two, ↓x_adr, ↓x_sl, ↓x_np, ↓x_pt, ↓x_int, ↓x_bm, ↓x_bm0, ↓x_consg, ↓x_nilg, ↓x_dget2, ↓x_dget1, ↓x_dgetN, ↓x_dget, ↓x_din, ↓x_dni, ↓x_dput, ↓x_dpop2, ↓r_isB, ↓r_notB, ↓x_enum, ↓x_zip, ↓x_str, ↓x_strE, ↓r_inS, ↓r_ninS, wipe, List.map_cons, List.map_nil, ↓x_isT, ↓r_isiII, ↓r_isiBB, ↓r_isiIB, ↓r_isiSS, ↓r_neNS, ↓r_neSN, ↓r_neNN, ↓r_eqNS, ↓r_eqSN, ↓r_eqNN, ↓r_eqIS, ↓r_neIS, ↓r_neSI, ↓r_neBS, ↓r_eqBB, ↓r_neBB, ↓x_start, ↓x_K, ↓x_start0, ↓r_i0, ↓r_i, ↓r_u, ↓r_addI, ↓r_addS, ↓r_mulI, ↓r_mulS, ↓r_eqI, ↓r_neI, ↓r_eqS, ↓r_neS, ↓r_absI, ↓r_intI, ↓r_intB, List.length_cons, List.length_nil, List.replicate, List.set_cons_zero, List.set_cons_succ, decide_eq_true_eq, Bool.not_eq_true', decide_eq_false_iff_not, if_true, if_false, Bool.false_eq_true, Bool.true_eq_false, ite_true, ite_false, Bool.not_true, Bool.not_false, c_div, n_ten, c_pow, not_true_eq_false, not_false_eq_true, decide_true, decide_false, true_and, and_true, and_self, true_or, or_true, Int.reduceLT, Int.reduceLE, Int.reduceMul, Int.reduceAdd, Int.reduceSub, Int.reducePow, Int.reduceNeg, Int.reduceDiv, Int.reduceMod, Nat.reducePow, Int.reduceToNat, Int.reduceEq, Int.reduceNe, Nat.reduceLT, Nat.reduceLeDiff, Nat.reduceAdd, ↓x_whole, ↓x_kind, Int.natCast_one, Int.natCast_one, Int.natCast_one, Int.natCast_one, Int.natCast_one, Int.natCast_one])
theorem ArO.cpH {K H H' A S} (I : ArO K H A S) {f : Bool} {t : Nat} {ws' : List Int} (M : MemO K H' A.m A.mx A.l ws') (vw : Vw ws') (el : ws'.length = S.ws.length) (sp : SpO K H' (A.y f) (A.yx f) (S.b f) (S.b f + S.k) t) (k : ∀ c x, c ≠ A.l → c ≠ A.y f → H c = some x → H' c = some x) (h0 : S.b f ≤ t) (h1 : t ≤ S.b f + S.k) : ArO K H' A { S.put f t with ws := ws' } := by
  have ol := (I.na I.so).2.2
  have pl := (I.na I.sp).2.2
  have ql := (I.na I.sq).2.2
  have pa := (I.na I.sp).1
  have qa := (I.na I.sq).1
  have la : A.a ≠ A.l := ne_of I.ob I.me.ls (by intro z; cases z)
  obtain ⟨ws, n, m, ot, t1, t2, fl⟩ := S
  cases f
  · exact { ob := k _ _ la pa I.ob, me := M, vw := vw, ln := el.trans I.ln, so := k _ _ ol.symm I.nop I.so, sp := sp, sq := k _ _ ql.symm I.npq.symm I.sq, nop := I.nop, noq := I.noq, npq := I.npq, lo := I.lo, l1 := ⟨h0, h1⟩, l2 := I.l2, gn := I.gn, gk := I.gk }
  · have e2 : n + m + m = n + 2 * m := by omega
    have h1 : t ≤ n + m + m := h1
    exact { ob := k _ _ la qa I.ob, me := M, vw := vw, ln := el.trans I.ln, so := k _ _ ol.symm I.noq I.so, sp := k _ _ pl.symm I.npq I.sp, sq := (by (show SpO K H' A.q A.qx (n + m) (n + 2 * m) t); rw [← e2]; exact sp), nop := I.nop, noq := I.noq, npq := I.npq, lo := I.lo, l1 := I.l1, l2 := (by show n + m ≤ t ∧ t ≤ n + 2 * m; exact ⟨h0, by omega⟩), gn := I.gn, gk := I.gk }
theorem ArO.cpO {K H H' A S} (I : ArO K H A S) {t : Nat} {ws' : List Int} (M : MemO K H' A.m A.mx A.l ws') (vw : Vw ws') (el : ws'.length = S.ws.length) (sp : SpO K H' A.o A.ox 0 S.n t) (k : ∀ c x, c ≠ A.l → c ≠ A.o → H c = some x → H' c = some x) (h1 : t ≤ S.n) : ArO K H' A { S with ot := t, ws := ws' } := by
  have pl := (I.na I.sp).2.2
  have ql := (I.na I.sq).2.2
  have oa := (I.na I.so).1
  have la : A.a ≠ A.l := ne_of I.ob I.me.ls (by intro z; cases z)
  exact { ob := k _ _ la oa I.ob, me := M, vw := vw, ln := el.trans I.ln, so := sp, sp := k _ _ pl.symm I.nop.symm I.sp, sq := k _ _ ql.symm I.noq.symm I.sq, nop := I.nop, noq := I.noq, npq := I.npq, lo := h1, l1 := I.l1, l2 := I.l2, gn := I.gn, gk := I.gk }
def rowY (S0 : ArS) (qs : List CeL) : List Int := (fwY S0 qs).map fun x => (x.2 : Int)
theorem rowY_len {S0 : ArS} {qs : List CeL} : (rowY S0 qs).length = qs.length := by
  have h := congrArg List.length (fwY_fst (S := S0) (qs := qs))
  rw [List.length_map] at h
  unfold rowY
  rw [List.length_map, h]
theorem rowY_snoc {S0 : ArS} {qs : List CeL} {c : CeL} : rowY S0 (qs ++ [c]) = rowY S0 qs ++ [(nqY S0 qs c : Int)] := by
  unfold rowY
  rw [fwY_snoc, List.map_append]
  rfl
theorem areaY {S : ArS} {p : Int} (lo : S.ot ≤ S.n) : (Yng S p → areaW S p = .str "young") ∧ (¬ Yng S p → areaW S p = .str "old" ∨ areaW S p = .non) := by
  have := bb_of (S := S)
  unfold areaW Yng
  refine ⟨fun y => ?_, fun y => ?_⟩
  · rw [if_neg (by omega), if_pos y]
  · split
    · exact .inl rfl
    · exact .inr rfl
theorem Yg.yng {S0 S : ArS} {C qs : List CeL} (G : Yg S0 C qs S) {p : Int} : Yng S p ↔ Yng S0 p := by
  have hb : S.b S.fl = S0.b S0.fl := by
    unfold ArS.b
    rw [G.fl, G.n, G.k]
  have ht : S.t S.fl = S0.t S0.fl := by
    rw [G.fl]
    exact G.ty
  unfold Yng
  rw [hb, ht]
theorem len_sumW : ∀ {qs : List CeL}, qs.length ≤ sumW qs
  | [] => Nat.le_refl _
  | c :: r => by
    have := len_sumW (qs := r)
    show r.length + 1 ≤ (c.ws.length + 1) + sumW r
    omega
def sp_carried (K : PySem.W.Frag) : Sp := fun vs H Q _ => ∃ A S0 S C qs r w0 w, vs = [.ref A.a, .ref r, .int w] ∧ ArO K H A S ∧ Y0 S0 C ∧ Yg S0 C qs S ∧ ClW C w0 ∧ Tn S0 qs w0 w ∧ (wordOf w).isSome = true ∧ H r = some (.lst ((rowY S0 qs).map V.int)) ∧ A.l ≠ r ∧
  ∀ qs' S' H' w', ArO K H' A S' → Go1 S0 C qs qs' S S' w0 w' → H' r = some (.lst ((rowY S0 qs').map V.int)) → (∀ b o, b ≠ A.l → b ≠ A.o → b ≠ A.p → b ≠ A.q → b ≠ r → H b = some o → H' b = some o) → Q (.int w') H'
section
variable {P : Program} {w : World} {K : PySem.W.Frag} {mg : Str → Option Value} {base : Heap}
theorem f_carried (T : Tx K mg) : Fn P w K mg base 8 "carried" ["areas", "row", "word"] (sp_carried K) := by
  have c_Areas_area_of := f_Areas_area_of (P := P) (w := w) (base := base) T
  have c_worth := f_worth (P := P) (w := w) (base := base) T
  have c_kind := f_kind (P := P) (w := w) (base := base) T
  have c_sent_to := f_sent_to (P := P) (w := w) (base := base) T
  have c_age_of := f_age_of (P := P) (w := w) (base := base) T
  have c_copied := f_copied (P := P) (w := w) (base := base) T
  have c_moved := f_moved (P := P) (w := w) (base := base) T
  refine T.mkFn 18 36 (d := d_carried) (N := ["areas", "row", "word", "at"]) (k := 7) rfl rfl rfl rfl rfl sc_carried (fun _ _ _ _ _ _ us hl => match us, hl with | [_, _, _], _ => rfl) (fun vs H Q E h => ?len) (fun cdv A outer s H vs Q E hr h => ⟨_,
      (pss_cons (ps_if (PW.pt (pw_or (pt_cmpR (op_neK (K := K) rfl hr.units) (pe_fn (takes_of rfl rfl rfl rfl) c_kind (hr.mono (by decide)) (by rfl) (pa_cons (pv 2) pa_nil)) pe_str (nomark _)) (pw_or1 (pt_cmpR (op_neK (K := K) rfl hr.units) (pe_mt (K := K) rfl (takes_of rfl rfl rfl rfl) (pv 0) c_Areas_area_of (hr.mono (by decide)) (pa_cons (pe_fn (takes_of rfl rfl rfl rfl) c_worth (hr.mono (by decide)) (by rfl) (pa_cons (pv 2) pa_nil)) pa_nil)) pe_str (nomark _))))) (pss_one (ps_ret (pv 2))) pss_nil)
        (pss_cons (ps_set (i := 3) sc_carried.nd rfl (Or.inl rfl) (pe_fn (takes_of rfl rfl rfl rfl) c_worth (hr.mono (by decide)) (by rfl) (pa_cons (pv 2) pa_nil)))
        (pss_cons (ps_if (pt_cmpR op_isN (pe_fn (takes_of rfl rfl rfl rfl) c_sent_to (hr.mono (by decide)) (by rfl) (pa_cons (pe_fldC (T.cls 112) (T.noat 118) (pv 0)) (pa_cons (pv 3) pa_nil))) pe_non (nomark _)) (pss_one (ps_if (pt_cmpR (op_eqK (K := K) rfl hr.units) (pe_fn (takes_of rfl rfl rfl rfl) c_age_of (hr.mono (by decide)) (by rfl) (pa_cons (pe_fldC (T.cls 112) (T.noat 118) (pv 0)) (pa_cons (pv 3) pa_nil))) pe_int (nomark _)) (pss_one (ps_expr (pe_bm PySem.F.plainAttrs_list PySem.F.slot_list_append PySem.F.type_list_append mt_append (pv 1) (pa_cons (pe_fn (takes_of rfl rfl rfl rfl) c_copied (hr.mono (by decide)) (by rfl) (pa_cons (pe_fldC (T.cls 112) (T.noat 118) (pv 0)) (pa_cons (pv 3) (pa_cons (pe_fldC (T.cls 112) (T.noat 121) (pv 0)) (pa_cons pe_int pa_nil))))) pa_nil)))) (pss_one (ps_expr (pe_bm PySem.F.plainAttrs_list PySem.F.slot_list_append PySem.F.type_list_append mt_append (pv 1) (pa_cons (pe_fn (takes_of rfl rfl rfl rfl) c_copied (hr.mono (by decide)) (by rfl) (pa_cons (pe_fldC (T.cls 112) (T.noat 118) (pv 0)) (pa_cons (pv 3) (pa_cons (pe_fldC (T.cls 112) (T.noat 119) (pv 0)) (pa_cons pe_int pa_nil))))) pa_nil)))))) pss_nil)
        (pss_one (ps_ret (pe_fn (takes_of rfl rfl rfl rfl) c_moved (hr.mono (by decide)) (by rfl) (pa_cons (pe_fldC (T.cls 112) (T.noat 118) (pv 0)) (pa_cons (pv 2) pa_nil)))))))), ?rd⟩)
  case len => first | exact len_carried h | (repeat (first | (obtain ⟨rfl, _⟩ := h; rfl; done) | obtain ⟨_, h⟩ := h))
  case rd =>
    obtain ⟨A, S0, S, C, qs, r, w0, w, rfl, I, P, G, cw, tn, hw, hr, lr, q⟩ := h
    have sz : 100000 ≤ sizeLine := by rw [sizeLine_eq]; omega
    walk_at "w3"
    have ylo := (G.stk P).2
    rw [← G.n] at ylo
    have ay := fun p => areaY (S := S) (p := p) ylo
    have gn := I.gn
    have gk := I.gk
    have iln := I.ln
    cases e : wordOf w with
    | none =>
      rw [e] at hw
      cases hw
    | some x =>
      have stay : (∀ p, placeIn w = some p → ¬ Yng S0 p) → Q (.int w) H := fun n => q qs S H w I (go_stay G tn n) hr fun b o _ _ _ _ _ g => g
      cases x with
      | place p =>
        have ep := wd_place e
        dsimp only at ep ⊢
        simp only [k_pp, not_true_eq_false, if_false, x_worth, e]
        refine ⟨recv I.ob, A, S, p, rfl, I, ?_⟩
        by_cases y : Yng S0 p
        · have e0 := tn.young P G ep y
          subst e0
          rw [(ay p).1 (G.yng.mpr y)]
          walk_at "w3"
          obtain ⟨c, mc, rfl⟩ := cw.2 p e
          simp only [show (Wd.place (c.p : Int)).worth = V.int (c.p : Int) from rfl]
          have hcl : c.p + c.ws.length < S.ws.length := by
            have := P.ln
            have := G.ln
            have := P.lo
            have := P.lb
            have := bb_of (S := S0)
            rcases P.side mc with ⟨-, h⟩ | ⟨-, -, h⟩ <;> omega
          refine ⟨_, fldIs I.ob, A.m, A.mx, A.l, S.ws, _, rfl, I.me, I.vw, .inl ⟨_, rfl⟩, ?_⟩
          rw [placeOf_int, if_pos (by omega), Int.toNat_natCast]
          dsimp only
          by_cases sn : ∃ d ∈ qs, d.p = c.p
          · obtain ⟨d, md, ed⟩ := sn
            have := P.cp.same_p (G.mq d md).1 mc ed
            subst this
            obtain ⟨q', h1, h2, go⟩ := go_sent P G md ep
            rw [h1, word_place (by omega) (by have := P.sz; have := P.ln; omega)]
            dsimp only
            walk_at "w3"
            refine ⟨_, fldIs I.ob, A.m, A.mx, A.l, S.ws, _, rfl, I.me, I.vw, hw, ?_⟩
            unfold movedW
            rw [e]
            dsimp only
            rw [placeOf_int, if_pos (by omega), Int.toNat_natCast]
            dsimp only
            rw [h1, word_place (by omega) (by have := P.sz; have := P.ln; omega)]
            dsimp only
            exact q qs S H _ I go hr fun b o _ _ _ _ _ g => g
          · have nc : ∀ d ∈ qs, d.p ≠ c.p := fun d md ed => sn ⟨d, md, ed⟩
            obtain ⟨a, ha, hh⟩ := P.cp.hd c mc
            have hh := hh
            rw [← G.un c mc nc] at hh
            have eag : agO S0 c.p = a := by
              unfold agO
              rw [← G.un c mc nc, hh]
              dsimp only
              omega
            obtain ⟨h34, h3, -⟩ := headAt_some hh
            rw [h34, word_num (by omega)]
            dsimp only
            rw [← h34, hh]
            dsimp only
            walk_at "w3"
            have hw4 : headW S.ws (.int (c.p : Int)) = .ok c.p (4 * c.ws.length + a) := ans_head' (by omega) hh
            refine ⟨_, fldIs I.ob, A.m, A.mx, A.l, S.ws, _, rfl, I.me, I.vw, .inl ⟨_, rfl⟩, ?_⟩
            rw [hw4]
            dsimp only
            have e4 : (4 * c.ws.length + a) / 4 = c.ws.length := by omega
            have e5 : (4 * c.ws.length + a) % 4 = a := by omega
            rw [e5]
            walk_at "w3"
            obtain ⟨g1, g2⟩ := G.fits P mc y nc
            have G' := G.copy P mc y nc
            have go := go_new P G mc y nc ep
            have bb := bb_of (S := S0)
            have pl := P.ln
            have pz := P.sz
            have gl := G.ln
            have plo := P.lo
            have efl := G.fl
            have eb : S.b (!S.fl) = S0.b (!S0.fl) := by
              unfold ArS.b
              rw [G.fl, G.n, G.k]
            have ht : S.t (!S.fl) = S.t (!S0.fl) := by rw [G.fl]
            have yb : S0.b S0.fl ≤ c.p ∧ c.p + c.ws.length < S0.t S0.fl := by
              rcases P.side mc with ⟨h, -⟩ | ⟨-, h⟩
              · exact absurd y h
              · exact h
            have plb := P.lb
            have ql : qs.length ≤ 9999 := by
              have h1 := P.sum G.mq G.nd
              have h2 : qs.length ≤ sumW qs := len_sumW
              omega
            have wm : wordOf (2 * (nqY S0 qs c : Int) + 1) = some (.place (nqY S0 qs c : Int)) := word_place (by omega) (by
              by_cases e0 : agO S0 c.p = 0
              · have := g1 e0; omega
              · have := g2 e0; omega)
            have fin : ∀ H1, ArO K H1 A (copS S0 S qs c) → H1 r = some (.lst ((rowY S0 qs).map V.int)) → (∀ b o, b ≠ A.l → b ≠ A.o → b ≠ A.p → b ≠ A.q → b ≠ r → H b = some o → H1 b = some o) →
                rAppend (.ref r) [.int (nqY S0 qs c : Int)] H1 (fun x H1 => ∃ v, FldIs (He.ga K (Str.ofString "Areas")) (Str.ofString "memory") (.ref A.a) H1 v ∧ sp_moved K [v, .int w] H1 Q fun c d H2 => E c d H2) := fun H1 I1 hr1 k1 => by
              refine ⟨_, _, _, rfl, rfl, hr1, by rw [List.length_map, rowY_len]; omega, ?_⟩
              have I2 := I1.put (o := .lst ((rowY S0 qs).map V.int ++ [.int (nqY S0 qs c : Int)])) hr1 lr
              refine ⟨_, fldIs I2.ob, A.m, A.mx, A.l, _, _, rfl, I2.me, I2.vw, hw, ?_⟩
              have sn' := G'.sn (c, nqY S0 qs c) (by rw [fwY_snoc]; exact List.mem_append_right _ (List.mem_singleton.mpr rfl))
              have sn' : (copS S0 S qs c).ws.getD c.p 0 = 2 * (nqY S0 qs c : Int) + 1 := sn'
              have gl' := G'.ln
              unfold movedW
              rw [e]
              dsimp only
              rw [placeOf_int, if_pos (by omega), Int.toNat_natCast]
              dsimp only
              rw [sn', wm]
              dsimp only
              refine q (qs ++ [c]) (copS S0 S qs c) _ _ I2 go (by rw [upd_same, rowY_snoc, List.map_append]; rfl) fun b o n1 n2 n3 n4 n5 g => (upd_ne n5).trans (k1 b o n1 n2 n3 n4 n5 g)
            have yq : A.y (!S.fl) = A.p ∨ A.y (!S.fl) = A.q := by
              unfold ArA.y
              split
              · exact .inr rfl
              · exact .inl rfl
            by_cases e0 : a = 0
            · subst e0
              rw [if_pos (show ((0 : Nat) : Int) = 0 from rfl)]
              have g1 := g1 eag
              refine ⟨.inl ⟨rfl, _, .of hr⟩, _, fldIs I.ob, _, fldIs I.ob, ?_⟩
              refine ⟨A.m, A.mx, A.l, S.ws, _, A.y (!S.fl), A.yx (!S.fl), S.b (!S.fl), S.b (!S.fl) + S.k, S.t (!S.fl), _, rfl, I.me, I.vw, I.half _, .inl ⟨_, rfl⟩, .inl ⟨_, rfl⟩, ?_⟩
              rw [hw4]
              dsimp only
              rw [ageW_int, if_pos (by omega)]
              dsimp only
              rw [e4, if_pos (by rw [G.k, eb, ht]; omega)]
              refine ⟨⟨by omega, by rw [G.k, eb]; omega, by rw [G.k, eb]; omega, by rw [ht]; omega⟩, fun H1 M1 v1 sp1 k1 => ?_⟩
              have I1 := I.cpH M1 v1 copT_len sp1 k1 (by rw [ht, eb]; omega) (by rw [G.k, ht, eb]; omega)
              have es : ({ S.put (!S.fl) (S.t (!S.fl) + (c.ws.length + 1)) with ws := copT S.ws c.p (S.t (!S.fl)) c.ws.length 1 } : ArS) = copS S0 S qs c := by
                unfold copS
                rw [if_pos eag, if_pos eag, ht, G.fl, g1.1]
              rw [show (1 : Int).toNat = 1 from rfl, es] at I1
              have := fin H1 I1 (k1 _ _ lr.symm (ne_of hr (I.half (!S.fl)) fun z => spv_lst z.symm) hr) fun b o n1 n2 n3 n4 n5 g => k1 b o n1 (by rcases yq with h | h <;> rw [h] <;> assumption) g
              rw [g1.1, ← ht] at this
              exact this
            · rw [if_neg (show ¬ ((a : Nat) : Int) = 0 by omega)]
              have en : agO S0 c.p ≠ 0 := by rw [eag]; exact e0
              have g2 := g2 en
              refine ⟨.inl ⟨rfl, _, .of hr⟩, _, fldIs I.ob, _, fldIs I.ob, ?_⟩
              refine ⟨A.m, A.mx, A.l, S.ws, _, A.o, A.ox, 0, S.n, S.ot, _, rfl, I.me, I.vw, I.so, .inl ⟨_, rfl⟩, .inl ⟨_, rfl⟩, ?_⟩
              rw [hw4]
              dsimp only
              rw [ageW_int, if_pos (by omega)]
              dsimp only
              rw [e4, if_pos (by rw [G.n]; omega)]
              refine ⟨⟨by omega, by rw [G.n]; omega, by rw [G.n]; omega, by omega⟩, fun H1 M1 v1 sp1 k1 => ?_⟩
              have I1 := I.cpO M1 v1 copT_len sp1 k1 (by rw [G.n]; omega)
              have es : ({ S with ot := S.ot + (c.ws.length + 1), ws := copT S.ws c.p S.ot c.ws.length 2 } : ArS) = copS S0 S qs c := by
                unfold copS
                rw [if_neg en, if_neg en, g2.1]
              rw [show (2 : Int).toNat = 2 from rfl, es] at I1
              have := fin H1 I1 (k1 _ _ lr.symm (ne_of hr I.so fun z => spv_lst z.symm) hr) fun b o n1 n2 n3 n4 n5 g => k1 b o n1 n2 g
              rw [g2.1] at this
              exact this
        · have n : ∀ p', placeIn w = some p' → ¬ Yng S0 p' := fun p' e' => by
            rw [ep] at e'
            cases e'
            exact y
          rcases (ay p).2 (fun z => y (G.yng.mp z)) with e2 | e2
          all_goals
            rw [e2]
            walk_at "w3"
            exact stay n
      | _ =>
        dsimp only at ⊢
        simp only [k_np, k_Np, not_false_eq_true, if_true]
        exact stay fun p e' => by
          rw [wd_place e] at e'
          cases e'
end

local macro_rules | `(tactic| walk_at "w3") => `(tactic| try simp only [↓x_var0, ↓x_varS, ↓x_c, ↓x_op, ↓x_un, ↓x_cb, ↓x_nil, ↓x_cons, ↓x_test, ↓x_b, ↓x_ex, ↓x_and, ↓x_or, ↓x_not, ↓x_andV, ↓x_orV, ↓x_notV, ↓x_tif, ↓x_chain, ↓x_menu, ↓x_menuI, ↓x_lst, ↓x_tup, ↓x_dnew, ↓x_callW, ↓x_callN, ↓x_seq, ↓x_next, ↓x_ret, ↓x_retN, ↓x_drop, ↓x_ifS, ↓x_asg, ↓x_name, ↓x_raise, ↓x_fld, ↓x_setF, ↓x_meth, ↓x_make, ↓x_sub, ↓r_min, ↓r_max, ↓x_yes, ↓x_for, ↓x_lock, ↓x_keys, ↓x_cut, ↓x_lc, ↓x_rng1, ↓x_rng2, ↓x_lst1, ↓x_itup, ↓x_rng3, ↓x_three, ↓x_lstg, ↓x_tupg, ↓x_adrS, ↓x_one, ↓x_two, ↓x_adr, ↓x_sl, ↓x_np, ↓x_pt, ↓x_int, ↓x_bm, ↓x_bm0, ↓x_consg, ↓x_nilg, ↓x_dget2, ↓x_dget1, ↓x_dgetN, ↓x_dget, ↓x_din, ↓x_dni, ↓x_dput, ↓x_dpop2, ↓r_isB, ↓r_notB, ↓x_enum, ↓x_zip, ↓x_str, ↓x_strE, ↓r_inS, ↓r_ninS, wipe, List.map_cons, List.map_nil, ↓x_isT, ↓r_isiII, ↓r_isiBB, ↓r_isiIB, ↓r_isiSS, ↓r_neNS, ↓r_neSN, ↓r_neNN, ↓r_eqNS, ↓r_eqSN, ↓r_eqNN, ↓r_eqIS, ↓r_neIS, ↓r_neSI, ↓r_neBS, ↓r_eqBB, ↓r_neBB, ↓x_start, ↓x_K, ↓x_start0, ↓r_i0, ↓r_i, ↓r_u, ↓r_addI, ↓r_addS, ↓r_mulI, ↓r_mulS, ↓r_eqI, ↓r_neI, ↓r_eqS, ↓r_neS, ↓r_absI, ↓r_intI, ↓r_intB, List.length_cons, List.length_nil, List.replicate, List.set_cons_zero, List.set_cons_succ, decide_eq_true_eq, Bool.not_eq_true', decide_eq_false_iff_not, if_true, if_false, Bool.false_eq_true, Bool.true_eq_false, ite_true, ite_false, Bool.not_true, Bool.not_false, c_div, n_ten, c_pow, not_true_eq_false, not_false_eq_true, decide_true, decide_false, true_and, and_true, and_self, true_or, or_true, Int.reduceLT, Int.reduceLE, Int.reduceMul, Int.reduceAdd, Int.reduceSub, Int.reducePow, Int.reduceNeg, Int.reduceDiv, Int.reduceMod, Nat.reducePow, Int.reduceToNat, Int.reduceEq, Int.reduceNe, Nat.reduceLT, Nat.reduceLeDiff, Nat.reduceAdd, ↓x_whole, ↓x_kind, Int.natCast_one, Int.natCast_one, Int.natCast_one, Int.natCast_one, Int.natCast_one, Int.natCast_one, Int.natCast_one])
theorem SlY.word {S0 S : ArS} {C qs : List CeL} (P : Y0 S0 C) (G : Yg S0 C qs S) {v : Nat} {w0 : Int} (h : SlY S0 C qs v w0) : ClW C w0 := by
  rcases h with ⟨c, mc, y, j, hj, rfl, rfl⟩ | ⟨x, mx, j, hj, rfl, rfl⟩
  · exact P.cw c mc _ (List.mem_of_getElem? (getD_at (d := 0) hj))
  · exact P.cw x.1 (G.mq _ (fw_mem mx)).1 _ (List.mem_of_getElem? (getD_at (d := 0) hj))
theorem trY_word {S0 S : ArS} {C qs : List CeL} (P : Y0 S0 C) (G : Yg S0 C qs S) {w0 : Int} (h : (wordOf w0).isSome = true) : (wordOf (trY S0 qs w0)).isSome = true := by
  cases e : placeIn w0 with
  | none => rw [trY_none e]; exact h
  | some p =>
    cases g : goG (psY S0 qs) p with
    | none =>
      unfold trY turnW
      rw [e]
      dsimp only
      rw [g]
      show (wordOf (2 * p + 1)).isSome = true
      rw [← (placeIn_is e).1]
      exact h
    | some q =>
      rw [trY_go e g]
      obtain ⟨x, mx, -, rfl, -⟩ := G.go_y g
      have h1 := (G.nx P mx).2
      have := G.ln
      have := P.ln
      have := P.sz
      rw [word_place (by omega) (by omega)]
      rfl
def sp_carry_place (K : PySem.W.Frag) : Sp := fun vs H Q _ => ∃ A S0 S C qs r, ∃ v : Nat, ∃ w0, vs = [.ref A.a, .ref r, .int v] ∧ ArO K H A S ∧ Y0 S0 C ∧ Yg S0 C qs S ∧ SlY S0 C qs v w0 ∧ H r = some (.lst ((rowY S0 qs).map V.int)) ∧ A.l ≠ r ∧
  ∀ qs' S' H', ArO K H' A S' → Go2 S0 C qs qs' S S' (yk1 S0 w0) → Dn S0 qs' w0 (S'.ws.getD v 0) → H' r = some (.lst ((rowY S0 qs').map V.int)) → (∀ b o, b ≠ A.l → b ≠ A.o → b ≠ A.p → b ≠ A.q → b ≠ r → H b = some o → H' b = some o) → Q .non H'
def sp_slot_places (K : PySem.W.Frag) : Sp := fun vs H Q _ => ∃ m mx l ws, ∃ i h : Nat, vs = [.ref m, .int i] ∧ MemO K H m mx l ws ∧ Vw ws ∧ i < ws.length ∧ headAt (ws.getD i 0) = some h ∧
  ∀ p H', H p = none → Same H H' → H' p = some (.lst (((List.range (h / 4)).map fun j => ((i + 1 + j : Nat) : Int)).map V.int)) → Q (.ref p) H'
section
variable {P : Program} {w : World} {K : PySem.W.Frag} {mg : Str → Option Value} {base : Heap}
theorem f_carry_place (T : Tx K mg) : Fn P w K mg base 9 "carry_place" ["areas", "row", "place"] (sp_carry_place K) := by
  have c_Memory_write := f_Memory_write (P := P) (w := w) (base := base) T
  have c_carried := f_carried (P := P) (w := w) (base := base) T
  have c_Memory_read := f_Memory_read (P := P) (w := w) (base := base) T
  refine T.mkFn 19 37 (d := d_carry_place) (N := ["areas", "row", "place"]) (k := 8) rfl rfl rfl rfl rfl sc_carry_place (fun _ _ _ _ _ _ us hl => match us, hl with | [_, _, _], _ => rfl) (fun vs H Q E h => ?len) (fun cdv A outer s H vs Q E hr h => ⟨_,
      (pss_one (ps_expr (pe_mt (K := K) rfl (takes_of rfl rfl rfl rfl) (pe_fldC (T.cls 112) (T.noat 118) (pv 0)) c_Memory_write (hr.mono (by decide)) (pa_cons (pv 2) (pa_cons (pe_fn (takes_of rfl rfl rfl rfl) c_carried (hr.mono (by decide)) (by rfl) (pa_cons (pv 0) (pa_cons (pv 1) (pa_cons (pe_mt (K := K) rfl (takes_of rfl rfl rfl rfl) (pe_fldC (T.cls 112) (T.noat 118) (pv 0)) c_Memory_read (hr.mono (by decide)) (pa_cons (pv 2) pa_nil)) pa_nil)))) pa_nil))))), ?rd⟩)
  case len => first | exact len_carry_place h | (repeat (first | (obtain ⟨rfl, _⟩ := h; rfl; done) | obtain ⟨_, h⟩ := h))
  case rd =>
    obtain ⟨A, S0, S, C, qs, r, v, w0, rfl, I, P, G, sl, hr, lr, q⟩ := h
    have sz : 100000 ≤ sizeLine := by rw [sizeLine_eq]; omega
    have hv := (sl.off P G).1
    walk_at "w3"
    have iln := I.ln
    have gn := I.gn
    have gk := I.gk
    have pz := P.sz
    have gl := G.ln
    have pl := P.ln
    refine ⟨_, fldIs I.ob, recv I.me.ob, _, fldIs I.ob, recv I.me.ob, A.m, A.mx, A.l, S.ws, _, rfl, I.me, .inl ⟨_, rfl⟩, ?_⟩
    rw [placeOf_int, if_pos (by omega), Int.toNat_natCast]
    dsimp only
    have cw := sl.word P G
    have hw : (wordOf (S.ws.getD v 0)).isSome = true := by
      obtain ⟨x, ex⟩ := I.vw.get hv
      rw [ex]
      rfl
    refine ⟨A, S0, S, C, qs, r, w0, _, rfl, I, P, G, cw, G.tn sl, hw, hr, lr, fun qs' S' H' w' I' go hr' k => ?_⟩
    have hv' := ((sl.pre go.x).off P go.g).1
    have gl' := go.g.ln
    have dw : (wordOf w').isSome = true := by rw [go.d.2]; exact trY_word P go.g cw.1
    refine ⟨A.m, A.mx, A.l, S'.ws, _, _, rfl, I'.me, .inl ⟨_, rfl⟩, .inl ⟨_, rfl⟩, ?_⟩
    rw [placeOf_int, if_pos (by omega), wordV_int, if_pos dw, Int.toNat_natCast]
    dsimp only
    obtain ⟨g2, gd⟩ := go.slot P sl
    refine q qs' _ _ (I'.words (I'.me.put _ (List.length_set ..)) (fun b o n g => (upd_ne n).trans g) (I'.vw.set dw) (List.length_set ..)) g2 (by rw [show ({ S' with ws := S'.ws.set v w' } : ArS).ws.getD v 0 = w' from gd]; exact go.d) ((upd_ne lr.symm).trans hr') fun b o n1 n2 n3 n4 n5 g => (upd_ne n1).trans (k b o n1 n2 n3 n4 n5 g)
theorem f_slot_places (T : Tx K mg) : Fn P w K mg base 7 "slot_places" ["memory", "at"] (sp_slot_places K) := by
  have c_slots_of := f_slots_of (P := P) (w := w) (base := base) T
  have c_slot_place := f_slot_place (P := P) (w := w) (base := base) T
  refine T.mkFn 20 38 (d := d_slot_places) (N := ["memory", "at", "slot"]) (k := 6) rfl rfl rfl rfl rfl sc_slot_places (fun _ _ _ _ _ _ us hl => match us, hl with | [_, _], _ => rfl) (fun vs H Q E h => ?len) (fun cdv A outer s H vs Q E hr h => ⟨_,
      (pss_one (ps_ret (pe_lc (own := [("slot", 2)]) (g := gName 2) rfl sc_slot_places.nd (pi_range1 rfl (T.free 71) (pa_cons (pe_fn (takes_of rfl rfl rfl rfl) c_slots_of (hr.mono (by decide)) (by rfl) (pa_cons (pv 0) (pa_cons (pv 1) pa_nil))) pa_nil)) (blkOk_by (own := [("slot", 2)]) (N := ["memory", "at", "slot"]) (sc := defScope s_slot_places) (by decide +kernel)) (fun _ _ _ _ _ => (pg_name (i := 2) sc_slot_places.nd rfl (Or.inl rfl))) (fun _ _ _ _ _ => pts_nil) (fun _ _ _ _ _ => (pe_fn takes0 c_slot_place (hr.mono (by decide)) (by rfl) (pa_cons (pv 0) (pa_cons (pv 1) (pa_cons (pv 2) pa_nil)))))))), ?rd⟩)
  case len => first | exact len_slot_places h | (repeat (first | (obtain ⟨rfl, _⟩ := h; rfl; done) | obtain ⟨_, h⟩ := h))
  case rd =>
    obtain ⟨m, mx, l, ws, i, h, rfl, M, vw, hi, eh, q⟩ := h
    have sz : 100000 ≤ sizeLine := by rw [sizeLine_eq]; omega
    obtain ⟨-, h34, -⟩ := headAt_some eh
    have eW : headW ws (.int (i : Int)) = .ok i h := ans_head' hi eh
    walk_at "w3"
    refine ⟨m, mx, l, ws, _, rfl, M, vw, .inl ⟨_, rfl⟩, ?_⟩
    rw [eW]
    dsimp only
    refine ⟨_, rfl, by omega, by omega, fun D nD => ?_⟩
    rw [Int.toNat_natCast]
    refine lc_range (fun j Hx => Hx = upd H D (.lst (((List.range j).map fun j => ((i + 1 + j : Nat) : Int)).map V.int))) rfl ?_ ?_
    · rintro j Hx hj rfl
      refine ⟨rfl, tYes_on ?_⟩
      walk_at "w3"
      have nl : l ≠ D := ne_of_none M.ls nD
      have s1 : Same H (upd H D (.lst (((List.range j).map fun j => ((i + 1 + j : Nat) : Int)).map V.int))) := same_new nD
      refine ⟨m, mx, l, ws, _, _, rfl, M.same s1, vw, .inl ⟨_, rfl⟩, .inl ⟨_, rfl⟩, ?_⟩
      rw [eW]
      dsimp only
      rw [placeOf_int, if_pos (by omega)]
      dsimp only
      rw [Int.zero_add, Int.toNat_natCast]
      refine ⟨_, upd_same, by rw [List.length_map, List.length_map, List.length_range]; omega, ?_⟩
      rw [upd_upd, List.range_succ, List.map_append, List.map_append]
      rfl
    · rintro Hx rfl
      exact q D _ nD (same_new nD) upd_same
end

local macro_rules | `(tactic| walk_at "w3") => `(tactic| try simp only [↓x_var0, ↓x_varS, ↓x_c, ↓x_op, ↓x_un, ↓x_cb, ↓x_nil, ↓x_cons, ↓x_test, ↓x_b, ↓x_ex, ↓x_and, ↓x_or, ↓x_not, ↓x_andV, ↓x_orV, ↓x_notV, ↓x_tif, ↓x_chain, ↓x_menu, ↓x_menuI, ↓x_lst, ↓x_tup, ↓x_dnew, ↓x_callW, ↓x_callN, ↓x_seq, ↓x_next, ↓x_ret, ↓x_retN, ↓x_drop, ↓x_ifS, ↓x_asg, ↓x_name, ↓x_raise, ↓x_fld, ↓x_setF, ↓x_meth, ↓x_make, ↓x_sub, ↓r_min, ↓r_max, ↓x_yes, ↓x_for, ↓x_lock, ↓x_keys, ↓x_cut, ↓x_lc, ↓x_rng1, ↓x_rng2, ↓x_lst1, ↓x_itup, ↓x_rng3, ↓x_three, ↓x_lstg, ↓x_tupg, ↓x_adrS, ↓x_one, ↓x_two, ↓x_adr, ↓x_sl, ↓x_np, ↓x_pt, ↓x_int, ↓x_bm, ↓x_bm0, ↓x_consg, ↓x_nilg, ↓x_dget2, ↓x_dget1, ↓x_dgetN, ↓x_dget, ↓x_din, ↓x_dni, ↓x_dput, ↓x_dpop2, ↓r_isB, ↓r_notB, ↓x_enum, ↓x_zip, ↓x_str, ↓x_strE, ↓r_inS, ↓r_ninS, wipe, List.map_cons, List.map_nil, ↓x_isT, ↓r_isiII, ↓r_isiBB, ↓r_isiIB, ↓r_isiSS, ↓r_neNS, ↓r_neSN, ↓r_neNN, ↓r_eqNS, ↓r_eqSN, ↓r_eqNN, ↓r_eqIS, ↓r_neIS, ↓r_neSI, ↓r_neBS, ↓r_eqBB, ↓r_neBB, ↓x_start, ↓x_K, ↓x_start0, ↓r_i0, ↓r_i, ↓r_u, ↓r_addI, ↓r_addS, ↓r_mulI, ↓r_mulS, ↓r_eqI, ↓r_neI, ↓r_eqS, ↓r_neS, ↓r_absI, ↓r_intI, ↓r_intB, List.length_cons, List.length_nil, List.replicate, List.set_cons_zero, List.set_cons_succ, decide_eq_true_eq, Bool.not_eq_true', decide_eq_false_iff_not, if_true, if_false, Bool.false_eq_true, Bool.true_eq_false, ite_true, ite_false, Bool.not_true, Bool.not_false, c_div, n_ten, c_pow, not_true_eq_false, not_false_eq_true, decide_true, decide_false, true_and, and_true, and_self, true_or, or_true, Int.reduceLT, Int.reduceLE, Int.reduceMul, Int.reduceAdd, Int.reduceSub, Int.reducePow, Int.reduceNeg, Int.reduceDiv, Int.reduceMod, Nat.reducePow, Int.reduceToNat, Int.reduceEq, Int.reduceNe, Nat.reduceLT, Nat.reduceLeDiff, Nat.reduceAdd, ↓x_whole, ↓x_kind, Int.natCast_one, Int.natCast_one, Int.natCast_one, Int.natCast_one, Int.natCast_one, Int.natCast_one, Int.natCast_one, Int.natCast_one])
theorem PairO.arR {K : PySem.W.Frag} {H H' : Hp} {A : ArA} {R : RoA} {S S' : ArS} {U : RoS} {r : Addr} {xs : List V} (h : PairO K H A R S U) (I : ArO K H' A S') (k : ∀ b o, b ≠ A.l → b ≠ A.o → b ≠ A.p → b ≠ A.q → b ≠ r → H b = some o → H' b = some o) (hr : H r = some (.lst xs)) (of : OffP A R r) : PairO K H' A R S' U := by
  have nl : ∀ b, (b = R.r ∨ b = R.h ∨ b = R.hl ∨ b = R.b ∨ b = U.bd ∨ b = R.w ∨ b = R.wl ∨ b = R.la ∨ b = R.d ∨ b = R.e) → b ≠ r := by
    have i : ∀ {b C d fs}, H b = some (.ins C d fs) → b ≠ r := fun g => ne_of g hr (by intro z; cases z)
    rintro b (rfl | rfl | rfl | rfl | rfl | rfl | rfl | rfl | rfl | rfl)
    · exact i h.ro.ob
    · exact i h.ro.ho.ob
    · exact of.2.1.symm
    · exact i h.ro.bo.ob
    · exact ne_of h.ro.bo.ds hr (by intro z; cases z)
    · exact i h.ro.wo.ob
    · exact of.2.2.1.symm
    · exact i h.ro.lo.ob
    · exact of.2.2.2.1.symm
    · exact of.2.2.2.2.symm
  exact { h with ar := I, ro := h.ro.frP (fun b o m g => k b o (h.offA (.inr (.inl rfl)) b m) (h.offA (.inr (.inr (.inl rfl))) b m) (h.offA (.inr (.inr (.inr (.inl rfl)))) b m) (h.offA (.inr (.inr (.inr (.inr rfl)))) b m) (nl b m) g) fun c xs g => k _ _ (ne_of g h.ar.me.ls (by intro z; cases z)) (ne_of g h.ar.so (by intro z; cases z)) (ne_of g h.ar.sp (by intro z; cases z)) (ne_of g h.ar.sq (by intro z; cases z)) (ne_of g hr (by intro z; cases z)) g }
theorem ints_atY {ns : List Int} {i : Nat} {x : V} (h : (ns.map V.int)[i]? = some x) : ∃ y, ns[i]? = some y ∧ x = .int y := by
  rw [List.getElem?_map] at h
  cases e : ns[i]? with
  | none => rw [e] at h; cases h
  | some y => rw [e] at h; cases h; exact ⟨y, rfl, rfl⟩
/-- the young ones in the slots of a cell -/
def kY (S : ArS) (C : List CeL) (x : Int) : List Int := match C.find? fun c => decide ((c.p : Int) = x) with
  | some c => ykL S c.ws
  | none => []
theorem kY_mem {S : ArS} {C : List CeL} (h : CelP S C) {c : CeL} (m : c ∈ C) : kY S C c.p = ykL S c.ws := by
  unfold kY
  cases e : C.find? fun d => decide ((d.p : Int) = c.p) with
  | none =>
    have := List.find?_eq_none.mp e c m
    rw [decide_eq_true_iff] at this
    exact absurd rfl this
  | some d =>
    have e2 := List.find?_some e
    rw [decide_eq_true_iff] at e2
    have := h.same_p (List.mem_of_find?_eq_some e) m (by omega)
    rw [this]
/-- words at places -/
def wAt (S : ArS) (ns : List Int) : List Int := ns.map fun u => S.ws.getD u.toNat 0
def ordY (S : ArS) (C : List CeL) (hs ns : List Int) : List Int := reachR (kY S C) (C.length + 1) (addN [] (ykL S hs ++ ykL S (wAt S ns))) 0
/-- the book is as due ahead: slots of old ones, and all that hold young ones -/
structure BkY (S : ArS) (C : List CeL) (bs : List Int) : Prop where
  s : ∀ b ∈ bs, ∃ c ∈ C, ¬ Yng S c.p ∧ ∃ j, j < c.ws.length ∧ b = ((c.p + 1 + j : Nat) : Int)
  a : ∀ c ∈ C, ¬ Yng S c.p → ∀ j, j < c.ws.length → ∀ p, placeIn (c.ws.getD j 0) = some p → Yng S p → ((c.p + 1 + j : Nat) : Int) ∈ bs
theorem ykL_snoc {S : ArS} {ws : List Int} {w : Int} : ykL S (ws ++ [w]) = ykL S ws ++ yk1 S w := by
  unfold ykL
  rw [List.flatMap_append]
  show _ ++ (yk1 S w ++ []) = _
  rw [List.append_nil]
theorem Yg.pre0 {S0 S : ArS} {C qs : List CeL} (_ : Yg S0 C qs S) : ∃ t, qs = [] ++ t := ⟨qs, rfl⟩
structure CaI (K : PySem.W.Frag) (A : ArA) (R : RoA) (S0 : ArS) (U : RoS) (C : List CeL) (hh : List Int) (r : Addr) (H2 H' : Hp) (qs : List CeL) (S : ArS) : Prop where
  I : PairO K H' A R S { U with hs := hh }
  g : Yg S0 C qs S
  hd : ∀ j, j < U.hs.length → Dn S0 qs (U.hs.getD j 0) (hh.getD j 0)
  hr : H' r = some (.lst ((rowY S0 qs).map V.int))
  k : ∀ b o, b ≠ A.l → b ≠ A.o → b ≠ A.p → b ≠ A.q → b ≠ R.hl → b ≠ r → H2 b = some o → H' b = some o
theorem CaI.step {K : PySem.W.Frag} {A : ArA} {R : RoA} {S0 : ArS} {U : RoS} {C : List CeL} {hh : List Int} {r : Addr} {H2 H' H'' : Hp} {qs qs' : List CeL} {S S' : ArS} {ys : List Int} (J : CaI K A R S0 U C hh r H2 H' qs S) (of : OffP A R r) (I' : ArO K H'' A S') (go : Go2 S0 C qs qs' S S' ys) (hr : H'' r = some (.lst ((rowY S0 qs').map V.int))) (k : ∀ b o, b ≠ A.l → b ≠ A.o → b ≠ A.p → b ≠ A.q → b ≠ r → H' b = some o → H'' b = some o) : CaI K A R S0 U C hh r H2 H'' qs' S' :=
  ⟨J.I.arR I' k J.hr of, go.g, fun j hj => (J.hd j hj).pre go.g go.x, hr, fun b o n1 n2 n3 n4 n5 n6 g => k b o n1 n2 n3 n4 n6 (J.k b o n1 n2 n3 n4 n5 n6 g)⟩
theorem CaI.same {K : PySem.W.Frag} {A : ArA} {R : RoA} {S0 : ArS} {U : RoS} {C : List CeL} {hh : List Int} {r : Addr} {H2 H' H'' : Hp} {qs : List CeL} {S : ArS} (J : CaI K A R S0 U C hh r H2 H' qs S) (s : Same H' H'') : CaI K A R S0 U C hh r H2 H'' qs S :=
  ⟨J.I.same s, J.g, J.hd, s _ _ J.hr, fun b o n1 n2 n3 n4 n5 n6 g => s _ _ (J.k b o n1 n2 n3 n4 n5 n6 g)⟩
theorem CaI.base {K : PySem.W.Frag} {A : ArA} {R : RoA} {S0 : ArS} {U : RoS} {C : List CeL} {hh : List Int} {r : Addr} {H2 Hb H' : Hp} {qs qb : List CeL} {S Sb : ArS} (J : CaI K A R S0 U C hh r H2 Hb qb Sb) (J' : CaI K A R S0 U C hh r Hb H' qs S) : CaI K A R S0 U C hh r H2 H' qs S :=
  { J' with k := fun b o n1 n2 n3 n4 n5 n6 g => J'.k b o n1 n2 n3 n4 n5 n6 (J.k b o n1 n2 n3 n4 n5 n6 g) }
theorem headAt_of {s a : Nat} (hs : s ≤ 8) (ha : a ≤ 2) : headAt (2 * ((4 * s + a : Nat) : Int)) = some (4 * s + a) := by
  unfold headAt
  rw [word_num (by omega)]
  dsimp only
  rw [if_pos (by omega), Int.toNat_natCast]
theorem fwA_app {S : ArS} {s : List CeL} : ∀ {r pre : List CeL}, fwA S pre (r ++ s) = fwA S pre r ++ fwA S (pre ++ r) s
  | [], pre => by rw [List.append_nil]; rfl
  | a :: r, pre => by
    show _ :: fwA S (pre ++ [a]) (r ++ s) = _ :: (fwA S (pre ++ [a]) r ++ _)
    rw [fwA_app, List.append_assoc]
    rfl
theorem fwY_len {S : ArS} {qs : List CeL} : (fwY S qs).length = qs.length := by
  have h := congrArg List.length (fwY_fst (S := S) (qs := qs))
  rwa [List.length_map] at h
theorem fw_pre {S : ArS} {qs qs' : List CeL} (h : ∃ t, qs' = qs ++ t) {i : Nat} (hi : i < qs.length) : (fwY S qs')[i]? = (fwY S qs)[i]? := by
  obtain ⟨t, rfl⟩ := h
  unfold fwY
  rw [fwA_app, List.getElem?_append_left]
  have := fwY_len (S := S) (qs := qs)
  unfold fwY at this
  omega
theorem fw_at {S : ArS} {qs : List CeL} {i : Nat} {x : CeL × Nat} (h : (fwY S qs)[i]? = some x) : qs[i]? = some x.1 ∧ (rowY S qs)[i]? = some (x.2 : Int) := by
  refine ⟨?_, ?_⟩
  · rw [← fwY_fst (S := S) (qs := qs), List.getElem?_map, h]
    rfl
  · unfold rowY
    rw [List.getElem?_map, h]
    rfl
def sp_carry_all (K : PySem.W.Frag) : Sp := fun vs H Q _ => ∃ A R S0 U C, vs = [.ref A.a, .ref R.r] ∧ PairO K H A R S0 U ∧ Y0 S0 C ∧ BkY S0 C U.bs ∧ U.bs.length < 1000000 ∧ (∀ w ∈ U.hs, ClW C w) ∧
  ∀ qs S' H' r ns, PairO K H' A R S' { U with hs := U.hs.map (trY S0 qs) } → Yg S0 C qs S' → ns.Perm U.bs → ns.Pairwise (· ≤ ·) → qs.map (fun c => (c.p : Int)) = ordY S0 C U.hs ns → (∀ u x, SlY S0 C qs u x → Dn S0 qs x (S'.ws.getD u 0)) → (∀ w ∈ U.hs, dnY S0 qs w) → H r = none → H' r = some (.lst ((rowY S0 qs).map V.int)) → OffP A R r → (∀ b o, b ≠ A.l → b ≠ A.o → b ≠ A.p → b ≠ A.q → b ≠ R.hl → H b = some o → H' b = some o) → Q (.ref r) H'
section
variable {P : Program} {w : World} {K : PySem.W.Frag} {mg : Str → Option Value} {base : Heap}
theorem f_carry_all (T : Tx K mg) : Fn P w K mg base 10 "carry_all" ["areas", "roots"] (sp_carry_all K) := by
  have c_Hands_row := f_Hands_row (P := P) (w := w) (base := base) T
  have c_Hands_put := f_Hands_put (P := P) (w := w) (base := base) T
  have c_carried := f_carried (P := P) (w := w) (base := base) T
  have c_Book_places := f_Book_places (P := P) (w := w) (base := base) T
  have c_carry_place := f_carry_place (P := P) (w := w) (base := base) T
  have c_slot_places := f_slot_places (P := P) (w := w) (base := base) T
  refine T.mkFn 21 39 (d := d_carry_all) (N := ["areas", "roots", "row", "hand", "word", "place", "turn"]) (k := 9) rfl rfl rfl rfl rfl sc_carry_all (fun _ _ _ _ _ _ us hl => match us, hl with | [_, _], _ => rfl) (fun vs H Q E h => ?len) (fun cdv A outer s H vs Q E hr h => ⟨_,
      (pss_cons (ps_set (i := 2) sc_carry_all.nd rfl (Or.inl rfl) (pe_lst pa_nil))
        (pss_cons (ps_for (passes_of rfl) rfl (pi_enum (by rfl) (T.free 73) (pa_cons (pe_mt0 (K := K) rfl (takes_of rfl rfl rfl rfl) (pe_fldC (T.cls 157) (T.noat 160) (pv 1)) c_Hands_row (hr.mono (by decide))) pa_nil)) (pg_tup (n := 2) rfl (pgs_cons (pg_name (i := 3) sc_carry_all.nd rfl (Or.inl rfl)) (pgs_cons (pg_name (i := 4) sc_carry_all.nd rfl (Or.inl rfl)) pgs_nil))) (pss_one (ps_expr (pe_mt (K := K) rfl (takes_of rfl rfl rfl rfl) (pe_fldC (T.cls 157) (T.noat 160) (pv 1)) c_Hands_put (hr.mono (by decide)) (pa_cons (pv 3) (pa_cons (pe_fn (takes_of rfl rfl rfl rfl) c_carried (hr.mono (by decide)) (by rfl) (pa_cons (pv 0) (pa_cons (pv 2) (pa_cons (pv 4) pa_nil)))) pa_nil))))))
        (pss_cons (ps_for (passes_of rfl) rfl (pi_listK (K := K) rfl (pe_mt0 (K := K) rfl (takes_of rfl rfl rfl rfl) (pe_fldC (T.cls 157) (T.noat 161) (pv 1)) c_Book_places (hr.mono (by decide)))) (pg_name (i := 5) sc_carry_all.nd rfl (Or.inl rfl)) (pss_one (ps_expr (pe_fn (takes_of rfl rfl rfl rfl) c_carry_place (hr.mono (by decide)) (by rfl) (pa_cons (pv 0) (pa_cons (pv 2) (pa_cons (pv 5) pa_nil)))))))
        (pss_cons (ps_set (i := 6) sc_carry_all.nd rfl (Or.inl rfl) pe_int)
        (pss_cons (ps_while (passes_of rfl) (pt_cmpR op_lt (pv 6) (pe_callB (call_lenK (K := K) rfl) (by rfl) (T.free 69) PySem.boot_len (pa_cons (pv 2) pa_nil)) (nomark _)) (pss_cons (ps_for (passes_of rfl) rfl (pi_listK (K := K) rfl (pe_fn (takes_of rfl rfl rfl rfl) c_slot_places (hr.mono (by decide)) (by rfl) (pa_cons (pe_fldC (T.cls 112) (T.noat 118) (pv 0)) (pa_cons (pe_ix (ix_seqK (K := K) rfl) (pv 2) (pv 6) (fun _ _ => rfl)) pa_nil)))) (pg_name (i := 5) sc_carry_all.nd rfl (Or.inl rfl)) (pss_one (ps_expr (pe_fn (takes_of rfl rfl rfl rfl) c_carry_place (hr.mono (by decide)) (by rfl) (pa_cons (pv 0) (pa_cons (pv 2) (pa_cons (pv 5) pa_nil)))))))
        (pss_one (ps_set (i := 6) sc_carry_all.nd rfl (Or.inl rfl) (pe_op op_gAdd (pv 6) pe_int)))))
        (pss_one (ps_ret (pv 2)))))))), ?rd⟩)
  case len => first | exact len_carry_all h | (repeat (first | (obtain ⟨rfl, _⟩ := h; rfl; done) | obtain ⟨_, h⟩ := h))
  case rd =>
    obtain ⟨A, R, S0, U, C, rfl, I, P, B, hb, hw, q⟩ := h
    have sz : 1000000 ≤ sizeLine := by rw [sizeLine_eq]; omega
    walk_at "w3"
    refine ⟨by omega, fun r nr => ?_⟩
    have s1 := same_new (o := .lst []) nr
    have hr1 : upd H r (.lst []) r = some (.lst []) := upd_same
    have of := (I.offl nr).1
    have I1 := I.same s1
    generalize upd H r (.lst []) = H1 at s1 hr1 I1 ⊢
    have hz := I.ro.ho.sz
    have vw := I.ro.ho.vw
    refine ⟨_, fldIs I1.ro.ob, recv I1.ro.ho.ob, R.h, R.hx, R.hl, U.hs, rfl, I1.ro.ho, fun p2 np2 => ?_⟩
    have s2 := same_new (o := .lst (U.hs.map V.int)) np2
    have hp2 : upd H1 p2 (.lst (U.hs.map V.int)) p2 = some (.lst (U.hs.map V.int)) := upd_same
    have I2 := I1.same s2
    have hr2 := s2 _ _ hr1
    have of2 := (I1.offl np2).1
    have rp2 : p2 ≠ r := (ne_of_none hr1 np2).symm
    have np2H := none_of s1 np2
    have s12 := s1.trans s2
    have G0 := Yg.init P
    generalize upd H1 p2 (.lst (U.hs.map V.int)) = H2 at s12 hr2 hp2 I2 ⊢
    clear s2
    refine ⟨p2, _, rfl, .of hp2, for_it (walk_enum (xs := U.hs.map V.int)) (fun i σ H' => ∃ o3 o4 hh qs S, σ = [some (.ref A.a), some (.ref R.r), some (.ref r), o3, o4, none, none] ∧ PairO K H' A R S { U with hs := hh } ∧ Go2 S0 C [] qs S0 S (ykL S0 (U.hs.take i)) ∧ hh.length = U.hs.length ∧ (∀ j, j < i → j < hh.length → Dn S0 qs (U.hs.getD j 0) (hh.getD j 0)) ∧ H' r = some (.lst ((rowY S0 qs).map V.int)) ∧ (∀ b o, b ≠ A.l → b ≠ A.o → b ≠ A.p → b ≠ A.q → b ≠ R.hl → b ≠ r → H2 b = some o → H' b = some o)) ⟨_, _, U.hs, [], S0, rfl, I2, .refl G0, rfl, fun j hj _ => absurd hj (Nat.not_lt_zero j), hr2, fun b o _ _ _ _ _ _ g => g⟩ ?_ ?_ ?_⟩
    · rintro i σ H' _ ⟨o3, o4, hh, qs, S, rfl, I', -, -, -, -, k'⟩
      exact .of (k' _ _ of2.1 (ne_of hp2 I2.ar.so fun z => spv_lst z.symm) (ne_of hp2 I2.ar.sp fun z => spv_lst z.symm) (ne_of hp2 I2.ar.sq fun z => spv_lst z.symm) of2.2.1 rp2 hp2)
    · rintro i x σ H1' H' hi ⟨o3, o4, hh, qs, S, rfl, I', g', lh, dn, hr', k'⟩ ⟨T, y, z, rfl, hT, rfl, e1, e2⟩
      cases Option.some.inj e1
      obtain ⟨w0, ew, rfl⟩ := ints_atY e2
      have sT := same_new (o := .tup [.int (i : Nat), .int w0]) hT
      have IT := I'.same sT
      have hrT := sT _ _ hr'
      have mw := List.mem_of_getElem? ew
      have hi' : i < U.hs.length := (List.getElem?_eq_some_iff.mp ew).1
      have tk : U.hs.take (i + 1) = U.hs.take i ++ [w0] := by
        rw [List.take_add_one, ew]
        rfl
      have ofT : A.l ≠ r := of.1.symm
      walk_at "w3"
      refine ⟨_, .inl (.inl upd_same), rfl, ?_⟩
      walk_at "w3"
      refine ⟨_, fldIs IT.ro.ob, recv IT.ro.ho.ob, ?_⟩
      refine ⟨A, S0, S, C, qs, r, w0, w0, rfl, IT.ar, P, g'.g, hw w0 mw, .inl rfl, vw _ mw, hrT, ofT, fun qs' S' H4 w' I4 go hr4 k4 => ?_⟩
      have J4 := IT.arR I4 k4 hrT of
      have dw : (wordOf w').isSome = true := by rw [go.d.2]; exact trY_word P go.g (vw _ mw)
      refine ⟨R.h, R.hx, R.hl, hh, _, _, rfl, J4.ro.ho, .inl ⟨_, rfl⟩, .inl ⟨_, rfl⟩, ?_⟩
      rw [placeOf_int, if_pos ⟨by omega, by omega⟩, wordV_int, if_pos dw, Int.toNat_natCast]
      dsimp only
      have J5 := J4.hput (i := i) dw
      refine ⟨_, _, hh.set i w', qs', S', rfl, J5, by rw [tk, ykL_snoc]; exact g'.trans go.two, by rw [List.length_set]; exact lh, fun j hj hl => ?_, (upd_ne of.2.1).trans hr4, fun b o n1 n2 n3 n4 n5 n6 g => (upd_ne n5).trans (k4 b o n1 n2 n3 n4 n6 (sT _ _ (k' b o n1 n2 n3 n4 n5 n6 g)))⟩
      rw [getD_set (by omega)]
      split
      · rename_i e
        subst e
        rw [show U.hs.getD i 0 = w0 from by rw [List.getD_eq_getElem?_getD, ew]; rfl]
        exact go.d
      · rename_i e
        rw [List.length_set] at hl
        exact (dn j (by omega) hl).pre go.g go.x
    rintro σ H3 ⟨o3, o4, hh, qs3, S3, rfl, I3, g3, lh, dn, hr3, k3⟩
    rw [List.length_map] at dn g3
    rw [List.take_length] at g3
    have J3 : CaI K A R S0 U C hh r H2 H3 qs3 S3 := ⟨I3, g3.g, fun j hj => dn j hj (by omega), hr3, k3⟩
    clear I3 dn hr3 k3 I2
    walk_at "w3"
    refine ⟨_, fldIs J3.I.ro.ob, recv J3.I.ro.bo.ob, R.b, R.bx, U.bd, U.bs, rfl, J3.I.ro.bo, hb, fun ns p4 H4 pm so np4 s4 hp4 => ?_⟩
    have J4 := J3.same s4
    have of4 := (J3.I.offl np4).1
    have rp4 : p4 ≠ r := (ne_of_none J3.hr np4).symm
    have hl4 : ∀ b xs, H3 b = some (.lst xs) → p4 ≠ b := fun b xs g => (ne_of_none g np4).symm
    have f4 : ∀ b o, b ≠ A.l → b ≠ A.o → b ≠ A.p → b ≠ A.q → b ≠ R.hl → b ≠ r → H b = some o → H4 b = some o := fun b o n1 n2 n3 n4 n5 n6 g => s4 _ _ (J3.k b o n1 n2 n3 n4 n5 n6 (s12 _ _ g))
    clear J3
    have nb : ∀ x ∈ ns, ∃ v : Nat, x = (v : Int) ∧ ∃ w0, SlY S0 C [] v w0 ∧ S0.ws.getD v 0 = w0 := fun x mx => by
      obtain ⟨c, mc, y, j, hj, e⟩ := B.s x (pm.mem_iff.mp mx)
      exact ⟨_, e, _, .inl ⟨c, mc, y, j, hj, rfl, rfl⟩, P.cp.sl c mc j hj⟩
    refine ⟨_, rfl, ⟨_, .of hp4⟩, forW_list (xs := ns.map V.int) (fun i σ H' => ∃ o3 o4 o5 qs S, σ = [some (.ref A.a), some (.ref R.r), some (.ref r), o3, o4, o5, none] ∧ CaI K A R S0 U C hh r H4 H' qs S ∧ Go2 S0 C [] qs S0 S (ykL S0 U.hs ++ ykL S0 (wAt S0 (ns.take i))) ∧ (∀ v : Nat, (v : Int) ∈ ns.take i → ∀ x, SlY S0 C qs v x → Dn S0 qs x (S.ws.getD v 0))) ⟨_, _, _, qs3, S3, rfl, { J4 with k := fun b o _ _ _ _ _ _ g => g }, by (show Go2 _ _ _ _ _ _ (_ ++ [])); rw [List.append_nil]; exact g3, fun v m => (List.not_mem_nil m).elim⟩ ?_ ?_ ?_⟩
    · rintro i σ H' _ ⟨o3, o4, o5, qs, S, rfl, J, -, -⟩
      exact .of (J.k _ _ of4.1 (ne_of hp4 J4.I.ar.so fun z => spv_lst z.symm) (ne_of hp4 J4.I.ar.sp fun z => spv_lst z.symm) (ne_of hp4 J4.I.ar.sq fun z => spv_lst z.symm) of4.2.1 rp4 hp4)
    · rintro i x σ H5 hx ⟨o3, o4, o5, qs, S, rfl, J, g, bd⟩
      obtain ⟨y, ey, rfl⟩ := ints_atY hx
      obtain ⟨v, rfl, w0, sl0, ew⟩ := nb y (List.mem_of_getElem? ey)
      have tk : ns.take (i + 1) = ns.take i ++ [(v : Int)] := by
        rw [List.take_add_one, ey]
        rfl
      walk_at "w3"
      refine ⟨A, S0, S, C, qs, r, v, w0, rfl, J.I.ar, P, J.g, sl0.pre g.x, J.hr, of.1.symm, fun qs' S' H6 I6 go dn hr6 k6 => ?_⟩
      refine ⟨_, _, _, qs', S', rfl, J.step of I6 go hr6 k6, ?_, fun u mu x hu => ?_⟩
      · have := g.trans go
        rw [tk]
        rw [List.append_assoc, ← ew, ← ykL_snoc] at this
        unfold wAt at this ⊢
        rw [List.map_append]
        exact this
      · rw [tk] at mu
        rcases List.mem_append.mp mu with mu | mu
        · obtain ⟨v', ev, w1, sl1, -⟩ := nb _ (List.mem_of_mem_take mu)
          have : u = v' := by omega
          subst this
          have := hu.uniq P go.g (sl1.pre (go.g.pre0))
          subst this
          exact go.k u _ (sl1.pre g.x) (bd u mu _ (sl1.pre g.x))
        · have : u = v := by have := List.mem_singleton.mp mu; omega
          subst this
          have := hu.uniq P go.g (sl0.pre (go.g.pre0))
          subst this
          exact dn
    rintro σ H5 ⟨o3, o4, o5, qs5, S5, rfl, J5, g5, b5⟩
    rw [List.length_map, List.take_length] at g5 b5
    walk_at "w3"
    have cnt : ∀ {qs S}, Yg S0 C qs S → qs.length ≤ C.length := fun {qs S} G => by
      have h1 : (qs.map fun c => (c.p : Int)).Nodup := by
        rw [List.nodup_iff_pairwise_ne, List.pairwise_map]
        exact G.nd.imp fun n e => n (by omega)
      have := nd_len (U := plcC C) h1 fun x mx => by
        obtain ⟨c, mc, rfl⟩ := List.mem_map.mp mx
        exact List.mem_map.mpr ⟨c, (G.mq c mc).1, rfl⟩
      rw [List.length_map] at this
      exact Nat.le_trans this (Nat.le_of_eq (List.length_map ..))
    have c8 : ∀ c ∈ C, c.ws.length ≤ 8 := fun c mc => by
      obtain ⟨a, ha, hh⟩ := P.cp.hd c mc
      obtain ⟨-, h34, -⟩ := headAt_some hh
      omega
    refine whW (fun k σ H' => ∃ o3 o4 o5 qs S, ∃ t : Nat, σ = [some (.ref A.a), some (.ref R.r), some (.ref r), o3, o4, o5, some (.int (t : Nat))] ∧ k + t = C.length + 1 ∧ CaI K A R S0 U C hh r H4 H' qs S ∧ t ≤ qs.length ∧ reachR (kY S0 C) k (qs.map fun c => (c.p : Int)) t = ordY S0 C U.hs ns ∧ (∀ v : Nat, (v : Int) ∈ ns → ∀ x, SlY S0 C qs v x → Dn S0 qs x (S.ws.getD v 0)) ∧ (∀ i, i < t → ∀ x, (fwY S0 qs)[i]? = some x → ∀ j, j < x.1.ws.length → Dn S0 qs (x.1.ws.getD j 0) (S.ws.getD (x.2 + 1 + j) 0))) ⟨C.length + 1, _, _, _, qs5, S5, 0, rfl, rfl, J5, Nat.zero_le _, by unfold ordY; rw [g5.q]; rfl, b5, fun i hi => absurd hi (Nat.not_lt_zero i)⟩ ?_
    rintro k σ H6 ⟨o3, o4, o5, qs, S, t, rfl, kt, J, tl, er, bd, nw⟩
    have cn := cnt J.g
    walk_at "w3"
    refine r_lenL J.hr ?_
    rw [List.length_map, rowY_len]
    walk_at "w3"
    by_cases c : t < qs.length
    · rw [if_pos (by omega)]
      refine whB ?_
      walk_at "w3"
      have hx : (fwY S0 qs)[t]? = some ((fwY S0 qs)[t]'(by rw [fwY_len]; exact c)) := List.getElem?_eq_getElem _
      generalize (fwY S0 qs)[t]'(by rw [fwY_len]; exact c) = x at hx
      obtain ⟨hq, hrw⟩ := fw_at hx
      have mx := List.mem_of_getElem? hx
      have mC := (J.g.mq _ (fw_mem mx)).1
      have x8 := c8 _ mC
      obtain ⟨hn1, hn2⟩ := J.g.nx P mx
      refine ⟨_, fldIs J.I.ar.ob, ?_⟩
      refine r_ixL J.hr (by rw [List.getElem?_map, hrw]; rfl) ?_
      have hd := J.g.nh x mx
      have ehd : headAt (S.ws.getD x.2 0) = some (4 * x.1.ws.length + if agO S0 x.1.p = 0 then 1 else 2) := by
        rw [hd]
        exact headAt_of x8 (by split <;> omega)
      have e4 : (4 * x.1.ws.length + if agO S0 x.1.p = 0 then 1 else 2) / 4 = x.1.ws.length := by split <;> omega
      refine ⟨A.m, A.mx, A.l, S.ws, x.2, _, rfl, J.I.ar.me, J.I.ar.vw, by omega, ehd, fun p7 H7 np7 s7 hp7 => ?_⟩
      rw [e4] at hp7
      have J7 := J.same s7
      have of7 := (J.I.offl np7).1
      have rp7 : p7 ≠ r := (ne_of_none J.hr np7).symm
      have J7' : CaI K A R S0 U C hh r H7 H7 qs S := { J7 with k := fun b o _ _ _ _ _ _ g => g }
      refine ⟨p7, rfl, ⟨_, .of hp7⟩, forW_list (xs := ((List.range x.1.ws.length).map fun j => ((x.2 + 1 + j : Nat) : Int)).map V.int) (fun i σ H' => ∃ o5' qs' S', σ = [some (.ref A.a), some (.ref R.r), some (.ref r), o3, o4, o5', some (.int (t : Nat))] ∧ CaI K A R S0 U C hh r H7 H' qs' S' ∧ Go2 S0 C qs qs' S S' (ykL S0 (x.1.ws.take i)) ∧ (∀ j, j < i → j < x.1.ws.length → Dn S0 qs' (x.1.ws.getD j 0) (S'.ws.getD (x.2 + 1 + j) 0))) ⟨_, qs, S, rfl, J7', .refl J.g, fun j hj => absurd hj (Nat.not_lt_zero j)⟩ ?_ ?_ ?_⟩
      · rintro i σ H' _ ⟨o5', qs', S', rfl, J', -, -⟩
        exact .of (J'.k _ _ of7.1 (ne_of hp7 J7.I.ar.so fun z => spv_lst z.symm) (ne_of hp7 J7.I.ar.sp fun z => spv_lst z.symm) (ne_of hp7 J7.I.ar.sq fun z => spv_lst z.symm) of7.2.1 rp7 hp7)
      · rintro i y σ H8 hy ⟨o5', qs', S', rfl, J', g', d'⟩
        obtain ⟨z, ez, rfl⟩ := ints_atY hy
        have hi : i < x.1.ws.length := by
          have := (List.getElem?_eq_some_iff.mp ez).1
          rwa [List.length_map, List.length_range] at this
        rw [List.getElem?_map, List.getElem?_range hi] at ez
        cases ez
        have ei : x.1.ws[i]? = some (x.1.ws.getD i 0) := getD_at (d := 0) hi
        have mx' : x ∈ fwY S0 qs' := List.mem_of_getElem? ((fw_pre g'.x c).trans hx)
        have sl : SlY S0 C qs' (x.2 + 1 + i) (x.1.ws.getD i 0) := .inr ⟨x, mx', i, hi, rfl, rfl⟩
        walk_at "w3"
        refine ⟨A, S0, S', C, qs', r, x.2 + 1 + i, x.1.ws.getD i 0, rfl, J'.I.ar, P, J'.g, sl, J'.hr, of.1.symm, fun qs2 S2 H9 I9 go dn hr9 k9 => ?_⟩
        refine ⟨_, qs2, S2, rfl, J'.step of I9 go hr9 k9, ?_, fun j hj hl => ?_⟩
        · rw [List.take_add_one, ei]
          show Go2 S0 C qs qs2 S S2 (ykL S0 (x.1.ws.take i ++ [x.1.ws.getD i 0]))
          rw [ykL_snoc]
          exact g'.trans go
        · by_cases e : j = i
          · subst e
            exact dn
          · exact go.k _ _ (.inr ⟨x, mx', j, hl, rfl, rfl⟩) (d' j (by omega) hl)
      rintro σ H8 ⟨o5', qs', S', rfl, J', g', d'⟩
      rw [List.length_map, List.length_map, List.length_range] at g' d'
      rw [List.take_length] at g'
      walk_at "w3"
      obtain ⟨k, rfl⟩ : ∃ k', k = k' + 1 := ⟨k - 1, by omega⟩
      have lq : qs.length ≤ qs'.length := by
        obtain ⟨s, e⟩ := g'.x
        rw [e, List.length_append]
        omega
      refine ⟨k, by omega, _, _, _, qs', S', t + 1, rfl, by omega, (J7.base J'), by omega, ?_, fun v mv y hy => ?_, fun i hi y ey j hj => ?_⟩
      · rw [reachR_step (by rw [List.length_map]; exact c)] at er
        rw [g'.q, ← er]
        congr 2
        have : (qs.map fun c => (c.p : Int)).getD t 0 = (x.1.p : Int) := by
          rw [List.getD_eq_getElem?_getD, List.getElem?_map, hq]
          rfl
        rw [this, kY_mem P.cp mC]
      · obtain ⟨v', ev, w1, sl1, -⟩ := nb _ mv
        have : v = v' := by omega
        subst this
        have := hy.uniq P g'.g (sl1.pre (g'.g.pre0))
        subst this
        exact g'.k v _ (sl1.pre (J.g.pre0)) (bd v mv _ (sl1.pre (J.g.pre0)))
      · by_cases e : i = t
        · subst e
          rw [fw_pre g'.x c, hx] at ey
          cases ey
          exact d' j hj hj
        · rw [fw_pre g'.x (by omega)] at ey
          exact g'.k _ _ (.inr ⟨y, List.mem_of_getElem? ey, j, hj, rfl, rfl⟩) (nw i (by omega) y ey j hj)
    · rw [if_neg (by omega)]
      walk_at "w3"
      have et : t = qs.length := by omega
      subst et
      have ehh : hh = U.hs.map (trY S0 qs) := by
        refine List.ext_getElem? fun j => ?_
        rw [List.getElem?_map]
        by_cases hj : j < U.hs.length
        · have := (J.hd j hj).2
          rw [List.getD_eq_getElem?_getD, List.getD_eq_getElem?_getD, List.getElem?_eq_getElem (by omega), List.getElem?_eq_getElem hj] at this
          have this : hh[j]'(by omega) = trY S0 qs (U.hs[j]) := this
          rw [List.getElem?_eq_getElem (by omega), List.getElem?_eq_getElem hj, this]
          rfl
        · rw [List.getElem?_eq_none (by omega), List.getElem?_eq_none (by omega)]
          rfl
      have I9 := J.I
      rw [ehh] at I9
      refine q qs S H6 r ns I9 J.g pm so ?_ (fun u x hu => ?_) (fun w mw => ?_) nr J.hr of fun b o n1 n2 n3 n4 n5 g => ?_
      · rw [← er]
        exact (reachR_end (by rw [List.length_map]; exact Nat.le_refl _)).symm
      · have tn := J.g.tn hu
        rcases tn with e | d
        · rcases hu with ⟨c, mc, y, j, hj, rfl, rfl⟩ | ⟨x, mx, j, hj, rfl, rfl⟩
          · cases ep : placeIn (c.ws.getD j 0) with
            | none => exact (J.g.so c mc y j hj).stay J.g fun p z => by rw [e, ep] at z; cases z
            | some p =>
              by_cases yp : Yng S0 p
              · exact bd _ (pm.mem_iff.mpr (B.a c mc y j hj p ep yp)) _ (.inl ⟨c, mc, y, j, hj, rfl, rfl⟩)
              · exact (J.g.so c mc y j hj).stay J.g fun p' z => by rw [e, ep] at z; cases z; exact yp
          · obtain ⟨i, ei⟩ := List.getElem?_of_mem mx
            have hi := (List.getElem?_eq_some_iff.mp ei).1
            rw [fwY_len] at hi
            exact nw i hi x ei j hj
        · exact d
      · obtain ⟨j, ej⟩ := List.getElem?_of_mem mw
        have hj := (List.getElem?_eq_some_iff.mp ej).1
        have := (J.hd j hj).1
        rw [List.getD_eq_getElem?_getD, ej] at this
        exact this
      · exact J.k b o n1 n2 n3 n4 n5 (ne_of_none g nr) (f4 b o n1 n2 n3 n4 n5 (ne_of_none g nr) g)
end

local macro_rules | `(tactic| walk_at "w3") => `(tactic| try simp only [↓x_var0, ↓x_varS, ↓x_c, ↓x_op, ↓x_un, ↓x_cb, ↓x_nil, ↓x_cons, ↓x_test, ↓x_b, ↓x_ex, ↓x_and, ↓x_or, ↓x_not, ↓x_andV, ↓x_orV, ↓x_notV, ↓x_tif, ↓x_chain, ↓x_menu, ↓x_menuI, ↓x_lst, ↓x_tup, ↓x_dnew, ↓x_callW, ↓x_callN, ↓x_seq, ↓x_next, ↓x_ret, ↓x_retN, ↓x_drop, ↓x_ifS, ↓x_asg, ↓x_name, ↓x_raise, ↓x_fld, ↓x_setF, ↓x_meth, ↓x_make, ↓x_sub, ↓r_min, ↓r_max, ↓x_yes, ↓x_for, ↓x_lock, ↓x_keys, ↓x_cut, ↓x_lc, ↓x_rng1, ↓x_rng2, ↓x_lst1, ↓x_itup, ↓x_rng3, ↓x_three, ↓x_lstg, ↓x_tupg, ↓x_adrS, ↓x_one, ↓x_two, ↓x_adr, ↓x_sl, ↓x_np, ↓x_pt, ↓x_int, ↓x_bm, ↓x_bm0, ↓x_consg, ↓x_nilg, ↓x_dget2, ↓x_dget1, ↓x_dgetN, ↓x_dget, ↓x_din, ↓x_dni, ↓x_dput, ↓x_dpop2, ↓r_isB, ↓r_notB, ↓x_enum, ↓x_zip, ↓x_str, ↓x_strE, ↓r_inS, ↓r_ninS, wipe, List.map_cons, List.map_nil, ↓x_isT, ↓r_isiII, ↓r_isiBB, ↓r_isiIB, ↓r_isiSS, ↓r_neNS, ↓r_neSN, ↓r_neNN, ↓r_eqNS, ↓r_eqSN, ↓r_eqNN, ↓r_eqIS, ↓r_neIS, ↓r_neSI, ↓r_neBS, ↓r_eqBB, ↓r_neBB, ↓x_start, ↓x_K, ↓x_start0, ↓r_i0, ↓r_i, ↓r_u, ↓r_addI, ↓r_addS, ↓r_mulI, ↓r_mulS, ↓r_eqI, ↓r_neI, ↓r_eqS, ↓r_neS, ↓r_absI, ↓r_intI, ↓r_intB, List.length_cons, List.length_nil, List.replicate, List.set_cons_zero, List.set_cons_succ, decide_eq_true_eq, Bool.not_eq_true', decide_eq_false_iff_not, if_true, if_false, Bool.false_eq_true, Bool.true_eq_false, ite_true, ite_false, Bool.not_true, Bool.not_false, c_div, n_ten, c_pow, not_true_eq_false, not_false_eq_true, decide_true, decide_false, true_and, and_true, and_self, true_or, or_true, Int.reduceLT, Int.reduceLE, Int.reduceMul, Int.reduceAdd, Int.reduceSub, Int.reducePow, Int.reduceNeg, Int.reduceDiv, Int.reduceMod, Nat.reducePow, Int.reduceToNat, Int.reduceEq, Int.reduceNe, Nat.reduceLT, Nat.reduceLeDiff, Nat.reduceAdd, ↓x_whole, ↓x_kind, Int.natCast_one, Int.natCast_one, Int.natCast_one, Int.natCast_one, Int.natCast_one, Int.natCast_one, Int.natCast_one, Int.natCast_one, Int.natCast_one])
/-- where a young place's cell went; other places stay -/
def gY (S : ArS) (qs : List CeL) (p : Int) : Option Int := if (S.b S.fl : Int) ≤ p ∧ p < S.t S.fl then goG (psY S qs) p else some p
theorem gY_y {S : ArS} {qs : List CeL} {p : Int} (y : Yng S p) : gY S qs p = goG (psY S qs) p := if_pos y
theorem gY_n {S : ArS} {qs : List CeL} {p : Int} (y : ¬ Yng S p) : gY S qs p = some p := if_neg y
/-- what a young cell's place tells -/
theorem sent_y {S0 S : ArS} {C qs : List CeL} (P : Y0 S0 C) (G : Yg S0 C qs S) {c : CeL} (mc : c ∈ C) (y : Yng S0 c.p) : c.p < S.ws.length ∧ ((∃ q : Nat, q ≤ 9999 ∧ wordOf (S.ws.getD c.p 0) = some (.place q) ∧ goG (psY S0 qs) c.p = some (q : Int)) ∨ (∃ n h, wordOf (S.ws.getD c.p 0) = some (.num n) ∧ headAt (S.ws.getD c.p 0) = some h ∧ goG (psY S0 qs) c.p = none)) := by
  have hcl : c.p + c.ws.length < S.ws.length := by
    have := P.ln
    have := G.ln
    have := P.lo
    have := P.lb
    have := bb_of (S := S0)
    rcases P.side mc with ⟨-, h⟩ | ⟨-, -, h⟩ <;> omega
  refine ⟨by omega, ?_⟩
  have pz := P.sz
  have pl := P.ln
  have gl := G.ln
  by_cases sn : ∃ d ∈ qs, d.p = c.p
  · obtain ⟨d, md, ed⟩ := sn
    have := P.cp.same_p (G.mq d md).1 mc ed
    subst this
    obtain ⟨q, mf, g⟩ := G.go md
    have h1 := (G.nx P mf).2
    have h1 : q + d.ws.length < S.ws.length := h1
    have h2 := G.sn _ mf
    have h2 : S.ws.getD d.p 0 = 2 * (q : Int) + 1 := h2
    exact .inl ⟨q, by omega, by rw [h2, word_place (by omega) (by omega)], g⟩
  · have nc : ∀ d ∈ qs, d.p ≠ c.p := fun d md ed => sn ⟨d, md, ed⟩
    obtain ⟨a, ha, hh⟩ := P.cp.hd c mc
    rw [← G.un c mc nc] at hh
    obtain ⟨h34, h3, -⟩ := headAt_some hh
    refine .inr ⟨_, _, by rw [h34, word_num (by omega)], hh, goG_none fun p m e => ?_⟩
    obtain ⟨x, mx, e1, -⟩ := psY_mem (p := p.1) (q := p.2) m
    exact nc _ (fw_mem mx) (by omega)
def sp_settle_names (K : PySem.W.Frag) : Sp := fun vs H Q _ => ∃ A R S0 S U C qs, vs = [.ref A.a, .ref R.r] ∧ PairO K H A R S U ∧ Y0 S0 C ∧ Yg S0 C qs S ∧ (∀ t ∈ U.ts, flatN t = true) ∧ U.ts.length < 100000 ∧ (∀ p, .int p ∈ U.ts → Yng S0 p → ∃ c ∈ C, p = (c.p : Int)) ∧
  ∀ H', PairO K H' A R S { U with ts := U.ts.map (nmG (gY S0 qs)) } → (∀ b o, b ≠ R.wl → H b = some o → H' b = some o) → Q .non H'
def sp_settle_lasts (K : PySem.W.Frag) : Sp := fun vs H Q _ => ∃ A R S0 S U C qs, vs = [.ref A.a, .ref R.r] ∧ PairO K H A R S U ∧ Y0 S0 C ∧ Yg S0 C qs S ∧ U.ws.length < 100000 ∧ U.ss.length < 800000 ∧ (∀ p n, some (p, n) ∈ U.ws → Yng S0 p → ∃ c ∈ C, p = (c.p : Int)) ∧
  ∀ rs' H', PairO K H' A R S { U with rs := rs', ws := U.ws.map (tkG (gY S0 qs)), ss := U.ss ++ saidG (gY S0 qs) U.ws } → (∀ b o, b ≠ R.d → b ≠ R.e → H b = some o → H' b = some o) → Q .non H'
section
variable {P : Program} {w : World} {K : PySem.W.Frag} {mg : Str → Option Value} {base : Heap}
theorem f_settle_names (T : Tx K mg) : Fn P w K mg base 6 "settle_names" ["areas", "roots"] (sp_settle_names K) := by
  have c_Weak_names := f_Weak_names (P := P) (w := w) (base := base) T
  have c_Areas_area_of := f_Areas_area_of (P := P) (w := w) (base := base) T
  have c_sent_to := f_sent_to (P := P) (w := w) (base := base) T
  have c_Weak_gone := f_Weak_gone (P := P) (w := w) (base := base) T
  have c_Weak_move := f_Weak_move (P := P) (w := w) (base := base) T
  refine T.mkFn 22 40 (d := d_settle_names) (N := ["areas", "roots", "name", "at", "goal"]) (k := 5) rfl rfl rfl rfl rfl sc_settle_names (fun _ _ _ _ _ _ us hl => match us, hl with | [_, _], _ => rfl) (fun vs H Q E h => ?len) (fun cdv A outer s H vs Q E hr h => ⟨_,
      (pss_one (ps_for (passes_of rfl) rfl (pi_listK (K := K) rfl (pe_mt0 (K := K) rfl (takes_of rfl rfl rfl rfl) (pe_fldC (T.cls 157) (T.noat 162) (pv 1)) c_Weak_names (hr.mono (by decide)))) (pg_tup (n := 2) rfl (pgs_cons (pg_name (i := 2) sc_settle_names.nd rfl (Or.inl rfl)) (pgs_cons (pg_name (i := 3) sc_settle_names.nd rfl (Or.inl rfl)) pgs_nil))) (pss_one (ps_if (pt_cmpR (op_eqK (K := K) rfl hr.units) (pe_mt (K := K) rfl (takes_of rfl rfl rfl rfl) (pv 0) c_Areas_area_of (hr.mono (by decide)) (pa_cons (pv 3) pa_nil)) pe_str (nomark _)) (pss_cons (ps_set (i := 4) sc_settle_names.nd rfl (Or.inl rfl) (pe_fn (takes_of rfl rfl rfl rfl) c_sent_to (hr.mono (by decide)) (by rfl) (pa_cons (pe_fldC (T.cls 112) (T.noat 118) (pv 0)) (pa_cons (pv 3) pa_nil))))
        (pss_one (ps_if (pt_cmpR op_isN (pv 4) pe_non (nomark _)) (pss_one (ps_expr (pe_mt (K := K) rfl (takes_of rfl rfl rfl rfl) (pe_fldC (T.cls 157) (T.noat 162) (pv 1)) c_Weak_gone (hr.mono (by decide)) (pa_cons (pv 2) pa_nil)))) (pss_one (ps_expr (pe_mt (K := K) rfl (takes_of rfl rfl rfl rfl) (pe_fldC (T.cls 157) (T.noat 162) (pv 1)) c_Weak_move (hr.mono (by decide)) (pa_cons (pv 2) (pa_cons (pv 4) pa_nil)))))))) pss_nil)))), ?rd⟩)
  case len => first | exact len_settle_names h | (repeat (first | (obtain ⟨rfl, _⟩ := h; rfl; done) | obtain ⟨_, h⟩ := h))
  case rd =>
    obtain ⟨A, R, S0, S, U, C, qs, rfl, I, P, G, fl, tl, hn, q⟩ := h
    have sz : 10000000 ≤ sizeLine := by rw [sizeLine_eq]; omega
    have ylo := (G.stk P).2
    rw [← G.n] at ylo
    have ay := fun p => areaY (S := S) (p := p) ylo
    have iln := I.ar.ln
    walk_at "w3"
    refine ⟨_, fldIs I.ro.ob, recv I.ro.wo.ob, R.w, R.wx, R.wl, U.ts, rfl, I.ro.wo, by omega, fl, fun p rs H3 np s3 hp3 ta => ?_⟩
    have I3 := I.same s3
    have pn : p ≠ R.wl := (ne_of_none I.ro.wo.ls np).symm
    have tpk : ∀ {tp xs}, H3 tp = some (.tup xs) → tp ≠ R.wl := fun g => ne_of g I3.ro.wo.ls (by intro z; cases z)
    walk_at "w3"
    refine ⟨⟨_, .of hp3⟩, forW_list (xs := rs) (fun i σ H' => ∃ o3 o4 o5 m, σ = [some (.ref A.a), some (.ref R.r), o3, o4, o5] ∧ m ≤ U.ts.length ∧ (pairsOf 0 U.ts).drop i = pairsOf m (U.ts.drop m) ∧ PairO K H' A R S { U with ts := mapT (nmG (gY S0 qs)) U.ts m } ∧ ∀ b o, b ≠ R.wl → H3 b = some o → H' b = some o) ⟨_, _, _, 0, rfl, Nat.zero_le _, rfl, I3, fun b o _ g => g⟩ ?_ ?_ ?_⟩
    · rintro i σ H' _ ⟨o3, o4, o5, m, rfl, -, -, -, k'⟩
      exact .of (k' _ _ pn hp3)
    · rintro i x σ H' hx ⟨o3, o4, o5, m, rfl, hm, ed, I', k'⟩
      obtain ⟨tp, xs, rfl, htp, ex⟩ := tups_get ta hx
      rw [List.drop_eq_getElem_cons (List.getElem?_eq_some_iff.mp ex).1, (List.getElem?_eq_some_iff.mp ex).2] at ed
      obtain ⟨a, pl, ma, al, rfl, ea, er, em⟩ := pairs_step (g := gY S0 qs) fl (Nat.le_refl _) ed.symm
      have htp' := k' _ _ (tpk htp) htp
      have gm : (mapT (nmG (gY S0 qs)) U.ts m).getD a .non = .int pl := by rw [List.getD_eq_getElem?_getD, mapT_get ma, ea]; rfl
      have lm : (mapT (nmG (gY S0 qs)) U.ts m).length = U.ts.length := mapT_len
      have es := mapT_set (f := nmG (gY S0 qs)) ea
      rw [em] at es
      walk_at "w3"
      refine ⟨_, .inl (.inl htp'), rfl, ?_⟩
      walk_at "w3"
      refine ⟨recv I'.ar.ob, A, S, pl, rfl, I'.ar, ?_⟩
      by_cases y : Yng S0 pl
      · rw [(ay pl).1 (G.yng.mpr y)]
        walk_at "w3"
        obtain ⟨c, mc, rfl⟩ := hn pl (List.mem_of_getElem? ea) y
        obtain ⟨hcl, hs⟩ := sent_y P G mc y
        refine ⟨_, fldIs I'.ar.ob, A.m, A.mx, A.l, S.ws, _, rfl, I'.ar.me, I'.ar.vw, .inl ⟨_, rfl⟩, ?_⟩
        rw [placeOf_int, if_pos (by omega), Int.toNat_natCast]
        dsimp only
        rcases hs with ⟨q', hq', hw, hg⟩ | ⟨n, h, hw, hh, hg⟩
        · rw [hw]
          dsimp only
          walk_at "w3"
          refine ⟨_, fldIs I'.ro.ob, recv I'.ro.wo.ob, R.w, R.wx, R.wl, _, _, _, rfl, I'.ro.wo, .inl ⟨_, rfl⟩, .inl ⟨_, rfl⟩, ?_⟩
          dsimp only
          rw [placeOf_int, lm, if_pos ⟨by omega, by omega⟩, Int.toNat_natCast]
          dsimp only
          rw [gm, if_neg (by intro z; cases z), placeW_int, if_pos ⟨by omega, by omega⟩]
          have J := I'.wkput (us := (mapT (nmG (gY S0 qs)) U.ts m).set a (nmG (gY S0 qs) (.int (c.p : Int))))
          have e8 : nmG (gY S0 qs) (.int (c.p : Int)) = .int (q' : Int) := by
            show (match gY S0 qs c.p with | some q => V.int q | none => .non) = _
            rw [gY_y y, hg]
          rw [es] at J
          rw [e8] at es
          dsimp only
          rw [es]
          exact ⟨_, _, _, a + 1, rfl, al, er, J, fun b o n g => (upd_ne n).trans (k' b o n g)⟩
        · rw [hw]
          dsimp only
          rw [hh]
          dsimp only
          walk_at "w3"
          refine ⟨_, fldIs I'.ro.ob, recv I'.ro.wo.ob, R.w, R.wx, R.wl, _, _, rfl, I'.ro.wo, .inl ⟨_, rfl⟩, ?_⟩
          dsimp only
          rw [placeOf_int, lm, if_pos ⟨by omega, by omega⟩, Int.toNat_natCast]
          dsimp only
          rw [gm, if_neg (by intro z; cases z)]
          have J := I'.wkput (us := (mapT (nmG (gY S0 qs)) U.ts m).set a (nmG (gY S0 qs) (.int (c.p : Int))))
          have e8 : nmG (gY S0 qs) (.int (c.p : Int)) = .non := by
            show (match gY S0 qs c.p with | some q => V.int q | none => .non) = _
            rw [gY_y y, hg]
          rw [es] at J
          rw [e8] at es
          rw [es]
          exact ⟨_, _, _, a + 1, rfl, al, er, J, fun b o n g => (upd_ne n).trans (k' b o n g)⟩
      · have e8 : nmG (gY S0 qs) (.int pl) = .int pl := by
          show (match gY S0 qs pl with | some q => V.int q | none => .non) = _
          rw [gY_n y]
        have e9 := mapT_skip (f := nmG (gY S0 qs)) ea e8
        rcases (ay pl).2 (fun z => y (G.yng.mp z)) with e2 | e2
        all_goals
          rw [e2]
          walk_at "w3"
          refine ⟨_, _, _, a + 1, rfl, al, er, ?_, k'⟩
          rw [e9, em]
          exact I'
    rintro σ H4 ⟨o3', o4, o5, m, rfl, hm, ed, I4, k4⟩
    have tlen := ta.len
    rw [tlen, List.drop_length] at ed
    rw [pairs_end (g := gY S0 qs) fl (Nat.le_refl _) ed.symm] at I4
    walk_at "w3"
    exact q H4 I4 fun b o n g => k4 b o n (s3 _ _ g)
theorem f_settle_lasts (T : Tx K mg) : Fn P w K mg base 6 "settle_lasts" ["areas", "roots"] (sp_settle_lasts K) := by
  have c_Lasts_pending := f_Lasts_pending (P := P) (w := w) (base := base) T
  have c_Areas_area_of := f_Areas_area_of (P := P) (w := w) (base := base) T
  have c_sent_to := f_sent_to (P := P) (w := w) (base := base) T
  have c_Lasts_say := f_Lasts_say (P := P) (w := w) (base := base) T
  have c_Lasts_move := f_Lasts_move (P := P) (w := w) (base := base) T
  refine T.mkFn 23 41 (d := d_settle_lasts) (N := ["areas", "roots", "ticket", "at", "number", "goal"]) (k := 5) rfl rfl rfl rfl rfl sc_settle_lasts (fun _ _ _ _ _ _ us hl => match us, hl with | [_, _], _ => rfl) (fun vs H Q E h => ?len) (fun cdv A outer s H vs Q E hr h => ⟨_,
      (pss_one (ps_for (passes_of rfl) rfl (pi_listK (K := K) rfl (pe_mt0 (K := K) rfl (takes_of rfl rfl rfl rfl) (pe_fldC (T.cls 157) (T.noat 163) (pv 1)) c_Lasts_pending (hr.mono (by decide)))) (pg_tup (n := 3) rfl (pgs_cons (pg_name (i := 2) sc_settle_lasts.nd rfl (Or.inl rfl)) (pgs_cons (pg_name (i := 3) sc_settle_lasts.nd rfl (Or.inl rfl)) (pgs_cons (pg_name (i := 4) sc_settle_lasts.nd rfl (Or.inl rfl)) pgs_nil)))) (pss_one (ps_if (pt_cmpR (op_eqK (K := K) rfl hr.units) (pe_mt (K := K) rfl (takes_of rfl rfl rfl rfl) (pv 0) c_Areas_area_of (hr.mono (by decide)) (pa_cons (pv 3) pa_nil)) pe_str (nomark _)) (pss_cons (ps_set (i := 5) sc_settle_lasts.nd rfl (Or.inl rfl) (pe_fn (takes_of rfl rfl rfl rfl) c_sent_to (hr.mono (by decide)) (by rfl) (pa_cons (pe_fldC (T.cls 112) (T.noat 118) (pv 0)) (pa_cons (pv 3) pa_nil))))
        (pss_one (ps_if (pt_cmpR op_isN (pv 5) pe_non (nomark _)) (pss_one (ps_expr (pe_mt (K := K) rfl (takes_of rfl rfl rfl rfl) (pe_fldC (T.cls 157) (T.noat 163) (pv 1)) c_Lasts_say (hr.mono (by decide)) (pa_cons (pv 2) pa_nil)))) (pss_one (ps_expr (pe_mt (K := K) rfl (takes_of rfl rfl rfl rfl) (pe_fldC (T.cls 157) (T.noat 163) (pv 1)) c_Lasts_move (hr.mono (by decide)) (pa_cons (pv 2) (pa_cons (pv 5) pa_nil)))))))) pss_nil)))), ?rd⟩)
  case len => first | exact len_settle_lasts h | (repeat (first | (obtain ⟨rfl, _⟩ := h; rfl; done) | obtain ⟨_, h⟩ := h))
  case rd =>
    obtain ⟨A, R, S0, S, U, C, qs, rfl, I, P, G, wl, sl, hn, q⟩ := h
    have sz : 10000000 ≤ sizeLine := by rw [sizeLine_eq]; omega
    have ylo := (G.stk P).2
    rw [← G.n] at ylo
    have ay := fun p => areaY (S := S) (p := p) ylo
    have iln := I.ar.ln
    walk_at "w3"
    refine ⟨_, fldIs I.ro.ob, recv I.ro.lo.ob, R.la, R.lax, R.d, R.e, _, U.ws, U.ss, rfl, I.ro.lo, by omega, fun p rs H5 np s5 hp5 ta => ?_⟩
    have I5 := I.same s5
    have pn : p ≠ R.d ∧ p ≠ R.e := ⟨(ne_of_none I.ro.lo.wa np).symm, (ne_of_none I.ro.lo.sk np).symm⟩
    have tpk : ∀ {tp xs}, H5 tp = some (.tup xs) → tp ≠ R.d ∧ tp ≠ R.e := fun g => ⟨ne_of g I5.ro.lo.wa (by intro z; cases z), ne_of g I5.ro.lo.sk (by intro z; cases z)⟩
    walk_at "w3"
    refine ⟨⟨_, .of hp5⟩, forW_list (xs := rs) (fun i σ H' => ∃ o5 o6 o7 o8 m rs', σ = [some (.ref A.a), some (.ref R.r), o5, o6, o7, o8] ∧ m ≤ U.ws.length ∧ (pendOf 0 U.ws).drop i = pendOf m (U.ws.drop m) ∧ PairO K H' A R S { U with rs := rs', ws := mapT (tkG (gY S0 qs)) U.ws m, ss := U.ss ++ saidG (gY S0 qs) (U.ws.take m) } ∧ ∀ b o, b ≠ R.d → b ≠ R.e → H5 b = some o → H' b = some o) ⟨_, _, _, _, 0, _, rfl, Nat.zero_le _, rfl, (by rw [show U.ss ++ saidG (gY S0 qs) (U.ws.take 0) = U.ss from List.append_nil _]; exact I5), fun b o _ _ g => g⟩ ?_ ?_ ?_⟩
    · rintro i σ H' _ ⟨o5, o6, o7, o8, m, rs', rfl, -, -, -, k'⟩
      exact .of (k' _ _ pn.1 pn.2 hp5)
    · rintro i x σ H' hx ⟨o5, o6, o7, o8, m, rs', rfl, hm, ed, I', k'⟩
      obtain ⟨tp, xs, rfl, htp, ex⟩ := tups_get ta hx
      rw [List.drop_eq_getElem_cons (List.getElem?_eq_some_iff.mp ex).1, (List.getElem?_eq_some_iff.mp ex).2] at ed
      obtain ⟨a, pl, nb, ma, al, rfl, ea, er, em, es2⟩ := pend_step (g := gY S0 qs) (Nat.le_refl _) ed.symm
      have htp' := k' _ _ (tpk htp).1 (tpk htp).2 htp
      have lm : (mapT (tkG (gY S0 qs)) U.ws m).length = U.ws.length := mapT_len
      have es := mapT_set (f := tkG (gY S0 qs)) ea
      rw [em] at es
      have et : tickOf (mapT (tkG (gY S0 qs)) U.ws m) (.int (a : Int)) = some (a, pl, nb) := by
        unfold tickOf
        rw [placeOf_int, lm, if_pos ⟨by omega, by omega⟩, Int.toNat_natCast]
        dsimp only
        rw [List.getD_eq_getElem?_getD, mapT_get ma, ea]
        rfl
      have e7 : saidG (gY S0 qs) (U.ws.take (a + 1)) = saidG (gY S0 qs) (U.ws.take m) ++ sdG (gY S0 qs) (some (pl, nb)) := by rw [saidG_snoc ea, es2]
      have sl2 := said_len (g := gY S0 qs) (ws := U.ws.take m)
      have sl3 : (U.ws.take m).length ≤ U.ws.length := by rw [List.length_take]; omega
      walk_at "w3"
      refine ⟨_, .inl (.inl htp'), rfl, ?_⟩
      walk_at "w3"
      refine ⟨recv I'.ar.ob, A, S, pl, rfl, I'.ar, ?_⟩
      by_cases y : Yng S0 pl
      · rw [(ay pl).1 (G.yng.mpr y)]
        walk_at "w3"
        obtain ⟨c, mc, rfl⟩ := hn pl nb (List.mem_of_getElem? ea) y
        obtain ⟨hcl, hs⟩ := sent_y P G mc y
        refine ⟨_, fldIs I'.ar.ob, A.m, A.mx, A.l, S.ws, _, rfl, I'.ar.me, I'.ar.vw, .inl ⟨_, rfl⟩, ?_⟩
        rw [placeOf_int, if_pos (by omega), Int.toNat_natCast]
        dsimp only
        rcases hs with ⟨q', hq', hw, hg⟩ | ⟨n, h, hw, hh, hg⟩
        · rw [hw]
          dsimp only
          walk_at "w3"
          refine ⟨_, fldIs I'.ro.ob, recv I'.ro.lo.ob, R.la, R.lax, R.d, R.e, _, _, _, _, _, rfl, I'.ro.lo, .inl ⟨_, rfl⟩, .inl ⟨_, rfl⟩, ?_⟩
          dsimp only
          rw [et, placeW_int, if_pos ⟨by omega, by omega⟩]
          intro H6 rs6 L6 k6
          have e8 : tkG (gY S0 qs) (some ((c.p : Int), nb)) = some ((q' : Int), nb) := by show (gY S0 qs c.p).map _ = _; rw [gY_y y, hg]; rfl
          have e9 : sdG (gY S0 qs) (some ((c.p : Int), nb)) = [] := by show (if (gY S0 qs c.p).isSome then [] else [nb]) = _; rw [gY_y y, hg]; rfl
          rw [e8] at es
          rw [e9, List.append_nil] at e7
          rw [es, ← e7] at L6
          exact ⟨_, _, _, _, a + 1, rs6, rfl, al, er, I'.lsput L6 fun c o n1 _ g => k6 c o n1 g, fun b o n1 n2 g => k6 b o n1 (k' b o n1 n2 g)⟩
        · rw [hw]
          dsimp only
          rw [hh]
          dsimp only
          walk_at "w3"
          refine ⟨_, fldIs I'.ro.ob, recv I'.ro.lo.ob, R.la, R.lax, R.d, R.e, _, _, _, _, rfl, I'.ro.lo, by show (U.ss ++ saidG _ _).length < _; rw [List.length_append]; omega, .inl ⟨_, rfl⟩, ?_⟩
          dsimp only
          rw [et]
          intro H6 rs6 L6 k6
          have e8 : tkG (gY S0 qs) (some ((c.p : Int), nb)) = none := by show (gY S0 qs c.p).map _ = none; rw [gY_y y, hg]; rfl
          have e9 : sdG (gY S0 qs) (some ((c.p : Int), nb)) = [nb] := by show (if (gY S0 qs c.p).isSome then [] else [nb]) = _; rw [gY_y y, hg]; rfl
          rw [e8] at es
          rw [e9] at e7
          rw [es, List.append_assoc, ← e7] at L6
          exact ⟨_, _, _, _, a + 1, rs6, rfl, al, er, I'.lsput L6 k6, fun b o n1 n2 g => k6 b o n1 n2 (k' b o n1 n2 g)⟩
      · have e8 : tkG (gY S0 qs) (some (pl, nb)) = some (pl, nb) := by show (gY S0 qs pl).map _ = _; rw [gY_n y]; rfl
        have e9 : sdG (gY S0 qs) (some (pl, nb)) = [] := by show (if (gY S0 qs pl).isSome then [] else [nb]) = _; rw [gY_n y]; rfl
        have e10 := mapT_skip (f := tkG (gY S0 qs)) ea e8
        rw [e9, List.append_nil] at e7
        rcases (ay pl).2 (fun z => y (G.yng.mp z)) with e2 | e2
        all_goals
          rw [e2]
          walk_at "w3"
          refine ⟨_, _, _, _, a + 1, rs', rfl, al, er, ?_, k'⟩
          rw [e10, em, e7]
          exact I'
    rintro σ H7 ⟨o5, o6, o7, o8, m', rs', rfl, hm', ed', I7, k7⟩
    have tlen := ta.len
    rw [tlen, List.drop_length] at ed'
    obtain ⟨e1, e2⟩ := pend_end (g := gY S0 qs) (Nat.le_refl _) ed'.symm
    rw [e1, e2] at I7
    walk_at "w3"
    exact q rs' H7 I7 fun b o n1 n2 g => k7 b o n1 n2 (s5 _ _ g)
end

local macro_rules | `(tactic| walk_at "w3") => `(tactic| try simp only [↓x_var0, ↓x_varS, ↓x_c, ↓x_op, ↓x_un, ↓x_cb, ↓x_nil, ↓x_cons, ↓x_test, ↓x_b, ↓x_ex, ↓x_and, ↓x_or, ↓x_not, ↓x_andV, ↓x_orV, ↓x_notV, ↓x_tif, ↓x_chain, ↓x_menu, ↓x_menuI, ↓x_lst, ↓x_tup, ↓x_dnew, ↓x_callW, ↓x_callN, ↓x_seq, ↓x_next, ↓x_ret, ↓x_retN, ↓x_drop, ↓x_ifS, ↓x_asg, ↓x_name, ↓x_raise, ↓x_fld, ↓x_setF, ↓x_meth, ↓x_make, ↓x_sub, ↓r_min, ↓r_max, ↓x_yes, ↓x_for, ↓x_lock, ↓x_keys, ↓x_cut, ↓x_lc, ↓x_rng1, ↓x_rng2, ↓x_lst1, ↓x_itup, ↓x_rng3, ↓x_three, ↓x_lstg, ↓x_tupg, ↓x_adrS, ↓x_one, ↓x_two, ↓x_adr, ↓x_sl, ↓x_np, ↓x_pt, ↓x_int, ↓x_bm, ↓x_bm0, ↓x_consg, ↓x_nilg, ↓x_dget2, ↓x_dget1, ↓x_dgetN, ↓x_dget, ↓x_din, ↓x_dni, ↓x_dput, ↓x_dpop2, ↓r_isB, ↓r_notB, ↓x_enum, ↓x_zip, ↓x_str, ↓x_strE, ↓r_inS, ↓r_ninS, wipe, List.map_cons, List.map_nil, ↓x_isT, ↓r_isiII, ↓r_isiBB, ↓r_isiIB, ↓r_isiSS, ↓r_neNS, ↓r_neSN, ↓r_neNN, ↓r_eqNS, ↓r_eqSN, ↓r_eqNN, ↓r_eqIS, ↓r_neIS, ↓r_neSI, ↓r_neBS, ↓r_eqBB, ↓r_neBB, ↓x_start, ↓x_K, ↓x_start0, ↓r_i0, ↓r_i, ↓r_u, ↓r_addI, ↓r_addS, ↓r_mulI, ↓r_mulS, ↓r_eqI, ↓r_neI, ↓r_eqS, ↓r_neS, ↓r_absI, ↓r_intI, ↓r_intB, List.length_cons, List.length_nil, List.replicate, List.set_cons_zero, List.set_cons_succ, decide_eq_true_eq, Bool.not_eq_true', decide_eq_false_iff_not, if_true, if_false, Bool.false_eq_true, Bool.true_eq_false, ite_true, ite_false, Bool.not_true, Bool.not_false, c_div, n_ten, c_pow, not_true_eq_false, not_false_eq_true, decide_true, decide_false, true_and, and_true, and_self, true_or, or_true, Int.reduceLT, Int.reduceLE, Int.reduceMul, Int.reduceAdd, Int.reduceSub, Int.reducePow, Int.reduceNeg, Int.reduceDiv, Int.reduceMod, Nat.reducePow, Int.reduceToNat, Int.reduceEq, Int.reduceNe, Nat.reduceLT, Nat.reduceLeDiff, Nat.reduceAdd, ↓x_whole, ↓x_kind, Int.natCast_one, Int.natCast_one, Int.natCast_one, Int.natCast_one, Int.natCast_one, Int.natCast_one, Int.natCast_one, Int.natCast_one, Int.natCast_one, Int.natCast_one])
def noteB (S : ArS) (bs : List Int) (v : Nat) : List Int := if yk1 S (S.ws.getD v 0) = [] then delP bs v else addP bs v
theorem noteB_mem {S : ArS} {bs : List Int} {v : Nat} {m : Int} : m ∈ noteB S bs v ↔ if m = (v : Int) then yk1 S (S.ws.getD v 0) ≠ [] else m ∈ bs := by
  unfold noteB
  by_cases e : yk1 S (S.ws.getD v 0) = []
  · rw [if_pos e, mem_delP]
    by_cases f : m = (v : Int)
    · rw [if_pos f]
      exact ⟨fun z => absurd f z.2, fun z => absurd e z⟩
    · rw [if_neg f]
      exact ⟨fun z => z.1, fun z => ⟨z, f⟩⟩
  · rw [if_neg e, mem_addP]
    by_cases f : m = (v : Int)
    · rw [if_pos f]
      exact ⟨fun _ => e, fun _ => .inr f⟩
    · rw [if_neg f]
      exact ⟨fun z => z.elim id fun z => absurd z f, fun z => .inl z⟩
theorem noteB_len {S : ArS} {bs : List Int} {v : Nat} : (noteB S bs v).length ≤ bs.length + 1 := by
  unfold noteB
  split
  · exact Nat.le_trans len_delP (Nat.le_succ _)
  · exact len_addP
/-- notes, one place after the other -/
def notes (S : ArS) (bs : List Int) (vs : List Nat) : List Int := vs.foldl (noteB S) bs
theorem notes_snoc {S : ArS} {bs : List Int} {vs : List Nat} {v : Nat} : notes S bs (vs ++ [v]) = noteB S (notes S bs vs) v := by
  unfold notes
  rw [List.foldl_append]
  rfl
theorem notes_app {S : ArS} {bs : List Int} {vs us : List Nat} : notes S bs (vs ++ us) = notes S (notes S bs vs) us := List.foldl_append ..
theorem notes_len {S : ArS} : ∀ {vs : List Nat} {bs : List Int}, (notes S bs vs).length ≤ bs.length + vs.length
  | [], _ => Nat.le_refl _
  | v :: r, bs => by
    have h1 := notes_len (S := S) (vs := r) (bs := noteB S bs v)
    have h2 := noteB_len (S := S) (bs := bs) (v := v)
    show (notes S (noteB S bs v) r).length ≤ bs.length + (r.length + 1)
    omega
theorem notes_mem {S : ArS} {m : Int} : ∀ {vs : List Nat} {bs : List Int}, m ∈ notes S bs vs ↔ if ∃ v ∈ vs, m = (v : Int) then yk1 S (S.ws.getD m.toNat 0) ≠ [] else m ∈ bs
  | [], bs => by
    rw [if_neg (by rintro ⟨v, mv, -⟩; exact (List.not_mem_nil mv).elim)]
    exact Iff.rfl
  | v :: r, bs => by
    show m ∈ notes S (noteB S bs v) r ↔ _
    rw [notes_mem, noteB_mem]
    by_cases f : ∃ u ∈ r, m = (u : Int)
    · rw [if_pos f, if_pos]
      obtain ⟨u, mu, e⟩ := f
      exact ⟨u, List.mem_cons_of_mem _ mu, e⟩
    · rw [if_neg f]
      by_cases g : m = (v : Int)
      · rw [if_pos g, if_pos ⟨v, List.mem_cons_self, g⟩, g, Int.toNat_natCast]
      · rw [if_neg g, if_neg]
        rintro ⟨u, mu, e⟩
        rcases List.mem_cons.mp mu with rfl | mu
        · exact g e
        · exact f ⟨u, mu, e⟩
def sp_note (K : PySem.W.Frag) : Sp := fun vs H Q _ => ∃ A R S U, ∃ v : Nat, vs = [.ref A.a, .ref R.r, .int v] ∧ PairO K H A R S U ∧ v < S.ws.length ∧ U.bs.length < 1000000 ∧
  ∀ H', PairO K H' A R S { U with bs := noteB S U.bs v } → (∀ b o, b ≠ U.bd → H b = some o → H' b = some o) → Q .non H'
section
variable {P : Program} {w : World} {K : PySem.W.Frag} {mg : Str → Option Value} {base : Heap}
theorem f_note (T : Tx K mg) : Fn P w K mg base 4 "note" ["areas", "roots", "place"] (sp_note K) := by
  have c_Memory_read := f_Memory_read (P := P) (w := w) (base := base) T
  have c_Areas_area_of := f_Areas_area_of (P := P) (w := w) (base := base) T
  have c_worth := f_worth (P := P) (w := w) (base := base) T
  have c_kind := f_kind (P := P) (w := w) (base := base) T
  have c_Book_write := f_Book_write (P := P) (w := w) (base := base) T
  have c_Book_rub := f_Book_rub (P := P) (w := w) (base := base) T
  refine T.mkFn 24 42 (d := d_note) (N := ["areas", "roots", "place", "word"]) (k := 3) rfl rfl rfl rfl rfl sc_note (fun _ _ _ _ _ _ us hl => match us, hl with | [_, _, _], _ => rfl) (fun vs H Q E h => ?len) (fun cdv A outer s H vs Q E hr h => ⟨_,
      (pss_cons (ps_set (i := 3) sc_note.nd rfl (Or.inl rfl) (pe_mt (K := K) rfl (takes_of rfl rfl rfl rfl) (pe_fldC (T.cls 112) (T.noat 118) (pv 0)) c_Memory_read (hr.mono (by decide)) (pa_cons (pv 2) pa_nil)))
        (pss_one (ps_if (PW.pt (pw_and (pt_cmpR (op_eqK (K := K) rfl hr.units) (pe_fn (takes_of rfl rfl rfl rfl) c_kind (hr.mono (by decide)) (by rfl) (pa_cons (pv 3) pa_nil)) pe_str (nomark _)) (pw_and1 (pt_cmpR (op_eqK (K := K) rfl hr.units) (pe_mt (K := K) rfl (takes_of rfl rfl rfl rfl) (pv 0) c_Areas_area_of (hr.mono (by decide)) (pa_cons (pe_fn (takes_of rfl rfl rfl rfl) c_worth (hr.mono (by decide)) (by rfl) (pa_cons (pv 3) pa_nil)) pa_nil)) pe_str (nomark _))))) (pss_one (ps_expr (pe_mt (K := K) rfl (takes_of rfl rfl rfl rfl) (pe_fldC (T.cls 157) (T.noat 161) (pv 1)) c_Book_write (hr.mono (by decide)) (pa_cons (pv 2) pa_nil)))) (pss_one (ps_expr (pe_mt (K := K) rfl (takes_of rfl rfl rfl rfl) (pe_fldC (T.cls 157) (T.noat 161) (pv 1)) c_Book_rub (hr.mono (by decide)) (pa_cons (pv 2) pa_nil))))))), ?rd⟩)
  case len => first | exact len_note h | (repeat (first | (obtain ⟨rfl, _⟩ := h; rfl; done) | obtain ⟨_, h⟩ := h))
  case rd =>
    obtain ⟨A, R, S, U, v, rfl, I, hv, hb, q⟩ := h
    have sz : 10000000 ≤ sizeLine := by rw [sizeLine_eq]; omega
    have iln := I.ar.ln
    have gn := I.ar.gn
    have gk := I.ar.gk
    have ay := fun p => areaY (S := S) (p := p) I.ar.lo
    obtain ⟨x, ex⟩ := I.ar.vw.get hv
    have wr : yk1 S (S.ws.getD v 0) ≠ [] → ∃ v_1, FldIs (He.ga K "Roots") "book" (.ref R.r) H v_1 ∧ Recv (He.ga K "Book") "write" v_1 H ∧ sp_Book_write K [v_1, .int v] H (fun _ H1 => Q .non H1) E := fun e => by
      refine ⟨_, fldIs I.ro.ob, recv I.ro.bo.ob, R.b, R.bx, U.bd, U.bs, _, rfl, I.ro.bo, hb, .inl ⟨_, rfl⟩, ?_⟩
      rw [placeW_int, if_pos ⟨by omega, by omega⟩]
      dsimp only
      have J := I.bput (nd_addP (i := (v : Int)) I.ro.bo.nd)
      refine q _ ?_ fun b o n g => (upd_ne n).trans g
      unfold noteB
      rw [if_neg e]
      exact J
    have rb : yk1 S (S.ws.getD v 0) = [] → ∃ v_1, FldIs (He.ga K "Roots") "book" (.ref R.r) H v_1 ∧ Recv (He.ga K "Book") "rub" v_1 H ∧ sp_Book_rub K [v_1, .int v] H (fun _ H1 => Q .non H1) E := fun e => by
      refine ⟨_, fldIs I.ro.ob, recv I.ro.bo.ob, R.b, R.bx, U.bd, U.bs, _, rfl, I.ro.bo, .inl ⟨_, rfl⟩, ?_⟩
      rw [placeW_int, if_pos ⟨by omega, by omega⟩]
      dsimp only
      have J := I.bput (nd_delP (i := (v : Int)) I.ro.bo.nd)
      have q' : ∀ H', PairO K H' A R S { U with bs := delP U.bs v } → (∀ b o, b ≠ U.bd → H b = some o → H' b = some o) → Q .non H' := fun H' J' k => q H' (by unfold noteB; rw [if_pos e]; exact J') k
      refine ⟨q' _ J fun b o n g => (upd_ne n).trans g, fun e2 => ?_⟩
      rw [e2] at q'
      exact q' _ I fun b o _ g => g
    walk_at "w3"
    refine ⟨_, fldIs I.ar.ob, recv I.ar.me.ob, A.m, A.mx, A.l, S.ws, _, rfl, I.ar.me, .inl ⟨_, rfl⟩, ?_⟩
    rw [placeOf_int, if_pos (by omega), Int.toNat_natCast]
    dsimp only
    have ep := wd_place ex
    cases x with
    | place p =>
      walk_at "w3"
      simp only [x_worth, x_kind, ex, k_pp, if_true, Wd.worth]
      refine ⟨recv I.ar.ob, A, S, p, rfl, I.ar, ?_⟩
      by_cases y : Yng S p
      · rw [(ay p).1 y]
        walk_at "w3"
        exact wr (by rw [yk1_y ep y]; intro z; cases z)
      · have := rb (yk1_n fun p' e' => by rw [ep] at e'; cases e'; exact y)
        rcases (ay p).2 y with e2 | e2
        all_goals
          rw [e2]
          walk_at "w3"
          exact this
    | _ =>
      walk_at "w3"
      simp only [x_worth, x_kind, ex, k_np, k_Np, if_false]
      exact rb (yk1_n fun p' e' => by rw [ep] at e'; cases e')
end
/-- behind the change of halves, the spare one emptied -/
def flS (S : ArS) : ArS := ({ S with fl := !S.fl } : ArS).put S.fl (S.b S.fl)
theorem flS_is {S : ArS} : (flS S).n = S.n ∧ (flS S).k = S.k ∧ (flS S).fl = !S.fl ∧ (flS S).ot = S.ot ∧ (flS S).ws = S.ws ∧ (flS S).t (!S.fl) = S.t (!S.fl) ∧ (flS S).t S.fl = S.b S.fl ∧ ∀ f, (flS S).b f = S.b f := by
  unfold flS ArS.put ArS.t ArS.b
  cases S.fl <;> simp
def grL (S : ArS) (qs : List CeL) : List (CeL × Nat) := (fwY S qs).filter fun x => !decide (agO S x.1.p = 0)
def slN (x : CeL × Nat) : List Nat := (List.range x.1.ws.length).map fun j => x.2 + 1 + j
def sp_collect_young (K : PySem.W.Frag) : Sp := fun vs H Q _ => ∃ A R S0 U C, vs = [.ref A.a, .ref R.r] ∧ PairO K H A R S0 U ∧ Y0 S0 C ∧ BkY S0 C U.bs ∧ U.bs.length < 100000 ∧ (∀ w ∈ U.hs, ClW C w) ∧ (∀ t ∈ U.ts, flatN t = true) ∧ U.ts.length < 100000 ∧ (∀ p, .int p ∈ U.ts → Yng S0 p → ∃ c ∈ C, p = (c.p : Int)) ∧ U.ws.length < 100000 ∧ U.ss.length < 800000 ∧ (∀ p n, some (p, n) ∈ U.ws → Yng S0 p → ∃ c ∈ C, p = (c.p : Int)) ∧
  ∀ qs S1 rs' bs' ns (ns2 : List Int) tp H', Yg S0 C qs S1 → PairO K H' A R (flS S1) { U with hs := U.hs.map (trY S0 qs), ts := U.ts.map (nmG (gY S0 qs)), rs := rs', ws := U.ws.map (tkG (gY S0 qs)), ss := U.ss ++ saidG (gY S0 qs) U.ws, bs := bs' } → ns.Perm U.bs → ns.Pairwise (· ≤ ·) → ns2.Perm U.bs → qs.map (fun c => (c.p : Int)) = ordY S0 C U.hs ns →
    (∀ u x, SlY S0 C qs u x → Dn S0 qs x (S1.ws.getD u 0)) → (∀ w ∈ U.hs, dnY S0 qs w) → bs' = notes (flS S1) U.bs (ns2.map Int.toNat ++ (grL S0 qs).flatMap slN) → H tp = none → H' tp = some (.tup [.int ((qs.length : Int) - ((grL S0 qs).length : Int)), .int ((grL S0 qs).length : Int)]) → (∀ b o, b ≠ A.a → b ≠ A.l → b ≠ A.o → b ≠ A.p → b ≠ A.q → b ≠ R.hl → b ≠ R.wl → b ≠ R.d → b ≠ R.e → b ≠ U.bd → H b = some o → H' b = some o) → Q (.ref tp) H'
section
variable {P : Program} {w : World} {K : PySem.W.Frag} {mg : Str → Option Value} {base : Heap}
theorem f_collect_young (T : Tx K mg) : Fn P w K mg base 11 "collect_young" ["areas", "roots"] (sp_collect_young K) := by
  have c_carry_all := f_carry_all (P := P) (w := w) (base := base) T
  have c_settle_names := f_settle_names (P := P) (w := w) (base := base) T
  have c_settle_lasts := f_settle_lasts (P := P) (w := w) (base := base) T
  have c_Areas_flip := f_Areas_flip (P := P) (w := w) (base := base) T
  have c_Space_empty := f_Space_empty (P := P) (w := w) (base := base) T
  have c_Book_places := f_Book_places (P := P) (w := w) (base := base) T
  have c_note := f_note (P := P) (w := w) (base := base) T
  have c_Areas_area_of := f_Areas_area_of (P := P) (w := w) (base := base) T
  have c_slot_places := f_slot_places (P := P) (w := w) (base := base) T
  refine T.mkFn 25 43 (d := d_collect_young) (N := ["areas", "roots", "row", "place", "grown", "at"]) (k := 10) rfl rfl rfl rfl rfl sc_collect_young (fun _ _ _ _ _ _ us hl => match us, hl with | [_, _], _ => rfl) (fun vs H Q E h => ?len) (fun cdv A outer s H vs Q E hr h => ⟨_,
      (pss_cons (ps_set (i := 2) sc_collect_young.nd rfl (Or.inl rfl) (pe_fn (takes_of rfl rfl rfl rfl) c_carry_all (hr.mono (by decide)) (by rfl) (pa_cons (pv 0) (pa_cons (pv 1) pa_nil))))
        (pss_cons (ps_expr (pe_fn (takes_of rfl rfl rfl rfl) c_settle_names (hr.mono (by decide)) (by rfl) (pa_cons (pv 0) (pa_cons (pv 1) pa_nil))))
        (pss_cons (ps_expr (pe_fn (takes_of rfl rfl rfl rfl) c_settle_lasts (hr.mono (by decide)) (by rfl) (pa_cons (pv 0) (pa_cons (pv 1) pa_nil))))
        (pss_cons (ps_expr (pe_mt0 (K := K) rfl (takes_of rfl rfl rfl rfl) (pv 0) c_Areas_flip (hr.mono (by decide))))
        (pss_cons (ps_expr (pe_mt0 (K := K) rfl (takes_of rfl rfl rfl rfl) (pe_fldC (T.cls 112) (T.noat 121) (pv 0)) c_Space_empty (hr.mono (by decide))))
        (pss_cons (ps_for (passes_of rfl) rfl (pi_listK (K := K) rfl (pe_mt0 (K := K) rfl (takes_of rfl rfl rfl rfl) (pe_fldC (T.cls 157) (T.noat 161) (pv 1)) c_Book_places (hr.mono (by decide)))) (pg_name (i := 3) sc_collect_young.nd rfl (Or.inl rfl)) (pss_one (ps_expr (pe_fn (takes_of rfl rfl rfl rfl) c_note (hr.mono (by decide)) (by rfl) (pa_cons (pv 0) (pa_cons (pv 1) (pa_cons (pv 3) pa_nil)))))))
        (pss_cons (ps_setLc (i := 4) (own := [("at", 5)]) (g := gName 5) rfl sc_collect_young.nd rfl rfl (sw_true rfl rfl rfl (by decide +kernel)) (pi_listK (K := K) rfl (pv 2)) (blkOk_by (own := [("at", 5)]) (N := ["areas", "roots", "row", "place", "grown", "at"]) (sc := defScope s_collect_young) (by decide +kernel)) (fun _ _ _ _ _ => (pg_name (i := 5) sc_collect_young.nd rfl (Or.inl rfl))) (fun _ _ _ _ _ => pts_one (pt_cmpR (op_eqK (K := K) rfl hr.units) (pe_mt (K := K) rfl takes0 (pv 0) c_Areas_area_of (hr.mono (by decide)) (pa_cons (pv 5) pa_nil)) pe_str (nomark _))) (fun _ _ _ _ _ => (pv 5)))
        (pss_cons (ps_for (passes_of rfl) rfl (pi_listK (K := K) rfl (pv 4)) (pg_name (i := 5) sc_collect_young.nd rfl (Or.inl rfl)) (pss_one (ps_for (passes_of rfl) rfl (pi_listK (K := K) rfl (pe_fn (takes_of rfl rfl rfl rfl) c_slot_places (hr.mono (by decide)) (by rfl) (pa_cons (pe_fldC (T.cls 112) (T.noat 118) (pv 0)) (pa_cons (pv 5) pa_nil)))) (pg_name (i := 3) sc_collect_young.nd rfl (Or.inl rfl)) (pss_one (ps_expr (pe_fn (takes_of rfl rfl rfl rfl) c_note (hr.mono (by decide)) (by rfl) (pa_cons (pv 0) (pa_cons (pv 1) (pa_cons (pv 3) pa_nil)))))))))
        (pss_one (ps_ret (pe_tup (pa_cons (pe_op op_sub (pe_callB (call_lenK (K := K) rfl) (by rfl) (T.free 69) PySem.boot_len (pa_cons (pv 2) pa_nil)) (pe_callB (call_lenK (K := K) rfl) (by rfl) (T.free 69) PySem.boot_len (pa_cons (pv 4) pa_nil))) (pa_cons (pe_callB (call_lenK (K := K) rfl) (by rfl) (T.free 69) PySem.boot_len (pa_cons (pv 4) pa_nil)) pa_nil))))))))))))), ?rd⟩)
  case len => first | exact len_collect_young h | (repeat (first | (obtain ⟨rfl, _⟩ := h; rfl; done) | obtain ⟨_, h⟩ := h))
  case rd =>
    obtain ⟨A, R, S0, U, C, rfl, I, P, B, hb, hw, fl, tl, hn, wl, sl, hln, q⟩ := h
    have sz : 10000000 ≤ sizeLine := by rw [sizeLine_eq]; omega
    walk_at "w3"
    refine ⟨A, R, S0, U, C, rfl, I, P, B, by omega, hw, fun qs S1 H1 r ns I1 G pm so eq dn dh nr hr of k1 => ?_⟩
    walk_at "w3"
    refine ⟨A, R, S0, S1, _, C, qs, rfl, I1, P, G, fl, tl, hn, fun H2 I2 k2 => ?_⟩
    walk_at "w3"
    refine ⟨A, R, S0, S1, _, C, qs, rfl, I2, P, G, wl, sl, hln, fun rs' H3 I3 k3 => ?_⟩
    walk_at "w3"
    obtain ⟨f1, f2, f3, f4, f5, f6, f7, f8⟩ := flS_is (S := S1)
    refine ⟨recv I3.ar.ob, A, S1, rfl, I3.ar, fun H4 I4 k4 => ?_⟩
    have J4 := I3.arS I4 fun b o n _ _ _ _ g => k4 b o n g
    have e1 : ({ S1 with fl := !S1.fl } : ArS).put (!({ S1 with fl := !S1.fl } : ArS).fl) (({ S1 with fl := !S1.fl } : ArS).b (!({ S1 with fl := !S1.fl } : ArS).fl)) = flS S1 := by
      show ({ S1 with fl := !S1.fl } : ArS).put (!(!S1.fl)) (({ S1 with fl := !S1.fl } : ArS).b (!(!S1.fl))) = _
      rw [Bool.not_not]
      rfl
    have J5 := J4.topH (f := !({ S1 with fl := !S1.fl } : ArS).fl) (Nat.le_refl _) (Nat.le_add_right _ _)
    rw [e1] at J5
    refine ⟨_, fldIs J4.ar.ob, recv (J4.ar.half (!({ S1 with fl := !S1.fl } : ArS).fl)), _, _, _, _, _, rfl, J4.ar.half (!({ S1 with fl := !S1.fl } : ArS).fl), ?_⟩
    have yq : A.y (!({ S1 with fl := !S1.fl } : ArS).fl) = A.p ∨ A.y (!({ S1 with fl := !S1.fl } : ArS).fl) = A.q := by
      unfold ArA.y
      split
      · exact .inr rfl
      · exact .inl rfl
    have rA : r ≠ A.a := ne_of hr I1.ar.ob (by intro z; cases z)
    have hr4 := k4 _ _ rA (k3 _ _ of.2.2.2.1 of.2.2.2.2 (k2 _ _ of.2.2.1 hr))
    have rS := ne_of hr4 (J4.ar.half (!({ S1 with fl := !S1.fl } : ArS).fl)) fun z => spv_lst z.symm
    have k5 : ∀ b o, b ≠ A.a → b ≠ A.l → b ≠ A.o → b ≠ A.p → b ≠ A.q → b ≠ R.hl → b ≠ R.wl → b ≠ R.d → b ≠ R.e → H b = some o → upd H4 (A.y (!({ S1 with fl := !S1.fl } : ArS).fl)) (SpV K (A.yx (!({ S1 with fl := !S1.fl } : ArS).fl)) (({ S1 with fl := !S1.fl } : ArS).b (!({ S1 with fl := !S1.fl } : ArS).fl)) (({ S1 with fl := !S1.fl } : ArS).b (!({ S1 with fl := !S1.fl } : ArS).fl) + ({ S1 with fl := !S1.fl } : ArS).k) (({ S1 with fl := !S1.fl } : ArS).b (!({ S1 with fl := !S1.fl } : ArS).fl))) b = some o := fun b o n1 n2 n3 n4 n5 n6 n7 n8 n9 g => (upd_ne (by rcases yq with h | h <;> rw [h] <;> assumption)).trans (k4 b o n1 (k3 b o n8 n9 (k2 b o n7 (k1 b o n2 n3 n4 n5 n6 g))))
    have hr5 := (upd_ne (o := SpV K (A.yx (!({ S1 with fl := !S1.fl } : ArS).fl)) (({ S1 with fl := !S1.fl } : ArS).b (!({ S1 with fl := !S1.fl } : ArS).fl)) (({ S1 with fl := !S1.fl } : ArS).b (!({ S1 with fl := !S1.fl } : ArS).fl) + ({ S1 with fl := !S1.fl } : ArS).k) (({ S1 with fl := !S1.fl } : ArS).b (!({ S1 with fl := !S1.fl } : ArS).fl))) rS).trans hr4
    generalize upd H4 (A.y (!({ S1 with fl := !S1.fl } : ArS).fl)) _ = H5 at J5 k5 hr5 ⊢
    clear J4 k4 I4 k3 I3 k2 I2 k1 I1 hr hr4 rS yq e1
    refine ⟨_, fldIs J5.ro.ob, recv J5.ro.bo.ob, R.b, R.bx, U.bd, U.bs, rfl, J5.ro.bo, by omega, fun ns2 p6 H6 pm2 so2 np6 s6 hp6 => ?_⟩
    have J6 := J5.same s6
    have hr6 := s6 _ _ hr5
    have pb : p6 ≠ U.bd := (ne_of_none J5.ro.bo.ds np6).symm
    have rb : r ≠ U.bd := ne_of hr6 J6.ro.bo.ds (by intro z; cases z)
    have gl := G.ln
    have pl := P.ln
    have nb : ∀ x ∈ ns2, ∃ v : Nat, x = (v : Int) ∧ v < (flS S1).ws.length := fun x mx => by
      obtain ⟨c, mc, y, j, hj, e⟩ := B.s x (pm2.mem_iff.mp mx)
      refine ⟨_, e, ?_⟩
      rw [f5]
      have := P.lo
      rcases P.side mc with ⟨-, h⟩ | ⟨h, -⟩
      · omega
      · exact absurd h y
    have l2 : ns2.length = U.bs.length := pm2.length_eq
    refine ⟨_, rfl, ⟨_, .of hp6⟩, forW_list (xs := ns2.map V.int) (fun i σ H' => ∃ o3, σ = [some (.ref A.a), some (.ref R.r), some (.ref r), o3, none, none] ∧ PairO K H' A R (flS S1) { U with hs := U.hs.map (trY S0 qs), ts := U.ts.map (nmG (gY S0 qs)), rs := rs', ws := U.ws.map (tkG (gY S0 qs)), ss := U.ss ++ saidG (gY S0 qs) U.ws, bs := notes (flS S1) U.bs ((ns2.take i).map Int.toNat) } ∧ ∀ b o, b ≠ U.bd → H6 b = some o → H' b = some o) ⟨_, rfl, J6, fun b o _ g => g⟩ ?_ ?_ ?_⟩
    · rintro i σ H' _ ⟨o3, rfl, -, k'⟩
      exact .of (k' _ _ pb hp6)
    · rintro i x σ H' hx ⟨o3, rfl, J', k'⟩
      obtain ⟨y, ey, rfl⟩ := ints_atY hx
      obtain ⟨v, rfl, hv⟩ := nb y (List.mem_of_getElem? ey)
      walk_at "w3"
      refine ⟨A, R, flS S1, _, v, rfl, J', hv, ?_, fun H8 J8 k8 => ⟨_, rfl, ?_, fun b o n g => k8 b o n (k' b o n g)⟩⟩
      · have h1 := notes_len (S := flS S1) (vs := (ns2.take i).map Int.toNat) (bs := U.bs)
        rw [List.length_map, List.length_take] at h1
        show (notes (flS S1) U.bs ((ns2.take i).map Int.toNat)).length < 1000000
        omega
      · have tk : (ns2.take (i + 1)).map Int.toNat = (ns2.take i).map Int.toNat ++ [v] := by
          rw [List.take_add_one, ey, List.map_append]
          rfl
        rw [tk, notes_snoc]
        exact J8
    rintro σ H7 ⟨o3, rfl, J7, k7⟩
    rw [List.length_map, List.take_length] at J7
    have hr7 := k7 _ _ rb hr6
    walk_at "w3"
    have bb := bb_of (S := S0)
    have stk := G.stk P
    have aw : ∀ x ∈ fwY S0 qs, areaW (flS S1) (x.2 : Int) = if agO S0 x.1.p = 0 then .str "young" else .str "old" := fun x mx => by
      obtain ⟨h1, h2⟩ := G.nb x mx
      by_cases e : agO S0 x.1.p = 0
      · rw [if_pos e]
        refine (areaY J7.ar.lo).1 ?_
        have := h1 e
        unfold Yng
        rw [f3, f8, f6, G.fl]
        have eb : S1.b (!S0.fl) = S0.b (!S0.fl) := by
          unfold ArS.b
          rw [G.n, G.k]
        rw [eb]
        omega
      · rw [if_neg e]
        have := h2 e
        unfold areaW
        rw [if_pos]
        rw [f4]
        omega
    have ql : qs.length ≤ 9999 := by
      have h1 := P.sum G.mq G.nd
      have h2 : qs.length ≤ sumW qs := len_sumW
      have := P.lb
      have := P.sz
      omega
    refine ⟨⟨_, .of hr7⟩, fun D nD => lc_list (xs := (rowY S0 qs).map V.int) (fun i H' => H' = upd H7 D (.lst ((((fwY S0 qs).take i).filter fun x => !decide (agO S0 x.1.p = 0)).map fun x => V.int (x.2 : Int)))) rfl (fun i Hx _ e => by rw [e]; exact .of ((upd_ne (ne_of_none hr7 nD)).trans hr7)) (fun i x Hx hx e => ?_) fun Hx e => ?_⟩
    · obtain ⟨y, ey, rfl⟩ := ints_atY hx
      subst e
      have ey := ey
      unfold rowY at ey
      rw [List.getElem?_map] at ey
      obtain ⟨z, ez, hz⟩ : ∃ z, (fwY S0 qs)[i]? = some z ∧ y = (z.2 : Int) := by
        cases e : (fwY S0 qs)[i]? with
        | none => rw [e] at ey; cases ey
        | some z => rw [e] at ey; cases ey; exact ⟨z, rfl, rfl⟩
      subst hz
      walk_at "w3"
      have Jx := (J7.same (same_new (o := .lst ((((fwY S0 qs).take i).filter fun x => !decide (agO S0 x.1.p = 0)).map fun x => V.int (x.2 : Int))) nD)).ar
      refine ⟨recv Jx.ob, A, flS S1, _, rfl, Jx, ?_⟩
      rw [aw z (List.mem_of_getElem? ez)]
      have tk : ((fwY S0 qs).take (i + 1)).filter (fun x => !decide (agO S0 x.1.p = 0)) = ((fwY S0 qs).take i).filter (fun x => !decide (agO S0 x.1.p = 0)) ++ (if agO S0 z.1.p = 0 then [] else [z]) := by
        rw [List.take_add_one, ez, List.filter_append]
        congr 1
        show List.filter _ [z] = _
        by_cases e : agO S0 z.1.p = 0
        · rw [if_pos e, List.filter_cons_of_neg (by rw [decide_eq_true e]; exact Bool.false_ne_true), List.filter_nil]
        · rw [if_neg e, List.filter_cons_of_pos (by rw [decide_eq_false e]; rfl), List.filter_nil]
      rw [tk]
      by_cases e : agO S0 z.1.p = 0
      · rw [if_pos e, if_pos e, List.append_nil]
        walk_at "w3"
        rw [if_neg (by decide +kernel)]
        trivial
      · rw [if_neg e, if_neg e]
        walk_at "w3"
        refine ⟨_, upd_same, ?_, by rw [upd_upd, List.map_append]; rfl⟩
        rw [List.length_map]
        have h1 := List.length_filter_le (fun x : CeL × Nat => !decide (agO S0 x.1.p = 0)) ((fwY S0 qs).take i)
        have h2 := (List.getElem?_eq_some_iff.mp ez).1
        rw [fwY_len] at h2
        rw [List.length_take] at h1
        omega
    rw [List.length_map, rowY_len, List.take_of_length_le (by rw [fwY_len]; exact Nat.le_refl _)] at e
    subst e
    have gD : upd H7 D (.lst (((fwY S0 qs).filter fun x => !decide (agO S0 x.1.p = 0)).map fun x => V.int (x.2 : Int))) D = some (.lst ((grL S0 qs).map fun x => V.int (x.2 : Int))) := upd_same
    have sD : Same H7 (upd H7 D (.lst (((fwY S0 qs).filter fun x => !decide (agO S0 x.1.p = 0)).map fun x => V.int (x.2 : Int)))) := same_new nD
    have J8 := J7.same sD
    have Db : D ≠ U.bd := (ne_of_none J7.ro.bo.ds nD).symm
    have hr8 := sD _ _ hr7
    generalize upd H7 D (.lst (((fwY S0 qs).filter fun x => !decide (agO S0 x.1.p = 0)).map fun x => V.int (x.2 : Int))) = H8 at gD sD J8 hr8 ⊢
    have gl8 : (grL S0 qs).length ≤ qs.length := by
      rw [← fwY_len (S := S0) (qs := qs)]
      exact List.length_filter_le _ _
    have gm : ∀ x ∈ grL S0 qs, x ∈ fwY S0 qs := fun x mx => (List.mem_filter.mp mx).1
    have x8 : ∀ x ∈ fwY S0 qs, x.1.ws.length ≤ 8 := fun x mx => by
      obtain ⟨a, ha, hh⟩ := P.cp.hd x.1 (G.mq _ (fw_mem mx)).1
      obtain ⟨-, h34, -⟩ := headAt_some hh
      omega
    have fl8 : ∀ i, (((grL S0 qs).take i).flatMap slN).length ≤ 8 * (grL S0 qs).length := fun i => by
      have : ∀ {L : List (CeL × Nat)}, (∀ x ∈ L, x.1.ws.length ≤ 8) → (L.flatMap slN).length ≤ 8 * L.length := fun {L} h => by
        induction L with
        | nil => exact Nat.le_refl _
        | cons a r ih =>
          have h1 := ih fun x mx => h x (List.mem_cons_of_mem _ mx)
          have h2 := h a List.mem_cons_self
          rw [List.flatMap_cons, List.length_append]
          show (slN a).length + _ ≤ 8 * (r.length + 1)
          have h3 : (slN a).length = a.1.ws.length := by unfold slN; rw [List.length_map, List.length_range]
          omega
      have h1 := this (L := (grL S0 qs).take i) fun x mx => x8 x (gm x (List.mem_of_mem_take mx))
      rw [List.length_take] at h1
      omega
    refine ⟨D, rfl, ⟨_, .of gD⟩, forW_list (xs := (grL S0 qs).map fun x => V.int (x.2 : Int)) (fun i σ H' => ∃ o3 o5, σ = [some (.ref A.a), some (.ref R.r), some (.ref r), o3, some (.ref D), o5] ∧ PairO K H' A R (flS S1) { U with hs := U.hs.map (trY S0 qs), ts := U.ts.map (nmG (gY S0 qs)), rs := rs', ws := U.ws.map (tkG (gY S0 qs)), ss := U.ss ++ saidG (gY S0 qs) U.ws, bs := notes (flS S1) U.bs (ns2.map Int.toNat ++ ((grL S0 qs).take i).flatMap slN) } ∧ ∀ b o, b ≠ U.bd → H8 b = some o → H' b = some o) ⟨_, _, rfl, by (show PairO K H8 A R (flS S1) { U with hs := U.hs.map (trY S0 qs), ts := U.ts.map (nmG (gY S0 qs)), rs := rs', ws := U.ws.map (tkG (gY S0 qs)), ss := U.ss ++ saidG (gY S0 qs) U.ws, bs := notes (flS S1) U.bs (ns2.map Int.toNat ++ []) }); rw [List.append_nil]; exact J8, fun b o _ g => g⟩ ?_ ?_ ?_⟩
    · rintro i σ H' _ ⟨o3, o5, rfl, -, k'⟩
      exact .of (k' _ _ Db gD)
    · rintro i x σ H' hx ⟨o3, o5, rfl, J', k'⟩
      rw [List.getElem?_map] at hx
      obtain ⟨z, ez, hz⟩ : ∃ z, (grL S0 qs)[i]? = some z ∧ x = V.int (z.2 : Int) := by
        cases e : (grL S0 qs)[i]? with
        | none => rw [e] at hx; cases hx
        | some z => rw [e] at hx; cases hx; exact ⟨z, rfl, rfl⟩
      subst hz
      have mz := gm z (List.mem_of_getElem? ez)
      have z8 := x8 z mz
      obtain ⟨-, hn2⟩ := G.nx P mz
      have ehd : headAt ((flS S1).ws.getD z.2 0) = some (4 * z.1.ws.length + if agO S0 z.1.p = 0 then 1 else 2) := by
        rw [f5, G.nh z mz]
        exact headAt_of z8 (by split <;> omega)
      have e4 : (4 * z.1.ws.length + if agO S0 z.1.p = 0 then 1 else 2) / 4 = z.1.ws.length := by split <;> omega
      walk_at "w3"
      refine ⟨_, fldIs J'.ar.ob, A.m, A.mx, A.l, (flS S1).ws, z.2, _, rfl, J'.ar.me, J'.ar.vw, by rw [f5]; omega, ehd, fun p9 H9 np9 s9 hp9 => ?_⟩
      rw [e4] at hp9
      have J9 := J'.same s9
      have pb9 : p9 ≠ U.bd := (ne_of_none J'.ro.bo.ds np9).symm
      have tk : (grL S0 qs).take (i + 1) = (grL S0 qs).take i ++ [z] := by
        rw [List.take_add_one, ez]
        rfl
      have hi := (List.getElem?_eq_some_iff.mp ez).1
      refine ⟨p9, rfl, ⟨_, .of hp9⟩, forW_list (xs := ((List.range z.1.ws.length).map fun j => ((z.2 + 1 + j : Nat) : Int)).map V.int) (fun j σ Hx => ∃ o3', σ = [some (.ref A.a), some (.ref R.r), some (.ref r), o3', some (.ref D), some (.int (z.2 : Int))] ∧ PairO K Hx A R (flS S1) { U with hs := U.hs.map (trY S0 qs), ts := U.ts.map (nmG (gY S0 qs)), rs := rs', ws := U.ws.map (tkG (gY S0 qs)), ss := U.ss ++ saidG (gY S0 qs) U.ws, bs := notes (flS S1) U.bs (ns2.map Int.toNat ++ ((grL S0 qs).take i).flatMap slN ++ (slN z).take j) } ∧ ∀ b o, b ≠ U.bd → H9 b = some o → Hx b = some o) ⟨_, rfl, by rw [List.take_zero, List.append_nil]; exact J9, fun b o _ g => g⟩ ?_ ?_ ?_⟩
      · rintro j σ Hx _ ⟨o3', rfl, -, kx⟩
        exact .of (kx _ _ pb9 hp9)
      · rintro j y σ Hx hy ⟨o3', rfl, Jx, kx⟩
        obtain ⟨u, eu, rfl⟩ := ints_atY hy
        have hj : j < z.1.ws.length := by
          have := (List.getElem?_eq_some_iff.mp eu).1
          rwa [List.length_map, List.length_range] at this
        rw [List.getElem?_map, List.getElem?_range hj] at eu
        cases eu
        have ts : (slN z).take (j + 1) = (slN z).take j ++ [z.2 + 1 + j] := by
          rw [List.take_add_one]
          congr 1
          unfold slN
          rw [List.getElem?_map, List.getElem?_range hj]
          rfl
        walk_at "w3"
        refine ⟨A, R, flS S1, _, z.2 + 1 + j, rfl, Jx, by rw [f5]; omega, ?_, fun Hy Jy ky => ⟨_, rfl, ?_, fun b o n g => ky b o n (kx b o n g)⟩⟩
        · have h1 := notes_len (S := flS S1) (vs := ns2.map Int.toNat ++ ((grL S0 qs).take i).flatMap slN ++ (slN z).take j) (bs := U.bs)
          rw [List.length_append, List.length_append, List.length_map, List.length_take] at h1
          have h2 := fl8 i
          have h3 : (slN z).length = z.1.ws.length := by unfold slN; rw [List.length_map, List.length_range]
          show (notes (flS S1) U.bs (ns2.map Int.toNat ++ ((grL S0 qs).take i).flatMap slN ++ (slN z).take j)).length < 1000000
          omega
        · rw [ts, ← List.append_assoc, notes_snoc]
          exact Jy
      rintro σ Hx ⟨o3', rfl, Jx, kx⟩
      rw [List.length_map, List.length_map, List.length_range] at Jx
      refine ⟨_, _, rfl, ?_, fun b o n g => kx b o n (s9 _ _ (k' b o n g))⟩
      rw [tk, List.flatMap_append, ← List.append_assoc]
      rw [show (slN z).take z.1.ws.length = slN z from List.take_of_length_le (by unfold slN; rw [List.length_map, List.length_range]; exact Nat.le_refl _)] at Jx
      rw [show [z].flatMap slN = slN z from List.append_nil _]
      exact Jx
    rintro σ H9 ⟨o3, o5, rfl, J9, k9⟩
    rw [List.length_map, List.take_length] at J9
    have hr9 := k9 _ _ rb hr8
    have gD9 := k9 _ _ Db gD
    walk_at "w3"
    refine r_lenL hr9 (r_lenL gD9 ?_)
    walk_at "w3"
    refine r_lenL gD9 ⟨by omega, fun tp ntp => ?_⟩
    have st := same_new (o := .tup [.int ((((rowY S0 qs).map V.int).length : Int) - (((grL S0 qs).map fun x => V.int (x.2 : Int)).length : Int)), .int (((grL S0 qs).map fun x => V.int (x.2 : Int)).length : Int)]) ntp
    have f9 : ∀ b o, b ≠ A.a → b ≠ A.l → b ≠ A.o → b ≠ A.p → b ≠ A.q → b ≠ R.hl → b ≠ R.wl → b ≠ R.d → b ≠ R.e → b ≠ U.bd → H b = some o → H9 b = some o := fun b o n1 n2 n3 n4 n5 n6 n7 n8 n9 n10 g => k9 b o n10 (sD _ _ (k7 b o n10 (s6 _ _ (k5 b o n1 n2 n3 n4 n5 n6 n7 n8 n9 g))))
    have tn : H tp = none := by
      cases e : H tp with
      | none => rfl
      | some o =>
        have := f9 tp o (ne_of_none J9.ar.ob ntp).symm (ne_of_none J9.ar.me.ls ntp).symm (ne_of_none J9.ar.so ntp).symm (ne_of_none J9.ar.sp ntp).symm (ne_of_none J9.ar.sq ntp).symm (ne_of_none J9.ro.ho.ls ntp).symm (ne_of_none J9.ro.wo.ls ntp).symm (ne_of_none J9.ro.lo.wa ntp).symm (ne_of_none J9.ro.lo.sk ntp).symm (ne_of_none J9.ro.bo.ds ntp).symm e
        rw [ntp] at this
        cases this
    refine q qs S1 rs' _ ns ns2 tp _ G (J9.same st) pm so pm2 eq dn dh rfl tn ?_ fun b o n1 n2 n3 n4 n5 n6 n7 n8 n9 n10 g => st _ _ (f9 b o n1 n2 n3 n4 n5 n6 n7 n8 n9 n10 g)
    rw [upd_same, List.length_map, List.length_map, rowY_len]
end

local macro_rules | `(tactic| walk_at "w3") => `(tactic| try simp only [↓x_var0, ↓x_varS, ↓x_c, ↓x_op, ↓x_un, ↓x_cb, ↓x_nil, ↓x_cons, ↓x_test, ↓x_b, ↓x_ex, ↓x_and, ↓x_or, ↓x_not, ↓x_andV, ↓x_orV, ↓x_notV, ↓x_tif, ↓x_chain, ↓x_menu, ↓x_menuI, ↓x_lst, ↓x_tup, ↓x_dnew, ↓x_callW, ↓x_callN, ↓x_seq, ↓x_next, ↓x_ret, ↓x_retN, ↓x_drop, ↓x_ifS, ↓x_asg, ↓x_name, ↓x_raise, ↓x_fld, ↓x_setF, ↓x_meth, ↓x_make, ↓x_sub, ↓r_min, ↓r_max, ↓x_yes, ↓x_for, ↓x_lock, ↓x_keys, ↓x_cut, ↓x_lc, ↓x_rng1, ↓x_rng2, ↓x_lst1, ↓x_itup, ↓x_rng3, ↓x_three, ↓x_lstg, ↓x_tupg, ↓x_adrS, ↓x_one, ↓x_two, ↓x_adr, ↓x_sl, ↓x_np, ↓x_pt, ↓x_int, ↓x_bm, ↓x_bm0, ↓x_consg, ↓x_nilg, ↓x_dget2, ↓x_dget1, ↓x_dgetN, ↓x_dget, ↓x_din, ↓x_dni, ↓x_dput, ↓x_dpop2, ↓r_isB, ↓r_notB, ↓x_enum, ↓x_zip, ↓x_str, ↓x_strE, ↓r_inS, ↓r_ninS, wipe, List.map_cons, List.map_nil, ↓x_isT, ↓r_isiII, ↓r_isiBB, ↓r_isiIB, ↓r_isiSS, ↓r_neNS, ↓r_neSN, ↓r_neNN, ↓r_eqNS, ↓r_eqSN, ↓r_eqNN, ↓r_eqIS, ↓r_neIS, ↓r_neSI, ↓r_neBS, ↓r_eqBB, ↓r_neBB, ↓x_start, ↓x_K, ↓x_start0, ↓r_i0, ↓r_i, ↓r_u, ↓r_addI, ↓r_addS, ↓r_mulI, ↓r_mulS, ↓r_eqI, ↓r_neI, ↓r_eqS, ↓r_neS, ↓r_absI, ↓r_intI, ↓r_intB, List.length_cons, List.length_nil, List.replicate, List.set_cons_zero, List.set_cons_succ, decide_eq_true_eq, Bool.not_eq_true', decide_eq_false_iff_not, if_true, if_false, Bool.false_eq_true, Bool.true_eq_false, ite_true, ite_false, Bool.not_true, Bool.not_false, c_div, n_ten, c_pow, not_true_eq_false, not_false_eq_true, decide_true, decide_false, true_and, and_true, and_self, true_or, or_true, Int.reduceLT, Int.reduceLE, Int.reduceMul, Int.reduceAdd, Int.reduceSub, Int.reducePow, Int.reduceNeg, Int.reduceDiv, Int.reduceMod, Nat.reducePow, Int.reduceToNat, Int.reduceEq, Int.reduceNe, Nat.reduceLT, Nat.reduceLeDiff, Nat.reduceAdd, ↓x_whole, ↓x_kind, Int.natCast_one, Int.natCast_one, Int.natCast_one, Int.natCast_one, Int.natCast_one, Int.natCast_one, Int.natCast_one, Int.natCast_one, Int.natCast_one, Int.natCast_one, Int.natCast_one])
/-! ## behind a young collection -/
/-- the cells that are there then -/
def newC (S : ArS) (C qs : List CeL) : List CeL := ((C.filter fun c => !decide ((S.b S.fl : Int) ≤ c.p ∧ (c.p : Int) < S.t S.fl)).map fun c => { c with ws := c.ws.map (trY S qs) }) ++ (fwY S qs).map fun x => ⟨x.2, x.1.r, x.1.ws.map (trY S qs)⟩
section
variable {S0 S : ArS} {C qs : List CeL}
theorem newC_mem {b : CeL} (m : b ∈ newC S0 C qs) : (∃ c ∈ C, ¬ Yng S0 c.p ∧ b = { c with ws := c.ws.map (trY S0 qs) }) ∨ ∃ x ∈ fwY S0 qs, b = ⟨x.2, x.1.r, x.1.ws.map (trY S0 qs)⟩ := by
  rcases List.mem_append.mp m with m | m
  · obtain ⟨c, mc, rfl⟩ := List.mem_map.mp m
    obtain ⟨h1, h2⟩ := List.mem_filter.mp mc
    refine .inl ⟨c, h1, ?_, rfl⟩
    intro y
    rw [decide_eq_true (p := (S0.b S0.fl : Int) ≤ c.p ∧ (c.p : Int) < S0.t S0.fl) y] at h2
    cases h2
  · obtain ⟨x, mx, rfl⟩ := List.mem_map.mp m
    exact .inr ⟨x, mx, rfl⟩
theorem newC_old {c : CeL} (m : c ∈ C) (y : ¬ Yng S0 c.p) : ({ c with ws := c.ws.map (trY S0 qs) } : CeL) ∈ newC S0 C qs := by
  refine List.mem_append_left _ (List.mem_map.mpr ⟨c, List.mem_filter.mpr ⟨m, ?_⟩, rfl⟩)
  rw [decide_eq_false (p := (S0.b S0.fl : Int) ≤ c.p ∧ (c.p : Int) < S0.t S0.fl) y]
  rfl
theorem newC_new {x : CeL × Nat} (m : x ∈ fwY S0 qs) : (⟨x.2, x.1.r, x.1.ws.map (trY S0 qs)⟩ : CeL) ∈ newC S0 C qs := List.mem_append_right _ (List.mem_map.mpr ⟨x, m, rfl⟩)
/-- the halves then -/
theorem flY (G : Yg S0 C qs S) : ∀ p : Int, Yng (flS S) p ↔ (S0.b (!S0.fl) : Int) ≤ p ∧ p < S.t (!S0.fl) := fun p => by
  obtain ⟨f1, f2, f3, f4, f5, f6, f7, f8⟩ := flS_is (S := S)
  have eb : S.b (!S0.fl) = S0.b (!S0.fl) := by
    unfold ArS.b
    rw [G.n, G.k]
  unfold Yng
  rw [f3, f8, f6, G.fl, eb]
theorem newC_cp (P : Y0 S0 C) (G : Yg S0 C qs S) (dn : ∀ u x, SlY S0 C qs u x → Dn S0 qs x (S.ws.getD u 0)) : CelP (flS S) (newC S0 C qs) := by
  obtain ⟨f1, f2, f3, f4, f5, f6, f7, f8⟩ := flS_is (S := S)
  have eb : S.b (!S0.fl) = S0.b (!S0.fl) := by
    unfold ArS.b
    rw [G.n, G.k]
  refine ⟨fun b mb => ?_, fun b mb j hj => ?_, fun b mb => ?_, ?_⟩
  · rcases newC_mem mb with ⟨c, mc, y, rfl⟩ | ⟨x, mx, rfl⟩
    · obtain ⟨a, ha, hh⟩ := P.cp.hd c mc
      refine ⟨a, ha, ?_⟩
      show headAt ((flS S).ws.getD c.p 0) = some (4 * (c.ws.map (trY S0 qs)).length + a)
      rw [f5, List.length_map, G.un c mc fun d md e => y (by rw [← e]; exact (G.mq d md).2)]
      exact hh
    · refine ⟨if agO S0 x.1.p = 0 then 1 else 2, by split <;> omega, ?_⟩
      show headAt ((flS S).ws.getD x.2 0) = some (4 * (x.1.ws.map (trY S0 qs)).length + _)
      rw [f5, List.length_map, G.nh x mx]
      obtain ⟨a, ha, hh⟩ := P.cp.hd x.1 (G.mq _ (fw_mem mx)).1
      obtain ⟨-, h34, -⟩ := headAt_some hh
      exact headAt_of (by omega) (by split <;> omega)
  · have key : ∀ {c : CeL} {q : Nat}, j < c.ws.length → SlY S0 C qs (q + 1 + j) (c.ws.getD j 0) → (flS S).ws.getD (q + 1 + j) 0 = (c.ws.map (trY S0 qs)).getD j 0 := fun {c q} hj sl => by
      rw [f5, (dn _ _ sl).2, List.getD_eq_getElem?_getD, List.getD_eq_getElem?_getD, List.getElem?_map, List.getElem?_eq_getElem hj]
      rfl
    rcases newC_mem mb with ⟨c, mc, y, rfl⟩ | ⟨x, mx, rfl⟩
    · have hj : j < (c.ws.map (trY S0 qs)).length := hj
      rw [List.length_map] at hj
      exact key (c := c) (q := c.p) hj (.inl ⟨c, mc, y, j, hj, rfl, rfl⟩)
    · have hj : j < (x.1.ws.map (trY S0 qs)).length := hj
      rw [List.length_map] at hj
      exact key (c := x.1) (q := x.2) hj (.inr ⟨x, mx, j, hj, rfl, rfl⟩)
  · rcases newC_mem mb with ⟨c, mc, y, rfl⟩ | ⟨x, mx, rfl⟩
    · left
      show c.p + (c.ws.map (trY S0 qs)).length < (flS S).ot
      rw [List.length_map, f4, G.ot]
      rcases P.side mc with ⟨-, h⟩ | ⟨h, -⟩
      · omega
      · exact absurd h y
    · show x.2 + (x.1.ws.map (trY S0 qs)).length < (flS S).ot ∨ ((flS S).b (flS S).fl ≤ x.2 ∧ x.2 + (x.1.ws.map (trY S0 qs)).length < (flS S).t (flS S).fl)
      rw [List.length_map, f4, f3, f8, f6, G.fl, eb]
      obtain ⟨h1, h2⟩ := G.nb x mx
      by_cases e : agO S0 x.1.p = 0
      · exact .inr (h1 e)
      · exact .inl (h2 e).2
  · refine List.pairwise_append.mpr ⟨?_, ?_, ?_⟩
    · rw [List.pairwise_map]
      refine (List.Pairwise.filter _ P.cp.dj).imp fun {a b} h => ?_
      show a.p + (a.ws.map (trY S0 qs)).length < b.p ∨ b.p + (b.ws.map (trY S0 qs)).length < a.p
      rw [List.length_map, List.length_map]
      exact h
    · rw [List.pairwise_map]
      refine G.nj.imp fun {a b} h => ?_
      show a.2 + (a.1.ws.map (trY S0 qs)).length < b.2 ∨ b.2 + (b.1.ws.map (trY S0 qs)).length < a.2
      rw [List.length_map, List.length_map]
      exact h
    · intro a ma b mb
      obtain ⟨c, mc, rfl⟩ := List.mem_map.mp ma
      obtain ⟨x, mx, rfl⟩ := List.mem_map.mp mb
      have := (G.nx P mx).1 c (List.mem_filter.mp mc).1
      show c.p + (c.ws.map (trY S0 qs)).length < x.2 ∨ x.2 + (x.1.ws.map (trY S0 qs)).length < c.p
      rw [List.length_map, List.length_map]
      omega
/-- a word that went along is a word of the cells that are there then -/
theorem newC_cl (P : Y0 S0 C) (G : Yg S0 C qs S) {w : Int} (h : ClW C w) (d : dnY S0 qs w) : ClW (newC S0 C qs) (trY S0 qs w) := by
  refine ⟨trY_word P G h.1, fun p e => ?_⟩
  obtain ⟨x, ex⟩ := Option.isSome_iff_exists.mp h.1
  have ep := wd_place ex
  have e2 := wd_place e
  dsimp only at e2
  cases x with
  | place p0 =>
    dsimp only at ep
    obtain ⟨c, mc, rfl⟩ := h.2 p0 ex
    by_cases y : Yng S0 (c.p : Int)
    · obtain ⟨q, eq⟩ := Option.isSome_iff_exists.mp (d _ ep y)
      rw [trY_go ep eq] at e2
      obtain ⟨x, mx, -, rfl, -⟩ := G.go_y eq
      rw [placeIn_of (by omega)] at e2
      cases e2
      exact ⟨_, newC_new mx, rfl⟩
    · rw [trY_stay G ep y, ep] at e2
      cases e2
      exact ⟨_, newC_old mc y, rfl⟩
  | _ =>
    dsimp only at ep
    rw [trY_none ep, ep] at e2
    cases e2
theorem newC_y0 (P : Y0 S0 C) (G : Yg S0 C qs S) (dn : ∀ u x, SlY S0 C qs u x → Dn S0 qs x (S.ws.getD u 0)) : Y0 (flS S) (newC S0 C qs) := by
  obtain ⟨f1, f2, f3, f4, f5, f6, f7, f8⟩ := flS_is (S := S)
  have eb : ∀ f, S.b f = S0.b f := fun f => by
    unfold ArS.b
    rw [G.n, G.k]
  have st := G.stk P
  have h1 := P.sum G.mq G.nd
  rw [← st_gr (S := S0)] at h1
  have ts := G.ts
  have ot := G.ot
  have rm := P.rm
  refine ⟨newC_cp P G dn, fun b mb w mw => ?_, ?_, ?_, ?_, ?_, ?_, ?_⟩
  · have key : ∀ {c : CeL} {q : Nat}, c ∈ C → (∀ j, j < c.ws.length → SlY S0 C qs (q + 1 + j) (c.ws.getD j 0)) → ∀ w ∈ c.ws.map (trY S0 qs), ClW (newC S0 C qs) w := fun {c q} mc sl w mw => by
      obtain ⟨w0, m0, rfl⟩ := List.mem_map.mp mw
      obtain ⟨j, ej⟩ := List.getElem?_of_mem m0
      have hj := (List.getElem?_eq_some_iff.mp ej).1
      have := (dn _ _ (sl j hj)).1
      rw [List.getD_eq_getElem?_getD, ej] at this
      exact newC_cl P G (P.cw c mc w0 m0) this
    rcases newC_mem mb with ⟨c, mc, y, rfl⟩ | ⟨x, mx, rfl⟩
    · exact key (q := c.p) mc (fun j hj => .inl ⟨c, mc, y, j, hj, rfl, rfl⟩) w mw
    · exact key (q := x.2) (G.mq _ (fw_mem mx)).1 (fun j hj => .inr ⟨x, mx, j, hj, rfl, rfl⟩) w mw
  · rw [f5, f1, f2, G.ln, G.n, G.k]
    exact P.ln
  · rw [f4, f1, G.n]
    exact st.2
  · rw [f1, f2, G.n, G.k]
    exact P.sz
  · rw [f3, f8, f6, f2, G.fl, G.k, eb]
    omega
  · rw [f3, f8, Bool.not_not, f7]
  · rw [f4, f3, f6, f8, f1, G.fl, G.n, eb]
    omega
end
section
variable {S0 S : ArS} {C qs : List CeL} {bs ns2 : List Int}
theorem gr_mem {x : CeL × Nat} (m : x ∈ grL S0 qs) : x ∈ fwY S0 qs ∧ agO S0 x.1.p ≠ 0 := by
  obtain ⟨h1, h2⟩ := List.mem_filter.mp m
  refine ⟨h1, fun e => ?_⟩
  rw [decide_eq_true e] at h2
  cases h2
theorem mem_gr {x : CeL × Nat} (m : x ∈ fwY S0 qs) (e : agO S0 x.1.p ≠ 0) : x ∈ grL S0 qs := List.mem_filter.mpr ⟨m, by rw [decide_eq_false e]; rfl⟩
theorem newC_bk (P : Y0 S0 C) (G : Yg S0 C qs S) (B : BkY S0 C bs) (dn : ∀ u x, SlY S0 C qs u x → Dn S0 qs x (S.ws.getD u 0)) (pm : ns2.Perm bs) : BkY (flS S) (newC S0 C qs) (notes (flS S) bs (ns2.map Int.toNat ++ (grL S0 qs).flatMap slN)) := by
  obtain ⟨f1, f2, f3, f4, f5, f6, f7, f8⟩ := flS_is (S := S)
  have bb := bb_of (S := S0)
  have st := G.stk P
  have lo := P.lo
  have yo : ∀ {c}, c ∈ C → ¬ Yng S0 (CeL.p c) → ¬ Yng (flS S) (CeL.p c) := fun {c} mc y => by
    rw [flY G]
    rcases P.side mc with ⟨-, h⟩ | ⟨h, -⟩
    · omega
    · exact absurd h y
  have yg : ∀ {x}, x ∈ fwY S0 qs → agO S0 x.1.p ≠ 0 → ¬ Yng (flS S) (x.2 : Int) := fun {x} mx e => by
    rw [flY G]
    have := (G.nb x mx).2 e
    omega
  have nn : ∀ m ∈ bs, m.toNat ∈ ns2.map Int.toNat ∧ m = (m.toNat : Int) := fun m mm => by
    obtain ⟨c, mc, y, j, hj, e⟩ := B.s m mm
    exact ⟨List.mem_map.mpr ⟨m, pm.mem_iff.mpr mm, rfl⟩, by omega⟩
  refine ⟨fun m mm => ?_, fun b mb y j hj p ep yp => ?_⟩
  · rw [notes_mem] at mm
    have hv : ∃ v ∈ ns2.map Int.toNat ++ (grL S0 qs).flatMap slN, m = (v : Int) := by
      by_cases h : ∃ v ∈ ns2.map Int.toNat ++ (grL S0 qs).flatMap slN, m = (v : Int)
      · exact h
      · rw [if_neg h] at mm
        obtain ⟨h1, h2⟩ := nn m mm
        exact absurd ⟨m.toNat, List.mem_append_left _ h1, h2⟩ h
    obtain ⟨v, mv, rfl⟩ := hv
    rcases List.mem_append.mp mv with mv | mv
    · obtain ⟨z, mz, ez⟩ := List.mem_map.mp mv
      obtain ⟨c, mc, y, j, hj, e⟩ := B.s z (pm.mem_iff.mp mz)
      exact ⟨_, newC_old mc y, yo (c := c) mc y, j, by (show j < (c.ws.map (trY S0 qs)).length); rw [List.length_map]; exact hj, by show (v : Int) = ((c.p + 1 + j : Nat) : Int); omega⟩
    · obtain ⟨x, mx, hx⟩ := List.mem_flatMap.mp mv
      obtain ⟨j, hj, ej⟩ := List.mem_map.mp hx
      obtain ⟨m1, m2⟩ := gr_mem mx
      exact ⟨_, newC_new m1, yg (x := x) m1 m2, j, by (show j < (x.1.ws.map (trY S0 qs)).length); rw [List.length_map]; exact List.mem_range.mp hj, by show (v : Int) = ((x.2 + 1 + j : Nat) : Int); omega⟩
  · rw [notes_mem]
    have key : ∀ {c : CeL} {q : Nat}, j < c.ws.length → SlY S0 C qs (q + 1 + j) (c.ws.getD j 0) → placeIn ((c.ws.map (trY S0 qs)).getD j 0) = some p → (flS S).ws.getD (q + 1 + j) 0 = trY S0 qs (c.ws.getD j 0) ∧ placeIn (trY S0 qs (c.ws.getD j 0)) = some p := fun {c q} hj sl e => by
      have e1 : (c.ws.map (trY S0 qs)).getD j 0 = trY S0 qs (c.ws.getD j 0) := by
        rw [List.getD_eq_getElem?_getD, List.getD_eq_getElem?_getD, List.getElem?_map, List.getElem?_eq_getElem hj]
        rfl
      rw [e1] at e
      exact ⟨by rw [f5]; exact (dn _ _ sl).2, e⟩
    rcases newC_mem mb with ⟨c, mc, yc, rfl⟩ | ⟨x, mx, rfl⟩
    · have hj : j < (c.ws.map (trY S0 qs)).length := hj
      rw [List.length_map] at hj
      obtain ⟨k1, k2⟩ := key (c := c) (q := c.p) hj (.inl ⟨c, mc, yc, j, hj, rfl, rfl⟩) ep
      show if ∃ v ∈ ns2.map Int.toNat ++ (grL S0 qs).flatMap slN, ((c.p + 1 + j : Nat) : Int) = (v : Int) then _ else _
      have mem : ((c.p + 1 + j : Nat) : Int) ∈ bs := by
        have dn' := (dn _ _ (.inl ⟨c, mc, yc, j, hj, rfl, rfl⟩ : SlY S0 C qs (c.p + 1 + j) (c.ws.getD j 0)))
        cases e0 : placeIn (c.ws.getD j 0) with
        | none =>
          rw [trY_none e0, e0] at k2
          cases k2
        | some p0 =>
          by_cases y0 : Yng S0 p0
          · exact B.a c mc yc j hj p0 e0 y0
          · rw [trY_stay G e0 y0, e0] at k2
            cases k2
            have cl := P.cw c mc _ (List.mem_of_getElem? (getD_at (d := 0) hj))
            obtain ⟨x, ex⟩ := Option.isSome_iff_exists.mp cl.1
            have ep0 := wd_place ex
            rw [e0] at ep0
            cases x with
            | place p' =>
              cases ep0
              obtain ⟨c', mc', rfl⟩ := cl.2 _ ex
              exact absurd yp (yo mc' y0)
            | _ => cases ep0
      obtain ⟨h1, h2⟩ := nn _ mem
      rw [if_pos ⟨_, List.mem_append_left _ h1, h2⟩]
      show yk1 (flS S) ((flS S).ws.getD (((c.p + 1 + j : Nat) : Int)).toNat 0) ≠ []
      rw [Int.toNat_natCast, k1, yk1_y k2 yp]
      intro z
      cases z
    · have hj : j < (x.1.ws.map (trY S0 qs)).length := hj
      rw [List.length_map] at hj
      obtain ⟨k1, k2⟩ := key (c := x.1) (q := x.2) hj (.inr ⟨x, mx, j, hj, rfl, rfl⟩) ep
      have ea : agO S0 x.1.p ≠ 0 := fun e => by
        refine y ?_
        have := (G.nb x mx).1 e
        show Yng (flS S) (x.2 : Int)
        rw [flY G]
        omega
      have mv : x.2 + 1 + j ∈ (grL S0 qs).flatMap slN := List.mem_flatMap.mpr ⟨x, mem_gr mx ea, List.mem_map.mpr ⟨j, List.mem_range.mpr hj, rfl⟩⟩
      show if ∃ v ∈ ns2.map Int.toNat ++ (grL S0 qs).flatMap slN, ((x.2 + 1 + j : Nat) : Int) = (v : Int) then _ else _
      rw [if_pos ⟨_, List.mem_append_right _ mv, rfl⟩]
      show yk1 (flS S) ((flS S).ws.getD (((x.2 + 1 + j : Nat) : Int)).toNat 0) ≠ []
      rw [Int.toNat_natCast, k1, yk1_y k2 yp]
      intro z
      cases z
end

local macro_rules | `(tactic| walk_at "w3") => `(tactic| try simp only [↓x_var0, ↓x_varS, ↓x_c, ↓x_op, ↓x_un, ↓x_cb, ↓x_nil, ↓x_cons, ↓x_test, ↓x_b, ↓x_ex, ↓x_and, ↓x_or, ↓x_not, ↓x_andV, ↓x_orV, ↓x_notV, ↓x_tif, ↓x_chain, ↓x_menu, ↓x_menuI, ↓x_lst, ↓x_tup, ↓x_dnew, ↓x_callW, ↓x_callN, ↓x_seq, ↓x_next, ↓x_ret, ↓x_retN, ↓x_drop, ↓x_ifS, ↓x_asg, ↓x_name, ↓x_raise, ↓x_fld, ↓x_setF, ↓x_meth, ↓x_make, ↓x_sub, ↓r_min, ↓r_max, ↓x_yes, ↓x_for, ↓x_lock, ↓x_keys, ↓x_cut, ↓x_lc, ↓x_rng1, ↓x_rng2, ↓x_lst1, ↓x_itup, ↓x_rng3, ↓x_three, ↓x_lstg, ↓x_tupg, ↓x_adrS, ↓x_one, ↓x_two, ↓x_adr, ↓x_sl, ↓x_np, ↓x_pt, ↓x_int, ↓x_bm, ↓x_bm0, ↓x_consg, ↓x_nilg, ↓x_dget2, ↓x_dget1, ↓x_dgetN, ↓x_dget, ↓x_din, ↓x_dni, ↓x_dput, ↓x_dpop2, ↓r_isB, ↓r_notB, ↓x_enum, ↓x_zip, ↓x_str, ↓x_strE, ↓r_inS, ↓r_ninS, wipe, List.map_cons, List.map_nil, ↓x_isT, ↓r_isiII, ↓r_isiBB, ↓r_isiIB, ↓r_isiSS, ↓r_neNS, ↓r_neSN, ↓r_neNN, ↓r_eqNS, ↓r_eqSN, ↓r_eqNN, ↓r_eqIS, ↓r_neIS, ↓r_neSI, ↓r_neBS, ↓r_eqBB, ↓r_neBB, ↓x_start, ↓x_K, ↓x_start0, ↓r_i0, ↓r_i, ↓r_u, ↓r_addI, ↓r_addS, ↓r_mulI, ↓r_mulS, ↓r_eqI, ↓r_neI, ↓r_eqS, ↓r_neS, ↓r_absI, ↓r_intI, ↓r_intB, List.length_cons, List.length_nil, List.replicate, List.set_cons_zero, List.set_cons_succ, decide_eq_true_eq, Bool.not_eq_true', decide_eq_false_iff_not, if_true, if_false, Bool.false_eq_true, Bool.true_eq_false, ite_true, ite_false, Bool.not_true, Bool.not_false, c_div, n_ten, c_pow, not_true_eq_false, not_false_eq_true, decide_true, decide_false, true_and, and_true, and_self, true_or, or_true, Int.reduceLT, Int.reduceLE, Int.reduceMul, Int.reduceAdd, Int.reduceSub, Int.reducePow, Int.reduceNeg, Int.reduceDiv, Int.reduceMod, Nat.reducePow, Int.reduceToNat, Int.reduceEq, Int.reduceNe, Nat.reduceLT, Nat.reduceLeDiff, Nat.reduceAdd, ↓x_whole, ↓x_kind, Int.natCast_one, Int.natCast_one, Int.natCast_one, Int.natCast_one, Int.natCast_one, Int.natCast_one, Int.natCast_one, Int.natCast_one, Int.natCast_one, Int.natCast_one, Int.natCast_one, Int.natCast_one])
/-! ## a stretch full of cells -/
inductive Cov (ws : List Int) : Nat → List Int → Nat → Prop where
  | nil {i : Nat} : Cov ws i [] i
  | cons {i k t : Nat} {ps : List Int} (hi : i < ws.length) (e : headAt (ws.getD i 0) = some k) (c : Cov ws (i + (k / 4 + 1)) ps t) : Cov ws i ((i : Int) :: ps) t
section
variable {ws ws' : List Int} {i t u k : Nat} {ps qs : List Int}
theorem Cov.le (h : Cov ws i ps t) : i ≤ t := by
  induction h with
  | nil => exact Nat.le_refl _
  | cons _ _ _ ih => omega
theorem Cov.chain (h : Cov ws i ps t) : Chain ws t i ps := by
  induction h with
  | nil => exact .nil (Nat.le_refl _)
  | cons hi e c ih => exact .cons (by have := c.le; omega) hi e ih
theorem Cov.app (h : Cov ws i ps t) (h' : Cov ws t qs u) : Cov ws i (ps ++ qs) u := by
  induction h with
  | nil => exact h'
  | cons hi e c ih => exact .cons hi e (ih h')
theorem Cov.one (hi : i < ws.length) (e : headAt (ws.getD i 0) = some k) : Cov ws i [(i : Int)] (i + (k / 4 + 1)) := .cons hi e .nil
theorem Cov.other (h : Cov ws i ps t) (el : ws'.length = ws.length) (k : ∀ p : Nat, (p : Int) ∈ ps → ∀ k, headAt (ws.getD p 0) = some k → ∃ k', headAt (ws'.getD p 0) = some k' ∧ k' / 4 = k / 4) : Cov ws' i ps t := by
  induction h with
  | nil => exact .nil
  | cons hi e c ih =>
    obtain ⟨k', e1, e2⟩ := k _ List.mem_cons_self _ e
    refine .cons (by omega) e1 ?_
    rw [e2]
    exact ih fun p mp => k p (List.mem_cons_of_mem _ mp)
end
def stL (S : ArS) (qs : List CeL) : List (CeL × Nat) := (fwY S qs).filter fun x => decide (agO S x.1.p = 0)
section
variable {S0 S : ArS} {C qs : List CeL}
theorem cov_both (P : Y0 S0 C) (G : Yg S0 C qs S) : ∀ i, Cov S.ws (S0.b (!S0.fl)) ((stL S0 (qs.take i)).map fun x => (x.2 : Int)) (S0.b (!S0.fl) + stY S0 (qs.take i)) ∧ Cov S.ws S0.ot ((grL S0 (qs.take i)).map fun x => (x.2 : Int)) (S0.ot + grY S0 (qs.take i))
  | 0 => ⟨.nil, .nil⟩
  | i + 1 => by
    obtain ⟨h1, h2⟩ := cov_both P G i
    by_cases hi : i < qs.length
    · have et : qs.take (i + 1) = qs.take i ++ [qs[i]] := by
        rw [List.take_add_one, List.getElem?_eq_getElem hi]
        rfl
      have ep : ∃ t, qs = (qs.take i ++ [qs[i]]) ++ t := ⟨qs.drop (i + 1), by rw [← et, List.take_append_drop]⟩
      generalize qs[i] = c at et ep
      have mx : (c, nqY S0 (qs.take i) c) ∈ fwY S0 qs := by
        have hl : (fwY S0 (qs.take i ++ [c]))[i]? = some (c, nqY S0 (qs.take i) c) := by
          rw [fwY_snoc, List.getElem?_append_right (by rw [fwY_len, List.length_take]; omega), fwY_len, List.length_take, show i - min i qs.length = 0 from by omega]
          rfl
        refine List.mem_of_getElem? ((fw_pre ep (i := i) ?_).trans hl)
        rw [List.length_append, List.length_take, List.length_singleton]
        omega
      have hd := G.nh _ mx
      have hn := (G.nx P mx).2
      have hn : nqY S0 (qs.take i) c + c.ws.length < S.ws.length := hn
      have hd : S.ws.getD (nqY S0 (qs.take i) c) 0 = 2 * ((4 * c.ws.length + if agO S0 c.p = 0 then 1 else 2 : Nat) : Int) := hd
      have c8 : c.ws.length ≤ 8 := by
        obtain ⟨a, ha, hh⟩ := P.cp.hd c (G.mq _ (fw_mem mx)).1
        obtain ⟨-, h34, -⟩ := headAt_some hh
        omega
      have he := headAt_of (s := c.ws.length) (a := if agO S0 c.p = 0 then 1 else 2) c8 (by split <;> omega)
      rw [← hd] at he
      have e4 : (4 * c.ws.length + if agO S0 c.p = 0 then 1 else 2) / 4 = c.ws.length := by split <;> omega
      have one := Cov.one (by omega) he
      rw [e4] at one
      rw [et]
      unfold stL grL
      rw [fwY_snoc, List.filter_append, List.filter_append, stY_snoc, grY_snoc]
      by_cases e : agO S0 c.p = 0
      · rw [if_pos e, if_pos e, List.filter_cons_of_pos (by exact decide_eq_true e), List.filter_cons_of_neg (by rw [decide_eq_true (p := agO S0 (c, nqY S0 (qs.take i) c).1.p = 0) e]; exact Bool.false_ne_true), List.filter_nil, List.filter_nil, List.append_nil, List.map_append, Nat.add_zero]
        refine ⟨?_, h2⟩
        have eq : nqY S0 (qs.take i) c = S0.b (!S0.fl) + stY S0 (qs.take i) := if_pos e
        rw [eq] at one
        have := h1.app one
        rw [Nat.add_assoc] at this
        show Cov _ _ (_ ++ [((nqY S0 (qs.take i) c : Nat) : Int)]) _
        rw [eq]
        exact this
      · rw [if_neg e, if_neg e, List.filter_cons_of_neg (by rw [decide_eq_true_iff]; exact e), List.filter_cons_of_pos (by rw [decide_eq_false (p := agO S0 (c, nqY S0 (qs.take i) c).1.p = 0) e]; rfl), List.filter_nil, List.filter_nil, List.append_nil, List.map_append, Nat.add_zero]
        refine ⟨h1, ?_⟩
        have eq : nqY S0 (qs.take i) c = S0.ot + grY S0 (qs.take i) := if_neg e
        rw [eq] at one
        have := h2.app one
        rw [Nat.add_assoc] at this
        show Cov _ _ (_ ++ [((nqY S0 (qs.take i) c : Nat) : Int)]) _
        rw [eq]
        exact this
    · have e : qs.take (i + 1) = qs.take i := by rw [List.take_of_length_le (by omega), List.take_of_length_le (by omega)]
      rw [e]
      exact ⟨h1, h2⟩
end
section
variable {S0 S : ArS} {C qs : List CeL} {ps : List Int}
theorem cov_young (P : Y0 S0 C) (G : Yg S0 C qs S) : Cov (flS S).ws ((flS S).b (flS S).fl) ((stL S0 qs).map fun x => (x.2 : Int)) ((flS S).t (flS S).fl) := by
  obtain ⟨f1, f2, f3, f4, f5, f6, f7, f8⟩ := flS_is (S := S)
  have h := (cov_both P G qs.length).1
  rw [List.take_length] at h
  have eb : S.b (!S0.fl) = S0.b (!S0.fl) := by
    unfold ArS.b
    rw [G.n, G.k]
  rw [f5, f3, f8, f6, G.fl, eb, G.ts]
  exact h
theorem cov_old (P : Y0 S0 C) (G : Yg S0 C qs S) (h : Cov S0.ws 0 ps S0.ot) (hc : ∀ p ∈ ps, ∃ c ∈ C, ¬ Yng S0 c.p ∧ p = (c.p : Int)) : Cov (flS S).ws 0 (ps ++ (grL S0 qs).map fun x => (x.2 : Int)) (flS S).ot := by
  obtain ⟨f1, f2, f3, f4, f5, f6, f7, f8⟩ := flS_is (S := S)
  have h2 := (cov_both P G qs.length).2
  rw [List.take_length] at h2
  rw [f5, f4, G.ot]
  refine (h.other G.ln fun p mp k hk => ?_).app h2
  obtain ⟨c, mc, y, e⟩ := hc _ mp
  have : p = c.p := by omega
  subst this
  rw [G.un c mc fun d md e => y (by rw [← e]; exact (G.mq d md).2)]
  exact ⟨k, hk, rfl⟩
/-- young ones that were told have sizes that fill the young half -/
theorem used_young (P : Y0 S0 C) (G : Yg S0 C qs S) : (flS S).t (flS S).fl - (flS S).b (flS S).fl = stY S0 qs := by
  obtain ⟨f1, f2, f3, f4, f5, f6, f7, f8⟩ := flS_is (S := S)
  have eb : S.b (!S0.fl) = S0.b (!S0.fl) := by
    unfold ArS.b
    rw [G.n, G.k]
  rw [f3, f8, f6, G.fl, eb, G.ts]
  omega
/-- ages then -/
theorem age_old (P : Y0 S0 C) (G : Yg S0 C qs S) {c : CeL} (mc : c ∈ C) (y : ¬ Yng S0 c.p) : agO (flS S) c.p = agO S0 c.p := by
  obtain ⟨f1, f2, f3, f4, f5, f6, f7, f8⟩ := flS_is (S := S)
  unfold agO
  rw [f5, G.un c mc fun d md e => y (by rw [← e]; exact (G.mq d md).2)]
theorem age_new (P : Y0 S0 C) (G : Yg S0 C qs S) {x : CeL × Nat} (mx : x ∈ fwY S0 qs) : agO (flS S) x.2 = if agO S0 x.1.p = 0 then 1 else 2 := by
  obtain ⟨f1, f2, f3, f4, f5, f6, f7, f8⟩ := flS_is (S := S)
  have c8 : x.1.ws.length ≤ 8 := by
    obtain ⟨a, ha, hh⟩ := P.cp.hd x.1 (G.mq _ (fw_mem mx)).1
    obtain ⟨-, h34, -⟩ := headAt_some hh
    omega
  rw [show agO (flS S) x.2 = (match headAt ((flS S).ws.getD x.2 0) with | some h => h % 4 | none => 0) from rfl, f5, G.nh x mx, headAt_of c8 (by split <;> omega)]
  have key : ∀ a : Nat, a ≤ 2 → (4 * x.1.ws.length + a) % 4 = a := fun a ha => by omega
  exact key _ (by split <;> omega)
end

local macro_rules | `(tactic| walk_at "w3") => `(tactic| try simp only [↓x_var0, ↓x_varS, ↓x_c, ↓x_op, ↓x_un, ↓x_cb, ↓x_nil, ↓x_cons, ↓x_test, ↓x_b, ↓x_ex, ↓x_and, ↓x_or, ↓x_not, ↓x_andV, ↓x_orV, ↓x_notV, ↓x_tif, ↓x_chain, ↓x_menu, ↓x_menuI, ↓x_lst, ↓x_tup, ↓x_dnew, ↓x_callW, ↓x_callN, ↓x_seq, ↓x_next, ↓x_ret, ↓x_retN, ↓x_drop, ↓x_ifS, ↓x_asg, ↓x_name, ↓x_raise, ↓x_fld, ↓x_setF, ↓x_meth, ↓x_make, ↓x_sub, ↓r_min, ↓r_max, ↓x_yes, ↓x_for, ↓x_lock, ↓x_keys, ↓x_cut, ↓x_lc, ↓x_rng1, ↓x_rng2, ↓x_lst1, ↓x_itup, ↓x_rng3, ↓x_three, ↓x_lstg, ↓x_tupg, ↓x_adrS, ↓x_one, ↓x_two, ↓x_adr, ↓x_sl, ↓x_np, ↓x_pt, ↓x_int, ↓x_bm, ↓x_bm0, ↓x_consg, ↓x_nilg, ↓x_dget2, ↓x_dget1, ↓x_dgetN, ↓x_dget, ↓x_din, ↓x_dni, ↓x_dput, ↓x_dpop2, ↓r_isB, ↓r_notB, ↓x_enum, ↓x_zip, ↓x_str, ↓x_strE, ↓r_inS, ↓r_ninS, wipe, List.map_cons, List.map_nil, ↓x_isT, ↓r_isiII, ↓r_isiBB, ↓r_isiIB, ↓r_isiSS, ↓r_neNS, ↓r_neSN, ↓r_neNN, ↓r_eqNS, ↓r_eqSN, ↓r_eqNN, ↓r_eqIS, ↓r_neIS, ↓r_neSI, ↓r_neBS, ↓r_eqBB, ↓r_neBB, ↓x_start, ↓x_K, ↓x_start0, ↓r_i0, ↓r_i, ↓r_u, ↓r_addI, ↓r_addS, ↓r_mulI, ↓r_mulS, ↓r_eqI, ↓r_neI, ↓r_eqS, ↓r_neS, ↓r_absI, ↓r_intI, ↓r_intB, List.length_cons, List.length_nil, List.replicate, List.set_cons_zero, List.set_cons_succ, decide_eq_true_eq, Bool.not_eq_true', decide_eq_false_iff_not, if_true, if_false, Bool.false_eq_true, Bool.true_eq_false, ite_true, ite_false, Bool.not_true, Bool.not_false, c_div, n_ten, c_pow, not_true_eq_false, not_false_eq_true, decide_true, decide_false, true_and, and_true, and_self, true_or, or_true, Int.reduceLT, Int.reduceLE, Int.reduceMul, Int.reduceAdd, Int.reduceSub, Int.reducePow, Int.reduceNeg, Int.reduceDiv, Int.reduceMod, Nat.reducePow, Int.reduceToNat, Int.reduceEq, Int.reduceNe, Nat.reduceLT, Nat.reduceLeDiff, Nat.reduceAdd, ↓x_whole, ↓x_kind, Int.natCast_one, Int.natCast_one, Int.natCast_one, Int.natCast_one, Int.natCast_one, Int.natCast_one, Int.natCast_one, Int.natCast_one, Int.natCast_one, Int.natCast_one, Int.natCast_one, Int.natCast_one, Int.natCast_one])
/-! ## the law's own cells -/
inductive TH where
  | non | num (n : Int) | cell (k : Nat)
def TH.is (H : Hp) : TH → V → Prop
  | .non, v => v = .non
  | .num n, v => ∃ a, v = .ref a ∧ H a = some (.tup [.str "number", .int n])
  | .cell k, v => ∃ a, v = .ref a ∧ H a = some (.tup [.str "cell", .int (k : Int)])
theorem TH.same {H H' : Hp} (s : Same H H') : ∀ {t : TH} {v : V}, t.is H v → t.is H' v
  | .non, _, h => h
  | .num _, _, ⟨a, e, g⟩ => ⟨a, e, s _ _ g⟩
  | .cell _, _, ⟨a, e, g⟩ => ⟨a, e, s _ _ g⟩
/-- the word of a thing -/
def TH.word (pl : List (Option Nat)) : TH → Int
  | .non => -1
  | .num n => 2 * n
  | .cell k => match pl.getD k none with
    | some p => 2 * (p : Int) + 1
    | none => -1
/-- things that may stand: numbers in their bounds, cells that are there -/
def TH.ok (pl : List (Option Nat)) : TH → Prop
  | .non => True
  | .num n => (n.natAbs : Int) ≤ 1000000000000
  | .cell k => ∃ p, pl[k]? = some (some p) ∧ p ≤ 9999
theorem TH.word_ok {pl : List (Option Nat)} {t : TH} (h : t.ok pl) : (wordOf (t.word pl)).isSome = true := by
  cases t with
  | non => rfl
  | num n => show (wordOf (2 * n)).isSome = true; rw [word_num h]; rfl
  | cell k =>
    obtain ⟨p, e, hp⟩ := h
    show (wordOf (match pl.getD k none with | some p => 2 * (p : Int) + 1 | none => -1)).isSome = true
    rw [List.getD_eq_getElem?_getD, e]
    show (wordOf (2 * (p : Int) + 1)).isSome = true
    rw [word_place (by omega) (by omega)]
    rfl
/-- a row of things -/
def THs (H : Hp) : List TH → List V → Prop
  | [], [] => True
  | t :: r, v :: s => t.is H v ∧ THs H r s
  | _, _ => False
theorem THs.same {H H' : Hp} (s : Same H H') : ∀ {ts : List TH} {vs : List V}, THs H ts vs → THs H' ts vs
  | [], [], _ => trivial
  | _ :: _, _ :: _, ⟨a, b⟩ => ⟨TH.same s a, THs.same s b⟩
  | [], _ :: _, h => h.elim
  | _ :: _, [], h => h.elim
theorem THs.len {H : Hp} : ∀ {ts : List TH} {vs : List V}, THs H ts vs → vs.length = ts.length
  | [], [], _ => rfl
  | _ :: _, _ :: _, ⟨_, b⟩ => congrArg (· + 1) (THs.len b)
  | [], _ :: _, h => h.elim
  | _ :: _, [], h => h.elim
theorem THs.get {H : Hp} : ∀ {ts : List TH} {vs : List V} {i : Nat} {v : V}, THs H ts vs → vs[i]? = some v → ∃ t, ts[i]? = some t ∧ t.is H v
  | t :: _, v :: _, 0, _, ⟨a, _⟩, e => by cases e; exact ⟨t, rfl, a⟩
  | _ :: _, _ :: _, i + 1, _, ⟨_, b⟩, e => THs.get (i := i) b e
  | [], [], _, _, _, e => by cases e
  | [], _ :: _, _, _, h, _ => h.elim
  | _ :: _, [], _, _, h, _ => h.elim
theorem THs.set {H : Hp} : ∀ {ts : List TH} {vs : List V} {i : Nat} {t : TH} {v : V}, THs H ts vs → t.is H v → THs H (ts.set i t) (vs.set i v)
  | _ :: _, _ :: _, 0, _, _, ⟨_, b⟩, h => ⟨h, b⟩
  | _ :: _, _ :: _, i + 1, _, _, ⟨a, b⟩, h => ⟨a, THs.set (i := i) b h⟩
  | [], [], _, _, _, _, _ => trivial
  | [], _ :: _, _, _, _, h, _ => h.elim
  | _ :: _, [], _, _, _, h, _ => h.elim
/-- places as told: None of what is gone -/
def plV : Option Nat → V
  | some p => .int (p : Int)
  | none => .non
def sp_word12 (K : PySem.W.Frag) : Sp := fun vs H Q _ => ∃ t v pa pl, vs = [v, .ref pa] ∧ TH.is H t v ∧ H pa = some (.lst (pl.map plV)) ∧ TH.ok pl t ∧ Q (.int (t.word pl)) H
section
variable {P : Program} {w : World} {K : PySem.W.Frag} {mg : Str → Option Value} {base : Heap}
theorem f__law_word (T : Tx K mg) : Fn P w K mg base 3 "_law_word" ["_law_thing_here", "_law_places"] (sp_word12 K) := by
  have c_number_word := f_number_word (P := P) (w := w) (base := base) T
  have c_place_word := f_place_word (P := P) (w := w) (base := base) T
  refine T.mkFn 75 46 (d := d__law_word) (N := ["_law_thing_here", "_law_places"]) (k := 2) rfl rfl rfl rfl rfl sc__law_word (fun _ _ _ _ _ _ us hl => match us, hl with | [_, _], _ => rfl) (fun vs H Q E h => ?len) (fun cdv A outer s H vs Q E hr h => ⟨_,
      (pss_cons (ps_if (pt_cmpR op_isN (pv 0) pe_non (nomark _)) (pss_one (ps_ret (pe_num (T.num 59) (by rfl)))) pss_nil)
        (pss_cons (ps_if (pt_cmpR (op_eqK (K := K) rfl hr.units) (pe_ix (ix_seqK (K := K) rfl) (pv 0) pe_int (fun _ _ => rfl)) pe_str (nomark _)) (pss_one (ps_ret (pe_fn (takes_of rfl rfl rfl rfl) c_number_word (hr.mono (by decide)) (by rfl) (pa_cons (pe_ix (ix_seqK (K := K) rfl) (pv 0) pe_int (fun _ _ => rfl)) pa_nil)))) pss_nil)
        (pss_one (ps_ret (pe_fn (takes_of rfl rfl rfl rfl) c_place_word (hr.mono (by decide)) (by rfl) (pa_cons (pe_ix (ix_seqK (K := K) rfl) (pv 1) (pe_ix (ix_seqK (K := K) rfl) (pv 0) pe_int (fun _ _ => rfl)) (fun _ _ => rfl)) pa_nil)))))), ?rd⟩)
  case len => first | exact len__law_word h | (repeat (first | (obtain ⟨rfl, _⟩ := h; rfl; done) | obtain ⟨_, h⟩ := h))
  case rd =>
    obtain ⟨t, v, pa, pl, rfl, ht, hp, ok, q⟩ := h
    have sz : 100000 ≤ sizeLine := by rw [sizeLine_eq]; omega
    cases t with
    | non =>
      cases ht
      walk_at "w3"
      exact q
    | num n =>
      obtain ⟨a, rfl, ha⟩ := ht
      walk_at "w3"
      rw [if_neg (by intro z; cases z)]
      refine r_ixT (i := 0) ha rfl ?_
      walk_at "w3"
      refine r_ixT (i := 1) ha rfl ?_
      have ok : (n.natAbs : Int) ≤ 1000000000000 := ok
      rw [x_number_word, if_pos ok]
      exact q
    | cell k =>
      obtain ⟨a, rfl, ha⟩ := ht
      walk_at "w3"
      rw [if_neg (by intro z; cases z)]
      refine r_ixT (i := 0) ha rfl ?_
      walk_at "w3"
      rw [if_neg (by decide +kernel)]
      refine r_ixT (i := 1) ha rfl ?_
      obtain ⟨p, ep, hpp⟩ := ok
      refine r_ixL hp (i := k) (v := .int (p : Int)) (by rw [List.getElem?_map, ep]; rfl) ?_
      rw [x_place_word, if_pos ⟨by omega, by omega⟩]
      have e : TH.word pl (.cell k) = 2 * (p : Int) + 1 := by
        show (match pl.getD k none with | some p => 2 * (p : Int) + 1 | none => -1) = _
        rw [List.getD_eq_getElem?_getD, ep]
        rfl
      rw [e] at q
      exact q
end
/-- bounds of a thing among so many cells -/
def TH.lt (m : Nat) : TH → Prop
  | .non => True
  | .num n => (n.natAbs : Int) ≤ 1000000000000
  | .cell k => k < m
def sp_thing12 (_ : PySem.W.Frag) : Sp := fun vs H Q _ => ∃ c, ∃ m : Nat, vs = [.int c, .int m] ∧ ∀ t v H', Same H H' → TH.is H' t v → TH.lt m t → Q v H'
section
variable {P : Program} {w : World} {K : PySem.W.Frag} {mg : Str → Option Value} {base : Heap}
theorem f__law_thing (T : Tx K mg) : Fn P w K mg base 1 "_law_thing" ["_law_cell", "_law_many"] (sp_thing12 K) := by
  refine T.mkFn 76 47 (d := d__law_thing) (N := ["_law_cell", "_law_many"]) (k := 0) rfl rfl rfl rfl rfl sc__law_thing (fun _ _ _ _ _ _ us hl => match us, hl with | [_, _], _ => rfl) (fun vs H Q E h => ?len) (fun cdv A outer s H vs Q E hr h => ⟨_,
      (pss_cons (ps_if (pt_cmpR (op_eqK (K := K) rfl hr.units) (pe_op op_mod (pv 0) pe_int) pe_int (nomark _)) (pss_one (ps_ret (pe_tup (pa_cons pe_str (pa_cons (pe_op op_sub (pe_op op_mod (pe_op op_fdiv (pv 0) pe_int) (pe_op op_gAdd (pe_op op_gMul pe_int (pe_op op_pow pe_int pe_int)) pe_int)) (pe_op op_pow pe_int pe_int)) pa_nil))))) pss_nil)
        (pss_cons (ps_if (PW.pt (pw_or (pt_cmpR (op_eqK (K := K) rfl hr.units) (pe_op op_mod (pv 0) pe_int) pe_int (nomark _)) (pw_or1 (pt_cmpR (op_eqK (K := K) rfl hr.units) (pv 1) pe_int (nomark _))))) (pss_one (ps_ret pe_non)) pss_nil)
        (pss_one (ps_ret (pe_tup (pa_cons pe_str (pa_cons (pe_op op_mod (pe_op op_fdiv (pv 0) pe_int) (pv 1)) pa_nil))))))), ?rd⟩)
  case len => first | exact len__law_thing h | (repeat (first | (obtain ⟨rfl, _⟩ := h; rfl; done) | obtain ⟨_, h⟩ := h))
  case rd =>
    obtain ⟨c, m, rfl, q⟩ := h
    have sz : 100000 ≤ sizeLine := by rw [sizeLine_eq]; omega
    walk_at "w3"
    split
    · refine ⟨by omega, fun p np => q (.num (c / 4 % 2000000000001 - 1000000000000)) _ _ (same_new np) ⟨p, rfl, upd_same⟩ ?_⟩
      show ((c / 4 % 2000000000001 - 1000000000000).natAbs : Int) ≤ 1000000000000
      omega
    · split
      · exact q .non _ _ (fun _ _ g => g) rfl trivial
      · split
        · exact q .non _ _ (fun _ _ g => g) rfl trivial
        · have m0 := Int.emod_nonneg (c / 4) (show (m : Int) ≠ 0 by omega)
          have m1 := Int.emod_lt_of_pos (c / 4) (show (0 : Int) < m by omega)
          obtain ⟨k, ek⟩ := Int.eq_ofNat_of_zero_le m0
          rw [ek]
          refine ⟨by omega, by omega, fun p np => q (.cell k) _ _ (same_new np) ⟨p, rfl, upd_same⟩ ?_⟩
          show k < m
          omega
end
/-! ## the law's own record -/
abbrev kd6 (a b c d e f : V) : List (Key × V) := [(.inr "areas", a), (.inr "roots", b), (.inr "places", c), (.inr "ages", d), (.inr "slots", e), (.inr "hands", f)]
abbrev kd5' (a b c d e : V) : List (Key × V) := [(.inr "areas", a), (.inr "roots", b), (.inr "places", c), (.inr "ages", d), (.inr "slots", e)]
theorem str_neY {x y : Str} (h : x ≠ y) : ¬ (.inr x : Key) = .inr y := fun z => h (Sum.inr.inj z)
section
variable {a b c d e f z : V}
theorem m_01 : ¬ (.inr "areas" : Key) = .inr "roots" := str_neY (by decide +kernel)
theorem m_02 : ¬ (.inr "areas" : Key) = .inr "places" := str_neY (by decide +kernel)
theorem m_03 : ¬ (.inr "areas" : Key) = .inr "ages" := str_neY (by decide +kernel)
theorem m_04 : ¬ (.inr "areas" : Key) = .inr "slots" := str_neY (by decide +kernel)
theorem m_05 : ¬ (.inr "areas" : Key) = .inr "hands" := str_neY (by decide +kernel)
theorem m_12 : ¬ (.inr "roots" : Key) = .inr "places" := str_neY (by decide +kernel)
theorem m_13 : ¬ (.inr "roots" : Key) = .inr "ages" := str_neY (by decide +kernel)
theorem m_14 : ¬ (.inr "roots" : Key) = .inr "slots" := str_neY (by decide +kernel)
theorem m_15 : ¬ (.inr "roots" : Key) = .inr "hands" := str_neY (by decide +kernel)
theorem m_23 : ¬ (.inr "places" : Key) = .inr "ages" := str_neY (by decide +kernel)
theorem m_24 : ¬ (.inr "places" : Key) = .inr "slots" := str_neY (by decide +kernel)
theorem m_25 : ¬ (.inr "places" : Key) = .inr "hands" := str_neY (by decide +kernel)
theorem m_34 : ¬ (.inr "ages" : Key) = .inr "slots" := str_neY (by decide +kernel)
theorem m_35 : ¬ (.inr "ages" : Key) = .inr "hands" := str_neY (by decide +kernel)
theorem m_45 : ¬ (.inr "slots" : Key) = .inr "hands" := str_neY (by decide +kernel)
theorem kd6_0 : valV (kd6 a b c d e f) (.inr "areas" : Key) = some a := valV_pos rfl
theorem kd6_1 : valV (kd6 a b c d e f) (.inr "roots" : Key) = some b := (valV_neg m_01).trans (valV_pos rfl)
theorem kd6_2 : valV (kd6 a b c d e f) (.inr "places" : Key) = some c := (valV_neg m_02).trans ((valV_neg m_12).trans (valV_pos rfl))
theorem kd6_3 : valV (kd6 a b c d e f) (.inr "ages" : Key) = some d := (valV_neg m_03).trans ((valV_neg m_13).trans ((valV_neg m_23).trans (valV_pos rfl)))
theorem kd6_4 : valV (kd6 a b c d e f) (.inr "slots" : Key) = some e := (valV_neg m_04).trans ((valV_neg m_14).trans ((valV_neg m_24).trans ((valV_neg m_34).trans (valV_pos rfl))))
theorem kd6_5 : valV (kd6 a b c d e f) (.inr "hands" : Key) = some f := (valV_neg m_05).trans ((valV_neg m_15).trans ((valV_neg m_25).trans ((valV_neg m_35).trans ((valV_neg m_45).trans (valV_pos rfl)))))
theorem kd5_0 : valV (kd5' a b c d e) (.inr "areas" : Key) = some a := valV_pos rfl
theorem kd5_1 : valV (kd5' a b c d e) (.inr "roots" : Key) = some b := (valV_neg m_01).trans (valV_pos rfl)
theorem kd5_2 : valV (kd5' a b c d e) (.inr "places" : Key) = some c := (valV_neg m_02).trans ((valV_neg m_12).trans (valV_pos rfl))
theorem kd5_3 : valV (kd5' a b c d e) (.inr "ages" : Key) = some d := (valV_neg m_03).trans ((valV_neg m_13).trans ((valV_neg m_23).trans (valV_pos rfl)))
theorem kd5_4 : valV (kd5' a b c d e) (.inr "slots" : Key) = some e := (valV_neg m_04).trans ((valV_neg m_14).trans ((valV_neg m_24).trans ((valV_neg m_34).trans (valV_pos rfl))))
theorem kd6_put : putK (kd5' a b c d e) (.inr "hands" : Key) f = kd6 a b c d e f := by
  simp [-Sum.inr.injEq, kd6, putK, m_05, m_15, m_25, m_35, m_45]
theorem merge5' : mergeK [] (kd5' a b c d e) = kd5' a b c d e := by
  simp [-Sum.inr.injEq, mergeK, putK, m_01, m_02, m_03, m_04, m_05, m_12, m_13, m_14, m_15, m_23, m_24, m_25, m_34, m_35, m_45]
end
structure W12 where
  (pa aa sa ha : Addr)
def W12.ls (w : W12) (rs : List Addr) : List Addr := w.pa :: w.aa :: w.sa :: w.ha :: rs
/-- the law's record, by its keys: places, ages, rows of things, hands -/
structure Lo12 (o : Addr) (A : ArA) (R : RoA) (H : Hp) (w : W12) (kv : List (Key × V)) (rs : List Addr) (pl : List (Option Nat)) (ag : List Nat) (sl : List (List TH)) (hs : List TH) : Prop where
  ks : H o = some (.dK kv)
  k0 : valV kv (.inr "areas" : Key) = some (.ref A.a)
  k1 : valV kv (.inr "roots" : Key) = some (.ref R.r)
  k2 : valV kv (.inr "places" : Key) = some (.ref w.pa)
  k3 : valV kv (.inr "ages" : Key) = some (.ref w.aa)
  k4 : valV kv (.inr "slots" : Key) = some (.ref w.sa)
  k5 : valV kv (.inr "hands" : Key) = some (.ref w.ha)
  pp : H w.pa = some (.lst (pl.map plV))
  ga : H w.aa = some (.lst (ag.map fun a : Nat => V.int (a : Int)))
  ss : H w.sa = some (.lst (rs.map V.ref))
  rw_ : ∀ (k : Nat) (r : Addr), rs[k]? = some r → ∃ ts vs, sl[k]? = some ts ∧ H r = some (.lst vs) ∧ THs H ts vs
  hh : ∃ vs, H w.ha = some (.lst vs) ∧ THs H hs vs
theorem TH.fr {H H' : Hp} (kt : ∀ c xs, H c = some (.tup xs) → H' c = some (.tup xs)) : ∀ {t : TH} {v : V}, t.is H v → t.is H' v
  | .non, _, h => h
  | .num _, _, ⟨a, e, g⟩ => ⟨a, e, kt _ _ g⟩
  | .cell _, _, ⟨a, e, g⟩ => ⟨a, e, kt _ _ g⟩
theorem THs.fr {H H' : Hp} (kt : ∀ c xs, H c = some (.tup xs) → H' c = some (.tup xs)) : ∀ {ts : List TH} {vs : List V}, THs H ts vs → THs H' ts vs
  | [], [], _ => trivial
  | _ :: _, _ :: _, ⟨a, b⟩ => ⟨TH.fr kt a, THs.fr kt b⟩
  | [], _ :: _, h => h.elim
  | _ :: _, [], h => h.elim
theorem THs.app {H : Hp} : ∀ {ts us : List TH} {vs ws : List V}, THs H ts vs → THs H us ws → THs H (ts ++ us) (vs ++ ws)
  | [], _, [], _, _, h => h
  | _ :: _, _, _ :: _, _, ⟨a, b⟩, h => ⟨a, THs.app b h⟩
  | [], _, _ :: _, _, h, _ => h.elim
  | _ :: _, _, [], _, h, _ => h.elim
theorem Lo12.fr {o A R H H' w kv rs pl ag sl hs} (L : Lo12 o A R H w kv rs pl ag sl hs) (k : ∀ b x, (b = o ∨ b ∈ w.ls rs) → H b = some x → H' b = some x) (kt : ∀ c xs, H c = some (.tup xs) → H' c = some (.tup xs)) : Lo12 o A R H' w kv rs pl ag sl hs :=
  { L with ks := k _ _ (.inl rfl) L.ks, pp := k _ _ (.inr List.mem_cons_self) L.pp, ga := k _ _ (.inr (List.mem_cons_of_mem _ List.mem_cons_self)) L.ga, ss := k _ _ (.inr (List.mem_cons_of_mem _ (List.mem_cons_of_mem _ List.mem_cons_self))) L.ss, rw_ := fun i r e => (L.rw_ i r e).elim fun ts z => z.elim fun vs z => ⟨ts, vs, z.1, k _ _ (.inr (List.mem_cons_of_mem _ (List.mem_cons_of_mem _ (List.mem_cons_of_mem _ (List.mem_cons_of_mem _ (List.mem_of_getElem? e)))))) z.2.1, z.2.2.fr kt⟩, hh := L.hh.elim fun vs z => ⟨vs, k _ _ (.inr (List.mem_cons_of_mem _ (List.mem_cons_of_mem _ (List.mem_cons_of_mem _ List.mem_cons_self)))) z.1, z.2.fr kt⟩ }
theorem Lo12.same {o A R H H' w kv rs pl ag sl hs} (L : Lo12 o A R H w kv rs pl ag sl hs) (s : Same H H') : Lo12 o A R H' w kv rs pl ag sl hs := L.fr (fun b x _ g => s b x g) fun c xs g => s _ _ g
theorem Lo12.lst {o A R H w kv rs pl ag sl hs} (L : Lo12 o A R H w kv rs pl ag sl hs) {b : Addr} (m : b ∈ w.ls rs) : ∃ xs, H b = some (.lst xs) := by
  rcases List.mem_cons.mp m with rfl | m
  · exact ⟨_, L.pp⟩
  rcases List.mem_cons.mp m with rfl | m
  · exact ⟨_, L.ga⟩
  rcases List.mem_cons.mp m with rfl | m
  · exact ⟨_, L.ss⟩
  rcases List.mem_cons.mp m with rfl | m
  · exact L.hh.elim fun vs z => ⟨_, z.1⟩
  · obtain ⟨k, e⟩ := List.getElem?_of_mem m
    obtain ⟨ts, vs, -, h, -⟩ := L.rw_ k b e
    exact ⟨_, h⟩
/-- record, areas and roots -/
structure I12 (K : PySem.W.Frag) (H : Hp) (o : Addr) (A : ArA) (R : RoA) (w : W12) (kv : List (Key × V)) (S : ArS) (U : RoS) (rs : List Addr) (pl : List (Option Nat)) (ag : List Nat) (sl : List (List TH)) (hs : List TH) : Prop where
  I : PairO K H A R S U
  L : Lo12 o A R H w kv rs pl ag sl hs
  nd : (w.ls rs).Nodup
  of : ∀ a ∈ w.ls rs, OffP A R a
  ob : o ≠ U.bd
section
variable {K : PySem.W.Frag} {H H' : Hp} {o : Addr} {A : ArA} {R : RoA} {w : W12} {kv : List (Key × V)} {S S' : ArS} {U U' : RoS} {rs : List Addr} {pl : List (Option Nat)} {ag : List Nat} {sl : List (List TH)} {hs : List TH}
theorem I12.same (J : I12 K H o A R w kv S U rs pl ag sl hs) (s : Same H H') : I12 K H' o A R w kv S U rs pl ag sl hs := { J with I := J.I.same s, L := J.L.same s }
/-- areas and roots change -/
theorem I12.pair (J : I12 K H o A R w kv S U rs pl ag sl hs) (I' : PairO K H' A R S' U') (eb : U'.bd = U.bd) (k : ∀ b x, b ≠ A.a → b ≠ A.l → b ≠ A.o → b ≠ A.p → b ≠ A.q → b ≠ R.hl → b ≠ R.wl → b ≠ R.d → b ≠ R.e → b ≠ U.bd → H b = some x → H' b = some x) : I12 K H' o A R w kv S' U' rs pl ag sl hs := by
  have lst : ∀ {c xs}, H c = some (.lst xs) → OffP A R c → H' c = some (.lst xs) := fun g of => k _ _ (ne_of g J.I.ar.ob (by intro z; cases z)) of.1 (ne_of g J.I.ar.so fun z => spv_lst z.symm) (ne_of g J.I.ar.sp fun z => spv_lst z.symm) (ne_of g J.I.ar.sq fun z => spv_lst z.symm) of.2.1 of.2.2.1 of.2.2.2.1 of.2.2.2.2 (ne_of g J.I.ro.bo.ds (by intro z; cases z)) g
  refine { J with I := I', ob := by rw [eb]; exact J.ob, L := J.L.fr (fun b x m g => ?_) fun c xs g => ?_ }
  · rcases m with rfl | m
    · have g := J.L.ks
      have f := k _ _ (ne_of g J.I.ar.ob (by intro z; cases z)) (ne_of g J.I.ar.me.ls (by intro z; cases z)) (ne_of g J.I.ar.so fun z => by cases z) (ne_of g J.I.ar.sp fun z => by cases z) (ne_of g J.I.ar.sq fun z => by cases z) (ne_of g J.I.ro.ho.ls (by intro z; cases z)) (ne_of g J.I.ro.wo.ls (by intro z; cases z)) (ne_of g J.I.ro.lo.wa (by intro z; cases z)) (ne_of g J.I.ro.lo.sk (by intro z; cases z)) J.ob g
      rename_i g0
      rw [g] at g0
      cases g0
      exact f
    · obtain ⟨xs, e⟩ := J.L.lst m
      rw [e] at g
      cases g
      exact lst e (J.of b m)
  · exact k _ _ (ne_of g J.I.ar.ob (by intro z; cases z)) (ne_of g J.I.ar.me.ls (by intro z; cases z)) (ne_of g J.I.ar.so fun z => by cases z) (ne_of g J.I.ar.sp fun z => by cases z) (ne_of g J.I.ar.sq fun z => by cases z) (ne_of g J.I.ro.ho.ls (by intro z; cases z)) (ne_of g J.I.ro.wo.ls (by intro z; cases z)) (ne_of g J.I.ro.lo.wa (by intro z; cases z)) (ne_of g J.I.ro.lo.sk (by intro z; cases z)) (ne_of g J.I.ro.bo.ds (by intro z; cases z)) g
/-- reading the record -/
theorem Lo12.get (L : Lo12 o A R H w kv rs pl ag sl hs) {k : Str} {v : V} (e : valV kv (.inr k : Key) = some v) : DGet H o (.str k) (some v) := by
  have := DGet.k (k := (.inr k : Key)) L.ks
  rw [e] at this
  exact this
/-- one list of the law's changes -/
theorem I12.put (J : I12 K H o A R w kv S U rs pl ag sl hs) {c : Addr} {xs : List V} (m : c ∈ w.ls rs) : PairO K (upd H c (.lst xs)) A R S U := by
  obtain ⟨ys, e⟩ := J.L.lst m
  exact J.I.off e (J.of c m)
theorem I12.keep (J : I12 K H o A R w kv S U rs pl ag sl hs) {c : Addr} {xs : List V} (m : c ∈ w.ls rs) : upd H c (.lst xs) o = some (.dK kv) ∧ ∀ t ys, H t = some (.tup ys) → upd H c (.lst xs) t = some (.tup ys) := by
  obtain ⟨ys, e⟩ := J.L.lst m
  exact ⟨(upd_ne (ne_of J.L.ks e (by intro z; cases z))).trans J.L.ks, fun t ys g => (upd_ne (ne_of g e (by intro z; cases z))).trans g⟩
theorem ls_nd {w : W12} {rs : List Addr} (h : (w.ls rs).Nodup) : w.pa ≠ w.aa ∧ w.pa ≠ w.sa ∧ w.pa ≠ w.ha ∧ (∀ r ∈ rs, w.pa ≠ r) ∧ w.aa ≠ w.sa ∧ w.aa ≠ w.ha ∧ (∀ r ∈ rs, w.aa ≠ r) ∧ w.sa ≠ w.ha ∧ (∀ r ∈ rs, w.sa ≠ r) ∧ (∀ r ∈ rs, w.ha ≠ r) ∧ rs.Nodup := by
  obtain ⟨h1, h⟩ := List.nodup_cons.mp h
  obtain ⟨h2, h⟩ := List.nodup_cons.mp h
  obtain ⟨h3, h⟩ := List.nodup_cons.mp h
  obtain ⟨h4, h⟩ := List.nodup_cons.mp h
  exact ⟨fun e => h1 (e ▸ List.mem_cons_self), fun e => h1 (e ▸ List.mem_cons_of_mem _ List.mem_cons_self), fun e => h1 (e ▸ List.mem_cons_of_mem _ (List.mem_cons_of_mem _ List.mem_cons_self)), fun r m e => h1 (e ▸ List.mem_cons_of_mem _ (List.mem_cons_of_mem _ (List.mem_cons_of_mem _ m))), fun e => h2 (e ▸ List.mem_cons_self), fun e => h2 (e ▸ List.mem_cons_of_mem _ List.mem_cons_self), fun r m e => h2 (e ▸ List.mem_cons_of_mem _ (List.mem_cons_of_mem _ m)), fun e => h3 (e ▸ List.mem_cons_self), fun r m e => h3 (e ▸ List.mem_cons_of_mem _ m), fun r m e => h4 (e ▸ m), h⟩
theorem ls_in {w : W12} {rs : List Addr} : w.pa ∈ w.ls rs ∧ w.aa ∈ w.ls rs ∧ w.sa ∈ w.ls rs ∧ w.ha ∈ w.ls rs ∧ ∀ r ∈ rs, r ∈ w.ls rs :=
  ⟨List.mem_cons_self, List.mem_cons_of_mem _ List.mem_cons_self, List.mem_cons_of_mem _ (List.mem_cons_of_mem _ List.mem_cons_self), List.mem_cons_of_mem _ (List.mem_cons_of_mem _ (List.mem_cons_of_mem _ List.mem_cons_self)), fun r m => List.mem_cons_of_mem _ (List.mem_cons_of_mem _ (List.mem_cons_of_mem _ (List.mem_cons_of_mem _ m)))⟩
theorem I12.pput (J : I12 K H o A R w kv S U rs pl ag sl hs) {pl' : List (Option Nat)} : I12 K (upd H w.pa (.lst (pl'.map plV))) o A R w kv S U rs pl' ag sl hs := by
  obtain ⟨n1, n2, n3, n4, n5, n6, n7, n8, n9, n10, n11⟩ := ls_nd J.nd
  obtain ⟨k1, k2⟩ := J.keep (xs := pl'.map plV) (ls_in (rs := rs)).1
  exact { J with I := J.put (ls_in (rs := rs)).1, L := { J.L with ks := k1, pp := upd_same, ga := (upd_ne n1.symm).trans J.L.ga, ss := (upd_ne n2.symm).trans J.L.ss, rw_ := fun i r e => (J.L.rw_ i r e).elim fun ts z => z.elim fun vs z => ⟨ts, vs, z.1, (upd_ne (n4 r (List.mem_of_getElem? e)).symm).trans z.2.1, z.2.2.fr k2⟩, hh := J.L.hh.elim fun vs z => ⟨vs, (upd_ne n3.symm).trans z.1, z.2.fr k2⟩ } }
theorem I12.aput (J : I12 K H o A R w kv S U rs pl ag sl hs) {ag' : List Nat} : I12 K (upd H w.aa (.lst (ag'.map fun a : Nat => V.int (a : Int)))) o A R w kv S U rs pl ag' sl hs := by
  obtain ⟨n1, n2, n3, n4, n5, n6, n7, n8, n9, n10, n11⟩ := ls_nd J.nd
  obtain ⟨k1, k2⟩ := J.keep (xs := ag'.map fun a : Nat => V.int (a : Int)) (ls_in (rs := rs)).2.1
  exact { J with I := J.put (ls_in (rs := rs)).2.1, L := { J.L with ks := k1, pp := (upd_ne n1).trans J.L.pp, ga := upd_same, ss := (upd_ne n5.symm).trans J.L.ss, rw_ := fun i r e => (J.L.rw_ i r e).elim fun ts z => z.elim fun vs z => ⟨ts, vs, z.1, (upd_ne (n7 r (List.mem_of_getElem? e)).symm).trans z.2.1, z.2.2.fr k2⟩, hh := J.L.hh.elim fun vs z => ⟨vs, (upd_ne n6.symm).trans z.1, z.2.fr k2⟩ } }
theorem I12.hput (J : I12 K H o A R w kv S U rs pl ag sl hs) {hs' : List TH} {vs : List V} (h : THs H hs' vs) : I12 K (upd H w.ha (.lst vs)) o A R w kv S U rs pl ag sl hs' := by
  obtain ⟨n1, n2, n3, n4, n5, n6, n7, n8, n9, n10, n11⟩ := ls_nd J.nd
  obtain ⟨k1, k2⟩ := J.keep (xs := vs) (ls_in (rs := rs)).2.2.2.1
  exact { J with I := J.put (ls_in (rs := rs)).2.2.2.1, L := { J.L with ks := k1, pp := (upd_ne n3).trans J.L.pp, ga := (upd_ne n6).trans J.L.ga, ss := (upd_ne n8).trans J.L.ss, rw_ := fun i r e => (J.L.rw_ i r e).elim fun ts z => z.elim fun vs z => ⟨ts, vs, z.1, (upd_ne (n10 r (List.mem_of_getElem? e)).symm).trans z.2.1, z.2.2.fr k2⟩, hh := ⟨vs, upd_same, h.fr k2⟩ } }
/-- one row changes -/
theorem I12.rput (J : I12 K H o A R w kv S U rs pl ag sl hs) {k : Nat} {r : Addr} {ts : List TH} {vs : List V} (e : rs[k]? = some r) (hk : k < sl.length) (h : THs H ts vs) : I12 K (upd H r (.lst vs)) o A R w kv S U rs pl ag (sl.set k ts) hs := by
  obtain ⟨n1, n2, n3, n4, n5, n6, n7, n8, n9, n10, n11⟩ := ls_nd J.nd
  have mr := List.mem_of_getElem? e
  obtain ⟨k1, k2⟩ := J.keep (xs := vs) ((ls_in (rs := rs)).2.2.2.2 r mr)
  refine { J with I := J.put ((ls_in (rs := rs)).2.2.2.2 r mr), L := { J.L with ks := k1, pp := (upd_ne (n4 r mr)).trans J.L.pp, ga := (upd_ne (n7 r mr)).trans J.L.ga, ss := (upd_ne (n9 r mr)).trans J.L.ss, rw_ := fun i r' e' => ?_, hh := J.L.hh.elim fun vs z => ⟨vs, (upd_ne (n10 r mr)).trans z.1, z.2.fr k2⟩ } }
  by_cases c : i = k
  · subst c
    rw [e] at e'
    cases e'
    exact ⟨ts, vs, by rw [List.getElem?_set_self hk], upd_same, h.fr k2⟩
  · obtain ⟨ts', vs', h1, h2, h3⟩ := J.L.rw_ i r' e'
    have : r' ≠ r := fun z => c (by
      subst z
      obtain ⟨hi, e1⟩ := List.getElem?_eq_some_iff.mp e'
      obtain ⟨hk, e2⟩ := List.getElem?_eq_some_iff.mp e
      exact (List.getElem_inj n11).mp (e1.trans e2.symm))
    exact ⟨ts', vs', by rw [List.getElem?_set_ne (fun z => c z.symm)]; exact h1, (upd_ne this).trans h2, h3.fr k2⟩
/-- a row more -/
theorem I12.sput (J : I12 K H o A R w kv S U rs pl ag sl hs) {r : Addr} {ts : List TH} {vs : List V} (hr : H r = some (.lst vs)) (h : THs H ts vs) (nr : r ∉ w.ls rs) (of : OffP A R r) (el : rs.length = sl.length) : I12 K (upd H w.sa (.lst ((rs ++ [r]).map V.ref))) o A R w kv S U (rs ++ [r]) pl ag (sl ++ [ts]) hs := by
  obtain ⟨n1, n2, n3, n4, n5, n6, n7, n8, n9, n10, n11⟩ := ls_nd J.nd
  obtain ⟨k1, k2⟩ := J.keep (xs := (rs ++ [r]).map V.ref) (ls_in (rs := rs)).2.2.1
  have ins := ls_in (w := w) (rs := rs)
  have rsa : r ≠ w.sa := fun e => nr (e ▸ ins.2.2.1)
  have els : w.ls (rs ++ [r]) = w.ls rs ++ [r] := rfl
  have of' : ∀ a ∈ w.ls (rs ++ [r]), OffP A R a := fun a ma => by
    rw [els] at ma
    rcases List.mem_append.mp ma with m | m
    · exact J.of a m
    · rw [List.mem_singleton.mp m]
      exact of
  have rw' : ∀ (i : Nat) (r' : Addr), (rs ++ [r])[i]? = some r' → ∃ ts' vs', (sl ++ [ts])[i]? = some ts' ∧ upd H w.sa (.lst ((rs ++ [r]).map V.ref)) r' = some (.lst vs') ∧ THs (upd H w.sa (.lst ((rs ++ [r]).map V.ref))) ts' vs' := fun i r' e' => by
    by_cases c : i < rs.length
    · rw [List.getElem?_append_left c] at e'
      obtain ⟨ts', vs', h1, h2, h3⟩ := J.L.rw_ i r' e'
      exact ⟨ts', vs', by rw [List.getElem?_append_left (by omega)]; exact h1, (upd_ne (n9 r' (List.mem_of_getElem? e')).symm).trans h2, h3.fr k2⟩
    · have hi := (List.getElem?_eq_some_iff.mp e').1
      rw [List.length_append, List.length_singleton] at hi
      have : i = rs.length := by omega
      subst this
      rw [List.getElem?_append_right (Nat.le_refl _), Nat.sub_self] at e'
      cases e'
      exact ⟨ts, vs, by rw [List.getElem?_append_right (by omega), el, Nat.sub_self]; rfl, (upd_ne rsa).trans hr, h.fr k2⟩
  exact { I := J.put ins.2.2.1, nd := by rw [els]; exact List.nodup_append.mpr ⟨J.nd, List.nodup_cons.mpr ⟨List.not_mem_nil, List.nodup_nil⟩, fun a ma b mb e => nr (List.mem_singleton.mp mb ▸ e ▸ ma)⟩, of := of', ob := J.ob, L := { J.L with ks := k1, pp := (upd_ne n2).trans J.L.pp, ga := (upd_ne n5).trans J.L.ga, ss := upd_same, rw_ := rw', hh := J.L.hh.elim fun vs z => ⟨vs, (upd_ne n8.symm).trans z.1, z.2.fr k2⟩ } }
end
/-- what else there is stays -/
def Kp12 (A : ArA) (R : RoA) (bd : Addr) (w : W12) (rs : List Addr) (H H' : Hp) : Prop := ∀ b x, b ≠ A.a → b ≠ A.l → b ≠ A.o → b ≠ A.p → b ≠ A.q → b ≠ R.hl → b ≠ R.wl → b ≠ R.d → b ≠ R.e → b ≠ bd → b ∉ w.ls rs → H b = some x → H' b = some x
section
variable {A : ArA} {R : RoA} {bd : Addr} {w : W12} {rs rs' : List Addr} {H H1 H2 : Hp}
theorem Kp12.refl : Kp12 A R bd w rs H H := fun _ _ _ _ _ _ _ _ _ _ _ _ _ g => g
theorem Kp12.of (s : Same H H1) : Kp12 A R bd w rs H H1 := fun _ _ _ _ _ _ _ _ _ _ _ _ _ g => s _ _ g
theorem Kp12.trans (k1 : Kp12 A R bd w rs H H1) (k2 : Kp12 A R bd w rs' H1 H2) (h : ∀ a ∈ rs', a ∈ rs ∨ H a = none) : Kp12 A R bd w rs H H2 := fun b x n1 n2 n3 n4 n5 n6 n7 n8 n9 n10 n11 g => k2 b x n1 n2 n3 n4 n5 n6 n7 n8 n9 n10 (fun m => n11 (by
  rcases List.mem_cons.mp m with rfl | m
  · exact List.mem_cons_self
  rcases List.mem_cons.mp m with rfl | m
  · exact (ls_in (w := w)).2.1
  rcases List.mem_cons.mp m with rfl | m
  · exact (ls_in (w := w)).2.2.1
  rcases List.mem_cons.mp m with rfl | m
  · exact (ls_in (w := w)).2.2.2.1
  rcases h b m with h | h
  · exact (ls_in (w := w)).2.2.2.2 b h
  · rw [g] at h
    cases h)) (k1 b x n1 n2 n3 n4 n5 n6 n7 n8 n9 n10 n11 g)
theorem Kp12.tr (k1 : Kp12 A R bd w rs H H1) (k2 : Kp12 A R bd w rs H1 H2) : Kp12 A R bd w rs H H2 := k1.trans k2 fun _ m => .inl m
end

local macro_rules | `(tactic| walk_at "w3") => `(tactic| try simp only [↓x_var0, ↓x_varS, ↓x_c, ↓x_op, ↓x_un, ↓x_cb, ↓x_nil, ↓x_cons, ↓x_test, ↓x_b, ↓x_ex, ↓x_and, ↓x_or, ↓x_not, ↓x_andV, ↓x_orV, ↓x_notV, ↓x_tif, ↓x_chain, ↓x_menu, ↓x_menuI, ↓x_lst, ↓x_tup, ↓x_dnew, ↓x_callW, ↓x_callN, ↓x_seq, ↓x_next, ↓x_ret, ↓x_retN, ↓x_drop, ↓x_ifS, ↓x_asg, ↓x_name, ↓x_raise, ↓x_fld, ↓x_setF, ↓x_meth, ↓x_make, ↓x_sub, ↓r_min, ↓r_max, ↓x_yes, ↓x_for, ↓x_lock, ↓x_keys, ↓x_cut, ↓x_lc, ↓x_rng1, ↓x_rng2, ↓x_lst1, ↓x_itup, ↓x_rng3, ↓x_three, ↓x_lstg, ↓x_tupg, ↓x_adrS, ↓x_one, ↓x_two, ↓x_adr, ↓x_sl, ↓x_np, ↓x_pt, ↓x_int, ↓x_bm, ↓x_bm0, ↓x_consg, ↓x_nilg, ↓x_dget2, ↓x_dget1, ↓x_dgetN, ↓x_dget, ↓x_din, ↓x_dni, ↓x_dput, ↓x_dpop2, ↓r_isB, ↓r_notB, ↓x_enum, ↓x_zip, ↓x_str, ↓x_strE, ↓r_inS, ↓r_ninS, wipe, List.map_cons, List.map_nil, ↓x_isT, ↓r_isiII, ↓r_isiBB, ↓r_isiIB, ↓r_isiSS, ↓r_neNS, ↓r_neSN, ↓r_neNN, ↓r_eqNS, ↓r_eqSN, ↓r_eqNN, ↓r_eqIS, ↓r_neIS, ↓r_neSI, ↓r_neBS, ↓r_eqBB, ↓r_neBB, ↓x_start, ↓x_K, ↓x_start0, ↓r_i0, ↓r_i, ↓r_u, ↓r_addI, ↓r_addS, ↓r_mulI, ↓r_mulS, ↓r_eqI, ↓r_neI, ↓r_eqS, ↓r_neS, ↓r_absI, ↓r_intI, ↓r_intB, List.length_cons, List.length_nil, List.replicate, List.set_cons_zero, List.set_cons_succ, decide_eq_true_eq, Bool.not_eq_true', decide_eq_false_iff_not, if_true, if_false, Bool.false_eq_true, Bool.true_eq_false, ite_true, ite_false, Bool.not_true, Bool.not_false, c_div, n_ten, c_pow, not_true_eq_false, not_false_eq_true, decide_true, decide_false, true_and, and_true, and_self, true_or, or_true, Int.reduceLT, Int.reduceLE, Int.reduceMul, Int.reduceAdd, Int.reduceSub, Int.reducePow, Int.reduceNeg, Int.reduceDiv, Int.reduceMod, Nat.reducePow, Int.reduceToNat, Int.reduceEq, Int.reduceNe, Nat.reduceLT, Nat.reduceLeDiff, Nat.reduceAdd, ↓x_whole, ↓x_kind, Int.natCast_one, Int.natCast_one, Int.natCast_one, Int.natCast_one, Int.natCast_one, Int.natCast_one, Int.natCast_one, Int.natCast_one, Int.natCast_one, Int.natCast_one, Int.natCast_one, Int.natCast_one, Int.natCast_one, Int.natCast_one])
/-! ## lists changed at some places -/
def upX {α : Type} (X : List Int) (g : Nat → α) (l : List α) : List α := l.mapIdx fun j o => if (j : Int) ∈ X then g j else o
theorem upX_len {α : Type} {X : List Int} {g : Nat → α} {l : List α} : (upX X g l).length = l.length := List.length_mapIdx
theorem upX_at {α : Type} {X : List Int} {g : Nat → α} {l : List α} {j : Nat} : (upX X g l)[j]? = (l[j]?).map fun o => if (j : Int) ∈ X then g j else o := List.getElem?_mapIdx
theorem upX_nil {α : Type} {g : Nat → α} {l : List α} : upX [] g l = l := by
  refine List.ext_getElem? fun j => ?_
  rw [upX_at]
  cases l[j]? with
  | none => rfl
  | some o => exact congrArg some (if_neg List.not_mem_nil)
theorem upX_snoc {α : Type} {X : List Int} {g : Nat → α} {l : List α} {k : Nat} : (upX X g l).set k (g k) = upX (X ++ [(k : Int)]) g l := by
  refine List.ext_getElem? fun j => ?_
  rw [List.getElem?_set, upX_len, upX_at, upX_at]
  by_cases e : k = j
  · subst e
    rw [if_pos rfl]
    by_cases h : k < l.length
    · rw [if_pos h, List.getElem?_eq_getElem h]
      exact congrArg some (if_pos (List.mem_append_right _ (List.mem_singleton.mpr rfl))).symm
    · rw [if_neg h, List.getElem?_eq_none (by omega)]
      rfl
  · rw [if_neg e]
    cases l[j]? with
    | none => rfl
    | some o =>
      have hh : (j : Int) ∈ X ++ [(k : Int)] ↔ (j : Int) ∈ X := by
        rw [List.mem_append, List.mem_singleton]
        exact ⟨fun z => z.elim id fun z => absurd (Int.ofNat.inj z).symm e, .inl⟩
      by_cases h : (j : Int) ∈ X
      · exact congrArg some ((if_pos h).trans (if_pos (hh.mpr h)).symm)
      · exact congrArg some ((if_neg h).trans (if_neg fun z => h (hh.mp z)).symm)
theorem upX_in {α : Type} {X : List Int} {g : Nat → α} {l : List α} {j : Nat} {o : α} (h : l[j]? = some o) (m : (j : Int) ∈ X) : (upX X g l)[j]? = some (g j) := by
  rw [upX_at, h]
  exact congrArg some (if_pos m)
theorem upX_out {α : Type} {X : List Int} {g : Nat → α} {l : List α} {j : Nat} (m : ¬ (j : Int) ∈ X) : (upX X g l)[j]? = l[j]? := by
  rw [upX_at]
  cases l[j]? with
  | none => rfl
  | some o => exact congrArg some (if_neg m)
/-! ## going over numbers, going over places -/
theorem addN_map {f : Int → Int} {U : List Int} (inj : ∀ x ∈ U, ∀ y ∈ U, f x = f y → x = y) : ∀ {xs a : List Int}, (∀ x ∈ xs, x ∈ U) → (∀ x ∈ a, x ∈ U) → (addN a xs).map f = addN (a.map f) (xs.map f)
  | [], _, _, _ => rfl
  | x :: r, a, h1, h2 => by
    show (addN a (x :: r)).map f = addN (a.map f) (f x :: r.map f)
    rw [addN_cons, addN_cons]
    have hx := h1 x List.mem_cons_self
    by_cases c : x ∈ a
    · rw [if_pos c, if_pos (List.mem_map.mpr ⟨x, c, rfl⟩)]
      exact addN_map inj (fun y m => h1 y (List.mem_cons_of_mem _ m)) h2
    · rw [if_neg c, if_neg fun m => let ⟨y, my, e⟩ := List.mem_map.mp m; c ((inj _ (h2 y my) _ hx e) ▸ my), addN_map inj (fun y m => h1 y (List.mem_cons_of_mem _ m)) fun y m => (List.mem_append.mp m).elim (h2 y) fun z => List.mem_singleton.mp z ▸ hx, List.map_append]
      rfl
theorem reach_map {f : Int → Int} {kids kidsP : Int → List Int} {U : List Int} (inj : ∀ x ∈ U, ∀ y ∈ U, f x = f y → x = y) (hk : ∀ x ∈ U, ∀ y ∈ kids x, y ∈ U) (hm : ∀ x ∈ U, kidsP (f x) = (kids x).map f) : ∀ {k : Nat} {F : List Int} {t : Nat}, (∀ x ∈ F, x ∈ U) → (reachR kids k F t).map f = reachR kidsP k (F.map f) t
  | 0, _, _, _ => rfl
  | k + 1, F, t, h => by
    by_cases c : t < F.length
    · rw [reachR_step c, reachR_step (by rwa [List.length_map])]
      have ht : F.getD t 0 ∈ U := h _ (List.mem_of_getElem? (getD_at (d := 0) c))
      have e : (F.map f).getD t 0 = f (F.getD t 0) := by
        rw [List.getD_eq_getElem?_getD, List.getD_eq_getElem?_getD, List.getElem?_map, List.getElem?_eq_getElem c]
        rfl
      rw [e, hm _ ht, ← addN_map inj (hk _ ht) h]
      exact reach_map inj hk hm fun x m => (addN_mem m).elim (h x) (hk _ ht x)
    · rw [reachR_end (by omega), reachR_end (by rw [List.length_map]; omega)]
/-- rising lists: what is left out gives nothing -/
theorem flat_sub {g : Int → List Int} : ∀ {A B : List Int}, A.Pairwise (· < ·) → B.Pairwise (· < ·) → (∀ x ∈ B, x ∈ A) → (∀ x ∈ A, x ∉ B → g x = []) → A.flatMap g = B.flatMap g
  | [], [], _, _, _, _ => rfl
  | [], b :: _, _, _, s, _ => (List.not_mem_nil (s b List.mem_cons_self)).elim
  | a :: A, B, hA, hB, s, em => by
    obtain ⟨a1, a2⟩ := List.pairwise_cons.mp hA
    by_cases c : a ∈ B
    · cases B with
      | nil => exact (List.not_mem_nil c).elim
      | cons b B =>
        obtain ⟨b1, b2⟩ := List.pairwise_cons.mp hB
        have e : b = a := by
          rcases List.mem_cons.mp (s b List.mem_cons_self) with h | h
          · exact h
          · rcases List.mem_cons.mp c with h2 | h2
            · exact h2.symm
            · have h3 := a1 b h
              have h4 := b1 a h2
              omega
        subst e
        rw [List.flatMap_cons, List.flatMap_cons, flat_sub a2 b2 (fun x m => ?_) fun x m n => em x (List.mem_cons_of_mem _ m) fun z => ?_]
        · rcases List.mem_cons.mp (s x (List.mem_cons_of_mem _ m)) with h | h
          · have := b1 x m
            omega
          · exact h
        · rcases List.mem_cons.mp z with h | h
          · have := a1 x m
            omega
          · exact n h
    · rw [List.flatMap_cons, em a List.mem_cons_self c, List.nil_append]
      refine flat_sub a2 hB (fun x m => ?_) fun x m n => em x (List.mem_cons_of_mem _ m) n
      rcases List.mem_cons.mp (s x m) with h | h
      · rw [h] at m
        exact absurd m c
      · exact h
/-! ## the law's rows and the cells that are there -/
structure Law12 (S : ArS) (C : List CeL) (bs : List Int) (rs : List Addr) (pl : List (Option Nat)) (ag : List Nat) (sl : List (List TH)) : Prop where
  y : Y0 S C
  b : BkY S C bs
  l1 : pl.length = ag.length
  l2 : sl.length = ag.length
  l3 : rs.length = ag.length
  nd : rs.Nodup
  up : ∀ (k p : Nat) (r : Addr) (ts : List TH), pl[k]? = some (some p) → rs[k]? = some r → sl[k]? = some ts → (⟨p, r, ts.map (TH.word pl)⟩ : CeL) ∈ C
  dn : ∀ c ∈ C, ∃ k : Nat, ∃ ts : List TH, pl[k]? = some (some c.p) ∧ rs[k]? = some c.r ∧ sl[k]? = some ts ∧ c.ws = ts.map (TH.word pl)
  ag_ : ∀ k p a : Nat, pl[k]? = some (some p) → ag[k]? = some a → agO S p = a ∧ a ≤ 2 ∧ (Yng S p ↔ a < 2)
  gn : ∀ k a : Nat, pl[k]? = some none → ag[k]? = some a → a < 2
  th : ∀ (k p : Nat) (ts : List TH), pl[k]? = some (some p) → sl[k]? = some ts → ∀ t ∈ ts, TH.ok pl t
  s8 : ∀ ts ∈ sl, ts.length ≤ 8
  cv : ∃ ps, Cov S.ws 0 ps S.ot ∧ ∀ p ∈ ps, ∃ c ∈ C, ¬ Yng S c.p ∧ p = (c.p : Int)
def yk1T (ag : List Nat) : TH → List Int
  | .cell k => if ag.getD k 0 < 2 then [(k : Int)] else []
  | _ => []
def ykT (ag : List Nat) (ts : List TH) : List Int := ts.flatMap (yk1T ag)
/-- the place of a cell by its number -/
def fP (pl : List (Option Nat)) (k : Int) : Int := match pl.getD k.toNat none with
  | some p => (p : Int)
  | none => -1
theorem fP_some {pl : List (Option Nat)} {k p : Nat} (h : pl[k]? = some (some p)) : fP pl (k : Int) = (p : Int) := by
  unfold fP
  rw [Int.toNat_natCast, List.getD_eq_getElem?_getD, h]
  rfl
/-- young cells that are there, by numbers -/
def UY (pl : List (Option Nat)) (ag : List Nat) : List Int := ((List.range ag.length).filter fun k => decide (ag.getD k 0 < 2) && (pl.getD k none).isSome).map fun k : Nat => (k : Int)
theorem UY_mem {pl : List (Option Nat)} {ag : List Nat} {x : Int} : x ∈ UY pl ag ↔ ∃ k a p : Nat, x = (k : Int) ∧ ag[k]? = some a ∧ a < 2 ∧ pl[k]? = some (some p) := by
  unfold UY
  rw [List.mem_map]
  constructor
  · rintro ⟨k, m, rfl⟩
    obtain ⟨h1, h2⟩ := List.mem_filter.mp m
    have hk := List.mem_range.mp h1
    rw [Bool.and_eq_true, decide_eq_true_iff] at h2
    obtain ⟨p, ep⟩ := Option.isSome_iff_exists.mp h2.2
    refine ⟨k, ag.getD k 0, p, rfl, getD_at (d := 0) hk, h2.1, ?_⟩
    rw [List.getD_eq_getElem?_getD] at ep
    cases e : pl[k]? with
    | none => rw [e] at ep; cases ep
    | some o => rw [e] at ep; exact congrArg some ep
  · rintro ⟨k, a, p, rfl, h1, h2, h3⟩
    refine ⟨k, List.mem_filter.mpr ⟨List.mem_range.mpr (List.getElem?_eq_some_iff.mp h1).1, ?_⟩, rfl⟩
    rw [Bool.and_eq_true, decide_eq_true_iff, List.getD_eq_getElem?_getD, List.getD_eq_getElem?_getD, h1, h3]
    exact ⟨h2, rfl⟩
section
variable {S : ArS} {C : List CeL} {bs : List Int} {rs : List Addr} {pl : List (Option Nat)} {ag : List Nat} {sl : List (List TH)}
theorem Law12.row (L : Law12 S C bs rs pl ag sl) {k p : Nat} (h : pl[k]? = some (some p)) : ∃ a r ts, ag[k]? = some a ∧ rs[k]? = some r ∧ sl[k]? = some ts := by
  have hk := (List.getElem?_eq_some_iff.mp h).1
  have := L.l1
  have := L.l2
  have := L.l3
  exact ⟨_, _, _, List.getElem?_eq_getElem (by omega), List.getElem?_eq_getElem (by omega), List.getElem?_eq_getElem (by omega)⟩
theorem Law12.cell (L : Law12 S C bs rs pl ag sl) {k p : Nat} (h : pl[k]? = some (some p)) : ∃ r ts, rs[k]? = some r ∧ sl[k]? = some ts ∧ (⟨p, r, ts.map (TH.word pl)⟩ : CeL) ∈ C := by
  obtain ⟨a, r, ts, -, h2, h3⟩ := L.row h
  exact ⟨r, ts, h2, h3, L.up k p r ts h h2 h3⟩
theorem Law12.inj (L : Law12 S C bs rs pl ag sl) {k j p : Nat} (h : pl[k]? = some (some p)) (h' : pl[j]? = some (some p)) : k = j := by
  obtain ⟨r, ts, r1, -, m1⟩ := L.cell h
  obtain ⟨r', ts', r2, -, m2⟩ := L.cell h'
  have e := congrArg CeL.r (L.y.cp.same_p m1 m2 rfl)
  have e : r = r' := e
  obtain ⟨hk, e1⟩ := List.getElem?_eq_some_iff.mp r1
  obtain ⟨hj, e2⟩ := List.getElem?_eq_some_iff.mp r2
  exact (List.getElem_inj L.nd).mp (e1.trans (e.trans e2.symm))
theorem Law12.p9 (L : Law12 S C bs rs pl ag sl) {k p : Nat} (h : pl[k]? = some (some p)) : p ≤ 9999 ∧ p < S.ws.length := by
  obtain ⟨r, ts, -, -, m⟩ := L.cell h
  have h1 := L.y.cp.lt L.y.ln L.y.lo L.y.lb.2 _ m
  have h1 : p + (ts.map (TH.word pl)).length < S.ws.length := h1
  have := L.y.ln
  have := L.y.sz
  omega
theorem Law12.inU (L : Law12 S C bs rs pl ag sl) : ∀ x ∈ UY pl ag, ∀ y ∈ UY pl ag, fP pl x = fP pl y → x = y := by
  intro x mx y my e
  obtain ⟨k, a, p, rfl, h1, h2, h3⟩ := UY_mem.mp mx
  obtain ⟨j, b, q, rfl, g1, g2, g3⟩ := UY_mem.mp my
  rw [fP_some h3, fP_some g3] at e
  have : p = q := by omega
  subst this
  rw [L.inj h3 g3]
theorem word_cell {pl : List (Option Nat)} {k p : Nat} (h : pl[k]? = some (some p)) : TH.word pl (.cell k) = 2 * (p : Int) + 1 := by
  show (match pl.getD k none with | some p => 2 * (p : Int) + 1 | none => -1) = _
  rw [List.getD_eq_getElem?_getD, h]
  rfl
theorem placeIn_num {n : Int} : placeIn (2 * n) = none := if_neg (by omega)
theorem placeIn_non : placeIn (-1) = none := if_neg (by omega)
theorem Law12.yk1_ (L : Law12 S C bs rs pl ag sl) {t : TH} (ok : TH.ok pl t) : yk1 S (TH.word pl t) = (yk1T ag t).map (fP pl) := by
  cases t with
  | non => exact yk1_n fun p e => by rw [show TH.word pl .non = -1 from rfl, placeIn_non] at e; cases e
  | num n => exact yk1_n fun p e => by rw [show TH.word pl (.num n) = 2 * n from rfl, placeIn_num] at e; cases e
  | cell k =>
    obtain ⟨p, ep, -⟩ := ok
    obtain ⟨a, r, ts, ea, -, -⟩ := L.row ep
    obtain ⟨h1, h2, h3⟩ := L.ag_ k p a ep ea
    rw [word_cell ep]
    have e1 : placeIn (2 * (p : Int) + 1) = some (p : Int) := placeIn_of (by omega)
    show _ = List.map (fP pl) (if ag.getD k 0 < 2 then [(k : Int)] else [])
    rw [List.getD_eq_getElem?_getD, ea]
    show _ = List.map (fP pl) (if a < 2 then [(k : Int)] else [])
    by_cases c : a < 2
    · rw [if_pos c, yk1_y e1 (h3.mpr c), List.map_cons, fP_some ep]
      rfl
    · rw [if_neg c, yk1_n fun q eq y => c (h3.mp (by rw [e1] at eq; cases eq; exact y))]
      rfl
theorem Law12.ykT_ (L : Law12 S C bs rs pl ag sl) {ts : List TH} (ok : ∀ t ∈ ts, TH.ok pl t) : ykL S (ts.map (TH.word pl)) = (ykT ag ts).map (fP pl) := by
  induction ts with
  | nil => rfl
  | cons t r ih =>
    show yk1 S (TH.word pl t) ++ ykL S (r.map (TH.word pl)) = (yk1T ag t ++ ykT ag r).map (fP pl)
    rw [ih fun t m => ok t (List.mem_cons_of_mem _ m), L.yk1_ (ok t List.mem_cons_self), List.map_append]
theorem Law12.yin (L : Law12 S C bs rs pl ag sl) {ts : List TH} (ok : ∀ t ∈ ts, TH.ok pl t) : ∀ x ∈ ykT ag ts, x ∈ UY pl ag := by
  intro x m
  obtain ⟨t, mt, mx⟩ := List.mem_flatMap.mp m
  have ok := ok t mt
  cases t with
  | non => exact (List.not_mem_nil mx).elim
  | num n => exact (List.not_mem_nil mx).elim
  | cell k =>
    obtain ⟨p, ep, -⟩ := ok
    obtain ⟨a, r, ts, ea, -, -⟩ := L.row ep
    have mx : x ∈ if ag.getD k 0 < 2 then [(k : Int)] else [] := mx
    rw [List.getD_eq_getElem?_getD, ea] at mx
    have mx : x ∈ if a < 2 then [(k : Int)] else [] := mx
    split at mx
    · rw [List.mem_singleton.mp mx]
      exact UY_mem.mpr ⟨k, a, p, rfl, ea, by assumption, ep⟩
    · exact (List.not_mem_nil mx).elim
/-- young ones in the slots of a cell, by numbers -/
def kT (ag : List Nat) (sl : List (List TH)) (k : Int) : List Int := ykT ag (sl.getD k.toNat [])
theorem kT_at {k : Nat} {ts : List TH} (h : sl[k]? = some ts) : kT ag sl (k : Int) = ykT ag ts := by
  unfold kT
  rw [Int.toNat_natCast, List.getD_eq_getElem?_getD, h]
  rfl
theorem Law12.kin (L : Law12 S C bs rs pl ag sl) : ∀ x ∈ UY pl ag, ∀ y ∈ kT ag sl x, y ∈ UY pl ag := by
  intro x mx y my
  obtain ⟨k, a, p, rfl, h1, h2, h3⟩ := UY_mem.mp mx
  obtain ⟨r, ts, -, h5, m⟩ := L.cell h3
  rw [kT_at h5] at my
  exact L.yin (L.th k p ts h3 h5) y my
theorem Law12.kmap (L : Law12 S C bs rs pl ag sl) : ∀ x ∈ UY pl ag, kY S C (fP pl x) = (kT ag sl x).map (fP pl) := by
  intro x mx
  obtain ⟨k, a, p, rfl, h1, h2, h3⟩ := UY_mem.mp mx
  obtain ⟨r, ts, -, h5, m⟩ := L.cell h3
  rw [kT_at h5, fP_some h3]
  exact (kY_mem L.y.cp m).trans (L.ykT_ (L.th k p ts h3 h5))
/-- the law's order, from these things on -/
def ordT (ag : List Nat) (sl : List (List TH)) (n : Nat) (st : List TH) : List Int := reachR (kT ag sl) (n + 1) (addN [] (ykT ag st)) 0
/-- all slots of old ones, by numbers in order of places -/
def allS (pl : List (Option Nat)) (sl : List (List TH)) (ko : List Nat) : List Int := ko.flatMap fun k => (List.range (sl.getD k []).length).map fun j : Nat => fP pl (k : Int) + 1 + (j : Int)
def oldT (sl : List (List TH)) (ko : List Nat) : List TH := ko.flatMap fun k => sl.getD k []
theorem Law12.olds (L : Law12 S C bs rs pl ag sl) {ko : List Nat} (hk : ∀ k ∈ ko, ∃ p, pl[k]? = some (some p)) : (allS pl sl ko).flatMap (fun u => yk1 S (S.ws.getD u.toNat 0)) = (ykT ag (oldT sl ko)).map (fP pl) ∧ ∀ t ∈ oldT sl ko, TH.ok pl t := by
  induction ko with
  | nil => exact ⟨rfl, fun t m => (List.not_mem_nil m).elim⟩
  | cons k r ih =>
    obtain ⟨i1, i2⟩ := ih fun k m => hk k (List.mem_cons_of_mem _ m)
    obtain ⟨p, ep⟩ := hk k List.mem_cons_self
    obtain ⟨ra, ts, -, h5, m⟩ := L.cell ep
    have e : sl.getD k [] = ts := by rw [List.getD_eq_getElem?_getD, h5]; rfl
    have ok := L.th k p ts ep h5
    refine ⟨?_, fun t mt => ?_⟩
    · show ((List.range (sl.getD k []).length).map (fun j : Nat => fP pl (k : Int) + 1 + (j : Int)) ++ allS pl sl r).flatMap _ = (ykT ag (sl.getD k [] ++ oldT sl r)).map (fP pl)
      rw [List.flatMap_append, i1, e]
      unfold ykT
      rw [List.flatMap_append, List.map_append]
      congr 1
      have h := L.ykT_ ok
      unfold ykT at h
      rw [← h]
      unfold ykL
      have h2 : (List.range ts.length).map (fun j : Nat => S.ws.getD (fP pl (k : Int) + 1 + (j : Int)).toNat 0) = ts.map (TH.word pl) := by
        refine List.ext_getElem (by rw [List.length_map, List.length_map, List.length_range]) fun j a b => ?_
        rw [List.length_map, List.length_range] at a
        rw [List.getElem_map, List.getElem_map, List.getElem_range, fP_some ep]
        have h3 := L.y.cp.sl _ m j (by show j < (ts.map (TH.word pl)).length; rwa [List.length_map])
        have h3 : S.ws.getD (p + 1 + j) 0 = (ts.map (TH.word pl)).getD j 0 := h3
        rw [show ((p : Int) + 1 + (j : Int)).toNat = p + 1 + j from by omega, h3, List.getD_eq_getElem?_getD, List.getElem?_map, List.getElem?_eq_getElem a]
        rfl
      rw [← h2, List.flatMap_map, List.flatMap_map]
    · rcases List.mem_append.mp (show t ∈ sl.getD k [] ++ oldT sl r from mt) with h | h
      · rw [e] at h
        exact ok t h
      · exact i2 t h
end
section
variable {S : ArS} {C : List CeL} {bs : List Int} {rs : List Addr} {pl : List (Option Nat)} {ag : List Nat} {sl : List (List TH)}
/-- the cells' own order: the law's order by places -/
theorem Law12.ord (L : Law12 S C bs rs pl ag sl) {ko : List Nat} {hs : List TH} {ns : List Int} (okh : ∀ t ∈ hs, TH.ok pl t) (k1 : ∀ k : Nat, k ∈ ko ↔ ∃ a, ag[k]? = some a ∧ ¬ a < 2) (k2 : ko.Pairwise fun a b : Nat => fP pl (a : Int) < fP pl (b : Int)) (nb : bs.Nodup) (pm : ns.Perm bs) (so : ns.Pairwise (· ≤ ·)) :
    (ordT ag sl C.length (hs ++ oldT sl ko)).map (fP pl) = ordY S C (hs.map (TH.word pl)) ns ∧ (∀ x ∈ ordT ag sl C.length (hs ++ oldT sl ko), x ∈ UY pl ag) ∧ (ordT ag sl C.length (hs ++ oldT sl ko)).Nodup := by
  have hk : ∀ k ∈ ko, ∃ p, pl[k]? = some (some p) := fun k m => by
    obtain ⟨a, ea, na⟩ := (k1 k).mp m
    have hl := (List.getElem?_eq_some_iff.mp ea).1
    have := L.l1
    have e := List.getElem?_eq_getElem (l := pl) (i := k) (by omega)
    cases e2 : pl[k]'(by omega) with
    | none =>
      rw [e2] at e
      exact absurd (L.gn k a e ea) na
    | some p =>
      rw [e2] at e
      exact ⟨p, e⟩
  obtain ⟨o1, o2⟩ := L.olds hk
  have ok : ∀ t ∈ hs ++ oldT sl ko, TH.ok pl t := fun t m => (List.mem_append.mp m).elim (okh t) (o2 t)
  have inF : ∀ x ∈ addN [] (ykT ag (hs ++ oldT sl ko)), x ∈ UY pl ag := fun x m => (addN_mem m).elim (fun z => (List.not_mem_nil z).elim) (L.yin ok x)
  refine ⟨?_, reach_in L.kin inF, reach_nd (addN_nd List.nodup_nil)⟩
  unfold ordT ordY
  rw [reach_map L.inU L.kin L.kmap inF, addN_map L.inU (L.yin ok) (fun x m => (List.not_mem_nil m).elim)]
  congr 2
  unfold ykT
  rw [List.flatMap_append, List.map_append]
  have h1 := L.ykT_ okh
  unfold ykT at h1 o1
  rw [← h1, ← o1]
  congr 1
  have e2 : ykL S (wAt S ns) = ns.flatMap fun u => yk1 S (S.ws.getD u.toNat 0) := by
    unfold ykL wAt
    rw [List.flatMap_map]
  rw [e2]
  have slot : ∀ {x : Int}, x ∈ allS pl sl ko → ∃ k p r ts j, k ∈ ko ∧ pl[k]? = some (some p) ∧ rs[k]? = some r ∧ sl[k]? = some ts ∧ j < ts.length ∧ x = ((p + 1 + j : Nat) : Int) ∧ (⟨p, r, ts.map (TH.word pl)⟩ : CeL) ∈ C ∧ ¬ Yng S p := fun {x} m => by
    obtain ⟨k, mk, mx⟩ := List.mem_flatMap.mp m
    obtain ⟨j, mj, rfl⟩ := List.mem_map.mp mx
    obtain ⟨p, ep⟩ := hk k mk
    obtain ⟨r, ts, h4, h5, mc⟩ := L.cell ep
    rw [List.getD_eq_getElem?_getD, h5] at mj
    have mj := List.mem_range.mp mj
    obtain ⟨a, ea, na⟩ := (k1 k).mp mk
    exact ⟨k, p, r, ts, j, mk, ep, h4, h5, mj, by rw [fP_some ep]; omega, mc, fun y => na ((L.ag_ k p a ep ea).2.2.mp y)⟩
  refine flat_sub ?_ ?_ (fun x mx => ?_) fun x mx nx => ?_
  · refine List.pairwise_flatMap.mpr ⟨fun k mk => ?_, ?_⟩
    · refine List.pairwise_map.mpr (List.pairwise_lt_range.imp fun {a b} h => ?_)
      omega
    · refine List.Pairwise.imp_of_mem (fun {k j} mk mj lt x mx y my => ?_) k2
      obtain ⟨i, mi, rfl⟩ := List.mem_map.mp mx
      obtain ⟨i', mi', rfl⟩ := List.mem_map.mp my
      obtain ⟨p, ep⟩ := hk k mk
      obtain ⟨p', ep'⟩ := hk j mj
      obtain ⟨r, ts, h4, h5, mc⟩ := L.cell ep
      obtain ⟨r', ts', h4', h5', mc'⟩ := L.cell ep'
      rw [fP_some ep, fP_some ep'] at lt ⊢
      have ap := L.y.cp.apart mc mc' fun z => by
        have : p = p' := congrArg CeL.p z
        omega
      have ap : p + (ts.map (TH.word pl)).length < p' ∨ p' + (ts'.map (TH.word pl)).length < p := ap
      rw [List.length_map, List.length_map] at ap
      rw [List.getD_eq_getElem?_getD, h5] at mi
      have := List.mem_range.mp mi
      have : i < ts.length := this
      omega
  · have nd := pm.nodup_iff.mpr nb
    exact (so.and nd).imp fun {a b} h => by
      have := h.1
      have := h.2
      omega
  · obtain ⟨c, mc, y, j, hj, e⟩ := L.b.s x (pm.mem_iff.mp mx)
    obtain ⟨k, ts, h3, h4, h5, e2⟩ := L.dn c mc
    obtain ⟨a, r, ts', ea, -, -⟩ := L.row h3
    rw [e2, List.length_map] at hj
    refine List.mem_flatMap.mpr ⟨k, (k1 k).mpr ⟨a, ea, fun z => y ((L.ag_ k _ a h3 ea).2.2.mpr z)⟩, List.mem_map.mpr ⟨j, List.mem_range.mpr ?_, ?_⟩⟩
    · rw [List.getD_eq_getElem?_getD, h5]
      exact hj
    · rw [fP_some h3, e]
      omega
  · obtain ⟨k, p, r, ts, j, mk, ep, h4, h5, hj, rfl, mc, ny⟩ := slot mx
    refine yk1_n fun q eq yq => nx (pm.mem_iff.mpr ?_)
    have hj' : j < (ts.map (TH.word pl)).length := by rwa [List.length_map]
    refine L.b.a _ mc ny j hj' q ?_ yq
    have h3 := L.y.cp.sl _ mc j hj'
    have h3 : S.ws.getD (p + 1 + j) 0 = (ts.map (TH.word pl)).getD j 0 := h3
    rw [Int.toNat_natCast, h3] at eq
    exact eq
end

local macro_rules | `(tactic| walk_at "w3") => `(tactic| try simp only [↓x_var0, ↓x_varS, ↓x_c, ↓x_op, ↓x_un, ↓x_cb, ↓x_nil, ↓x_cons, ↓x_test, ↓x_b, ↓x_ex, ↓x_and, ↓x_or, ↓x_not, ↓x_andV, ↓x_orV, ↓x_notV, ↓x_tif, ↓x_chain, ↓x_menu, ↓x_menuI, ↓x_lst, ↓x_tup, ↓x_dnew, ↓x_callW, ↓x_callN, ↓x_seq, ↓x_next, ↓x_ret, ↓x_retN, ↓x_drop, ↓x_ifS, ↓x_asg, ↓x_name, ↓x_raise, ↓x_fld, ↓x_setF, ↓x_meth, ↓x_make, ↓x_sub, ↓r_min, ↓r_max, ↓x_yes, ↓x_for, ↓x_lock, ↓x_keys, ↓x_cut, ↓x_lc, ↓x_rng1, ↓x_rng2, ↓x_lst1, ↓x_itup, ↓x_rng3, ↓x_three, ↓x_lstg, ↓x_tupg, ↓x_adrS, ↓x_one, ↓x_two, ↓x_adr, ↓x_sl, ↓x_np, ↓x_pt, ↓x_int, ↓x_bm, ↓x_bm0, ↓x_consg, ↓x_nilg, ↓x_dget2, ↓x_dget1, ↓x_dgetN, ↓x_dget, ↓x_din, ↓x_dni, ↓x_dput, ↓x_dpop2, ↓r_isB, ↓r_notB, ↓x_enum, ↓x_zip, ↓x_str, ↓x_strE, ↓r_inS, ↓r_ninS, wipe, List.map_cons, List.map_nil, ↓x_isT, ↓r_isiII, ↓r_isiBB, ↓r_isiIB, ↓r_isiSS, ↓r_neNS, ↓r_neSN, ↓r_neNN, ↓r_eqNS, ↓r_eqSN, ↓r_eqNN, ↓r_eqIS, ↓r_neIS, ↓r_neSI, ↓r_neBS, ↓r_eqBB, ↓r_neBB, ↓x_start, ↓x_K, ↓x_start0, ↓r_i0, ↓r_i, ↓r_u, ↓r_addI, ↓r_addS, ↓r_mulI, ↓r_mulS, ↓r_eqI, ↓r_neI, ↓r_eqS, ↓r_neS, ↓r_absI, ↓r_intI, ↓r_intB, List.length_cons, List.length_nil, List.replicate, List.set_cons_zero, List.set_cons_succ, decide_eq_true_eq, Bool.not_eq_true', decide_eq_false_iff_not, if_true, if_false, Bool.false_eq_true, Bool.true_eq_false, ite_true, ite_false, Bool.not_true, Bool.not_false, c_div, n_ten, c_pow, not_true_eq_false, not_false_eq_true, decide_true, decide_false, true_and, and_true, and_self, true_or, or_true, Int.reduceLT, Int.reduceLE, Int.reduceMul, Int.reduceAdd, Int.reduceSub, Int.reducePow, Int.reduceNeg, Int.reduceDiv, Int.reduceMod, Nat.reducePow, Int.reduceToNat, Int.reduceEq, Int.reduceNe, Nat.reduceLT, Nat.reduceLeDiff, Nat.reduceAdd, ↓x_whole, ↓x_kind, Int.natCast_one, Int.natCast_one, Int.natCast_one, Int.natCast_one, Int.natCast_one, Int.natCast_one, Int.natCast_one, Int.natCast_one, Int.natCast_one, Int.natCast_one, Int.natCast_one, Int.natCast_one, Int.natCast_one, Int.natCast_one, Int.natCast_one])
/-! ## the law's rows behind a young collection -/
/-- the new place of a cell that was come to -/
def nP (S : ArS) (qs : List CeL) (pl : List (Option Nat)) (k : Int) : Nat := ((goG (psY S qs) (fP pl k)).getD 0).toNat
def stO (ag : List Nat) (O : List Int) : List Int := O.filter fun k => decide (ag.getD k.toNat 0 = 0)
def grO (ag : List Nat) (O : List Int) : List Int := O.filter fun k => decide (ag.getD k.toNat 0 = 1)
def lostO (ag : List Nat) (O : List Int) (i : Nat) : List Int := ((List.range i).filter fun k => decide (ag.getD k 0 < 2) && !decide ((k : Int) ∈ O)).map fun k : Nat => (k : Int)
def npl (S : ArS) (qs : List CeL) (pl : List (Option Nat)) (ag : List Nat) (O : List Int) : List (Option Nat) := upX (grO ag O) (fun k => some (nP S qs pl (k : Int))) (upX (stO ag O) (fun k => some (nP S qs pl (k : Int))) (upX (lostO ag O ag.length) (fun _ => none) pl))
def nag (ag : List Nat) (O : List Int) : List Nat := upX (grO ag O) (fun _ => 2) (upX (stO ag O) (fun _ => 1) ag)
theorem lostO_mem {ag : List Nat} {O : List Int} {i k : Nat} : (k : Int) ∈ lostO ag O i ↔ k < i ∧ ag.getD k 0 < 2 ∧ ¬ (k : Int) ∈ O := by
  unfold lostO
  rw [List.mem_map]
  constructor
  · rintro ⟨j, m, e⟩
    have e : j = k := Int.ofNat.inj e
    subst e
    obtain ⟨h1, h2⟩ := List.mem_filter.mp m
    rw [Bool.and_eq_true, decide_eq_true_iff, Bool.not_eq_true', decide_eq_false_iff_not] at h2
    exact ⟨List.mem_range.mp h1, h2⟩
  · rintro ⟨h1, h2⟩
    refine ⟨k, List.mem_filter.mpr ⟨List.mem_range.mpr h1, ?_⟩, rfl⟩
    rw [Bool.and_eq_true, decide_eq_true_iff, Bool.not_eq_true', decide_eq_false_iff_not]
    exact h2
/-- what was come to, by numbers -/
structure Ord (S : ArS) (qs : List CeL) (pl : List (Option Nat)) (ag : List Nat) (O : List Int) : Prop where
  m : O.map (fP pl) = qs.map fun c => (c.p : Int)
  u : ∀ x ∈ O, x ∈ UY pl ag
  nd : O.Nodup
section
variable {S S1 : ArS} {C qs : List CeL} {bs : List Int} {rs : List Addr} {pl : List (Option Nat)} {ag : List Nat} {sl : List (List TH)} {O : List Int}
theorem Yg.go_is (G : Yg S C qs S1) {x : CeL × Nat} (mx : x ∈ fwY S qs) : goG (psY S qs) x.1.p = some (x.2 : Int) := by
  obtain ⟨q, mq, e⟩ := G.go (fw_mem mx)
  have h1 := G.sn _ mx
  have h2 := G.sn _ mq
  have h2 : S1.ws.getD x.1.p 0 = 2 * (q : Int) + 1 := h2
  rw [e]
  congr 1
  omega
theorem Ord.on (W : Ord S qs pl ag O) (L : Law12 S C bs rs pl ag sl) (G : Yg S C qs S1) {k : Nat} (m : (k : Int) ∈ O) : ∃ a p x, ag[k]? = some a ∧ a < 2 ∧ pl[k]? = some (some p) ∧ x ∈ fwY S qs ∧ x.1.p = p ∧ nP S qs pl (k : Int) = x.2 ∧ agO S p = a ∧ Yng S p := by
  obtain ⟨k', a, p, e, h1, h2, h3⟩ := UY_mem.mp (W.u _ m)
  have e : k' = k := (Int.ofNat.inj e).symm
  subst e
  have m2 : fP pl (k' : Int) ∈ qs.map fun c => (c.p : Int) := by
    rw [← W.m]
    exact List.mem_map.mpr ⟨_, m, rfl⟩
  rw [fP_some h3] at m2
  obtain ⟨c, mc, ec⟩ := List.mem_map.mp m2
  obtain ⟨q, mq, eq⟩ := G.go mc
  obtain ⟨g1, g2, g3⟩ := L.ag_ k' p a h3 h1
  refine ⟨a, p, (c, q), h1, h2, h3, mq, by show c.p = p; omega, ?_, g1, g3.mpr h2⟩
  unfold nP
  rw [fP_some h3, ← ec, eq]
  rfl
theorem Ord.off (W : Ord S qs pl ag O) (L : Law12 S C bs rs pl ag sl) (G : Yg S C qs S1) {k p : Nat} (h : pl[k]? = some (some p)) (m : ¬ (k : Int) ∈ O) : goG (psY S qs) p = none := by
  cases e : goG (psY S qs) (p : Int) with
  | none => rfl
  | some q =>
    obtain ⟨x, mx, h1, h2, y⟩ := G.go_y e
    have m2 : (p : Int) ∈ O.map (fP pl) := by
      rw [W.m, h1]
      exact List.mem_map.mpr ⟨x.1, fw_mem mx, rfl⟩
    obtain ⟨j, mj, ej⟩ := List.mem_map.mp m2
    obtain ⟨j', a, p', e1, e2, e3, e4⟩ := UY_mem.mp (W.u _ mj)
    subst e1
    rw [fP_some e4] at ej
    have : p' = p := by omega
    subst this
    rw [L.inj e4 h] at mj
    exact absurd mj m
theorem Ord.lt2 (W : Ord S qs pl ag O) {k a : Nat} (h : ag[k]? = some a) (m : (k : Int) ∈ O) : a < 2 := by
  obtain ⟨k', a', p, e, h1, h2, h3⟩ := UY_mem.mp (W.u _ m)
  have e : k' = k := (Int.ofNat.inj e).symm
  subst e
  rw [h] at h1
  cases h1
  exact h2
theorem getD_of {α : Type} {l : List α} {k : Nat} {a d : α} (h : l[k]? = some a) : l.getD k d = a := by
  rw [List.getD_eq_getElem?_getD, h]
  rfl
theorem stO_mem {k a : Nat} (h : ag[k]? = some a) : (k : Int) ∈ stO ag O ↔ (k : Int) ∈ O ∧ a = 0 := by
  unfold stO
  rw [List.mem_filter, decide_eq_true_iff, Int.toNat_natCast, getD_of h]
theorem grO_mem {k a : Nat} (h : ag[k]? = some a) : (k : Int) ∈ grO ag O ↔ (k : Int) ∈ O ∧ a = 1 := by
  unfold grO
  rw [List.mem_filter, decide_eq_true_iff, Int.toNat_natCast, getD_of h]
theorem Ord.pl_at (W : Ord S qs pl ag O) {k a : Nat} {o : Option Nat} (h : pl[k]? = some o) (ha : ag[k]? = some a) : (npl S qs pl ag O)[k]? = some (if (k : Int) ∈ O then some (nP S qs pl (k : Int)) else if a < 2 then none else o) := by
  have hk := (List.getElem?_eq_some_iff.mp ha).1
  have base : (upX (lostO ag O ag.length) (fun _ => none) pl)[k]? = some (if (k : Int) ∈ lostO ag O ag.length then none else o) := by
    rw [upX_at, h]
    rfl
  unfold npl
  by_cases c : (k : Int) ∈ O
  · rw [if_pos c]
    have lt := W.lt2 ha c
    by_cases e : a = 0
    · rw [upX_out (fun z => by have := ((grO_mem ha).mp z).2; omega)]
      exact upX_in base ((stO_mem ha).mpr ⟨c, e⟩)
    · rw [upX_in (j := k) (o := if (k : Int) ∈ lostO ag O ag.length then none else o) ?_ ((grO_mem ha).mpr ⟨c, by omega⟩)]
      rw [upX_out (fun z => e ((stO_mem ha).mp z).2)]
      exact base
  · rw [if_neg c, upX_out (fun z => c ((grO_mem ha).mp z).1), upX_out (fun z => c ((stO_mem ha).mp z).1), base]
    congr 1
    by_cases lt : a < 2
    · rw [if_pos lt, if_pos (lostO_mem.mpr ⟨hk, by rw [getD_of ha]; exact lt, c⟩)]
    · rw [if_neg lt, if_neg fun z => lt (by have := (lostO_mem.mp z).2.1; rwa [getD_of ha] at this)]
theorem Ord.ag_at (W : Ord S qs pl ag O) {k a : Nat} (ha : ag[k]? = some a) : (nag ag O)[k]? = some (if (k : Int) ∈ O then a + 1 else a) := by
  unfold nag
  by_cases c : (k : Int) ∈ O
  · rw [if_pos c]
    have lt := W.lt2 ha c
    by_cases e : a = 0
    · rw [upX_out (fun z => by have := ((grO_mem ha).mp z).2; omega), upX_in ha ((stO_mem ha).mpr ⟨c, e⟩), e]
    · have e1 : a = 1 := by omega
      subst e1
      exact upX_in (l := upX (stO ag O) (fun _ => 1) ag) ((upX_out fun z => e ((stO_mem ha).mp z).2).trans ha) ((grO_mem ha).mpr ⟨c, rfl⟩)
  · rw [if_neg c, upX_out (fun z => c ((grO_mem ha).mp z).1), upX_out (fun z => c ((stO_mem ha).mp z).1), ha]
theorem npl_len : (npl S qs pl ag O).length = pl.length := by
  unfold npl
  rw [upX_len, upX_len, upX_len]
theorem nag_len : (nag ag O).length = ag.length := by
  unfold nag
  rw [upX_len, upX_len]
/-- a word that goes along -/
theorem Ord.word (W : Ord S qs pl ag O) (L : Law12 S C bs rs pl ag sl) (G : Yg S C qs S1) {t : TH} (ok : TH.ok pl t) (d : dnY S qs (TH.word pl t)) : TH.word (npl S qs pl ag O) t = trY S qs (TH.word pl t) ∧ TH.ok (npl S qs pl ag O) t := by
  cases t with
  | non => exact ⟨(trY_none placeIn_non).symm, trivial⟩
  | num n => exact ⟨(trY_none placeIn_num).symm, ok⟩
  | cell k =>
    obtain ⟨p, ep, hp⟩ := ok
    obtain ⟨a, r, ts, ea, -, -⟩ := L.row ep
    obtain ⟨h1, h2, h3⟩ := L.ag_ k p a ep ea
    have e1 : placeIn (2 * (p : Int) + 1) = some (p : Int) := placeIn_of (by omega)
    rw [word_cell ep] at d ⊢
    have at_ := W.pl_at ep ea
    by_cases c : (k : Int) ∈ O
    · rw [if_pos c] at at_
      obtain ⟨a', p', x, g1, g2, g3, mx, gp, gn, -, -⟩ := W.on L G c
      rw [ep] at g3
      have g3 : p' = p := by cases g3; rfl
      rw [word_cell at_, gn]
      refine ⟨?_, x.2, by rw [at_, gn], ?_⟩
      · rw [← g3, ← gp] at e1 ⊢
        rw [trY_go e1 (G.go_is mx)]
      · have := (G.new_n L.y mx).2
        have := G.ln
        have := L.y.ln
        have := L.y.sz
        omega
    · rw [if_neg c] at at_
      by_cases lt : a < 2
      · have := d p e1 (h3.mpr lt)
        rw [W.off L G ep c] at this
        cases this
      · rw [if_neg lt] at at_
        exact ⟨by rw [word_cell at_, trY_stay G e1 fun y => lt (h3.mp y)], p, at_, hp⟩
/-- who is there then -/
theorem Ord.live (W : Ord S qs pl ag O) (L : Law12 S C bs rs pl ag sl) (G : Yg S C qs S1) {k p' : Nat} (h : (npl S qs pl ag O)[k]? = some (some p')) : ∃ a p, ag[k]? = some a ∧ pl[k]? = some (some p) ∧ (((k : Int) ∈ O ∧ a < 2 ∧ ∃ x ∈ fwY S qs, x.1.p = p ∧ p' = x.2 ∧ nP S qs pl (k : Int) = x.2) ∨ (¬ (k : Int) ∈ O ∧ ¬ a < 2 ∧ p' = p)) := by
  have hk := (List.getElem?_eq_some_iff.mp h).1
  rw [npl_len] at hk
  have := L.l1
  have ea := List.getElem?_eq_getElem (l := ag) (i := k) (by omega)
  have eo := List.getElem?_eq_getElem (l := pl) (i := k) hk
  generalize ag[k]'(by omega) = a at ea
  generalize pl[k] = o at eo
  rw [W.pl_at eo ea] at h
  have h := Option.some.inj h
  by_cases c : (k : Int) ∈ O
  · rw [if_pos c] at h
    obtain ⟨a', p, x, g1, g2, g3, mx, gp, gn, -, -⟩ := W.on L G c
    rw [ea] at g1
    cases g1
    exact ⟨a, p, ea, g3, .inl ⟨c, g2, x, mx, gp, by rw [← gn]; exact (Option.some.inj h).symm, gn⟩⟩
  · rw [if_neg c] at h
    by_cases lt : a < 2
    · rw [if_pos lt] at h
      cases h
    · rw [if_neg lt] at h
      rw [h] at eo
      exact ⟨a, p', ea, eo, .inr ⟨c, lt, rfl⟩⟩
theorem Ord.slots (W : Ord S qs pl ag O) (L : Law12 S C bs rs pl ag sl) (G : Yg S C qs S1) (dn : ∀ u x, SlY S C qs u x → Dn S qs x (S1.ws.getD u 0)) {k p' : Nat} {ts : List TH} (h : (npl S qs pl ag O)[k]? = some (some p')) (hs : sl[k]? = some ts) : (∀ t ∈ ts, TH.ok pl t ∧ dnY S qs (TH.word pl t)) ∧ ts.map (TH.word (npl S qs pl ag O)) = (ts.map (TH.word pl)).map (trY S qs) ∧ ∀ t ∈ ts, TH.ok (npl S qs pl ag O) t := by
  obtain ⟨a, p, ea, ep, hh⟩ := W.live L G h
  have ok := L.th k p ts ep hs
  have d : ∀ t ∈ ts, TH.ok pl t ∧ dnY S qs (TH.word pl t) := fun t mt => by
    refine ⟨ok t mt, ?_⟩
    obtain ⟨j, ej⟩ := List.getElem?_of_mem mt
    have hj := (List.getElem?_eq_some_iff.mp ej).1
    have ew : (ts.map (TH.word pl)).getD j 0 = TH.word pl t := getD_of (by rw [List.getElem?_map, ej]; rfl)
    obtain ⟨r, ts', h4, h5, mc⟩ := L.cell ep
    rw [hs] at h5
    cases h5
    rcases hh with ⟨c, lt, x, mx, gp, -, -⟩ | ⟨c, lt, rfl⟩
    · have ex : x.1 = ⟨p, r, ts.map (TH.word pl)⟩ := L.y.cp.same_p (G.mq _ (fw_mem mx)).1 mc gp
      have := (dn (x.2 + 1 + j) (x.1.ws.getD j 0) (.inr ⟨x, mx, j, by rw [ex, List.length_map]; exact hj, rfl, rfl⟩)).1
      rw [ex, ew] at this
      exact this
    · have := (dn (p' + 1 + j) _ (.inl ⟨_, mc, fun y => lt ((L.ag_ k p' a ep ea).2.2.mp y), j, by rw [List.length_map]; exact hj, rfl, rfl⟩)).1
      rw [ew] at this
      exact this
  refine ⟨d, ?_, fun t mt => (W.word L G (d t mt).1 (d t mt).2).2⟩
  rw [List.map_map]
  exact List.map_congr_left fun t mt => (W.word L G (d t mt).1 (d t mt).2).1
/-- the law's rows fit the cells that are there then -/
theorem Ord.next (W : Ord S qs pl ag O) (L : Law12 S C bs rs pl ag sl) (G : Yg S C qs S1) (dn : ∀ u x, SlY S C qs u x → Dn S qs x (S1.ws.getD u 0)) {bs' : List Int} (B : BkY (flS S1) (newC S C qs) bs') : Law12 (flS S1) (newC S C qs) bs' rs (npl S qs pl ag O) (nag ag O) sl := by
  have bb := bb_of (S := S)
  have st := G.stk L.y
  have lo := L.y.lo
  refine { y := newC_y0 L.y G dn, b := B, l1 := by rw [npl_len, nag_len]; exact L.l1, l2 := by rw [nag_len]; exact L.l2, l3 := by rw [nag_len]; exact L.l3, nd := L.nd, up := ?_, dn := ?_, ag_ := ?_, gn := ?_, th := ?_, s8 := L.s8, cv := ?_ }
  · intro k p' r ts h hr hs
    obtain ⟨d, e, -⟩ := W.slots L G dn h hs
    obtain ⟨a, p, ea, ep, hh⟩ := W.live L G h
    have mc := L.up k p r ts ep hr hs
    rw [e]
    rcases hh with ⟨c, lt, x, mx, gp, rfl, gn⟩ | ⟨c, lt, rfl⟩
    · have ex : x.1 = ⟨p, r, ts.map (TH.word pl)⟩ := L.y.cp.same_p (G.mq _ (fw_mem mx)).1 mc gp
      have := newC_new (C := C) mx
      rw [ex] at this
      exact this
    · exact newC_old mc fun y => lt ((L.ag_ k p' a ep ea).2.2.mp y)
  · intro b mb
    rcases newC_mem mb with ⟨c, mc, y, rfl⟩ | ⟨x, mx, rfl⟩
    · obtain ⟨k, ts, h1, h2, h3, h4⟩ := L.dn c mc
      obtain ⟨a, r, ts', ea, -, -⟩ := L.row h1
      have na : ¬ a < 2 := fun z => y ((L.ag_ k _ a h1 ea).2.2.mpr z)
      have at_ := W.pl_at h1 ea
      rw [if_neg (fun z => na (W.lt2 ea z)), if_neg na] at at_
      refine ⟨k, ts, at_, h2, h3, ?_⟩
      show c.ws.map (trY S qs) = _
      rw [(W.slots L G dn at_ h3).2.1, h4]
    · obtain ⟨k, ts, h1, h2, h3, h4⟩ := L.dn x.1 (G.mq _ (fw_mem mx)).1
      obtain ⟨a, r, ts', ea, -, -⟩ := L.row h1
      have mk : (k : Int) ∈ O := Decidable.byContradiction fun z => by
        have := W.off L G h1 z
        rw [G.go_is mx] at this
        cases this
      have at_ := W.pl_at h1 ea
      rw [if_pos mk] at at_
      have en : nP S qs pl (k : Int) = x.2 := by
        unfold nP
        rw [fP_some h1, G.go_is mx]
        rfl
      rw [en] at at_
      refine ⟨k, ts, at_, h2, h3, ?_⟩
      show x.1.ws.map (trY S qs) = _
      rw [(W.slots L G dn at_ h3).2.1, h4]
  · intro k p' a' h ha
    obtain ⟨a, p, ea, ep, hh⟩ := W.live L G h
    rw [W.ag_at ea] at ha
    have ha := Option.some.inj ha
    obtain ⟨h1, h2, h3⟩ := L.ag_ k p a ep ea
    rcases hh with ⟨c, lt, x, mx, gp, rfl, gn⟩ | ⟨c, lt, rfl⟩
    · rw [if_pos c] at ha
      have e := age_new L.y G mx
      rw [gp, h1] at e
      obtain ⟨n1, n2⟩ := G.nb x mx
      rw [gp, h1] at n1 n2
      refine ⟨?_, by omega, ?_⟩
      · rw [e]
        split <;> omega
      · rw [flY G]
        by_cases z : a = 0
        · have := n1 z
          omega
        · have := n2 z
          omega
    · rw [if_neg c] at ha
      subst ha
      have ny : ¬ Yng S p' := fun y => lt (h3.mp y)
      obtain ⟨r, ts, -, -, mc⟩ := L.cell ep
      refine ⟨(age_old L.y G mc ny).trans h1, h2, ?_⟩
      rw [flY G]
      rcases L.y.side mc with ⟨-, h⟩ | ⟨h, -⟩
      · have h : p' + (ts.map (TH.word pl)).length < S.ot := h
        omega
      · exact absurd h ny
  · intro k a' h ha
    have hk := (List.getElem?_eq_some_iff.mp h).1
    rw [npl_len] at hk
    have := L.l1
    have ea := List.getElem?_eq_getElem (l := ag) (i := k) (by omega)
    have eo := List.getElem?_eq_getElem (l := pl) (i := k) hk
    rw [W.pl_at eo ea] at h
    have h := Option.some.inj h
    rw [W.ag_at ea] at ha
    have ha := Option.some.inj ha
    by_cases c : (k : Int) ∈ O
    · rw [if_pos c] at h
      cases h
    · rw [if_neg c] at h ha
      rw [← ha]
      by_cases lt : ag[k]'(by omega) < 2
      · exact lt
      · rw [if_neg lt] at h
        rw [h] at eo
        exact L.gn k _ eo ea
  · intro k p' ts h hs
    exact (W.slots L G dn h hs).2.2
  · obtain ⟨ps, c1, c2⟩ := L.cv
    refine ⟨_, cov_old L.y G c1 c2, fun p mp => ?_⟩
    rcases List.mem_append.mp mp with m | m
    · obtain ⟨c, mc, y, e⟩ := c2 p m
      refine ⟨_, newC_old mc y, ?_, e⟩
      show ¬ Yng (flS S1) (c.p : Int)
      rw [flY G]
      rcases L.y.side mc with ⟨-, h⟩ | ⟨h, -⟩
      · omega
      · exact absurd h y
    · obtain ⟨x, mx, rfl⟩ := List.mem_map.mp m
      obtain ⟨m1, m2⟩ := gr_mem mx
      refine ⟨_, newC_new m1, ?_, rfl⟩
      show ¬ Yng (flS S1) (x.2 : Int)
      rw [flY G]
      have := (G.nb x m1).2 m2
      omega
end
section
variable {S S1 : ArS} {C qs : List CeL} {bs : List Int} {rs : List Addr} {pl : List (Option Nat)} {ag : List Nat} {sl : List (List TH)} {O : List Int}
theorem Ord.tab (W : Ord S qs pl ag O) (G : Yg S C qs S1) : (fwY S qs).map (fun x => ((x.1.p : Int), x.2)) = O.map fun k => (fP pl k, nP S qs pl k) := by
  have e1 : (fwY S qs).map (fun x => ((x.1.p : Int), x.2)) = (fwY S qs).map ((fun p : Int => (p, ((goG (psY S qs) p).getD 0).toNat)) ∘ (fun x => (x.1.p : Int))) := List.map_congr_left fun x mx => by
    show _ = ((x.1.p : Int), ((goG (psY S qs) x.1.p).getD 0).toNat)
    rw [G.go_is mx]
    rfl
  have e2 : (fwY S qs).map (fun x => (x.1.p : Int)) = O.map (fP pl) := by
    rw [W.m]
    have := fwY_fst (S := S) (qs := qs)
    show (fwY S qs).map ((fun c : CeL => (c.p : Int)) ∘ (·.1)) = _
    rw [← List.map_map, this]
  rw [e1, ← List.map_map, e2, List.map_map]
  rfl
theorem Ord.agO_is (W : Ord S qs pl ag O) (L : Law12 S C bs rs pl ag sl) (G : Yg S C qs S1) {k : Int} (m : k ∈ O) : agO S (fP pl k).toNat = ag.getD k.toNat 0 ∧ ag.getD k.toNat 0 < 2 := by
  obtain ⟨k', a, p, rfl, h1, h2, h3⟩ := UY_mem.mp (W.u _ m)
  obtain ⟨g1, -, -⟩ := L.ag_ k' p a h3 h1
  rw [fP_some h3, Int.toNat_natCast, Int.toNat_natCast, getD_of h1]
  exact ⟨g1, h2⟩
theorem Ord.st_tab (W : Ord S qs pl ag O) (L : Law12 S C bs rs pl ag sl) (G : Yg S C qs S1) : (stL S qs).map (·.2) = (stO ag O).map (nP S qs pl) ∧ (grL S qs).map (·.2) = (grO ag O).map (nP S qs pl) := by
  have t := W.tab G
  have key : ∀ (f : Nat → Bool), ((fwY S qs).filter fun x => f (agO S x.1.p)).map (·.2) = (O.filter fun k => f (agO S (fP pl k).toNat)).map (nP S qs pl) := fun f => by
    have h := congrArg (fun l : List (Int × Nat) => (l.filter fun y => f (agO S y.1.toNat)).map (·.2)) t
    rw [List.filter_map, List.filter_map, List.map_map, List.map_map] at h
    exact h
  refine ⟨?_, ?_⟩
  · have := key fun a => decide (a = 0)
    unfold stL
    rw [this]
    congr 1
    exact List.filter_congr fun k m => by rw [(W.agO_is L G m).1]
  · have := key fun a => !decide (a = 0)
    unfold grL
    rw [this]
    congr 1
    refine List.filter_congr fun k m => ?_
    obtain ⟨h1, h2⟩ := W.agO_is L G m
    rw [h1]
    by_cases z : ag.getD k.toNat 0 = 0
    · rw [decide_eq_true z, decide_eq_false (by omega)]
      rfl
    · rw [decide_eq_false z, decide_eq_true (by omega)]
      rfl
/-- words that stay young -/
theorem Ord.used (W : Ord S qs pl ag O) (L : Law12 S C bs rs pl ag sl) (G : Yg S C qs S1) : ((stY S qs : Nat) : Int) = ((stO ag O).map fun k => 1 + ((sl.getD k.toNat []).length : Int)).sum := by
  have h1 : ((sumW (qs.filter fun c => decide (agO S c.p = 0)) : Nat) : Int) = ((qs.filter fun c => decide (agO S c.p = 0)).map fun c => wC C c.p).sum := by
    have : ∀ {l : List CeL}, (∀ c ∈ l, c ∈ C) → ((sumW l : Nat) : Int) = (l.map fun c => wC C c.p).sum := fun {l} h => by
      induction l with
      | nil => rfl
      | cons a r ih =>
        have := ih fun c m => h c (List.mem_cons_of_mem _ m)
        have e := wC_mem L.y.cp (h a List.mem_cons_self)
        show (((a.ws.length + 1) + sumW r : Nat) : Int) = wC C a.p + (r.map fun c => wC C c.p).sum
        rw [← this, e]
        omega
    exact this fun c m => (G.mq c (List.mem_filter.mp m).1).1
  unfold stY
  rw [h1]
  have h2 := congrArg (fun l : List Int => ((l.filter fun y => decide (agO S y.toNat = 0)).map (wC C)).sum) W.m
  rw [List.filter_map, List.filter_map, List.map_map, List.map_map] at h2
  refine h2.symm.trans ?_
  congr 1
  have e : O.filter ((fun y => decide (agO S y.toNat = 0)) ∘ fP pl) = stO ag O := List.filter_congr fun k m => by
    show decide (agO S (fP pl k).toNat = 0) = _
    rw [(W.agO_is L G m).1]
  rw [e]
  refine List.map_congr_left fun k m => ?_
  obtain ⟨k', a, p, rfl, h1, h2, h3⟩ := UY_mem.mp (W.u _ (List.mem_filter.mp m).1)
  obtain ⟨r, ts, -, h5, mc⟩ := L.cell h3
  show wC C (fP pl (k' : Int)) = _
  rw [fP_some h3, wC_mem L.y.cp mc, Int.toNat_natCast, getD_of h5]
  show ((ts.map (TH.word pl)).length : Int) + 1 = _
  rw [List.length_map]
  omega
/-- who is young then -/
theorem Ord.there (W : Ord S qs pl ag O) (L : Law12 S C bs rs pl ag sl) (G : Yg S C qs S1) : (((List.range ag.length).filter fun k => decide ((nag ag O).getD k 0 = 1) && ((npl S qs pl ag O).getD k none).isSome).map fun k : Nat => (k : Int)).Perm (stO ag O) := by
  refine (List.perm_ext_iff_of_nodup ?_ (List.Nodup.sublist List.filter_sublist W.nd)).mpr fun x => ?_
  · exact List.Pairwise.map _ (fun a b h => by omega) (List.Pairwise.filter _ (List.nodup_range (n := ag.length)))
  · rw [List.mem_map]
    constructor
    · rintro ⟨k, m, rfl⟩
      obtain ⟨h1, h2⟩ := List.mem_filter.mp m
      have hk := List.mem_range.mp h1
      rw [Bool.and_eq_true, decide_eq_true_iff] at h2
      obtain ⟨p', ep⟩ := Option.isSome_iff_exists.mp h2.2
      have := L.l1
      have e := _root_.G.getD_at (ts := npl S qs pl ag O) (i := k) (d := none) (by rw [npl_len]; omega)
      rw [ep] at e
      obtain ⟨a, p, ea, ep2, hh⟩ := W.live L G e
      have g := getD_of (d := 0) (W.ag_at ea)
      rw [h2.1] at g
      rcases hh with ⟨c, lt, -⟩ | ⟨c, lt, -⟩
      · rw [if_pos c] at g
        exact (stO_mem ea).mpr ⟨c, by omega⟩
      · rw [if_neg c] at g
        omega
    · intro m
      obtain ⟨k, a, p, rfl, h1, h2, h3⟩ := UY_mem.mp (W.u _ (List.mem_filter.mp m).1)
      obtain ⟨c, rfl⟩ := (stO_mem h1).mp m
      refine ⟨k, List.mem_filter.mpr ⟨List.mem_range.mpr (List.getElem?_eq_some_iff.mp h1).1, ?_⟩, rfl⟩
      rw [Bool.and_eq_true, decide_eq_true_iff, getD_of (W.ag_at h1), getD_of (W.pl_at h3 h1), if_pos c, if_pos c]
      exact ⟨rfl, rfl⟩
end

local macro_rules | `(tactic| walk_at "w3") => `(tactic| try simp only [↓x_var0, ↓x_varS, ↓x_c, ↓x_op, ↓x_un, ↓x_cb, ↓x_nil, ↓x_cons, ↓x_test, ↓x_b, ↓x_ex, ↓x_and, ↓x_or, ↓x_not, ↓x_andV, ↓x_orV, ↓x_notV, ↓x_tif, ↓x_chain, ↓x_menu, ↓x_menuI, ↓x_lst, ↓x_tup, ↓x_dnew, ↓x_callW, ↓x_callN, ↓x_seq, ↓x_next, ↓x_ret, ↓x_retN, ↓x_drop, ↓x_ifS, ↓x_asg, ↓x_name, ↓x_raise, ↓x_fld, ↓x_setF, ↓x_meth, ↓x_make, ↓x_sub, ↓r_min, ↓r_max, ↓x_yes, ↓x_for, ↓x_lock, ↓x_keys, ↓x_cut, ↓x_lc, ↓x_rng1, ↓x_rng2, ↓x_lst1, ↓x_itup, ↓x_rng3, ↓x_three, ↓x_lstg, ↓x_tupg, ↓x_adrS, ↓x_one, ↓x_two, ↓x_adr, ↓x_sl, ↓x_np, ↓x_pt, ↓x_int, ↓x_bm, ↓x_bm0, ↓x_consg, ↓x_nilg, ↓x_dget2, ↓x_dget1, ↓x_dgetN, ↓x_dget, ↓x_din, ↓x_dni, ↓x_dput, ↓x_dpop2, ↓r_isB, ↓r_notB, ↓x_enum, ↓x_zip, ↓x_str, ↓x_strE, ↓r_inS, ↓r_ninS, wipe, List.map_cons, List.map_nil, ↓x_isT, ↓r_isiII, ↓r_isiBB, ↓r_isiIB, ↓r_isiSS, ↓r_neNS, ↓r_neSN, ↓r_neNN, ↓r_eqNS, ↓r_eqSN, ↓r_eqNN, ↓r_eqIS, ↓r_neIS, ↓r_neSI, ↓r_neBS, ↓r_eqBB, ↓r_neBB, ↓x_start, ↓x_K, ↓x_start0, ↓r_i0, ↓r_i, ↓r_u, ↓r_addI, ↓r_addS, ↓r_mulI, ↓r_mulS, ↓r_eqI, ↓r_neI, ↓r_eqS, ↓r_neS, ↓r_absI, ↓r_intI, ↓r_intB, List.length_cons, List.length_nil, List.replicate, List.set_cons_zero, List.set_cons_succ, decide_eq_true_eq, Bool.not_eq_true', decide_eq_false_iff_not, if_true, if_false, Bool.false_eq_true, Bool.true_eq_false, ite_true, ite_false, Bool.not_true, Bool.not_false, c_div, n_ten, c_pow, not_true_eq_false, not_false_eq_true, decide_true, decide_false, true_and, and_true, and_self, true_or, or_true, Int.reduceLT, Int.reduceLE, Int.reduceMul, Int.reduceAdd, Int.reduceSub, Int.reducePow, Int.reduceNeg, Int.reduceDiv, Int.reduceMod, Nat.reducePow, Int.reduceToNat, Int.reduceEq, Int.reduceNe, Nat.reduceLT, Nat.reduceLeDiff, Nat.reduceAdd, ↓x_whole, ↓x_kind, Int.natCast_one, Int.natCast_one, Int.natCast_one, Int.natCast_one, Int.natCast_one, Int.natCast_one, Int.natCast_one, Int.natCast_one, Int.natCast_one, Int.natCast_one, Int.natCast_one, Int.natCast_one, Int.natCast_one, Int.natCast_one, Int.natCast_one, Int.natCast_one])
/-! ## the law's own deeds on its rows -/
theorem word_app {pl : List (Option Nat)} {o : Option Nat} {t : TH} (h : TH.ok pl t) : TH.word (pl ++ [o]) t = TH.word pl t ∧ TH.ok (pl ++ [o]) t := by
  cases t with
  | non => exact ⟨rfl, trivial⟩
  | num n => exact ⟨rfl, h⟩
  | cell k =>
    obtain ⟨p, e, hp⟩ := h
    have hk := (List.getElem?_eq_some_iff.mp e).1
    have e2 : (pl ++ [o])[k]? = some (some p) := by rw [List.getElem?_append_left hk]; exact e
    exact ⟨by rw [word_cell e, word_cell e2], p, e2, hp⟩
theorem words_app {pl : List (Option Nat)} {o : Option Nat} {ts : List TH} (h : ∀ t ∈ ts, TH.ok pl t) : ts.map (TH.word (pl ++ [o])) = ts.map (TH.word pl) := List.map_congr_left fun t m => (word_app (h t m)).1
theorem at_app {α : Type} {l : List α} {a b : α} {k : Nat} (h : (l ++ [a])[k]? = some b) : (k < l.length ∧ l[k]? = some b) ∨ (k = l.length ∧ b = a) := by
  have hk := (List.getElem?_eq_some_iff.mp h).1
  rw [List.length_append, List.length_singleton] at hk
  by_cases c : k < l.length
  · rw [List.getElem?_append_left c] at h
    exact .inl ⟨c, h⟩
  · have : k = l.length := by omega
    subst this
    rw [List.getElem?_append_right (Nat.le_refl _), Nat.sub_self] at h
    exact .inr ⟨rfl, (Option.some.inj h).symm⟩
theorem at_end {α : Type} {l : List α} {a : α} {k : Nat} (h : k = l.length) : (l ++ [a])[k]? = some a := by
  subst h
  rw [List.getElem?_append_right (Nat.le_refl _), Nat.sub_self]
  rfl
/-- how the areas are when a cell more is laid -/
structure Laid12 (S S' : ArS) (p s a : Nat) : Prop where
  n : S'.n = S.n
  k : S'.k = S.k
  fl : S'.fl = S.fl
  ln : S'.ws.length = S.ws.length
  of : ∀ j, j < p ∨ p + s < j → S'.ws.getD j 0 = S.ws.getD j 0
  hd : headAt (S'.ws.getD p 0) = some (4 * s + a)
  sl : ∀ j, j < s → S'.ws.getD (p + 1 + j) 0 = -1
  tt : S'.t (!S.fl) = S.t (!S.fl)
  rm : S.ot + (S.t S.fl - S.b S.fl) + (s + 1) ≤ S.n
  s8 : s ≤ 8
  cs : (p = S.ot ∧ S'.ot = S.ot + (s + 1) ∧ S'.t S.fl = S.t S.fl ∧ a = 2) ∨ (p = S.t S.fl ∧ S'.ot = S.ot ∧ S'.t S.fl = S.t S.fl + (s + 1) ∧ a < 2 ∧ S.t S.fl + (s + 1) ≤ S.b S.fl + S.k)
section
variable {S S' : ArS} {C : List CeL} {bs : List Int} {rs : List Addr} {pl : List (Option Nat)} {ag : List Nat} {sl : List (List TH)}
theorem Law12.lay (L : Law12 S C bs rs pl ag sl) {p s a : Nat} {r : Addr} (h : Laid12 S S' p s a) (nr : r ∉ rs) : Law12 S' (C ++ [⟨p, r, (List.replicate s TH.non).map (TH.word (pl ++ [some p]))⟩]) bs (rs ++ [r]) (pl ++ [some p]) (ag ++ [a]) (sl ++ [List.replicate s .non]) := by
  have bb := bb_of (S := S)
  have lb := L.y.lb
  have lo := L.y.lo
  have lnn := L.y.ln
  have szz := L.y.sz
  have eb : ∀ f, S'.b f = S.b f := fun f => by
    unfold ArS.b
    rw [h.n, h.k]
  have off : ∀ c ∈ C, c.p + c.ws.length < p ∨ p + s < c.p := fun c mc => by
    have s1 := L.y.side mc
    rcases h.cs with ⟨e1, e2, e3, e4⟩ | ⟨e1, e2, e3, e4, e5⟩
    · rcases s1 with ⟨-, g⟩ | ⟨-, g, -⟩
      · omega
      · have := h.rm
        omega
    · rcases s1 with ⟨-, g⟩ | ⟨-, -, g⟩ <;> omega
  have pin : p + s < S.ws.length := by
    have := h.rm
    rcases h.cs with ⟨e1, e2, e3, e4⟩ | ⟨e1, e2, e3, e4, e5⟩ <;> omega
  have rw1 : (List.replicate s TH.non).map (TH.word (pl ++ [some p])) = List.replicate s (-1) := by
    rw [List.map_replicate]
    rfl
  have ng : ∀ {x : Int}, (∃ c ∈ C, x = (c.p : Int)) → (Yng S' x ↔ Yng S x) := fun {x} ⟨c, mc, e⟩ => by
    subst e
    unfold Yng
    rw [h.fl, eb]
    have s1 := L.y.side mc
    unfold Yng at s1
    rcases h.cs with ⟨e1, e2, e3, e4⟩ | ⟨e1, e2, e3, e4, e5⟩
    · rw [e3]
    · rw [e3]
      omega
  have ny : Yng S' (p : Int) ↔ a < 2 := by
    unfold Yng
    rw [h.fl, eb]
    have := h.rm
    rcases h.cs with ⟨e1, e2, e3, e4⟩ | ⟨e1, e2, e3, e4, e5⟩ <;> omega
  have hd2 : ∀ c ∈ C, S'.ws.getD c.p 0 = S.ws.getD c.p 0 := fun c mc => h.of _ (by have := off c mc; omega)
  have a2 : a ≤ 2 := by rcases h.cs with ⟨-, -, -, e⟩ | ⟨-, -, -, e, -⟩ <;> omega
  rw [rw1]
  have okw : ∀ (k q : Nat) (ts : List TH), pl[k]? = some (some q) → sl[k]? = some ts → ts.map (TH.word (pl ++ [some p])) = ts.map (TH.word pl) := fun k q ts e1 e2 => words_app (L.th k q ts e1 e2)
  have l1 := L.l1
  have l2 := L.l2
  have l3 := L.l3
  refine { y := ?_, b := ?_, l1 := ?_, l2 := ?_, l3 := ?_, nd := ?_, up := ?_, dn := ?_, ag_ := ?_, gn := ?_, th := ?_, s8 := ?_, cv := ?_ }
  · refine ⟨⟨fun c mc => ?_, fun c mc j hj => ?_, fun c mc => ?_, ?_⟩, fun c mc w mw => ?_, ?_, ?_, ?_, ?_, ?_, ?_⟩
    · rcases List.mem_append.mp mc with mc | mc
      · rw [hd2 c mc]
        exact L.y.cp.hd c mc
      · rw [List.mem_singleton.mp mc]
        refine ⟨a, a2, ?_⟩
        show headAt (S'.ws.getD p 0) = some (4 * (List.replicate s (-1 : Int)).length + a)
        rw [List.length_replicate]
        exact h.hd
    · rcases List.mem_append.mp mc with mc | mc
      · rw [h.of _ (by have := off c mc; omega)]
        exact L.y.cp.sl c mc j hj
      · rw [List.mem_singleton.mp mc] at hj ⊢
        have hj : j < s := by rw [← List.length_replicate (n := s) (a := (-1 : Int))]; exact hj
        refine (h.sl j hj).trans ?_
        show _ = (List.replicate s (-1 : Int)).getD j 0
        rw [List.getD_eq_getElem?_getD, List.getElem?_replicate, if_pos hj]
        rfl
    · rw [h.fl, eb]
      rcases List.mem_append.mp mc with mc | mc
      · have s1 := L.y.cp.ar c mc
        rcases h.cs with ⟨e1, e2, e3, e4⟩ | ⟨e1, e2, e3, e4, e5⟩ <;> omega
      · rw [List.mem_singleton.mp mc]
        show p + (List.replicate s (-1 : Int)).length < _ ∨ S.b S.fl ≤ p ∧ p + (List.replicate s (-1 : Int)).length < _
        rw [List.length_replicate]
        rcases h.cs with ⟨e1, e2, e3, e4⟩ | ⟨e1, e2, e3, e4, e5⟩ <;> omega
    · refine List.pairwise_append.mpr ⟨L.y.cp.dj, List.pairwise_singleton _ _, fun x mx y my => ?_⟩
      rw [List.mem_singleton.mp my]
      show _ ∨ p + (List.replicate s (-1 : Int)).length < _
      rw [List.length_replicate]
      exact off x mx
    · rcases List.mem_append.mp mc with mc | mc
      · exact (L.y.cw c mc w mw).mono fun d md => ⟨d, List.mem_append_left _ md, rfl⟩
      · rw [List.mem_singleton.mp mc] at mw
        rw [List.eq_of_mem_replicate mw]
        exact ClW.non
    · rw [h.ln, h.n, h.k]
      exact L.y.ln
    · rw [h.n]
      have := h.rm
      rcases h.cs with ⟨e1, e2, e3, e4⟩ | ⟨e1, e2, e3, e4, e5⟩ <;> omega
    · rw [h.n, h.k]
      exact L.y.sz
    · rw [h.fl, eb, h.k]
      rcases h.cs with ⟨e1, e2, e3, e4⟩ | ⟨e1, e2, e3, e4, e5⟩ <;> omega
    · rw [h.fl, eb, h.tt]
      exact L.y.es
    · rw [h.fl, eb, h.n]
      have := h.rm
      rcases h.cs with ⟨e1, e2, e3, e4⟩ | ⟨e1, e2, e3, e4, e5⟩ <;> omega
  · refine ⟨fun b mb => ?_, fun c mc y j hj q eq yq => ?_⟩
    · obtain ⟨c, mc, y, j, hj, e⟩ := L.b.s b mb
      exact ⟨c, List.mem_append_left _ mc, fun z => y ((ng ⟨c, mc, rfl⟩).mp z), j, hj, e⟩
    · rcases List.mem_append.mp mc with mc | mc
      · have cl := L.y.cw c mc _ (List.mem_of_getElem? (G.getD_at (d := 0) hj))
        obtain ⟨x, ex⟩ := Option.isSome_iff_exists.mp cl.1
        have ep := wd_place ex
        rw [eq] at ep
        have hq : ∃ c ∈ C, q = (c.p : Int) := by
          cases x with
          | place p' =>
            cases ep
            exact cl.2 _ ex
          | _ => cases ep
        exact L.b.a c mc (fun z => y ((ng ⟨c, mc, rfl⟩).mpr z)) j hj q eq ((ng hq).mp yq)
      · rw [List.mem_singleton.mp mc] at hj eq
        have hj : j < s := by rw [← List.length_replicate (n := s) (a := (-1 : Int))]; exact hj
        have eq : placeIn ((List.replicate s (-1 : Int)).getD j 0) = some q := eq
        rw [List.getD_eq_getElem?_getD, List.getElem?_replicate, if_pos hj] at eq
        have eq : placeIn (-1) = some q := eq
        rw [placeIn_non] at eq
        cases eq
  · rw [List.length_append, List.length_append, l1]
    rfl
  · rw [List.length_append, List.length_append, l2]
    rfl
  · rw [List.length_append, List.length_append, l3]
    rfl
  · exact List.nodup_append.mpr ⟨L.nd, List.nodup_cons.mpr ⟨List.not_mem_nil, List.nodup_nil⟩, fun x mx y my e => nr (List.mem_singleton.mp my ▸ e ▸ mx)⟩
  · intro k q r' ts h1 h2 h3
    rcases at_app h1 with ⟨hk, g1⟩ | ⟨hk, g1⟩
    · rcases at_app h2 with ⟨-, g2⟩ | ⟨z, -⟩
      · rcases at_app h3 with ⟨-, g3⟩ | ⟨z, -⟩
        · rw [okw k q ts g1 g3]
          exact List.mem_append_left _ (L.up k q r' ts g1 g2 g3)
        · omega
      · omega
    · cases g1
      rcases at_app h2 with ⟨z, -⟩ | ⟨-, g2⟩
      · omega
      · rcases at_app h3 with ⟨z, -⟩ | ⟨-, g3⟩
        · omega
        · subst g2 g3
          rw [rw1]
          exact List.mem_append_right _ List.mem_cons_self
  · intro c mc
    rcases List.mem_append.mp mc with mc | mc
    · obtain ⟨k, ts, h1, h2, h3, h4⟩ := L.dn c mc
      have hk := (List.getElem?_eq_some_iff.mp h1).1
      exact ⟨k, ts, by rw [List.getElem?_append_left hk]; exact h1, by rw [List.getElem?_append_left (by omega)]; exact h2, by rw [List.getElem?_append_left (by omega)]; exact h3, by rw [okw k _ ts h1 h3]; exact h4⟩
    · rw [List.mem_singleton.mp mc]
      exact ⟨pl.length, _, at_end rfl, at_end (by omega), at_end (by omega), rw1.symm⟩
  · intro k q a' h1 h2
    rcases at_app h1 with ⟨hk, g1⟩ | ⟨hk, g1⟩
    · rcases at_app h2 with ⟨-, g2⟩ | ⟨z, -⟩
      · obtain ⟨e1, e2, e3⟩ := L.ag_ k q a' g1 g2
        obtain ⟨r', ts, -, -, mc⟩ := L.cell g1
        refine ⟨?_, e2, (ng ⟨_, mc, rfl⟩).trans e3⟩
        unfold agO at e1 ⊢
        rw [hd2 _ mc]
        exact e1
      · omega
    · cases g1
      rcases at_app h2 with ⟨z, -⟩ | ⟨-, g2⟩
      · omega
      · subst g2
        refine ⟨?_, a2, ny⟩
        unfold agO
        rw [h.hd]
        show (4 * s + a') % 4 = a'
        omega
  · intro k a' h1 h2
    rcases at_app h1 with ⟨hk, g1⟩ | ⟨hk, g1⟩
    · rcases at_app h2 with ⟨-, g2⟩ | ⟨z, -⟩
      · exact L.gn k a' g1 g2
      · omega
    · cases g1
  · intro k q ts h1 h3
    rcases at_app h1 with ⟨hk, g1⟩ | ⟨hk, g1⟩
    · rcases at_app h3 with ⟨-, g3⟩ | ⟨z, -⟩
      · exact fun t mt => (word_app (L.th k q ts g1 g3 t mt)).2
      · omega
    · rcases at_app h3 with ⟨z, -⟩ | ⟨-, g3⟩
      · omega
      · subst g3
        intro t mt
        rw [List.eq_of_mem_replicate mt]
        trivial
  · intro ts mt
    rcases List.mem_append.mp mt with mt | mt
    · exact L.s8 ts mt
    · rw [List.mem_singleton.mp mt, List.length_replicate]
      exact h.s8
  · obtain ⟨ps, c1, c2⟩ := L.cv
    have c3 : Cov S'.ws 0 ps S.ot := c1.other h.ln fun q mq k hk => by
      obtain ⟨c, mc, y, e⟩ := c2 _ mq
      have : q = c.p := by omega
      subst this
      rw [hd2 c mc]
      exact ⟨k, hk, rfl⟩
    have old : ∀ q ∈ ps, ∃ c ∈ C ++ [⟨p, r, List.replicate s (-1)⟩], ¬ Yng S' c.p ∧ q = (c.p : Int) := fun q mq => by
      obtain ⟨c, mc, y, e⟩ := c2 _ mq
      exact ⟨c, List.mem_append_left _ mc, fun z => y ((ng ⟨c, mc, rfl⟩).mp z), e⟩
    rcases h.cs with ⟨e1, e2, e3, e4⟩ | ⟨e1, e2, e3, e4, e5⟩
    · have one := Cov.one (ws := S'.ws) (i := S.ot) (by rw [h.ln]; omega) (by rw [← e1]; exact h.hd)
      rw [show (4 * s + a) / 4 = s from by omega] at one
      refine ⟨_, by rw [e2]; exact c3.app one, fun q mq => ?_⟩
      rcases List.mem_append.mp mq with mq | mq
      · exact old q mq
      · rw [List.mem_singleton.mp mq]
        exact ⟨_, List.mem_append_right _ List.mem_cons_self, fun z => by have := ny.mp z; omega, by rw [e1]⟩
    · exact ⟨ps, by rw [e2]; exact c3, old⟩
/-- a thing into a slot -/
theorem Law12.put (L : Law12 S C bs rs pl ag sl) {k p j a : Nat} {ts : List TH} {t : TH} {bs' : List Int} (h1 : pl[k]? = some (some p)) (h3 : sl[k]? = some ts) (ha : ag[k]? = some a) (hj : j < ts.length) (ok : TH.ok pl t)
    (bk : ∀ x, x ∈ bs' ↔ if x = ((p + 1 + j : Nat) : Int) then (¬ a < 2 ∧ yk1 S (TH.word pl t) ≠ []) else x ∈ bs) : Law12 { S with ws := S.ws.set (p + 1 + j) (TH.word pl t) } (setC C p j (TH.word pl t)) bs' rs pl ag (sl.set k (ts.set j t)) := by
  obtain ⟨r, ts', h2, h3', mc⟩ := L.cell h1
  rw [h3] at h3'
  cases h3'
  have lt := L.y.cp.lt L.y.ln L.y.lo L.y.lb.2
  have hj' : j < (ts.map (TH.word pl)).length := by rwa [List.length_map]
  have cl : ClW C (TH.word pl t) := by
    cases t with
    | non => exact ClW.non
    | num n => exact ClW.num ok
    | cell i =>
      obtain ⟨q, eq, hq⟩ := ok
      obtain ⟨r', ts', -, -, mc'⟩ := L.cell eq
      rw [word_cell eq]
      exact ClW.cell mc' hq
  have cp : CelP { S with ws := S.ws.set (p + 1 + j) (TH.word pl t) } (setC C p j (TH.word pl t)) := L.y.cp.put (n := TH.word pl t) mc hj' (lt _ mc)
  have into : ∀ c ∈ C, ∃ d ∈ setC C p j (TH.word pl t), d.p = c.p ∧ d.ws.length = c.ws.length ∧ d.r = c.r ∧ (c.p ≠ p → d = c) ∧ (c.p = p → d.ws = c.ws.set j (TH.word pl t)) := fun c mc => by
    refine ⟨_, List.mem_map.mpr ⟨c, mc, rfl⟩, ?_⟩
    by_cases e : c.p = p
    · rw [if_pos e]
      exact ⟨rfl, List.length_set .., rfl, fun n => absurd e n, fun _ => rfl⟩
    · rw [if_neg e]
      exact ⟨rfl, rfl, rfl, fun _ => rfl, fun z => absurd z e⟩
  have hd2 : ∀ c ∈ C, (S.ws.set (p + 1 + j) (TH.word pl t)).getD c.p 0 = S.ws.getD c.p 0 := fun c mc' => by
    have h5 := lt _ mc
    have h5 : p + (ts.map (TH.word pl)).length < S.ws.length := h5
    rw [getD_set (by omega), if_neg]
    intro e
    by_cases ne : c = ⟨p, r, ts.map (TH.word pl)⟩
    · rw [ne] at e
      have e : p + 1 + j = p := e
      omega
    · have ap := L.y.cp.apart mc' mc ne
      have ap : c.p + c.ws.length < p ∨ p + (ts.map (TH.word pl)).length < c.p := ap
      omega
  have hk := (List.getElem?_eq_some_iff.mp h3).1
  refine { y := ⟨cp, fun c mc w mw => ?_, ?_, L.y.lo, L.y.sz, L.y.lb, L.y.es, L.y.rm⟩, b := ⟨fun b mb => ?_, fun c mc2 y i hi q eq yq => ?_⟩, l1 := L.l1, l2 := by rw [List.length_set]; exact L.l2, l3 := L.l3, nd := L.nd, up := fun i q r' us g1 g2 g3 => ?_, dn := fun c mc' => ?_, ag_ := fun i q a' g1 g2 => ?_, gn := L.gn, th := fun i q us g1 g3 => ?_, s8 := fun us mu => ?_, cv := ?_ }
  · obtain ⟨b, mb, -, -, -, hh⟩ := setC_mem mc
    have mono : ∀ {w}, ClW C w → ClW (setC C p j (TH.word pl t)) w := fun g => g.mono fun c mc => let ⟨d, md, e, _⟩ := into c mc; ⟨d, md, e⟩
    rcases hh with ⟨-, e⟩ | ⟨-, e⟩
    · rw [e] at mw
      rcases List.mem_or_eq_of_mem_set mw with h | h
      · exact mono (L.y.cw b mb w h)
      · rw [h]
        exact mono cl
    · rw [e] at mw
      exact mono (L.y.cw b mb w mw)
  · show (S.ws.set (p + 1 + j) (TH.word pl t)).length = _
    rw [List.length_set]
    exact L.y.ln
  · have mb' := (bk b).mp mb
    by_cases e : b = ((p + 1 + j : Nat) : Int)
    · rw [if_pos e] at mb'
      obtain ⟨d, md, e1, e2, -⟩ := into _ mc
      have e1 : d.p = p := e1
      refine ⟨d, md, fun y => mb'.1 ((L.ag_ k p a h1 ha).2.2.mp (by rw [e1] at y; exact y)), j, by rw [e2]; exact hj', by rw [e1]; exact e⟩
    · rw [if_neg e] at mb'
      obtain ⟨c, mc', y, i, hi, e3⟩ := L.b.s b mb'
      obtain ⟨d, md, e1, e2, -⟩ := into _ mc'
      exact ⟨d, md, (by rw [e1]; exact y), i, by rw [e2]; exact hi, by rw [e1]; exact e3⟩
  · obtain ⟨b, mb, e1, e2, e3, hh⟩ := setC_mem mc2
    have y : ¬ Yng S b.p := by rw [e1] at y; exact y
    have yq : Yng S q := yq
    rw [bk]
    rw [e3] at hi
    rcases hh with ⟨e4, e5⟩ | ⟨e4, e5⟩
    · have eb : b = ⟨p, r, ts.map (TH.word pl)⟩ := L.y.cp.same_p mb mc e4
      rw [e5, getD_set (by rw [eb]; exact hj')] at eq
      rw [e1, e4]
      by_cases c : j = i
      · rw [if_pos c] at eq
        subst c
        rw [if_pos rfl]
        refine ⟨fun z => y (by rw [e4]; exact (L.ag_ k p a h1 ha).2.2.mpr z), ?_⟩
        rw [yk1_y eq yq]
        intro z
        cases z
      · rw [if_neg c] at eq
        rw [if_neg (by omega)]
        have := L.b.a b mb y i hi q eq yq
        rw [e4] at this
        exact this
    · rw [e5] at eq
      have ap := L.y.cp.apart mb mc fun z => e4 (by rw [z])
      have ap : b.p + b.ws.length < p ∨ p + (ts.map (TH.word pl)).length < b.p := ap
      rw [e1, if_neg (by omega)]
      exact L.b.a b mb y i hi q eq yq
  · rw [List.getElem?_set] at g3
    by_cases c : k = i
    · subst c
      rw [if_pos rfl, if_pos hk] at g3
      cases g3
      rw [h1] at g1
      cases g1
      rw [h2] at g2
      cases g2
      obtain ⟨d, md, e1, e2, e3, -, e5⟩ := into _ mc
      have e5 := e5 rfl
      have : d = ⟨p, r, (ts.set j t).map (TH.word pl)⟩ := by
        cases d
        cases e1
        cases e3
        dsimp only at e5
        rw [e5, List.map_set]
      rw [← this]
      exact md
    · rw [if_neg c] at g3
      have mi := L.up i q r' us g1 g2 g3
      obtain ⟨d, md, -, -, -, e4, -⟩ := into _ mi
      rw [← e4 fun (z : q = p) => c (L.inj (by rw [z] at g1; exact h1) (by rw [z] at g1; exact g1))]
      exact md
  · obtain ⟨b, mb, e1, e2, e3, hh⟩ := setC_mem mc'
    obtain ⟨i, us, g1, g2, g3, g4⟩ := L.dn b mb
    rcases hh with ⟨e4, e5⟩ | ⟨e4, e5⟩
    · rw [e4] at g1
      have ei := L.inj h1 g1
      subst ei
      rw [h3] at g3
      cases g3
      exact ⟨k, ts.set j t, by rw [e1, e4]; exact h1, by rw [e2]; exact g2, List.getElem?_set_self hk, by rw [e5, g4, List.map_set]⟩
    · subst e5
      refine ⟨i, us, g1, g2, ?_, g4⟩
      rw [List.getElem?_set_ne]
      · exact g3
      · intro z
        subst z
        rw [h1] at g1
        cases g1
        exact e4 rfl
  · obtain ⟨e1, e2, e3⟩ := L.ag_ i q a' g1 g2
    obtain ⟨r', us, -, -, mi⟩ := L.cell g1
    refine ⟨?_, e2, e3⟩
    unfold agO at e1 ⊢
    have := hd2 _ mi
    have this : (S.ws.set (p + 1 + j) (TH.word pl t)).getD q 0 = S.ws.getD q 0 := this
    show (match headAt ((S.ws.set (p + 1 + j) (TH.word pl t)).getD q 0) with | some h => h % 4 | none => 0) = _
    rw [this]
    exact e1
  · rw [List.getElem?_set] at g3
    by_cases c : k = i
    · subst c
      rw [if_pos rfl, if_pos hk] at g3
      cases g3
      intro u mu
      rcases List.mem_or_eq_of_mem_set mu with h | h
      · exact L.th k p ts h1 h3 u h
      · rw [h]
        exact ok
    · rw [if_neg c] at g3
      exact L.th i q us g1 g3
  · rcases List.mem_or_eq_of_mem_set mu with h | h
    · exact L.s8 us h
    · rw [h, List.length_set]
      exact L.s8 ts (List.mem_of_getElem? h3)
  · obtain ⟨ps, c1, c2⟩ := L.cv
    refine ⟨ps, c1.other (List.length_set ..) fun q mq k hk => ?_, fun q mq => ?_⟩
    · obtain ⟨c, mc, y, e⟩ := c2 _ mq
      have : q = c.p := by omega
      subst this
      show ∃ k', headAt ((S.ws.set (p + 1 + j) (TH.word pl t)).getD c.p 0) = some k' ∧ _
      rw [hd2 c mc]
      exact ⟨k, hk, rfl⟩
    · obtain ⟨c, mc, y, e⟩ := c2 _ mq
      obtain ⟨d, md, e1, -⟩ := into _ mc
      exact ⟨d, md, by rw [e1]; exact y, by rw [e1]; exact e⟩
/-- how long the book can be -/
theorem Law12.bl (L : Law12 S C bs rs pl ag sl) (nd : bs.Nodup) : bs.length ≤ 10000 := by
  have h : ∀ x ∈ bs, x ∈ (List.range 10000).map fun i : Nat => (i : Int) := fun x m => by
    obtain ⟨c, mc, y, j, hj, e⟩ := L.b.s x m
    have := L.y.cp.lt L.y.ln L.y.lo L.y.lb.2 c mc
    have := L.y.ln
    have := L.y.sz
    exact List.mem_map.mpr ⟨c.p + 1 + j, List.mem_range.mpr (by omega), e.symm⟩
  have := nd_len nd h
  rwa [List.length_map, List.length_range] at this
end

local macro_rules | `(tactic| walk_at "w3") => `(tactic| try simp only [↓x_var0, ↓x_varS, ↓x_c, ↓x_op, ↓x_un, ↓x_cb, ↓x_nil, ↓x_cons, ↓x_test, ↓x_b, ↓x_ex, ↓x_and, ↓x_or, ↓x_not, ↓x_andV, ↓x_orV, ↓x_notV, ↓x_tif, ↓x_chain, ↓x_menu, ↓x_menuI, ↓x_lst, ↓x_tup, ↓x_dnew, ↓x_callW, ↓x_callN, ↓x_seq, ↓x_next, ↓x_ret, ↓x_retN, ↓x_drop, ↓x_ifS, ↓x_asg, ↓x_name, ↓x_raise, ↓x_fld, ↓x_setF, ↓x_meth, ↓x_make, ↓x_sub, ↓r_min, ↓r_max, ↓x_yes, ↓x_for, ↓x_lock, ↓x_keys, ↓x_cut, ↓x_lc, ↓x_rng1, ↓x_rng2, ↓x_lst1, ↓x_itup, ↓x_rng3, ↓x_three, ↓x_lstg, ↓x_tupg, ↓x_adrS, ↓x_one, ↓x_two, ↓x_adr, ↓x_sl, ↓x_np, ↓x_pt, ↓x_int, ↓x_bm, ↓x_bm0, ↓x_consg, ↓x_nilg, ↓x_dget2, ↓x_dget1, ↓x_dgetN, ↓x_dget, ↓x_din, ↓x_dni, ↓x_dput, ↓x_dpop2, ↓r_isB, ↓r_notB, ↓x_enum, ↓x_zip, ↓x_str, ↓x_strE, ↓r_inS, ↓r_ninS, wipe, List.map_cons, List.map_nil, ↓x_isT, ↓r_isiII, ↓r_isiBB, ↓r_isiIB, ↓r_isiSS, ↓r_neNS, ↓r_neSN, ↓r_neNN, ↓r_eqNS, ↓r_eqSN, ↓r_eqNN, ↓r_eqIS, ↓r_neIS, ↓r_neSI, ↓r_neBS, ↓r_eqBB, ↓r_neBB, ↓x_start, ↓x_K, ↓x_start0, ↓r_i0, ↓r_i, ↓r_u, ↓r_addI, ↓r_addS, ↓r_mulI, ↓r_mulS, ↓r_eqI, ↓r_neI, ↓r_eqS, ↓r_neS, ↓r_absI, ↓r_intI, ↓r_intB, List.length_cons, List.length_nil, List.replicate, List.set_cons_zero, List.set_cons_succ, decide_eq_true_eq, Bool.not_eq_true', decide_eq_false_iff_not, if_true, if_false, Bool.false_eq_true, Bool.true_eq_false, ite_true, ite_false, Bool.not_true, Bool.not_false, c_div, n_ten, c_pow, not_true_eq_false, not_false_eq_true, decide_true, decide_false, true_and, and_true, and_self, true_or, or_true, Int.reduceLT, Int.reduceLE, Int.reduceMul, Int.reduceAdd, Int.reduceSub, Int.reducePow, Int.reduceNeg, Int.reduceDiv, Int.reduceMod, Nat.reducePow, Int.reduceToNat, Int.reduceEq, Int.reduceNe, Nat.reduceLT, Nat.reduceLeDiff, Nat.reduceAdd, ↓x_whole, ↓x_kind, Int.natCast_one, Int.natCast_one, Int.natCast_one, Int.natCast_one, Int.natCast_one, Int.natCast_one, Int.natCast_one, Int.natCast_one, Int.natCast_one, Int.natCast_one, Int.natCast_one, Int.natCast_one, Int.natCast_one, Int.natCast_one, Int.natCast_one, Int.natCast_one, Int.natCast_one])
/-! ## the law's own: cells laid, things put, hands -/
theorem r_ixEnd {K : PySem.W.Frag} {H : Hp} {Q : VK} {a : Addr} {xs : List V} {v : V} (h : H a = some (.lst (xs ++ [v]))) (q : Q v H) : rIx K (.ref a) (.int (-1)) H Q := .inl ⟨_, _, _, _, rfl, rfl, .of h, by
  unfold atI ixN
  rw [if_neg (by decide), if_pos (by rw [List.length_append]; show -((xs.length + 1 : Nat) : Int) ≤ -1; omega)]
  show (xs ++ [v])[(-1 + ((xs ++ [v]).length : Int)).toNat]? = some v
  rw [List.length_append, show (-1 + ((xs.length + [v].length : Nat) : Int)).toNat = xs.length from by (show (-1 + ((xs.length + 1 : Nat) : Int)).toNat = _); omega]
  exact at_end rfl, q⟩
theorem THs.rep {H : Hp} : ∀ {s : Nat}, THs H (List.replicate s .non) (List.replicate s V.non)
  | 0 => trivial
  | _ + 1 => ⟨rfl, THs.rep⟩
theorem flat_rep {s : Nat} : (List.replicate s [V.non]).flatten = List.replicate s V.non := by
  induction s with
  | zero => rfl
  | succ s ih =>
    rw [List.replicate_succ, List.flatten_cons, ih]
    rfl
/-- record, rows and cells -/
structure All12 (K : PySem.W.Frag) (H : Hp) (o : Addr) (A : ArA) (R : RoA) (w : W12) (kv : List (Key × V)) (S : ArS) (U : RoS) (C : List CeL) (rs : List Addr) (pl : List (Option Nat)) (ag : List Nat) (sl : List (List TH)) (hs : List TH) : Prop where
  J : I12 K H o A R w kv S U rs pl ag sl hs
  L : Law12 S C U.bs rs pl ag sl
  hk : ∀ t ∈ hs, TH.ok pl t
  he : U.hs = hs.map (TH.word pl)
  n : ag.length ≤ 1000
def Grow12 (H : Hp) (rs rs' : List Addr) (pl pl' : List (Option Nat)) (ag ag' : List Nat) (sl sl' : List (List TH)) : Prop := (rs' = rs ∧ pl' = pl ∧ ag' = ag ∧ sl' = sl) ∨ ∃ r p a s, H r = none ∧ rs' = rs ++ [r] ∧ pl' = pl ++ [some p] ∧ ag' = ag ++ [a] ∧ sl' = sl ++ [List.replicate s .non]
def sp_laid12 (K : PySem.W.Frag) : Sp := fun vs H Q _ => ∃ o A R w kv S U C rs pl ag sl hs, ∃ c : Int, vs = [.ref o, .int c] ∧ All12 K H o A R w kv S U C rs pl ag sl hs ∧ ag.length < 1000 ∧
  ∀ S' C' rs' pl' ag' sl' H', All12 K H' o A R w kv S' U C' rs' pl' ag' sl' hs → S'.n = S.n → S'.k = S.k → Grow12 H rs rs' pl pl' ag ag' sl sl' → Kp12 A R U.bd w rs H H' → Q .non H'
theorem Kp12.one {A : ArA} {R : RoA} {bd : Addr} {w : W12} {rs : List Addr} {H : Hp} {c : Addr} {o : HO} (m : c ∈ w.ls rs) : Kp12 A R bd w rs H (upd H c o) := fun b x _ _ _ _ _ _ _ _ _ _ n g => (upd_ne fun (e : b = c) => n (by rw [e]; exact m)).trans g
theorem Kp12.mem {A : ArA} {R : RoA} {bd : Addr} {w : W12} {rs : List Addr} {H : Hp} {o : HO} : Kp12 A R bd w rs H (upd H A.l o) := fun b x _ n _ _ _ _ _ _ _ _ _ g => (upd_ne n).trans g
theorem laid12_old {S : ArS} {s : Nat} (s8 : s ≤ 8) (ln : S.ws.length = S.n + 2 * S.k) (rm : S.ot + (S.t S.fl - S.b S.fl) + (s + 1) ≤ S.n) : Laid12 S (laidO S s) S.ot s 2 := by
  have e : laidO S s = laidS S true s := rfl
  have hl : topA S true + s < S.ws.length := by
    show S.ot + s < _
    omega
  obtain ⟨e1, e2, e3, e4⟩ := laidS_same (S := S) (old := true) (s := s)
  rw [e]
  exact ⟨e2, e3, e1, laidS_len, fun j h => laidS_off h, laidS_head s8 hl, fun j h => laidS_slot h hl, laidS_t', rm, s8, .inl ⟨rfl, laidS_ot, laidS_t, rfl⟩⟩
theorem laid12_young {S : ArS} {s a : Nat} (s8 : s ≤ 8) (ln : S.ws.length = S.n + 2 * S.k) (rm : S.ot + (S.t S.fl - S.b S.fl) + (s + 1) ≤ S.n) (a2 : a < 2) (yr : S.t S.fl + (s + 1) ≤ S.b S.fl + S.k) : Laid12 S { laidY S s with ws := (laidY S s).ws.set (S.t S.fl) (2 * ((4 * s + a : Nat) : Int)) } (S.t S.fl) s a := by
  have bb := bb_of (S := S)
  have e : laidY S s = laidS S false s := rfl
  have hl : topA S false + s < S.ws.length := by
    show S.t S.fl + s < _
    omega
  have hl' : S.t S.fl < (laidS S false s).ws.length := by
    rw [laidS_len]
    have hl : S.t S.fl + s < S.ws.length := hl
    omega
  obtain ⟨e1, e2, e3, e4⟩ := laidS_same (S := S) (old := false) (s := s)
  have hh := headAt_of s8 (show a ≤ 2 by omega)
  rw [e]
  refine ⟨e2, e3, e1, ?_, fun j h => ?_, ?_, fun j h => ?_, laidS_t' (old := false), rm, s8, .inr ⟨rfl, laidS_ot (old := false), laidS_t (old := false), a2, yr⟩⟩
  · show ((laidS S false s).ws.set _ _).length = _
    rw [List.length_set, laidS_len]
  · show ((laidS S false s).ws.set _ _).getD j 0 = _
    rw [getD_set hl', if_neg (by omega)]
    exact laidS_off h
  · show headAt (((laidS S false s).ws.set _ _).getD _ 0) = _
    rw [getD_set hl', if_pos rfl]
    exact hh
  · show ((laidS S false s).ws.set _ _).getD _ 0 = _
    rw [getD_set hl', if_neg (by omega)]
    exact laidS_slot (old := false) h hl
section
variable {P : Program} {w : World} {K : PySem.W.Frag} {mg : Str → Option Value} {base : Heap}
theorem f__law_laid (T : Tx K mg) : Fn P w K mg base 8 "_law_laid" ["_law_own", "_law_cell"] (sp_laid12 K) := by
  have c_Space_room := f_Space_room (P := P) (w := w) (base := base) T
  have c_Space_used := f_Space_used (P := P) (w := w) (base := base) T
  have c_Areas_lay_old := f_Areas_lay_old (P := P) (w := w) (base := base) T
  have c_Areas_lay_young := f_Areas_lay_young (P := P) (w := w) (base := base) T
  have c_aged := f_aged (P := P) (w := w) (base := base) T
  refine T.mkFn 77 48 (d := d__law_laid) (N := ["_law_own", "_law_cell", "_law_areas", "_law_slots"]) (k := 7) rfl rfl rfl rfl rfl sc__law_laid (fun _ _ _ _ _ _ us hl => match us, hl with | [_, _], _ => rfl) (fun vs H Q E h => ?len) (fun cdv A outer s H vs Q E hr h => ⟨_,
      (pss_cons (ps_set (i := 2) sc__law_laid.nd rfl (Or.inl rfl) (pe_dget (hu_of hr) (pv 0) pe_str (fun _ _ => rfl)))
        (pss_cons (ps_set (i := 3) sc__law_laid.nd rfl (Or.inl rfl) (pe_menu (pa_cons (pe_op op_mod (pe_op op_fdiv (pv 1) pe_int) pe_int) (pa_cons (pe_op op_mod (pe_op op_fdiv (pv 1) pe_int) pe_int) pa_nil)) (pe_callTy call_gInt (by rfl) (T.free 76) (by decide +kernel) (pa_cons (pe_cmpR (op_eqK (K := K) rfl hr.units) (pe_op op_mod (pv 1) pe_int) pe_int (nomark _)) pa_nil)) (fun _ _ => rfl)))
        (pss_cons (ps_if (pt_cmpR op_lt (pe_mt0 (K := K) rfl (takes_of rfl rfl rfl rfl) (pe_fldC (T.cls 112) (T.noat 119) (pv 2)) c_Space_room (hr.mono (by decide))) (pe_op op_gAdd (pe_op op_gAdd (pe_mt0 (K := K) rfl (takes_of rfl rfl rfl rfl) (pe_fldC (T.cls 112) (T.noat 120) (pv 2)) c_Space_used (hr.mono (by decide))) (pv 3)) pe_int) (nomark _)) (pss_one ps_retN) pss_nil)
        (pss_one (ps_if (pt_cmpR (op_eqK (K := K) rfl hr.units) (pe_op op_mod (pv 1) pe_int) pe_int (nomark _)) (pss_cons (ps_expr (pe_bm PySem.F.plainAttrs_list PySem.F.slot_list_append PySem.F.type_list_append mt_append (pe_dget (hu_of hr) (pv 0) pe_str (fun _ _ => rfl)) (pa_cons (pe_mt (K := K) rfl (takes_of rfl rfl rfl rfl) (pv 2) c_Areas_lay_old (hr.mono (by decide)) (pa_cons (pv 3) pa_nil)) pa_nil)))
        (pss_cons (ps_expr (pe_bm PySem.F.plainAttrs_list PySem.F.slot_list_append PySem.F.type_list_append mt_append (pe_dget (hu_of hr) (pv 0) pe_str (fun _ _ => rfl)) (pa_cons pe_int pa_nil)))
        (pss_one (ps_expr (pe_bm PySem.F.plainAttrs_list PySem.F.slot_list_append PySem.F.type_list_append mt_append (pe_dget (hu_of hr) (pv 0) pe_str (fun _ _ => rfl)) (pa_cons (pe_op op_gMul (pe_lst (pa_cons pe_non pa_nil)) (pv 3)) pa_nil)))))) (pss_one (ps_if (PW.pt (pw_and (pt_cmpR (op_eqK (K := K) rfl hr.units) (pe_op op_mod (pv 1) pe_int) pe_int (nomark _)) (pw_and1 (pt_cmpR op_gt (pe_mt0 (K := K) rfl (takes_of rfl rfl rfl rfl) (pe_fldC (T.cls 112) (T.noat 120) (pv 2)) c_Space_room (hr.mono (by decide))) (pv 3) (nomark _))))) (pss_cons (ps_expr (pe_bm PySem.F.plainAttrs_list PySem.F.slot_list_append PySem.F.type_list_append mt_append (pe_dget (hu_of hr) (pv 0) pe_str (fun _ _ => rfl)) (pa_cons (pe_mt (K := K) rfl (takes_of rfl rfl rfl rfl) (pv 2) c_Areas_lay_young (hr.mono (by decide)) (pa_cons (pv 3) pa_nil)) pa_nil)))
        (pss_cons (ps_expr (pe_bm PySem.F.plainAttrs_list PySem.F.slot_list_append PySem.F.type_list_append mt_append (pe_dget (hu_of hr) (pv 0) pe_str (fun _ _ => rfl)) (pa_cons (pe_op op_mod (pe_op op_fdiv (pv 1) pe_int) pe_int) pa_nil)))
        (pss_cons (ps_expr (pe_fn (takes_of rfl rfl rfl rfl) c_aged (hr.mono (by decide)) (by rfl) (pa_cons (pe_fldC (T.cls 112) (T.noat 118) (pv 2)) (pa_cons (pe_ix (ix_seqK (K := K) rfl) (pe_dget (hu_of hr) (pv 0) pe_str (fun _ _ => rfl)) (pe_un un_neg pe_int) (fun _ _ => rfl)) (pa_cons (pe_ix (ix_seqK (K := K) rfl) (pe_dget (hu_of hr) (pv 0) pe_str (fun _ _ => rfl)) (pe_un un_neg pe_int) (fun _ _ => rfl)) pa_nil)))))
        (pss_one (ps_expr (pe_bm PySem.F.plainAttrs_list PySem.F.slot_list_append PySem.F.type_list_append mt_append (pe_dget (hu_of hr) (pv 0) pe_str (fun _ _ => rfl)) (pa_cons (pe_op op_gMul (pe_lst (pa_cons pe_non pa_nil)) (pv 3)) pa_nil))))))) pss_nil))))))), ?rd⟩)
  case len => first | exact len__law_laid h | (repeat (first | (obtain ⟨rfl, _⟩ := h; rfl; done) | obtain ⟨_, h⟩ := h))
  case rd =>
    obtain ⟨o, A, R, w, kv, S, U, C, rs, pl, ag, sl, hs, c, rfl, J, hn, q⟩ := h
    have sz : 10000 ≤ sizeLine := by rw [sizeLine_eq]; omega
    have ins := ls_in (w := w) (rs := rs)
    walk_at "w3"
    refine ⟨_, J.J.L.get J.J.L.k0, ?_⟩
    walk_at "w3"
    obtain ⟨s, es, s8⟩ : ∃ s : Nat, atI [V.int (c / 2 % 4), V.int (c / 2 % 9)] (if c % 7 = 3 then 1 else 0) = some (.int (s : Int)) ∧ s ≤ 8 := by
      split
      · refine ⟨(c / 2 % 9).toNat, ?_, by omega⟩
        show some (V.int (c / 2 % 9)) = _
        rw [Int.toNat_of_nonneg (by omega)]
      · refine ⟨(c / 2 % 4).toNat, ?_, by omega⟩
        show some (V.int (c / 2 % 4)) = _
        rw [Int.toNat_of_nonneg (by omega)]
    refine ⟨by omega, _, es, ?_⟩
    have I := J.J.I
    have lo := I.ar.lo
    have ln := I.ar.ln
    have lt := I.ar.lt S.fl
    have gn := I.ar.gn
    have gk := I.ar.gk
    refine ⟨_, fldIs I.ar.ob, recv I.ar.so, _, _, _, _, _, rfl, I.ar.so, _, fldIs I.ar.ob, recv (I.ar.half S.fl), _, _, _, _, _, rfl, I.ar.half S.fl, ?_⟩
    walk_at "w3"
    split
    · exact q S C rs pl ag sl H J rfl rfl (.inl ⟨rfl, rfl, rfl, rfl⟩) .refl
    have rm : S.ot + (S.t S.fl - S.b S.fl) + (s + 1) ≤ S.n := by omega
    have esl : slotsW (.int (s : Int)) = some s := by rw [slotsW_int, if_pos ⟨by omega, by omega⟩, Int.toNat_natCast]
    have l1 := J.L.l1
    have l2 := J.L.l2
    have l3 := J.L.l3
    -- what follows when the cell is laid
    have fin : ∀ {S' : ArS} {p a : Nat} {H2 : Hp}, Laid12 S S' p s a → I12 K H2 o A R w kv S' U rs (pl ++ [some p]) (ag ++ [a]) sl hs → Kp12 A R U.bd w rs H H2 → ∀ {p1 : Addr}, H2 p1 = none → gMul (.ref p1) (.int (s : Int)) (upd H2 p1 (.lst [V.non])) fun x H1 => rAppend (.ref w.sa) [x] H1 fun x H1 => Q V.non H1 := by
      intro S' p a H2 la J2 k2 p1 np1
      have s3 := same_new (o := .lst [V.non]) np1
      have J3 := J2.same s3
      refine ⟨_, upd_same, by omega, by omega, by rw [Int.toNat_natCast]; show 1 * s ≤ _; omega, fun r nr => ?_⟩
      rw [Int.toNat_natCast, flat_rep]
      have s4 := same_new (o := .lst (List.replicate s V.non)) nr
      have J4 := J3.same s4
      have hr : upd (upd H2 p1 (.lst [V.non])) r (.lst (List.replicate s V.non)) r = some (.lst (List.replicate s V.non)) := upd_same
      have of := (J3.I.offl nr).1
      have nls : r ∉ w.ls rs := fun m => by
        obtain ⟨xs, e⟩ := J3.L.lst m
        rw [nr] at e
        cases e
      have k4 : Kp12 A R U.bd w rs H (upd (upd H2 p1 (.lst [V.non])) r (.lst (List.replicate s V.non))) := k2.tr (.of (s3.trans s4))
      have hnr : H r = none := by
        cases e : H r with
        | none => rfl
        | some x =>
          have := (k2.tr (.of s3)) r x (ne_of_none J3.I.ar.ob nr).symm of.1 (ne_of_none J3.I.ar.so nr).symm (ne_of_none J3.I.ar.sp nr).symm (ne_of_none J3.I.ar.sq nr).symm of.2.1 of.2.2.1 of.2.2.2.1 of.2.2.2.2 (J3.I.offl nr).2 nls e
          rw [nr] at this
          cases this
      generalize upd (upd H2 p1 (.lst [V.non])) r (.lst (List.replicate s V.non)) = H4 at J4 hr k4 ⊢
      have J5 := J4.sput hr (THs.rep (s := s)) nls of (by omega)
      refine ⟨_, _, _, rfl, rfl, J4.L.ss, by rw [List.length_map]; omega, ?_⟩
      have em : rs.map V.ref ++ [V.ref r] = (rs ++ [r]).map V.ref := by rw [List.map_append]; rfl
      rw [em]
      have Ln := J.L.lay (r := r) la fun m => nls (ins.2.2.2.2 r m)
      exact q S' _ _ _ _ _ _ ⟨J5, Ln, fun t m => (word_app (J.hk t m)).2, by rw [words_app J.hk]; exact J.he, by rw [List.length_append]; show ag.length + 1 ≤ _; omega⟩ la.n la.k (.inr ⟨r, p, a, s, hnr, rfl, rfl, rfl, rfl⟩) (k4.tr (.one ins.2.2.1))
    split
    · refine ⟨_, J.J.L.get J.J.L.k2, ?_⟩
      walk_at "w3"
      refine ⟨.inl ⟨rfl, _, .of J.J.L.pp⟩, recv I.ar.ob, A, S, _, rfl, I.ar, .inl ⟨_, rfl⟩, ?_⟩
      unfold laidW
      rw [esl]
      dsimp only
      rw [if_pos (by show s + 1 ≤ S.n - S.ot; omega)]
      intro H1 I1 k1
      have J1 := J.J.pair (J.J.I.arS I1 fun b x _ n1 n2 _ _ g => k1 b x n1 n2 g) rfl fun b x _ n1 n2 _ _ _ _ _ _ _ g => k1 b x n1 n2 g
      have kp1 : Kp12 A R U.bd w rs H H1 := fun b x _ n1 n2 _ _ _ _ _ _ _ _ g => k1 b x n1 n2 g
      have em : pl.map plV ++ [V.int (S.ot : Int)] = (pl ++ [some S.ot]).map plV := by rw [List.map_append]; rfl
      refine ⟨_, _, _, rfl, rfl, J1.L.pp, by rw [List.length_map]; omega, ?_⟩
      rw [em]
      have J2 := J1.pput (pl' := pl ++ [some S.ot])
      have kp2 := kp1.tr (.one (o := .lst ((pl ++ [some S.ot]).map plV)) ins.1)
      generalize upd H1 w.pa (.lst ((pl ++ [some S.ot]).map plV)) = H2 at J2 kp2 ⊢
      refine ⟨_, J2.L.get J2.L.k3, ?_⟩
      walk_at "w3"
      refine ⟨.inl ⟨rfl, _, .of J2.L.ga⟩, _, _, _, rfl, rfl, J2.L.ga, by rw [List.length_map]; omega, ?_⟩
      have em : (ag.map fun a : Nat => V.int (a : Int)) ++ [V.int 2] = (ag ++ [2]).map fun a : Nat => V.int (a : Int) := by rw [List.map_append]; rfl
      rw [em]
      have J3 := J2.aput (ag' := ag ++ [2])
      have kp3 := kp2.tr (.one (o := .lst ((ag ++ [2]).map fun a : Nat => V.int (a : Int))) ins.2.1)
      generalize upd H2 w.aa (.lst ((ag ++ [2]).map fun a : Nat => V.int (a : Int))) = H3 at J3 kp3 ⊢
      refine ⟨_, J3.L.get J3.L.k4, ?_⟩
      walk_at "w3"
      exact ⟨.inl ⟨rfl, _, .of J3.L.ss⟩, by omega, fun p1 np1 => fin (laid12_old s8 ln rm) J3 kp3 np1⟩
    · split
      · refine ⟨_, fldIs I.ar.ob, recv (I.ar.half S.fl), _, _, _, _, _, rfl, I.ar.half S.fl, ?_⟩
        walk_at "w3"
        split
        · refine ⟨_, J.J.L.get J.J.L.k2, ?_⟩
          walk_at "w3"
          refine ⟨.inl ⟨rfl, _, .of J.J.L.pp⟩, recv I.ar.ob, A, S, _, rfl, I.ar, .inl ⟨_, rfl⟩, ?_⟩
          unfold laidW
          rw [esl]
          dsimp only
          rw [if_pos (by show s + 1 ≤ S.b S.fl + S.k - S.t S.fl; omega)]
          intro H1 I1 k1
          have yq : A.y S.fl = A.p ∨ A.y S.fl = A.q := by
            unfold ArA.y
            split
            · exact .inr rfl
            · exact .inl rfl
          have k1 : ∀ b x, b ≠ A.l → b ≠ A.p → b ≠ A.q → H b = some x → H1 b = some x := fun b x n1 n2 n3 g => k1 b x n1 (by rcases yq with h | h <;> rw [h] <;> assumption) g
          have J1 := J.J.pair (J.J.I.arS I1 fun b x _ n1 _ n2 n3 g => k1 b x n1 n2 n3 g) rfl fun b x _ n1 _ n2 n3 _ _ _ _ _ g => k1 b x n1 n2 n3 g
          have kp1 : Kp12 A R U.bd w rs H H1 := fun b x _ n1 _ n2 n3 _ _ _ _ _ _ g => k1 b x n1 n2 n3 g
          have em : pl.map plV ++ [V.int (S.t S.fl : Int)] = (pl ++ [some (S.t S.fl)]).map plV := by rw [List.map_append]; rfl
          refine ⟨_, _, _, rfl, rfl, J1.L.pp, by rw [List.length_map]; omega, ?_⟩
          rw [em]
          have J2 := J1.pput (pl' := pl ++ [some (S.t S.fl)])
          have kp2 := kp1.tr (.one (o := .lst ((pl ++ [some (S.t S.fl)]).map plV)) ins.1)
          generalize upd H1 w.pa (.lst ((pl ++ [some (S.t S.fl)]).map plV)) = H2 at J2 kp2 ⊢
          refine ⟨_, J2.L.get J2.L.k3, ?_⟩
          walk_at "w3"
          obtain ⟨a, ea, a2⟩ : ∃ a : Nat, c / 18 % 2 = (a : Int) ∧ a < 2 := ⟨(c / 18 % 2).toNat, by omega, by omega⟩
          rw [ea]
          refine ⟨.inl ⟨rfl, _, .of J2.L.ga⟩, _, _, _, rfl, rfl, J2.L.ga, by rw [List.length_map]; omega, ?_⟩
          have em : (ag.map fun a : Nat => V.int (a : Int)) ++ [V.int (a : Int)] = (ag ++ [a]).map fun a : Nat => V.int (a : Int) := by rw [List.map_append]; rfl
          rw [em]
          have J3 := J2.aput (ag' := ag ++ [a])
          have kp3 := kp2.tr (.one (o := .lst ((ag ++ [a]).map fun a : Nat => V.int (a : Int))) ins.2.1)
          generalize upd H2 w.aa (.lst ((ag ++ [a]).map fun a : Nat => V.int (a : Int))) = H3 at J3 kp3 ⊢
          refine ⟨_, fldIs J3.I.ar.ob, ?_⟩
          walk_at "w3"
          refine ⟨_, J3.L.get J3.L.k2, ?_⟩
          walk_at "w3"
          refine r_ixEnd (by have := J3.L.pp; rw [List.map_append] at this; exact this) ?_
          refine ⟨_, J3.L.get J3.L.k3, ?_⟩
          walk_at "w3"
          refine r_ixEnd (by have := J3.L.ga; rw [List.map_append] at this; exact this) ?_
          have la := laid12_young s8 ln rm a2 (by omega)
          have hl : topA S false + s < S.ws.length := by
            have := bb_of (S := S)
            show S.t S.fl + s < _
            omega
          have hhd := laidS_head (old := false) s8 hl
          have hhd : headAt ((laidY S s).ws.getD (S.t S.fl) 0) = some (4 * s + 0) := hhd
          have eln : (laidY S s).ws.length = S.ws.length := laidS_len (old := false)
          refine ⟨A.m, A.mx, A.l, _, _, _, rfl, J3.I.ar.me, J3.I.ar.vw, .inl ⟨_, rfl⟩, .inl ⟨_, rfl⟩, ?_⟩
          have hl' : S.t S.fl + s < S.ws.length := hl
          rw [show plV (some (S.t S.fl)) = V.int ((S.t S.fl : Nat) : Int) from rfl, ans_head' (by rw [eln]; omega) hhd, ageW_int, if_pos ⟨by omega, by omega⟩, Int.toNat_natCast]
          dsimp only
          rw [show 4 * ((4 * s + 0) / 4) + a = 4 * s + a from by omega]
          have J4 := J3.pair (J3.I.wput (ws := (laidY S s).ws.set (S.t S.fl) (2 * ((4 * s + a : Nat) : Int))) (J3.I.ar.vw.set (by rw [word_num (by omega)]; rfl)) (List.length_set ..)) rfl fun b x _ n1 _ _ _ _ _ _ _ _ g => (upd_ne n1).trans g
          have kp4 := kp3.tr (.mem (o := .lst (((laidY S s).ws.set (S.t S.fl) (2 * ((4 * s + a : Nat) : Int))).map V.int)))
          generalize upd H3 A.l (.lst (((laidY S s).ws.set (S.t S.fl) (2 * ((4 * s + a : Nat) : Int))).map V.int)) = H4 at J4 kp4 ⊢
          walk_at "w3"
          refine ⟨_, J4.L.get J4.L.k4, ?_⟩
          walk_at "w3"
          exact ⟨.inl ⟨rfl, _, .of J4.L.ss⟩, by omega, fun p1 np1 => fin la J4 kp4 np1⟩
        · exact q S C rs pl ag sl H J rfl rfl (.inl ⟨rfl, rfl, rfl, rfl⟩) .refl
      · exact q S C rs pl ag sl H J rfl rfl (.inl ⟨rfl, rfl, rfl, rfl⟩) .refl
end

local macro_rules | `(tactic| walk_at "w3") => `(tactic| try simp only [↓x_var0, ↓x_varS, ↓x_c, ↓x_op, ↓x_un, ↓x_cb, ↓x_nil, ↓x_cons, ↓x_test, ↓x_b, ↓x_ex, ↓x_and, ↓x_or, ↓x_not, ↓x_andV, ↓x_orV, ↓x_notV, ↓x_tif, ↓x_chain, ↓x_menu, ↓x_menuI, ↓x_lst, ↓x_tup, ↓x_dnew, ↓x_callW, ↓x_callN, ↓x_seq, ↓x_next, ↓x_ret, ↓x_retN, ↓x_drop, ↓x_ifS, ↓x_asg, ↓x_name, ↓x_raise, ↓x_fld, ↓x_setF, ↓x_meth, ↓x_make, ↓x_sub, ↓r_min, ↓r_max, ↓x_yes, ↓x_for, ↓x_lock, ↓x_keys, ↓x_cut, ↓x_lc, ↓x_rng1, ↓x_rng2, ↓x_lst1, ↓x_itup, ↓x_rng3, ↓x_three, ↓x_lstg, ↓x_tupg, ↓x_adrS, ↓x_one, ↓x_two, ↓x_adr, ↓x_sl, ↓x_np, ↓x_pt, ↓x_int, ↓x_bm, ↓x_bm0, ↓x_consg, ↓x_nilg, ↓x_dget2, ↓x_dget1, ↓x_dgetN, ↓x_dget, ↓x_din, ↓x_dni, ↓x_dput, ↓x_dpop2, ↓r_isB, ↓r_notB, ↓x_enum, ↓x_zip, ↓x_str, ↓x_strE, ↓r_inS, ↓r_ninS, wipe, List.map_cons, List.map_nil, ↓x_isT, ↓r_isiII, ↓r_isiBB, ↓r_isiIB, ↓r_isiSS, ↓r_neNS, ↓r_neSN, ↓r_neNN, ↓r_eqNS, ↓r_eqSN, ↓r_eqNN, ↓r_eqIS, ↓r_neIS, ↓r_neSI, ↓r_neBS, ↓r_eqBB, ↓r_neBB, ↓x_start, ↓x_K, ↓x_start0, ↓r_i0, ↓r_i, ↓r_u, ↓r_addI, ↓r_addS, ↓r_mulI, ↓r_mulS, ↓r_eqI, ↓r_neI, ↓r_eqS, ↓r_neS, ↓r_absI, ↓r_intI, ↓r_intB, List.length_cons, List.length_nil, List.replicate, List.set_cons_zero, List.set_cons_succ, decide_eq_true_eq, Bool.not_eq_true', decide_eq_false_iff_not, if_true, if_false, Bool.false_eq_true, Bool.true_eq_false, ite_true, ite_false, Bool.not_true, Bool.not_false, c_div, n_ten, c_pow, not_true_eq_false, not_false_eq_true, decide_true, decide_false, true_and, and_true, and_self, true_or, or_true, Int.reduceLT, Int.reduceLE, Int.reduceMul, Int.reduceAdd, Int.reduceSub, Int.reducePow, Int.reduceNeg, Int.reduceDiv, Int.reduceMod, Nat.reducePow, Int.reduceToNat, Int.reduceEq, Int.reduceNe, Nat.reduceLT, Nat.reduceLeDiff, Nat.reduceAdd, ↓x_whole, ↓x_kind, Int.natCast_one, Int.natCast_one, Int.natCast_one, Int.natCast_one, Int.natCast_one, Int.natCast_one, Int.natCast_one, Int.natCast_one, Int.natCast_one, Int.natCast_one, Int.natCast_one, Int.natCast_one, Int.natCast_one, Int.natCast_one, Int.natCast_one, Int.natCast_one, Int.natCast_one, Int.natCast_one])
def sp_put12 (K : PySem.W.Frag) : Sp := fun vs H Q _ => ∃ o A R w kv S U C rs pl ag sl hs, ∃ k p j : Nat, ∃ ts t v, vs = [.ref o, .int k, .int j, v] ∧ All12 K H o A R w kv S U C rs pl ag sl hs ∧ pl[k]? = some (some p) ∧ sl[k]? = some ts ∧ j < ts.length ∧ TH.is H t v ∧ TH.ok pl t ∧
  ∀ S' C' bs' H', All12 K H' o A R w kv S' { U with bs := bs' } C' rs pl ag (sl.set k (ts.set j t)) hs → S'.n = S.n → S'.k = S.k → Kp12 A R U.bd w rs H H' → Q .non H'
def sp_held12 (K : PySem.W.Frag) : Sp := fun vs H Q _ => ∃ o A R w kv S U C rs pl ag sl hs, ∃ i : Nat, ∃ t v, vs = [.ref o, .int i, v] ∧ All12 K H o A R w kv S U C rs pl ag sl hs ∧ i < hs.length ∧ TH.is H t v ∧ TH.ok pl t ∧
  ∀ H', All12 K H' o A R w kv S { U with hs := U.hs.set i (TH.word pl t) } C rs pl ag sl (hs.set i t) → Kp12 A R U.bd w rs H H' → Q .non H'
theorem THs.at {H : Hp} : ∀ {ts : List TH} {vs : List V} {i : Nat}, THs H ts vs → i < ts.length → ∃ v, vs[i]? = some v
  | t :: _, v :: _, 0, _, _ => ⟨v, rfl⟩
  | _ :: _, _ :: _, i + 1, ⟨_, b⟩, e => THs.at (i := i) b (by rw [List.length_cons] at e; omega)
  | [], [], _, _, e => absurd e (Nat.not_lt_zero _)
  | [], _ :: _, _, h, _ => h.elim
  | _ :: _, [], _, h, _ => h.elim
section
variable {P : Program} {w : World} {K : PySem.W.Frag} {mg : Str → Option Value} {base : Heap}
theorem f__law_put (T : Tx K mg) : Fn P w K mg base 4 "_law_put" ["_law_own", "_law_k", "_law_slot", "_law_thing_here"] (sp_put12 K) := by
  have c_Memory_write := f_Memory_write (P := P) (w := w) (base := base) T
  have c__law_word := f__law_word (P := P) (w := w) (base := base) T
  have c_Book_write := f_Book_write (P := P) (w := w) (base := base) T
  have c_Book_rub := f_Book_rub (P := P) (w := w) (base := base) T
  refine T.mkFn 78 49 (d := d__law_put) (N := ["_law_own", "_law_k", "_law_slot", "_law_thing_here", "_law_at_here"]) (k := 3) rfl rfl rfl rfl rfl sc__law_put (fun _ _ _ _ _ _ us hl => match us, hl with | [_, _, _, _], _ => rfl) (fun vs H Q E h => ?len) (fun cdv A outer s H vs Q E hr h => ⟨_,
      (pss_cons (ps_set (i := 4) sc__law_put.nd rfl (Or.inl rfl) (pe_op op_gAdd (pe_op op_gAdd (pe_ix (ix_seqK (K := K) rfl) (pe_dget (hu_of hr) (pv 0) pe_str (fun _ _ => rfl)) (pv 1) (fun _ _ => rfl)) pe_int) (pv 2)))
        (pss_cons (ps_asg (pv 3) (pg_sub (pe_ix (ix_seqK (K := K) rfl) (pe_dget (hu_of hr) (pv 0) pe_str (fun _ _ => rfl)) (pv 1) (fun _ _ => rfl)) (pv 2) set_list))
        (pss_cons (ps_expr (pe_mt (K := K) rfl (takes_of rfl rfl rfl rfl) (pe_fldC (T.cls 112) (T.noat 118) (pe_dget (hu_of hr) (pv 0) pe_str (fun _ _ => rfl))) c_Memory_write (hr.mono (by decide)) (pa_cons (pv 4) (pa_cons (pe_fn (takes_of rfl rfl rfl rfl) c__law_word (hr.mono (by decide)) (by rfl) (pa_cons (pv 3) (pa_cons (pe_dget (hu_of hr) (pv 0) pe_str (fun _ _ => rfl)) pa_nil))) pa_nil))))
        (pss_one (ps_if (PW.pt (pw_and (pt_cmpR (op_eqK (K := K) rfl hr.units) (pe_ix (ix_seqK (K := K) rfl) (pe_dget (hu_of hr) (pv 0) pe_str (fun _ _ => rfl)) (pv 1) (fun _ _ => rfl)) pe_int (nomark _)) (pw_and (pt_cmpR op_notN (pv 3) pe_non (nomark _)) (pw_and (pt_cmpR (op_eqK (K := K) rfl hr.units) (pe_ix (ix_seqK (K := K) rfl) (pv 3) pe_int (fun _ _ => rfl)) pe_str (nomark _)) (pw_and1 (pt_cmpR op_lt (pe_ix (ix_seqK (K := K) rfl) (pe_dget (hu_of hr) (pv 0) pe_str (fun _ _ => rfl)) (pe_ix (ix_seqK (K := K) rfl) (pv 3) pe_int (fun _ _ => rfl)) (fun _ _ => rfl)) pe_int (nomark _))))))) (pss_one (ps_expr (pe_mt (K := K) rfl (takes_of rfl rfl rfl rfl) (pe_fldC (T.cls 157) (T.noat 161) (pe_dget (hu_of hr) (pv 0) pe_str (fun _ _ => rfl))) c_Book_write (hr.mono (by decide)) (pa_cons (pv 4) pa_nil)))) (pss_one (ps_expr (pe_mt (K := K) rfl (takes_of rfl rfl rfl rfl) (pe_fldC (T.cls 157) (T.noat 161) (pe_dget (hu_of hr) (pv 0) pe_str (fun _ _ => rfl))) c_Book_rub (hr.mono (by decide)) (pa_cons (pv 4) pa_nil))))))))), ?rd⟩)
  case len => first | exact len__law_put h | (repeat (first | (obtain ⟨rfl, _⟩ := h; rfl; done) | obtain ⟨_, h⟩ := h))
  case rd =>
    obtain ⟨o, A, R, w, kv, S, U, C, rs, pl, ag, sl, hs, k, p, j, ts, t, v, rfl, J, ep, es, hj, ht, ok, q⟩ := h
    have sz : 10000 ≤ sizeLine := by rw [sizeLine_eq]; omega
    have ins := ls_in (w := w) (rs := rs)
    have I := J.J.I
    obtain ⟨a, r, ts', ea, er, es'⟩ := J.L.row ep
    rw [es] at es'
    cases es'
    walk_at "w3"
    refine ⟨_, J.J.L.get J.J.L.k2, ?_⟩
    walk_at "w3"
    refine r_ixL J.J.L.pp (by rw [List.getElem?_map, ep]; rfl) ?_
    rw [show plV (some p) = V.int (p : Int) from rfl]
    walk_at "w3"
    refine ⟨_, J.J.L.get J.J.L.k4, ?_⟩
    walk_at "w3"
    refine r_ixL J.J.L.ss (by rw [List.getElem?_map, er]; rfl) ?_
    obtain ⟨ts', vs, es', hr, hv⟩ := J.J.L.rw_ k r er
    rw [es] at es'
    cases es'
    have vl := hv.len
    refine r_setL hr (by omega) (by omega) ?_
    rw [Int.toNat_natCast]
    have hk := (List.getElem?_eq_some_iff.mp es).1
    have J1 := J.J.rput (ts := ts.set j t) (vs := vs.set j v) er hk (THs.set hv ht)
    have kp1 : Kp12 A R U.bd w rs H (upd H r (.lst (vs.set j v))) := .one (ins.2.2.2.2 r (List.mem_of_getElem? er))
    have ht1 : TH.is (upd H r (.lst (vs.set j v))) t v := TH.fr (t := t) (v := v) (J.J.keep (ins.2.2.2.2 r (List.mem_of_getElem? er))).2 ht
    generalize upd H r (.lst (vs.set j v)) = H1 at J1 kp1 ht1 ⊢
    refine ⟨_, J1.L.get J1.L.k0, ?_⟩
    walk_at "w3"
    refine ⟨_, fldIs J1.I.ar.ob, recv J1.I.ar.me.ob, _, J1.L.get J1.L.k2, ?_⟩
    refine ⟨t, v, w.pa, pl, rfl, ht1, J1.L.pp, ok, ?_⟩
    obtain ⟨r', us, -, us', mc⟩ := J.L.cell ep
    rw [es] at us'
    cases us'
    have lt := J.L.y.cp.lt J.L.y.ln J.L.y.lo J.L.y.lb.2 _ mc
    have lt : p + (ts.map (TH.word pl)).length < S.ws.length := lt
    rw [List.length_map] at lt
    have p9 := J.L.y.ln
    have p8 := J.L.y.sz
    have wok := TH.word_ok ok
    refine ⟨A.m, A.mx, A.l, S.ws, _, _, rfl, J1.I.ar.me, .inl ⟨_, rfl⟩, .inl ⟨_, rfl⟩, ?_⟩
    rw [show (p : Int) + 1 + (j : Int) = ((p + 1 + j : Nat) : Int) from by omega, placeOf_int, if_pos ⟨by omega, by omega⟩, Int.toNat_natCast, wordV_int, if_pos wok]
    dsimp only
    have J2 := J1.pair (J1.I.wput (ws := S.ws.set (p + 1 + j) (TH.word pl t)) (J1.I.ar.vw.set wok) (List.length_set ..)) rfl fun b x _ n1 _ _ _ _ _ _ _ _ g => (upd_ne n1).trans g
    have kp2 := kp1.tr (.mem (o := .lst ((S.ws.set (p + 1 + j) (TH.word pl t)).map V.int)))
    have ht2 : TH.is (upd H1 A.l (.lst ((S.ws.set (p + 1 + j) (TH.word pl t)).map V.int))) t v := TH.fr (t := t) (v := v) (fun c xs g => (upd_ne (ne_of g J1.I.ar.me.ls (by intro z; cases z))).trans g) ht1
    generalize upd H1 A.l (.lst ((S.ws.set (p + 1 + j) (TH.word pl t)).map V.int)) = H2 at J2 kp2 ht2 ⊢
    walk_at "w3"
    have nbd := J.J.I.ro.bo.nd
    have bl := J.L.bl nbd
    have px : placeW (.int ((p + 1 + j : Nat) : Int)) = some ((p + 1 + j : Nat) : Int) := by rw [placeW_int, if_pos ⟨by omega, by omega⟩]
    have y1 := J.L.yk1_ ok
    have rub : ¬ (¬ a < 2 ∧ yk1 S (TH.word pl t) ≠ []) → ∃ v_1, DGet H2 o (.str "roots") (some v_1) ∧ ∃ v_2, FldIs (He.ga K "Roots") "book" v_1 H2 v_2 ∧ Recv (He.ga K "Book") "rub" v_2 H2 ∧ sp_Book_rub K [v_2, .int ((p + 1 + j : Nat) : Int)] H2 (fun _ H1 => Q .non H1) E := fun no => by
      refine ⟨_, J2.L.get J2.L.k1, _, fldIs J2.I.ro.ob, recv J2.I.ro.bo.ob, R.b, R.bx, U.bd, U.bs, _, rfl, J2.I.ro.bo, .inl ⟨_, rfl⟩, ?_⟩
      rw [px]
      dsimp only
      have mm : ∀ x, x ∈ delP U.bs ((p + 1 + j : Nat) : Int) ↔ if x = ((p + 1 + j : Nat) : Int) then (¬ a < 2 ∧ yk1 S (TH.word pl t) ≠ []) else x ∈ U.bs := fun x => by
        rw [mem_delP]
        by_cases e : x = ((p + 1 + j : Nat) : Int)
        · rw [if_pos e]
          exact ⟨fun z => absurd e z.2, fun z => absurd z no⟩
        · rw [if_neg e]
          exact ⟨fun z => z.1, fun z => ⟨z, e⟩⟩
      have Ln := J.L.put ep es ea hj ok mm
      have J3 := J2.pair (J2.I.bput (nd_delP (i := ((p + 1 + j : Nat) : Int)) nbd)) rfl fun b x _ _ _ _ _ _ _ _ _ n1 g => (upd_ne n1).trans g
      have k3 : Kp12 A R U.bd w rs H2 (upd H2 U.bd (.dK (bk (delP U.bs ((p + 1 + j : Nat) : Int))))) := fun b x _ _ _ _ _ _ _ _ _ n1 _ g => (upd_ne n1).trans g
      refine ⟨q _ _ _ _ ⟨J3, Ln, J.hk, J.he, J.n⟩ rfl rfl (kp2.tr k3), fun e2 => ?_⟩
      have J4 : I12 K H2 o A R w kv { S with ws := S.ws.set (p + 1 + j) (TH.word pl t) } { U with bs := delP U.bs ((p + 1 + j : Nat) : Int) } rs pl ag (sl.set k (ts.set j t)) hs := by
        rw [e2]
        exact J2
      exact q _ _ _ _ ⟨J4, Ln, J.hk, J.he, J.n⟩ rfl rfl kp2
    have wr : ¬ a < 2 → yk1 S (TH.word pl t) ≠ [] → ∃ v_1, DGet H2 o (.str "roots") (some v_1) ∧ ∃ v_2, FldIs (He.ga K "Roots") "book" v_1 H2 v_2 ∧ Recv (He.ga K "Book") "write" v_2 H2 ∧ sp_Book_write K [v_2, .int ((p + 1 + j : Nat) : Int)] H2 (fun _ H1 => Q .non H1) E := fun na ny => by
      refine ⟨_, J2.L.get J2.L.k1, _, fldIs J2.I.ro.ob, recv J2.I.ro.bo.ob, R.b, R.bx, U.bd, U.bs, _, rfl, J2.I.ro.bo, by show U.bs.length < _; omega, .inl ⟨_, rfl⟩, ?_⟩
      rw [px]
      dsimp only
      have mm : ∀ x, x ∈ addP U.bs ((p + 1 + j : Nat) : Int) ↔ if x = ((p + 1 + j : Nat) : Int) then (¬ a < 2 ∧ yk1 S (TH.word pl t) ≠ []) else x ∈ U.bs := fun x => by
        rw [mem_addP]
        by_cases e : x = ((p + 1 + j : Nat) : Int)
        · rw [if_pos e]
          exact ⟨fun _ => ⟨na, ny⟩, fun _ => .inr e⟩
        · rw [if_neg e]
          exact ⟨fun z => z.elim id fun z => absurd z e, fun z => .inl z⟩
      have Ln := J.L.put ep es ea hj ok mm
      have J3 := J2.pair (J2.I.bput (nd_addP (i := ((p + 1 + j : Nat) : Int)) nbd)) rfl fun b x _ _ _ _ _ _ _ _ _ n1 g => (upd_ne n1).trans g
      have k3 : Kp12 A R U.bd w rs H2 (upd H2 U.bd (.dK (bk (addP U.bs ((p + 1 + j : Nat) : Int))))) := fun b x _ _ _ _ _ _ _ _ _ n1 _ g => (upd_ne n1).trans g
      exact q _ _ _ _ ⟨J3, Ln, J.hk, J.he, J.n⟩ rfl rfl (kp2.tr k3)
    refine ⟨_, J2.L.get J2.L.k3, ?_⟩
    walk_at "w3"
    refine r_ixL J2.L.ga (by rw [List.getElem?_map, ea]; rfl) ?_
    walk_at "w3"
    by_cases c2 : a < 2
    · have := rub fun z => z.1 c2
      rw [if_neg (by omega)]
      exact this
    rw [if_pos (by have := (J.L.ag_ k p a ep ea).2.1; omega)]
    cases t with
    | non =>
      cases ht2
      rw [if_neg (fun z => z rfl)]
      exact rub fun z => z.2 (by rw [y1]; rfl)
    | num n =>
      obtain ⟨b, rfl, hb⟩ := ht2
      rw [if_pos (by intro z; cases z)]
      refine r_ixT (i := 0) hb rfl ?_
      walk_at "w3"
      rw [if_neg (by decide +kernel)]
      exact rub fun z => z.2 (by rw [y1]; rfl)
    | cell i =>
      obtain ⟨b, rfl, hb⟩ := ht2
      obtain ⟨q', eq', hq'⟩ := ok
      obtain ⟨ai, ri, ti, eai, -, -⟩ := J.L.row eq'
      rw [if_pos (by intro z; cases z)]
      refine r_ixT (i := 0) hb rfl ?_
      walk_at "w3"
      refine ⟨_, J2.L.get J2.L.k3, ?_⟩
      walk_at "w3"
      refine r_ixT (i := 1) hb rfl ?_
      refine r_ixL J2.L.ga (by rw [List.getElem?_map, eai]; rfl) ?_
      walk_at "w3"
      have y2 : yk1T ag (.cell i) = if ai < 2 then [(i : Int)] else [] := by
        show (if ag.getD i 0 < 2 then [(i : Int)] else []) = _
        rw [getD_of eai]
      by_cases c3 : ai < 2
      · rw [if_pos (by omega)]
        exact wr c2 (by rw [y1, y2, if_pos c3]; intro z; cases z)
      · rw [if_neg (by omega)]
        exact rub fun z => z.2 (by rw [y1, y2, if_neg c3]; rfl)
theorem f__law_held (T : Tx K mg) : Fn P w K mg base 4 "_law_held" ["_law_own", "_law_hand", "_law_thing_here"] (sp_held12 K) := by
  have c_Hands_put := f_Hands_put (P := P) (w := w) (base := base) T
  have c__law_word := f__law_word (P := P) (w := w) (base := base) T
  refine T.mkFn 79 50 (d := d__law_held) (N := ["_law_own", "_law_hand", "_law_thing_here"]) (k := 3) rfl rfl rfl rfl rfl sc__law_held (fun _ _ _ _ _ _ us hl => match us, hl with | [_, _, _], _ => rfl) (fun vs H Q E h => ?len) (fun cdv A outer s H vs Q E hr h => ⟨_,
      (pss_cons (ps_asg (pv 2) (pg_sub (pe_dget (hu_of hr) (pv 0) pe_str (fun _ _ => rfl)) (pv 1) set_list))
        (pss_one (ps_expr (pe_mt (K := K) rfl (takes_of rfl rfl rfl rfl) (pe_fldC (T.cls 157) (T.noat 160) (pe_dget (hu_of hr) (pv 0) pe_str (fun _ _ => rfl))) c_Hands_put (hr.mono (by decide)) (pa_cons (pv 1) (pa_cons (pe_fn (takes_of rfl rfl rfl rfl) c__law_word (hr.mono (by decide)) (by rfl) (pa_cons (pv 2) (pa_cons (pe_dget (hu_of hr) (pv 0) pe_str (fun _ _ => rfl)) pa_nil))) pa_nil)))))), ?rd⟩)
  case len => first | exact len__law_held h | (repeat (first | (obtain ⟨rfl, _⟩ := h; rfl; done) | obtain ⟨_, h⟩ := h))
  case rd =>
    obtain ⟨o, A, R, w, kv, S, U, C, rs, pl, ag, sl, hs, i, t, v, rfl, J, hi, ht, ok, q⟩ := h
    have sz : 10000 ≤ sizeLine := by rw [sizeLine_eq]; omega
    have ins := ls_in (w := w) (rs := rs)
    walk_at "w3"
    refine ⟨_, J.J.L.get J.J.L.k5, ?_⟩
    obtain ⟨vs, hv, tv⟩ := J.J.L.hh
    have vl := tv.len
    refine r_setL hv (by omega) (by omega) ?_
    rw [Int.toNat_natCast]
    have J1 := J.J.hput (hs' := hs.set i t) (vs := vs.set i v) (THs.set tv ht)
    have kp1 : Kp12 A R U.bd w rs H (upd H w.ha (.lst (vs.set i v))) := .one ins.2.2.2.1
    have ht1 : TH.is (upd H w.ha (.lst (vs.set i v))) t v := TH.fr (t := t) (v := v) (J.J.keep ins.2.2.2.1).2 ht
    generalize upd H w.ha (.lst (vs.set i v)) = H1 at J1 kp1 ht1 ⊢
    walk_at "w3"
    have wok := TH.word_ok ok
    have ul : U.hs.length = hs.length := by rw [J.he, List.length_map]
    refine ⟨_, J1.L.get J1.L.k1, _, fldIs J1.I.ro.ob, recv J1.I.ro.ho.ob, _, J1.L.get J1.L.k2, t, v, w.pa, pl, rfl, ht1, J1.L.pp, ok, R.h, R.hx, R.hl, U.hs, _, _, rfl, J1.I.ro.ho, .inl ⟨_, rfl⟩, .inl ⟨_, rfl⟩, ?_⟩
    rw [placeOf_int, if_pos ⟨by omega, by omega⟩, Int.toNat_natCast, wordV_int, if_pos wok]
    dsimp only
    walk_at "w3"
    have J2 := J1.pair (J1.I.hput (i := i) wok) rfl fun b x _ _ _ _ _ n1 _ _ _ _ g => (upd_ne n1).trans g
    refine q _ ⟨J2, J.L, fun u mu => ?_, ?_, J.n⟩ (kp1.tr fun b x _ _ _ _ _ n1 _ _ _ _ _ g => (upd_ne n1).trans g)
    · rcases List.mem_or_eq_of_mem_set mu with h | h
      · exact J.hk u h
      · rw [h]
        exact ok
    · show U.hs.set i (TH.word pl t) = (hs.set i t).map (TH.word pl)
      rw [J.he, List.map_set]
end

local macro_rules | `(tactic| walk_at "w3") => `(tactic| try simp only [↓x_var0, ↓x_varS, ↓x_c, ↓x_op, ↓x_un, ↓x_cb, ↓x_nil, ↓x_cons, ↓x_test, ↓x_b, ↓x_ex, ↓x_and, ↓x_or, ↓x_not, ↓x_andV, ↓x_orV, ↓x_notV, ↓x_tif, ↓x_chain, ↓x_menu, ↓x_menuI, ↓x_lst, ↓x_tup, ↓x_dnew, ↓x_callW, ↓x_callN, ↓x_seq, ↓x_next, ↓x_ret, ↓x_retN, ↓x_drop, ↓x_ifS, ↓x_asg, ↓x_name, ↓x_raise, ↓x_fld, ↓x_setF, ↓x_meth, ↓x_make, ↓x_sub, ↓r_min, ↓r_max, ↓x_yes, ↓x_for, ↓x_lock, ↓x_keys, ↓x_cut, ↓x_lc, ↓x_rng1, ↓x_rng2, ↓x_lst1, ↓x_itup, ↓x_rng3, ↓x_three, ↓x_lstg, ↓x_tupg, ↓x_adrS, ↓x_one, ↓x_two, ↓x_adr, ↓x_sl, ↓x_np, ↓x_pt, ↓x_int, ↓x_bm, ↓x_bm0, ↓x_consg, ↓x_nilg, ↓x_dget2, ↓x_dget1, ↓x_dgetN, ↓x_dget, ↓x_din, ↓x_dni, ↓x_dput, ↓x_dpop2, ↓r_isB, ↓r_notB, ↓x_enum, ↓x_zip, ↓x_str, ↓x_strE, ↓r_inS, ↓r_ninS, wipe, List.map_cons, List.map_nil, ↓x_isT, ↓r_isiII, ↓r_isiBB, ↓r_isiIB, ↓r_isiSS, ↓r_neNS, ↓r_neSN, ↓r_neNN, ↓r_eqNS, ↓r_eqSN, ↓r_eqNN, ↓r_eqIS, ↓r_neIS, ↓r_neSI, ↓r_neBS, ↓r_eqBB, ↓r_neBB, ↓x_start, ↓x_K, ↓x_start0, ↓r_i0, ↓r_i, ↓r_u, ↓r_addI, ↓r_addS, ↓r_mulI, ↓r_mulS, ↓r_eqI, ↓r_neI, ↓r_eqS, ↓r_neS, ↓r_absI, ↓r_intI, ↓r_intB, List.length_cons, List.length_nil, List.replicate, List.set_cons_zero, List.set_cons_succ, decide_eq_true_eq, Bool.not_eq_true', decide_eq_false_iff_not, if_true, if_false, Bool.false_eq_true, Bool.true_eq_false, ite_true, ite_false, Bool.not_true, Bool.not_false, c_div, n_ten, c_pow, not_true_eq_false, not_false_eq_true, decide_true, decide_false, true_and, and_true, and_self, true_or, or_true, Int.reduceLT, Int.reduceLE, Int.reduceMul, Int.reduceAdd, Int.reduceSub, Int.reducePow, Int.reduceNeg, Int.reduceDiv, Int.reduceMod, Nat.reducePow, Int.reduceToNat, Int.reduceEq, Int.reduceNe, Nat.reduceLT, Nat.reduceLeDiff, Nat.reduceAdd, ↓x_whole, ↓x_kind, Int.natCast_one, Int.natCast_one, Int.natCast_one, Int.natCast_one, Int.natCast_one, Int.natCast_one, Int.natCast_one, Int.natCast_one, Int.natCast_one, Int.natCast_one, Int.natCast_one, Int.natCast_one, Int.natCast_one, Int.natCast_one, Int.natCast_one, Int.natCast_one, Int.natCast_one, Int.natCast_one, Int.natCast_one])
theorem law12_nil {n k : Nat} (gn : n ≤ 2000) (gk : k ≤ 500) : Law12 (arS n k) [] [] [] [] [] [] where
  y := ⟨CelP.nil, (fun c m => (List.not_mem_nil m).elim), List.length_replicate, Nat.zero_le _, by show n + 2 * k ≤ 9999; omega, ⟨Nat.le_refl _, Nat.le_add_right _ _⟩, rfl, by show 0 + (n - n) ≤ n; omega⟩
  b := ⟨(fun c m => (List.not_mem_nil m).elim), (fun c m => (List.not_mem_nil m).elim)⟩
  l1 := rfl
  l2 := rfl
  l3 := rfl
  nd := List.nodup_nil
  up := fun k p r ts h => by cases h
  dn := fun c m => (List.not_mem_nil m).elim
  ag_ := fun k p a h => by cases h
  gn := fun k a h => by cases h
  th := fun k p ts h => by cases h
  s8 := fun ts m => (List.not_mem_nil m).elim
  cv := ⟨[], .nil, fun p m => (List.not_mem_nil m).elim⟩
def sp_built12 (K : PySem.W.Frag) : Sp := fun vs H Q _ => ∃ a, ∃ ns : List Int, vs = [.ref a] ∧ SqL K H a (ns.map V.int) ∧ ns.length ≤ 1000 ∧
  ∀ o A R w S U C rs pl ag sl hs H', All12 K H' o A R w (kd6 (.ref A.a) (.ref R.r) (.ref w.pa) (.ref w.aa) (.ref w.sa) (.ref w.ha)) S U C rs pl ag sl hs → ag.length ≤ 10 → U.ts = [] → U.ws = [] → U.ss = [] → 1 ≤ hs.length → Same H H' → Q (.ref o) H'
theorem Kp12.fresh {A : ArA} {R : RoA} {bd : Addr} {w : W12} {H H1 H2 : Hp} (k : Kp12 A R bd w [] H1 H2) (s : Same H H1) (f : H A.a = none ∧ H A.l = none ∧ H A.o = none ∧ H A.p = none ∧ H A.q = none ∧ H R.hl = none ∧ H R.wl = none ∧ H R.d = none ∧ H R.e = none ∧ H bd = none ∧ H w.pa = none ∧ H w.aa = none ∧ H w.sa = none ∧ H w.ha = none) : Same H H2 := fun b x g => by
  obtain ⟨f1, f2, f3, f4, f5, f6, f7, f8, f9, f10, f11, f12, f13, f14⟩ := f
  have n : ∀ {c}, H c = none → b ≠ c := fun h e => by
    subst e
    rw [g] at h
    cases h
  refine k b x (n f1) (n f2) (n f3) (n f4) (n f5) (n f6) (n f7) (n f8) (n f9) (n f10) (fun m => ?_) (s _ _ g)
  rcases List.mem_cons.mp m with rfl | m
  · exact n f11 rfl
  rcases List.mem_cons.mp m with rfl | m
  · exact n f12 rfl
  rcases List.mem_cons.mp m with rfl | m
  · exact n f13 rfl
  rcases List.mem_cons.mp m with rfl | m
  · exact n f14 rfl
  · exact List.not_mem_nil m
/-- what is new now was new ahead -/
theorem I12.new {K : PySem.W.Frag} {H H0 : Hp} {o : Addr} {A : ArA} {R : RoA} {w : W12} {kv : List (Key × V)} {S : ArS} {U : RoS} {rs rs0 : List Addr} {pl : List (Option Nat)} {ag : List Nat} {sl : List (List TH)} {hs : List TH} (J : I12 K H o A R w kv S U rs pl ag sl hs) (k : Kp12 A R U.bd w rs0 H0 H) (sub : ∀ a ∈ rs0, a ∈ rs) {r : Addr} (hr : H r = none) : H0 r = none := by
  have of := J.I.offl hr
  cases e : H0 r with
  | none => rfl
  | some x =>
    have := k r x (ne_of_none J.I.ar.ob hr).symm of.1.1 (ne_of_none J.I.ar.so hr).symm (ne_of_none J.I.ar.sp hr).symm (ne_of_none J.I.ar.sq hr).symm of.1.2.1 of.1.2.2.1 of.1.2.2.2.1 of.1.2.2.2.2 of.2 (fun m => by
      have m2 : r ∈ w.ls rs := by
        rcases List.mem_cons.mp m with rfl | m
        · exact List.mem_cons_self
        rcases List.mem_cons.mp m with rfl | m
        · exact (ls_in (w := w)).2.1
        rcases List.mem_cons.mp m with rfl | m
        · exact (ls_in (w := w)).2.2.1
        rcases List.mem_cons.mp m with rfl | m
        · exact (ls_in (w := w)).2.2.2.1
        · exact (ls_in (w := w)).2.2.2.2 r (sub r m)
      obtain ⟨xs, e2⟩ := J.L.lst m2
      rw [hr] at e2
      cases e2) e
    rw [hr] at this
    cases this
/-- another list of one's own stays -/
theorem I12.stay {K : PySem.W.Frag} {H0 : Hp} {o : Addr} {A : ArA} {R : RoA} {w : W12} {kv : List (Key × V)} {S : ArS} {U : RoS} {rs : List Addr} {pl : List (Option Nat)} {ag : List Nat} {sl : List (List TH)} {hs : List TH} (J : I12 K H0 o A R w kv S U rs pl ag sl hs) {p : Addr} (np : H0 p = none) : p ≠ A.a ∧ p ≠ A.l ∧ p ≠ A.o ∧ p ≠ A.p ∧ p ≠ A.q ∧ p ≠ R.hl ∧ p ≠ R.wl ∧ p ≠ R.d ∧ p ≠ R.e ∧ p ≠ U.bd ∧ p ∉ w.ls rs := by
  have of := J.I.offl np
  exact ⟨(ne_of_none J.I.ar.ob np).symm, of.1.1, (ne_of_none J.I.ar.so np).symm, (ne_of_none J.I.ar.sp np).symm, (ne_of_none J.I.ar.sq np).symm, of.1.2.1, of.1.2.2.1, of.1.2.2.2.1, of.1.2.2.2.2, of.2, fun m => by
    obtain ⟨xs, e2⟩ := J.L.lst m
    rw [np] at e2
    cases e2⟩
theorem Kp12.at {A : ArA} {R : RoA} {bd : Addr} {w : W12} {rs : List Addr} {H H1 : Hp} (k : Kp12 A R bd w rs H H1) {p : Addr} {x : HO} (f : p ≠ A.a ∧ p ≠ A.l ∧ p ≠ A.o ∧ p ≠ A.p ∧ p ≠ A.q ∧ p ≠ R.hl ∧ p ≠ R.wl ∧ p ≠ R.d ∧ p ≠ R.e ∧ p ≠ bd ∧ p ∉ w.ls rs) (g : H p = some x) : H1 p = some x :=
  k p x f.1 f.2.1 f.2.2.1 f.2.2.2.1 f.2.2.2.2.1 f.2.2.2.2.2.1 f.2.2.2.2.2.2.1 f.2.2.2.2.2.2.2.1 f.2.2.2.2.2.2.2.2.1 f.2.2.2.2.2.2.2.2.2.1 f.2.2.2.2.2.2.2.2.2.2 g
theorem All12.same {K : PySem.W.Frag} {H H' : Hp} {o : Addr} {A : ArA} {R : RoA} {w : W12} {kv : List (Key × V)} {S : ArS} {U : RoS} {C : List CeL} {rs : List Addr} {pl : List (Option Nat)} {ag : List Nat} {sl : List (List TH)} {hs : List TH} (J : All12 K H o A R w kv S U C rs pl ag sl hs) (s : Same H H') : All12 K H' o A R w kv S U C rs pl ag sl hs := { J with J := J.J.same s }
theorem TH.lt_ok {S : ArS} {C : List CeL} {bs : List Int} {rs : List Addr} {pl : List (Option Nat)} {ag : List Nat} {sl : List (List TH)} (L : Law12 S C bs rs pl ag sl) (all : ∀ x ∈ pl, ∃ p, x = some p) {t : TH} (h : TH.lt pl.length t) : TH.ok pl t := by
  cases t with
  | non => trivial
  | num n => exact h
  | cell k =>
    have hk : k < pl.length := h
    obtain ⟨p, ep⟩ := all _ (List.getElem_mem hk)
    have e := List.getElem?_eq_getElem hk
    rw [ep] at e
    exact ⟨p, e, (L.p9 e).1⟩
section
variable {P : Program} {w : World} {K : PySem.W.Frag} {mg : Str → Option Value} {base : Heap}
theorem f__law_built (T : Tx K mg) : Fn P w K mg base 9 "_law_built" ["_law_script"] (sp_built12 K) := by
  have c__law_at := f__law_at (P := P) (w := w) (base := base) T
  have c_Areas___init__ := f_Areas___init__ (P := P) (w := w) (base := base) T
  have c_Roots___init__ := f_Roots___init__ (P := P) (w := w) (base := base) T
  have c__law_laid := f__law_laid (P := P) (w := w) (base := base) T
  have c__law_put := f__law_put (P := P) (w := w) (base := base) T
  have c__law_thing := f__law_thing (P := P) (w := w) (base := base) T
  have c__law_held := f__law_held (P := P) (w := w) (base := base) T
  refine T.mkFn 80 51 (d := d__law_built) (N := ["_law_script", "_law_young", "_law_areas", "_law_many", "_law_own", "_law_cell", "_law_k", "_law_slot", "_law_hand"]) (k := 8) rfl rfl rfl rfl rfl sc__law_built (fun _ _ _ _ _ _ us hl => match us, hl with | [_], _ => rfl) (fun vs H Q E h => ?len) (fun cdv A outer s H vs Q E hr h => ⟨_,
      (pss_cons (ps_set (i := 1) sc__law_built.nd rfl (Or.inl rfl) (pe_op op_gAdd pe_int (pe_op op_mod (pe_fn (takes_of rfl rfl rfl rfl) c__law_at (hr.mono (by decide)) (by rfl) (pa_cons (pv 0) (pa_cons pe_int pa_nil))) pe_int)))
        (pss_cons (ps_set (i := 2) sc__law_built.nd rfl (Or.inl rfl) (pe_mk (K := K) rfl (takes_of rfl rfl rfl rfl) c_Areas___init__ (hr.mono (by decide)) (by rfl) (pa_cons (pe_op op_gAdd (pe_op op_gAdd (pv 1) pe_int) (pe_op op_mod (pe_fn (takes_of rfl rfl rfl rfl) c__law_at (hr.mono (by decide)) (by rfl) (pa_cons (pv 0) (pa_cons pe_int pa_nil))) pe_int)) (pa_cons (pv 1) pa_nil))))
        (pss_cons (ps_set (i := 3) sc__law_built.nd rfl (Or.inl rfl) (pe_op op_gAdd pe_int (pe_op op_mod (pe_fn (takes_of rfl rfl rfl rfl) c__law_at (hr.mono (by decide)) (by rfl) (pa_cons (pv 0) (pa_cons pe_int pa_nil))) pe_int)))
        (pss_cons (ps_set (i := 4) sc__law_built.nd rfl (Or.inl rfl) (pe_disp (pps_cons pe_str (pv 2) (pps_cons pe_str (pe_mk (K := K) rfl (takes_of rfl rfl rfl rfl) c_Roots___init__ (hr.mono (by decide)) (by rfl) (pa_cons (pv 3) pa_nil)) (pps_cons pe_str (pe_lst pa_nil) (pps_cons pe_str (pe_lst pa_nil) (pps_cons pe_str (pe_lst pa_nil) pps_nil))))) rfl rfl (by decide) (by decide)))
        (pss_cons (ps_dput (hu_of hr) (pv 4) pe_str (pe_op op_gMul (pe_lst (pa_cons pe_non pa_nil)) (pv 3)) rfl)
        (pss_cons (ps_for (passes_of rfl) rfl (pi_listK (K := K) rfl (pe_slice (sl_listK (K := K) rfl) (pv 0) (po_some pe_int) (po_some pe_int))) (pg_name (i := 5) sc__law_built.nd rfl (Or.inl rfl)) (pss_one (ps_expr (pe_fn (takes_of rfl rfl rfl rfl) c__law_laid (hr.mono (by decide)) (by rfl) (pa_cons (pv 4) (pa_cons (pv 5) pa_nil))))))
        (pss_cons (ps_for (passes_of rfl) rfl (pi_range1 rfl (T.free 71) (pa_cons (pe_callB (call_lenK (K := K) rfl) (by rfl) (T.free 69) PySem.boot_len (pa_cons (pe_dget (hu_of hr) (pv 4) pe_str (fun _ _ => rfl)) pa_nil)) pa_nil)) (pg_name (i := 6) sc__law_built.nd rfl (Or.inl rfl)) (pss_one (ps_for (passes_of rfl) rfl (pi_range1 rfl (T.free 71) (pa_cons (pe_callB (call_lenK (K := K) rfl) (by rfl) (T.free 69) PySem.boot_len (pa_cons (pe_ix (ix_seqK (K := K) rfl) (pe_dget (hu_of hr) (pv 4) pe_str (fun _ _ => rfl)) (pv 6) (fun _ _ => rfl)) pa_nil)) pa_nil)) (pg_name (i := 7) sc__law_built.nd rfl (Or.inl rfl)) (pss_cons (ps_set (i := 5) sc__law_built.nd rfl (Or.inl rfl) (pe_op op_gAdd (pe_fn (takes_of rfl rfl rfl rfl) c__law_at (hr.mono (by decide)) (by rfl) (pa_cons (pv 0) (pa_cons (pe_op op_gAdd pe_int (pe_op op_mod (pe_op op_gAdd (pe_op op_gMul pe_int (pv 6)) (pv 7)) pe_int)) pa_nil))) (pe_op op_gMul pe_int (pv 6))))
        (pss_one (ps_expr (pe_fn (takes_of rfl rfl rfl rfl) c__law_put (hr.mono (by decide)) (by rfl) (pa_cons (pv 4) (pa_cons (pv 6) (pa_cons (pv 7) (pa_cons (pe_fn (takes_of rfl rfl rfl rfl) c__law_thing (hr.mono (by decide)) (by rfl) (pa_cons (pv 5) (pa_cons (pe_callB (call_lenK (K := K) rfl) (by rfl) (T.free 69) PySem.boot_len (pa_cons (pe_dget (hu_of hr) (pv 4) pe_str (fun _ _ => rfl)) pa_nil)) pa_nil))) pa_nil)))))))))))
        (pss_cons (ps_for (passes_of rfl) rfl (pi_range1 rfl (T.free 71) (pa_cons (pv 3) pa_nil)) (pg_name (i := 8) sc__law_built.nd rfl (Or.inl rfl)) (pss_one (ps_expr (pe_fn (takes_of rfl rfl rfl rfl) c__law_held (hr.mono (by decide)) (by rfl) (pa_cons (pv 4) (pa_cons (pv 8) (pa_cons (pe_fn (takes_of rfl rfl rfl rfl) c__law_thing (hr.mono (by decide)) (by rfl) (pa_cons (pe_fn (takes_of rfl rfl rfl rfl) c__law_at (hr.mono (by decide)) (by rfl) (pa_cons (pv 0) (pa_cons (pe_op op_gAdd pe_int (pv 8)) pa_nil))) (pa_cons (pe_callB (call_lenK (K := K) rfl) (by rfl) (T.free 69) PySem.boot_len (pa_cons (pe_dget (hu_of hr) (pv 4) pe_str (fun _ _ => rfl)) pa_nil)) pa_nil))) pa_nil)))))))
        (pss_one (ps_ret (pv 4))))))))))), ?rd⟩)
  case len => first | exact len__law_built h | (repeat (first | (obtain ⟨rfl, _⟩ := h; rfl; done) | obtain ⟨_, h⟩ := h))
  case rd =>
    obtain ⟨a, ns, rfl, hS, hl, q⟩ := h
    have sz : 1000000 ≤ sizeLine := by rw [sizeLine_eq]; omega
    walk_at "w3"
    refine ⟨a, _, ns, rfl, hS, by omega, ?_⟩
    walk_at "w3"
    refine ⟨a, _, ns, rfl, hS, by omega, ?_⟩
    walk_at "w3"
    obtain ⟨k, ek, hk⟩ : ∃ k : Nat, 4 + cell ns 0 % 17 = (k : Int) ∧ 4 ≤ k ∧ k ≤ 20 := ⟨(4 + cell ns 0 % 17).toNat, by omega, by omega⟩
    obtain ⟨n, en, hn⟩ : ∃ n : Nat, (k : Int) + 4 + cell ns 1 % 50 = (n : Int) ∧ 8 ≤ n ∧ n ≤ 80 := ⟨((k : Int) + 4 + cell ns 1 % 50).toNat, by omega, by omega⟩
    rw [ek, en]
    intro g gx ng ngx nge
    have ev2 : oldV (.int (n : Int)) = some n := by rw [oldV_int, if_pos (by omega), Int.toNat_natCast]
    have ev3 : youngV (.int (k : Int)) = some k := by rw [youngV_int, if_pos (by omega), Int.toNat_natCast]
    refine ⟨g, gx, _, _, rfl, upd_same, .inl ⟨_, rfl⟩, .inl ⟨_, rfl⟩, ?_⟩
    rw [ev2]
    dsimp only
    rw [ev3]
    intro A H2 eg I2 nl no np nq nm k2
    subst eg
    have sm := same_mk (C := He.ga K "Areas") ng ngx nge
    have s02 : Same H H2 := fun b o e => k2 _ _ (ne_of_none e ng) (sm _ _ e)
    refine ⟨rfl, ?_⟩
    refine ⟨a, _, ns, rfl, s02.seq hS, by omega, ?_⟩
    walk_at "w3"
    obtain ⟨m, em, hm⟩ : ∃ m : Nat, 1 + cell ns 2 % 4 = (m : Int) ∧ 1 ≤ m ∧ m ≤ 4 := ⟨(1 + cell ns 2 % 4).toNat, by omega, by omega⟩
    rw [em]
    intro o no_
    simp only [x_pcons, x_pnil]
    walk_at "w3"
    have so := same_new (o := .dK []) no_
    have ho3 : upd H2 o (.dK []) o = some (.dK []) := upd_same
    have I3 := I2.same so
    have s03 := s02.trans so
    generalize upd H2 o (.dK []) = H3 at ho3 I3 s03 ⊢
    intro r rx nr nrx nre
    have ev1 : handsV (.int (m : Int)) = some m := by rw [handsV_int, if_pos (by omega), Int.toNat_natCast]
    refine ⟨r, rx, _, rfl, upd_same, .inl ⟨_, rfl⟩, ?_⟩
    rw [ev1]
    intro R U H4 er eU R4 zz k4
    subst er
    have sr := same_mk (C := He.ga K "Roots") nr nrx nre
    have s34 : Same H3 H4 := fun b o e => k4 _ _ (ne_of_none e nr) (sr _ _ e)
    have zn : ∀ c, c = R.h ∨ c = R.hl ∨ c = R.b ∨ c = U.bd ∨ c = R.w ∨ c = R.wl ∨ c = R.la ∨ c = R.d ∨ c = R.e → H3 c = none := fun c mc => none_of sr (zz c mc)
    have s04 := s03.trans s34
    have hhl := zn R.hl (.inr (.inl rfl))
    have hwl := zn R.wl (.inr (.inr (.inr (.inr (.inr (.inl rfl))))))
    have hd := zn R.d (.inr (.inr (.inr (.inr (.inr (.inr (.inr (.inl rfl))))))))
    have he := zn R.e (.inr (.inr (.inr (.inr (.inr (.inr (.inr (.inr rfl))))))))
    have hbd := zn U.bd (.inr (.inr (.inr (.inl rfl))))
    have I4 : PairO K H4 A R (arS n k) U := ⟨I3.same s34, R4, ne_of_none I3.me.ls hhl, ne_of_none I3.me.ls hwl, ne_of_none I3.me.ls hd, ne_of_none I3.me.ls he⟩
    have ehs : U.hs = List.replicate m (-1) := by rw [eU]
    have ets : U.ts = [] := by rw [eU]
    have ews : U.ws = [] := by rw [eU]
    have ess : U.ss = [] := by rw [eU]
    have ebs : U.bs = [] := by rw [eU]
    have obd : o ≠ U.bd := ne_of_none ho3 hbd
    have ho4 := s34 _ _ ho3
    have smA := sm
    clear sm k2 sr k4 zz zn
    refine ⟨rfl, ?_⟩
    walk_at "w3"
    refine ⟨by omega, fun pa npa => ⟨by omega, fun aa naa => ⟨by omega, fun sa nsa => ?_⟩⟩⟩
    have n0 : ∀ {Hx : Hp} {c : Addr}, Same H Hx → Hx c = none → H c = none := fun s e => none_of s e
    have s1 := same_new (o := .lst []) npa
    have s2 := same_new (o := .lst []) naa
    have s3 := same_new (o := .lst []) nsa
    have hpa : upd (upd (upd H4 pa (.lst [])) aa (.lst [])) sa (.lst []) pa = some (.lst []) := s3 _ _ (s2 _ _ upd_same)
    have haa : upd (upd (upd H4 pa (.lst [])) aa (.lst [])) sa (.lst []) aa = some (.lst []) := s3 _ _ upd_same
    have hsa : upd (upd (upd H4 pa (.lst [])) aa (.lst [])) sa (.lst []) sa = some (.lst []) := upd_same
    have pa_aa : pa ≠ aa := ne_of_none upd_same naa
    have pa_sa : pa ≠ sa := ne_of_none (s2 _ _ upd_same) nsa
    have aa_sa : aa ≠ sa := ne_of_none upd_same nsa
    have ofa := (I4.offl npa).1
    have ofb := ((I4.same s1).offl naa).1
    have ofc := ((I4.same (s1.trans s2)).offl nsa).1
    have s05 := s04.trans ((s1.trans s2).trans s3)
    have npaH := none_of s04 npa
    have naaH := none_of (s04.trans s1) naa
    have nsaH := none_of (s04.trans (s1.trans s2)) nsa
    have I5 := I4.same ((s1.trans s2).trans s3)
    have ho5 := ((s1.trans s2).trans s3) _ _ ho4
    generalize upd (upd (upd H4 pa (.lst [])) aa (.lst [])) sa (.lst []) = H5 at hpa haa hsa s05 I5 ho5 ⊢
    refine ⟨ho5, kd5' (.ref A.a) (.ref R.r) (.ref pa) (.ref aa) (.ref sa), rfl, by show 5 ≤ 15; omega, by omega, ?_⟩
    rw [merge5']
    have I6 := I5.offD (o := .dK (kd5' (.ref A.a) (.ref R.r) (.ref pa) (.ref aa) (.ref sa))) ho5 obd
    have ono := none_of s02 no_
    have s06 : Same H (upd H5 o (.dK (kd5' (.ref A.a) (.ref R.r) (.ref pa) (.ref aa) (.ref sa)))) := fun b x g => (upd_ne (ne_of_none g ono)).trans (s05 _ _ g)
    have ls6 : ∀ {b xs}, H5 b = some (.lst xs) → upd H5 o (.dK (kd5' (.ref A.a) (.ref R.r) (.ref pa) (.ref aa) (.ref sa))) b = some (.lst xs) := fun g => (upd_ne (ne_of g ho5 (by intro z; cases z))).trans g
    have hpa := ls6 hpa
    have haa := ls6 haa
    have hsa := ls6 hsa
    have ho6 : upd H5 o (.dK (kd5' (.ref A.a) (.ref R.r) (.ref pa) (.ref aa) (.ref sa))) o = some (.dK (kd5' (.ref A.a) (.ref R.r) (.ref pa) (.ref aa) (.ref sa))) := upd_same
    clear ls6
    generalize upd H5 o (.dK (kd5' (.ref A.a) (.ref R.r) (.ref pa) (.ref aa) (.ref sa))) = H6 at hpa haa hsa ho6 s06 I6 ⊢
    intro p1 np1
    have s7 := same_new (o := .lst [V.non]) np1
    refine ⟨_, upd_same, by omega, by omega, by rw [Int.toNat_natCast]; show 1 * m ≤ _; omega, fun ha nha => ?_⟩
    rw [Int.toNat_natCast, flat_rep]
    have s8 := same_new (o := .lst (List.replicate m V.non)) nha
    have ha_ : upd (upd H6 p1 (.lst [V.non])) ha (.lst (List.replicate m V.non)) ha = some (.lst (List.replicate m V.non)) := upd_same
    have pa_ha : pa ≠ ha := ne_of_none (s7 _ _ hpa) nha
    have aa_ha : aa ≠ ha := ne_of_none (s7 _ _ haa) nha
    have sa_ha : sa ≠ ha := ne_of_none (s7 _ _ hsa) nha
    have ofd := ((I6.same s7).offl nha).1
    have nhaH := none_of (s06.trans s7) nha
    have s08 := s06.trans (s7.trans s8)
    have I8 := I6.same (s7.trans s8)
    have hpa := (s7.trans s8) _ _ hpa
    have haa := (s7.trans s8) _ _ haa
    have hsa := (s7.trans s8) _ _ hsa
    have ho8 := (s7.trans s8) _ _ ho6
    generalize upd (upd H6 p1 (.lst [V.non])) ha (.lst (List.replicate m V.non)) = H8 at ha_ s08 I8 hpa haa hsa ho8 ⊢
    have dp := DPut.k (k := (.inr "hands" : Key)) (v := .ref ha) ho8 (by rw [sizeLine_eq]; show 5 < _; decide)
    rw [kd6_put] at dp
    refine ⟨_, dp, ?_⟩
    have I9 := I8.offD (o := .dK (kd6 (.ref A.a) (.ref R.r) (.ref pa) (.ref aa) (.ref sa) (.ref ha))) ho8 obd
    have s09 : Same H (upd H8 o (.dK (kd6 (.ref A.a) (.ref R.r) (.ref pa) (.ref aa) (.ref sa) (.ref ha)))) := fun b x g => (upd_ne (ne_of_none g ono)).trans (s08 _ _ g)
    have ls9 : ∀ {b xs}, H8 b = some (.lst xs) → upd H8 o (.dK (kd6 (.ref A.a) (.ref R.r) (.ref pa) (.ref aa) (.ref sa) (.ref ha))) b = some (.lst xs) := fun g => (upd_ne (ne_of g ho8 (by intro z; cases z))).trans g
    have hpa := ls9 hpa
    have haa := ls9 haa
    have hsa := ls9 hsa
    have ha_ := ls9 ha_
    have ho9 : upd H8 o (.dK (kd6 (.ref A.a) (.ref R.r) (.ref pa) (.ref aa) (.ref sa) (.ref ha))) o = some (.dK (kd6 (.ref A.a) (.ref R.r) (.ref pa) (.ref aa) (.ref sa) (.ref ha))) := upd_same
    clear ls9
    generalize upd H8 o (.dK (kd6 (.ref A.a) (.ref R.r) (.ref pa) (.ref aa) (.ref sa) (.ref ha))) = H9 at ho9 s09 I9 hpa haa hsa ha_ ⊢
    have J9 : All12 K H9 o A R ⟨pa, aa, sa, ha⟩ (kd6 (.ref A.a) (.ref R.r) (.ref pa) (.ref aa) (.ref sa) (.ref ha)) (arS n k) U [] [] [] [] [] (List.replicate m .non) := {
      J := { I := I9, L := { ks := ho9, k0 := kd6_0, k1 := kd6_1, k2 := kd6_2, k3 := kd6_3, k4 := kd6_4, k5 := kd6_5, pp := hpa, ga := haa, ss := hsa, rw_ := fun k r e => by (cases e), hh := ⟨_, ha_, THs.rep⟩ }, nd := ?nd, of := ?of, ob := obd }
      L := by rw [ebs]; exact law12_nil (by omega) (by omega)
      hk := fun t mt => by (rw [List.eq_of_mem_replicate mt]; trivial)
      he := by rw [ehs, List.map_replicate]; rfl
      n := Nat.zero_le _ }
    case nd =>
      show [pa, aa, sa, ha].Nodup
      simp [pa_aa, pa_sa, pa_ha, aa_sa, aa_ha, sa_ha]
    case of =>
      intro c mc
      have mc : c ∈ [pa, aa, sa, ha] := mc
      simp only [List.mem_cons, List.not_mem_nil, or_false] at mc
      rcases mc with rfl | rfl | rfl | rfl
      · exact ofa
      · exact ofb
      · exact ofc
      · exact ofd
    have fr : H A.a = none ∧ H A.l = none ∧ H A.o = none ∧ H A.p = none ∧ H A.q = none ∧ H R.hl = none ∧ H R.wl = none ∧ H R.d = none ∧ H R.e = none ∧ H U.bd = none ∧ H pa = none ∧ H aa = none ∧ H sa = none ∧ H ha = none := ⟨ng, none_of smA nl, none_of smA no, none_of smA np, none_of smA nq, none_of s03 hhl, none_of s03 hwl, none_of s03 hd, none_of s03 he, none_of s03 hbd, npaH, naaH, nsaH, nhaH⟩
    refine ⟨a, _, rfl, s09.seq hS, fun p10 np10 => ?_⟩
    obtain ⟨cs, ec⟩ := cut_ints ns (some 4) (some 14)
    have el : cs.length ≤ 10 := by
      have h := cut_len (xs := ns.map V.int) (a := 4) (b := 14) (by omega) (by omega)
      rw [ec, List.length_map] at h
      exact h
    rw [ec]
    have hp10 : upd H9 p10 (.lst (cs.map V.int)) p10 = some (.lst (cs.map V.int)) := upd_same
    have k10 : Kp12 A R U.bd ⟨pa, aa, sa, ha⟩ [] H9 (upd H9 p10 (.lst (cs.map V.int))) := .of (same_new np10)
    have J10 := J9.same (same_new (o := .lst (cs.map V.int)) np10)
    have st10 := J9.J.stay np10
    generalize upd H9 p10 (.lst (cs.map V.int)) = H10 at hp10 k10 J10 ⊢
    have sm : ∀ {Hx : Hp}, Kp12 A R U.bd ⟨pa, aa, sa, ha⟩ [] H10 Hx → Same H Hx := fun k => (k10.tr k).fresh s09 fr
    refine ⟨p10, rfl, ⟨_, .of hp10⟩, forW_list (xs := cs.map V.int) (fun i σ H' => ∃ o5 S C rs pl ag sl, σ = [some (.ref a), some (.int (k : Int)), some (.ref A.a), some (.int (m : Int)), some (.ref o), o5, none, none, none] ∧ All12 K H' o A R ⟨pa, aa, sa, ha⟩ (kd6 (.ref A.a) (.ref R.r) (.ref pa) (.ref aa) (.ref sa) (.ref ha)) S U C rs pl ag sl (List.replicate m .non) ∧ ag.length ≤ i ∧ Kp12 A R U.bd ⟨pa, aa, sa, ha⟩ [] H10 H' ∧ (∀ x ∈ rs, H10 x = none) ∧ ∀ x ∈ pl, ∃ p, x = some p) ⟨_, _, _, _, _, _, _, rfl, J10, Nat.zero_le _, .refl, (fun x m => (List.not_mem_nil m).elim), fun x m => (List.not_mem_nil m).elim⟩ ?_ ?_ ?_⟩
    · rintro i σ H' _ ⟨o5, S, C, rs, pl, ag, sl, rfl, J, -, kk, -, -⟩
      exact .of (kk.at st10 hp10)
    · rintro i x σ H' hx ⟨o5, S, C, rs, pl, ag, sl, rfl, J, hag, kk, rn, al⟩
      obtain ⟨c, hc, rfl⟩ := ints_atY hx
      have hi := (List.getElem?_eq_some_iff.mp hc).1
      walk_at "w3"
      refine ⟨o, A, R, _, _, S, U, C, rs, pl, ag, sl, _, c, rfl, J, by omega, fun S' C' rs' pl' ag' sl' H'' J' _ _ g k' => ?_⟩
      walk_at "w3"
      have kk' := kk.trans k' fun x mx => .inr (rn x mx)
      rcases g with ⟨rfl, rfl, rfl, rfl⟩ | ⟨r, p, a', s', nr, rfl, rfl, rfl, rfl⟩
      · exact ⟨_, S', C', _, _, _, _, rfl, J', by omega, kk', rn, al⟩
      · refine ⟨_, S', C', _, _, _, _, rfl, J', by rw [List.length_append]; show ag.length + 1 ≤ _; omega, kk', fun x mx => ?_, fun x mx => ?_⟩
        · rcases List.mem_append.mp mx with h | h
          · exact rn x h
          · rw [List.mem_singleton.mp h]
            exact J.J.new kk (fun _ m => (List.not_mem_nil m).elim) nr
        · rcases List.mem_append.mp mx with h | h
          · exact al x h
          · exact ⟨p, List.mem_singleton.mp h⟩
    rintro σ H11 ⟨o5, S, C, rs, pl, ag, sl, rfl, J, hag, kk, rn, al⟩
    rw [List.length_map] at hag
    walk_at "w3"
    refine ⟨_, J.J.L.get J.J.L.k2, ?_⟩
    refine r_lenL J.J.L.pp ?_
    rw [List.length_map]
    have l1 := J.L.l1
    have l2 := J.L.l2
    have l3 := J.L.l3
    walk_at "w3"
    refine ⟨by omega, by omega, ?_⟩
    rw [Int.toNat_natCast]
    refine forW_range (fun i σ H' => ∃ o5 o6 o7 S C U' sl, σ = [some (.ref a), some (.int (k : Int)), some (.ref A.a), some (.int (m : Int)), some (.ref o), o5, o6, o7, none] ∧ All12 K H' o A R ⟨pa, aa, sa, ha⟩ (kd6 (.ref A.a) (.ref R.r) (.ref pa) (.ref aa) (.ref sa) (.ref ha)) S U' C rs pl ag sl (List.replicate m .non) ∧ U'.bd = U.bd ∧ U'.ts = [] ∧ U'.ws = [] ∧ U'.ss = [] ∧ Kp12 A R U.bd ⟨pa, aa, sa, ha⟩ [] H10 H') ⟨_, _, _, S, C, U, sl, rfl, J, rfl, ets, ews, ess, kk⟩ ?_ ?_
    · rintro i σ H' hi ⟨o5, o6, o7, S1, C1, U1, sl1, rfl, J1, ub, ut, uw, us, k1⟩
      have l2' := J1.L.l2
      have er := List.getElem?_eq_getElem (l := rs) (i := i) (by omega)
      obtain ⟨ts, vs, es, hr, hv⟩ := J1.J.L.rw_ i _ er
      obtain ⟨p, ep⟩ := al _ (List.getElem_mem (by omega : i < pl.length))
      have ep' := List.getElem?_eq_getElem (l := pl) (i := i) (by omega)
      rw [ep] at ep'
      have t8 := J1.L.s8 ts (List.mem_of_getElem? es)
      walk_at "w3"
      refine ⟨_, J1.J.L.get J1.J.L.k4, ?_⟩
      walk_at "w3"
      simp only [Int.zero_add]
      refine r_ixL J1.J.L.ss (by rw [List.getElem?_map, er]; rfl) ?_
      refine r_lenL hr ?_
      rw [hv.len]
      walk_at "w3"
      refine ⟨by omega, by omega, ?_⟩
      rw [Int.toNat_natCast]
      refine forW_range (fun j σ H' => ∃ o5 o7 S C U' sl ts', σ = [some (.ref a), some (.int (k : Int)), some (.ref A.a), some (.int (m : Int)), some (.ref o), o5, some (.int (i : Int)), o7, none] ∧ All12 K H' o A R ⟨pa, aa, sa, ha⟩ (kd6 (.ref A.a) (.ref R.r) (.ref pa) (.ref aa) (.ref sa) (.ref ha)) S U' C rs pl ag sl (List.replicate m .non) ∧ U'.bd = U.bd ∧ U'.ts = [] ∧ U'.ws = [] ∧ U'.ss = [] ∧ sl[i]? = some ts' ∧ ts'.length = ts.length ∧ Kp12 A R U.bd ⟨pa, aa, sa, ha⟩ [] H10 H') ⟨_, _, S1, C1, U1, sl1, ts, rfl, J1, ub, ut, uw, us, es, rfl, k1⟩ ?_ ?_
      · rintro j σ H2' hj ⟨o5', o7', S2, C2, U2, sl2, ts2, rfl, J2, ub2, ut2, uw2, us2, es2, tl2, k2'⟩
        walk_at "w3"
        simp only [Int.zero_add]
        obtain ⟨z, ez⟩ : ∃ z : Nat, 14 + (5 * (i : Int) + (j : Int)) % 22 = (z : Int) := ⟨(14 + (5 * (i : Int) + (j : Int)) % 22).toNat, by omega⟩
        rw [ez]
        refine ⟨a, _, ns, rfl, (sm k2').seq hS, by omega, ?_⟩
        walk_at "w3"
        refine ⟨_, J2.J.L.get J2.J.L.k2, ?_⟩
        refine r_lenL J2.J.L.pp ?_
        rw [List.length_map]
        refine ⟨_, pl.length, rfl, fun t v H3 s3 ht tl => ?_⟩
        have J3 := J2.same s3
        refine ⟨o, A, R, _, _, S2, U2, C2, rs, pl, ag, sl2, _, i, p, j, ts2, t, v, rfl, J3, ep', es2, by omega, ht, TH.lt_ok J2.L al tl, fun S4 C4 bs4 H4 J4 _ _ k4 => ?_⟩
        walk_at "w3"
        rw [ub2] at k4
        refine ⟨_, _, S4, C4, _, _, ts2.set j t, rfl, J4, ub2, ut2, uw2, us2, List.getElem?_set_self (List.getElem?_eq_some_iff.mp es2).1, by rw [List.length_set]; exact tl2, (k2'.tr (.of s3)).trans k4 fun x mx => .inr (rn x mx)⟩
      · rintro σ H2' ⟨o5', o7', S2, C2, U2, sl2, ts2, rfl, J2, ub2, ut2, uw2, us2, es2, tl2, k2'⟩
        walk_at "w3"
        exact ⟨_, _, _, S2, C2, U2, sl2, rfl, J2, ub2, ut2, uw2, us2, k2'⟩
    rintro σ H12 ⟨o5', o6', o7', S1, C1, U1, sl1, rfl, J1, ub, ut, uw, us, k1⟩
    walk_at "w3"
    refine ⟨by omega, by omega, ?_⟩
    rw [Int.toNat_natCast]
    refine forW_range (fun i σ H' => ∃ o8 U' hs, σ = [some (.ref a), some (.int (k : Int)), some (.ref A.a), some (.int (m : Int)), some (.ref o), o5', o6', o7', o8] ∧ All12 K H' o A R ⟨pa, aa, sa, ha⟩ (kd6 (.ref A.a) (.ref R.r) (.ref pa) (.ref aa) (.ref sa) (.ref ha)) S1 U' C1 rs pl ag sl1 hs ∧ hs.length = m ∧ U'.bd = U.bd ∧ U'.ts = [] ∧ U'.ws = [] ∧ U'.ss = [] ∧ Kp12 A R U.bd ⟨pa, aa, sa, ha⟩ [] H10 H') ⟨_, U1, _, rfl, J1, List.length_replicate, ub, ut, uw, us, k1⟩ ?_ ?_
    · rintro i σ H' hi ⟨o8, U2, hs2, rfl, J2, hl2, ub2, ut2, uw2, us2, k2'⟩
      walk_at "w3"
      simp only [Int.zero_add]
      rw [show 36 + (i : Int) = ((36 + i : Nat) : Int) from by omega]
      refine ⟨a, _, ns, rfl, (sm k2').seq hS, by omega, ?_⟩
      walk_at "w3"
      refine ⟨_, J2.J.L.get J2.J.L.k2, ?_⟩
      refine r_lenL J2.J.L.pp ?_
      rw [List.length_map]
      refine ⟨_, pl.length, rfl, fun t v H3 s3 ht tl => ?_⟩
      have J3 := J2.same s3
      refine ⟨o, A, R, _, _, S1, U2, C1, rs, pl, ag, sl1, hs2, i, t, v, rfl, J3, by omega, ht, TH.lt_ok J2.L al tl, fun H4 J4 k4 => ?_⟩
      walk_at "w3"
      rw [ub2] at k4
      exact ⟨_, _, _, rfl, J4, by rw [List.length_set]; exact hl2, ub2, ut2, uw2, us2, (k2'.tr (.of s3)).trans k4 fun x mx => .inr (rn x mx)⟩
    rintro σ H13 ⟨o8, U2, hs2, rfl, J2, hl2, ub2, ut2, uw2, us2, k2'⟩
    walk_at "w3"
    exact q o A R ⟨pa, aa, sa, ha⟩ S1 U2 C1 rs pl ag sl1 hs2 _ J2 (by omega) ut2 uw2 us2 (by omega) (sm k2')
end

local macro_rules | `(tactic| walk_at "w3") => `(tactic| try simp only [↓x_var0, ↓x_varS, ↓x_c, ↓x_op, ↓x_un, ↓x_cb, ↓x_nil, ↓x_cons, ↓x_test, ↓x_b, ↓x_ex, ↓x_and, ↓x_or, ↓x_not, ↓x_andV, ↓x_orV, ↓x_notV, ↓x_tif, ↓x_chain, ↓x_menu, ↓x_menuI, ↓x_lst, ↓x_tup, ↓x_dnew, ↓x_callW, ↓x_callN, ↓x_seq, ↓x_next, ↓x_ret, ↓x_retN, ↓x_drop, ↓x_ifS, ↓x_asg, ↓x_name, ↓x_raise, ↓x_fld, ↓x_setF, ↓x_meth, ↓x_make, ↓x_sub, ↓r_min, ↓r_max, ↓x_yes, ↓x_for, ↓x_lock, ↓x_keys, ↓x_cut, ↓x_lc, ↓x_rng1, ↓x_rng2, ↓x_lst1, ↓x_itup, ↓x_rng3, ↓x_three, ↓x_lstg, ↓x_tupg, ↓x_adrS, ↓x_one, ↓x_two, ↓x_adr, ↓x_sl, ↓x_np, ↓x_pt, ↓x_int, ↓x_bm, ↓x_bm0, ↓x_consg, ↓x_nilg, ↓x_dget2, ↓x_dget1, ↓x_dgetN, ↓x_dget, ↓x_din, ↓x_dni, ↓x_dput, ↓x_dpop2, ↓r_isB, ↓r_notB, ↓x_enum, ↓x_zip, ↓x_str, ↓x_strE, ↓r_inS, ↓r_ninS, wipe, List.map_cons, List.map_nil, ↓x_isT, ↓r_isiII, ↓r_isiBB, ↓r_isiIB, ↓r_isiSS, ↓r_neNS, ↓r_neSN, ↓r_neNN, ↓r_eqNS, ↓r_eqSN, ↓r_eqNN, ↓r_eqIS, ↓r_neIS, ↓r_neSI, ↓r_neBS, ↓r_eqBB, ↓r_neBB, ↓x_start, ↓x_K, ↓x_start0, ↓r_i0, ↓r_i, ↓r_u, ↓r_addI, ↓r_addS, ↓r_mulI, ↓r_mulS, ↓r_eqI, ↓r_neI, ↓r_eqS, ↓r_neS, ↓r_absI, ↓r_intI, ↓r_intB, List.length_cons, List.length_nil, List.replicate, List.set_cons_zero, List.set_cons_succ, decide_eq_true_eq, Bool.not_eq_true', decide_eq_false_iff_not, if_true, if_false, Bool.false_eq_true, Bool.true_eq_false, ite_true, ite_false, Bool.not_true, Bool.not_false, c_div, n_ten, c_pow, not_true_eq_false, not_false_eq_true, decide_true, decide_false, true_and, and_true, and_self, true_or, or_true, Int.reduceLT, Int.reduceLE, Int.reduceMul, Int.reduceAdd, Int.reduceSub, Int.reducePow, Int.reduceNeg, Int.reduceDiv, Int.reduceMod, Nat.reducePow, Int.reduceToNat, Int.reduceEq, Int.reduceNe, Nat.reduceLT, Nat.reduceLeDiff, Nat.reduceAdd, ↓x_whole, ↓x_kind, Int.natCast_one, Int.natCast_one, Int.natCast_one, Int.natCast_one, Int.natCast_one, Int.natCast_one, Int.natCast_one, Int.natCast_one, Int.natCast_one, Int.natCast_one, Int.natCast_one, Int.natCast_one, Int.natCast_one, Int.natCast_one, Int.natCast_one, Int.natCast_one, Int.natCast_one, Int.natCast_one, Int.natCast_one, Int.natCast_one])
/-! ## the law's own order -/
theorem call_sortedTK {X : Cx} {K : PySem.W.Frag} (hK : X.K = K) : CallR X (.builtin "sorted") (rSortedPO K) := hK ▸ cr_sortedPO
/-- pairs of a place and a number -/
def TupK (H : Hp) (pl : List (Option Nat)) : List Addr → List Nat → Prop
  | [], [] => True
  | t :: r, k :: s => (∃ p, pl[k]? = some (some p) ∧ H t = some (.tup [.int (p : Int), .int (k : Int)])) ∧ TupK H pl r s
  | _, _ => False
theorem TupK.same {H H' : Hp} {pl : List (Option Nat)} (s : Same H H') : ∀ {as : List Addr} {ks : List Nat}, TupK H pl as ks → TupK H' pl as ks
  | [], [], _ => trivial
  | _ :: _, _ :: _, ⟨⟨p, a, b⟩, c⟩ => ⟨⟨p, a, s _ _ b⟩, TupK.same s c⟩
  | [], _ :: _, h => h.elim
  | _ :: _, [], h => h.elim
theorem TupK.fr {H H' : Hp} {pl : List (Option Nat)} (s : ∀ c xs, H c = some (.tup xs) → H' c = some (.tup xs)) : ∀ {as : List Addr} {ks : List Nat}, TupK H pl as ks → TupK H' pl as ks
  | [], [], _ => trivial
  | _ :: _, _ :: _, ⟨⟨p, a, b⟩, c⟩ => ⟨⟨p, a, s _ _ b⟩, TupK.fr s c⟩
  | [], _ :: _, h => h.elim
  | _ :: _, [], h => h.elim
theorem TupK.snoc {H : Hp} {pl : List (Option Nat)} {t : Addr} {k p : Nat} (hp : pl[k]? = some (some p)) (ht : H t = some (.tup [.int (p : Int), .int (k : Int)])) : ∀ {as : List Addr} {ks : List Nat}, TupK H pl as ks → TupK H pl (as ++ [t]) (ks ++ [k])
  | [], [], _ => ⟨⟨p, hp, ht⟩, trivial⟩
  | _ :: _, _ :: _, ⟨a, c⟩ => ⟨a, TupK.snoc hp ht c⟩
  | [], _ :: _, h => h.elim
  | _ :: _, [], h => h.elim
theorem TupK.len {H : Hp} {pl : List (Option Nat)} : ∀ {as : List Addr} {ks : List Nat}, TupK H pl as ks → as.length = ks.length
  | [], [], _ => rfl
  | _ :: _, _ :: _, ⟨_, c⟩ => congrArg (· + 1) (TupK.len c)
  | [], _ :: _, h => h.elim
  | _ :: _, [], h => h.elim
/-- what a pair tells -/
def kk12 (H : Hp) : V → Int × Int
  | .ref t => match H t with
    | some (.tup [.int i, .int j]) => (i, j)
    | _ => (0, 0)
  | _ => (0, 0)
theorem kk12_at {H : Hp} {t : Addr} {i j : Int} (h : H t = some (.tup [.int i, .int j])) : kk12 H (.ref t) = (i, j) := by
  show (match H t with | some (.tup [.int i, .int j]) => (i, j) | _ => (0, 0)) = _
  rw [h]
theorem TupK.all {H : Hp} {pl : List (Option Nat)} : ∀ {as : List Addr} {ks : List Nat}, TupK H pl as ks → (as.map V.ref).map (fun v => (kk12 H v).2.toNat) = ks ∧ ∀ x ∈ as.map V.ref, ∃ t k p, x = .ref t ∧ k ∈ ks ∧ pl[k]? = some (some p) ∧ H t = some (.tup [.int (p : Int), .int (k : Int)])
  | [], [], _ => ⟨rfl, fun x m => (List.not_mem_nil m).elim⟩
  | t :: r, k :: s, ⟨⟨p, a, b⟩, c⟩ => by
    obtain ⟨h1, h2⟩ := TupK.all c
    refine ⟨?_, fun x m => ?_⟩
    · show ((kk12 H (.ref t)).2.toNat) :: (r.map V.ref).map _ = _
      rw [h1, kk12_at b]
      rfl
    · rcases List.mem_cons.mp m with e | m
      · exact ⟨t, k, p, e, List.mem_cons_self, a, b⟩
      · obtain ⟨t, k, p, h⟩ := h2 x m
        exact ⟨t, k, p, h.1, List.mem_cons_of_mem _ h.2.1, h.2.2⟩
  | [], _ :: _, h => h.elim
  | _ :: _, [], h => h.elim
/-- what sorting tells -/
theorem sort12 {S : ArS} {C : List CeL} {bs : List Int} {rs : List Addr} {pl : List (Option Nat)} {ag : List Nat} {sl : List (List TH)} (L : Law12 S C bs rs pl ag sl) {H : Hp} {as : List Addr} {ks : List Nat} (tk : TupK H pl as ks) (nd : ks.Nodup) {ys : List V} (so : SrtO.Srtd (ltP (kk12 H)) ys) (pm : ys.Perm (as.map V.ref)) :
    ∃ ko : List Nat, ko.Perm ks ∧ (ko.Pairwise fun a b : Nat => fP pl (a : Int) < fP pl (b : Int)) ∧ ys.length = ko.length ∧ ∀ (i : Nat) (x : V), ys[i]? = some x → ∃ (t : Addr) (k p : Nat), x = V.ref t ∧ ko[i]? = some k ∧ pl[k]? = some (some p) ∧ H t = some (.tup [.int (p : Int), .int (k : Int)]) := by
  obtain ⟨h1, h2⟩ := tk.all
  have pk : (ys.map fun v => (kk12 H v).2.toNat).Perm ks := by
    rw [← h1]
    exact pm.map _
  have at_ : ∀ y ∈ ys, ∃ t k p, y = .ref t ∧ k ∈ ks ∧ pl[k]? = some (some p) ∧ H t = some (.tup [.int (p : Int), .int (k : Int)]) := fun y m => h2 y (pm.mem_iff.mp m)
  refine ⟨_, pk, ?_, (List.length_map ..).symm, fun i x e => ?_⟩
  · have ndk := pk.nodup_iff.mpr nd
    have ndk : ys.Pairwise fun a b => (kk12 H a).2.toNat ≠ (kk12 H b).2.toNat := List.pairwise_map.mp ndk
    refine List.pairwise_map.mpr (List.Pairwise.imp_of_mem (fun {x y} mx my h => ?_) (so.and ndk))
    obtain ⟨t, k, p, rfl, -, ep, ht⟩ := at_ x mx
    obtain ⟨t', k', p', rfl, -, ep', ht'⟩ := at_ y my
    obtain ⟨g1, g2⟩ := h
    have g1 : SrtO.lexB (kk12 H (.ref t')) (kk12 H (.ref t)) = false := g1
    rw [kk12_at ht, kk12_at ht'] at g1
    rw [kk12_at ht, kk12_at ht'] at g2 ⊢
    rw [Int.toNat_natCast, Int.toNat_natCast] at g2 ⊢
    rw [fP_some ep, fP_some ep']
    unfold SrtO.lexB at g1
    dsimp only at g1
    by_cases c : (p' : Int) = (p : Int)
    · have : p' = p := by omega
      subst this
      exact absurd (L.inj ep ep') g2
    · rw [if_neg c, decide_eq_false_iff_not] at g1
      omega
  · obtain ⟨t, k, p, rfl, -, ep, ht⟩ := at_ x (List.mem_of_getElem? e)
    refine ⟨t, k, p, rfl, ?_, ep, ht⟩
    rw [List.getElem?_map, e]
    show some ((kk12 H (.ref t)).2.toNat) = some k
    rw [kk12_at ht]
    rfl
def sp_order12 (K : PySem.W.Frag) : Sp := fun vs H Q _ => ∃ o A R w kv S U C rs pl ag sl hs, vs = [.ref o] ∧ All12 K H o A R w kv S U C rs pl ag sl hs ∧
  ∀ (O : List Int) p H', (∀ ns : List Int, ns.Perm U.bs → ns.Pairwise (· ≤ ·) → O.map (fP pl) = ordY S C U.hs ns) → (∀ x ∈ O, x ∈ UY pl ag) → O.Nodup → H p = none → Same H H' → H' p = some (.lst (O.map V.int)) → Q (.ref p) H'
theorem Law12.ordU {S : ArS} {C : List CeL} {bs : List Int} {rs : List Addr} {pl : List (Option Nat)} {ag : List Nat} {sl : List (List TH)} (L : Law12 S C bs rs pl ag sl) {st : List TH} {n : Nat} (ok : ∀ t ∈ st, TH.ok pl t) : (∀ x ∈ ordT ag sl n st, x ∈ UY pl ag) ∧ (ordT ag sl n st).Nodup := by
  have inF : ∀ x ∈ addN [] (ykT ag st), x ∈ UY pl ag := fun x m => (addN_mem m).elim (fun z => (List.not_mem_nil z).elim) (L.yin ok x)
  exact ⟨reach_in L.kin inF, reach_nd (addN_nd List.nodup_nil)⟩
theorem UY_len {S : ArS} {C : List CeL} {bs : List Int} {rs : List Addr} {pl : List (Option Nat)} {ag : List Nat} {sl : List (List TH)} (L : Law12 S C bs rs pl ag sl) {O : List Int} (nd : O.Nodup) (h : ∀ x ∈ O, x ∈ UY pl ag) : O.length ≤ C.length ∧ O.length ≤ ag.length := by
  constructor
  · have n2 : (O.map (fP pl)).Nodup := List.pairwise_map.mpr (List.Pairwise.imp_of_mem (fun {a b} ma mb n e => n (L.inU a (h a ma) b (h b mb) e)) nd)
    have := nd_len (U := C.map fun c => (c.p : Int)) n2 fun x mx => by
      obtain ⟨k, mk, rfl⟩ := List.mem_map.mp mx
      obtain ⟨k', a, p, rfl, h1, h2, h3⟩ := UY_mem.mp (h k mk)
      obtain ⟨r, ts, -, -, mc⟩ := L.cell h3
      rw [fP_some h3]
      exact List.mem_map.mpr ⟨_, mc, rfl⟩
    rwa [List.length_map, List.length_map] at this
  · have := nd_len nd h
    have h2 : (UY pl ag).length ≤ ag.length := by
      unfold UY
      rw [List.length_map]
      have := List.length_filter_le (fun k => decide (ag.getD k 0 < 2) && (pl.getD k none).isSome) (List.range ag.length)
      rwa [List.length_range] at this
    omega
section
variable {P : Program} {w : World} {K : PySem.W.Frag} {mg : Str → Option Value} {base : Heap}
theorem f__law_order (T : Tx K mg) : Fn P w K mg base 1 "_law_order" ["_law_own"] (sp_order12 K) := by
  refine T.mkFn 81 52 (d := d__law_order) (N := ["_law_own", "_law_starts", "_law_old", "_law_k", "_law_at_here", "_law_found", "_law_turn", "_law_thing_here"]) (k := 0) rfl rfl rfl rfl rfl sc__law_order (fun _ _ _ _ _ _ us hl => match us, hl with | [_], _ => rfl) (fun vs H Q E h => ?len) (fun cdv A outer s H vs Q E hr h => ⟨_,
      (pss_cons (ps_set (i := 1) sc__law_order.nd rfl (Or.inl rfl) (pe_callTy (call_listK (K := K) rfl) (by rfl) (T.free 78) (by decide +kernel) (pa_cons (pe_dget (hu_of hr) (pv 0) pe_str (fun _ _ => rfl)) pa_nil)))
        (pss_cons (ps_set (i := 2) sc__law_order.nd rfl (Or.inl rfl) (pe_callB (call_sortedTK (K := K) rfl) (by rfl) (T.free 72) (by decide +kernel) (pa_cons (pe_lc (own := [("_law_k", 3)]) (g := gName 3) rfl sc__law_order.nd (pi_range1 rfl (T.free 71) (pa_cons (pe_callB (call_lenK (K := K) rfl) (by rfl) (T.free 69) PySem.boot_len (pa_cons (pe_dget (hu_of hr) (pv 0) pe_str (fun _ _ => rfl)) pa_nil)) pa_nil)) (blkOk_by (own := [("_law_k", 3)]) (N := ["_law_own", "_law_starts", "_law_old", "_law_k", "_law_at_here", "_law_found", "_law_turn", "_law_thing_here"]) (sc := defScope s__law_order) (by decide +kernel)) (fun _ _ _ _ _ => (pg_name (i := 3) sc__law_order.nd rfl (Or.inl rfl))) (fun _ _ _ _ _ => pts_one (pt_cmpR (op_eqK (K := K) rfl hr.units) (pe_ix (ix_seqK (K := K) rfl) (pe_dget (hu_of hr) (pv 0) pe_str (fun _ _ => rfl)) (pv 3) (fun _ _ => rfl)) pe_int (nomark _))) (fun _ _ _ _ _ => (pe_tup (pa_cons (pe_ix (ix_seqK (K := K) rfl) (pe_dget (hu_of hr) (pv 0) pe_str (fun _ _ => rfl)) (pv 3) (fun _ _ => rfl)) (pa_cons (pv 3) pa_nil))))) pa_nil)))
        (pss_cons (ps_for (passes_of rfl) rfl (pi_listK (K := K) rfl (pv 2)) (pg_tup (n := 2) rfl (pgs_cons (pg_name (i := 4) sc__law_order.nd rfl (Or.inl rfl)) (pgs_cons (pg_name (i := 3) sc__law_order.nd rfl (Or.inl rfl)) pgs_nil))) (pss_one (ps_set (i := 1) sc__law_order.nd rfl (Or.inl rfl) (pe_op op_gAdd (pv 1) (pe_ix (ix_seqK (K := K) rfl) (pe_dget (hu_of hr) (pv 0) pe_str (fun _ _ => rfl)) (pv 3) (fun _ _ => rfl))))))
        (pss_cons (ps_set (i := 5) sc__law_order.nd rfl (Or.inl rfl) (pe_lst pa_nil))
        (pss_cons (ps_set (i := 6) sc__law_order.nd rfl (Or.inl rfl) pe_int)
        (pss_cons (ps_while (passes_of rfl) (pt_cmpR op_le (pv 6) (pe_callB (call_lenK (K := K) rfl) (by rfl) (T.free 69) PySem.boot_len (pa_cons (pv 5) pa_nil)) (nomark _)) (pss_cons (ps_for (passes_of rfl) rfl (pi_listK (K := K) rfl (pv 1)) (pg_name (i := 7) sc__law_order.nd rfl (Or.inl rfl)) (pss_one (ps_if (PW.pt (pw_and (pt_cmpR op_notN (pv 7) pe_non (nomark _)) (pw_and (pt_cmpR (op_eqK (K := K) rfl hr.units) (pe_ix (ix_seqK (K := K) rfl) (pv 7) pe_int (fun _ _ => rfl)) pe_str (nomark _)) (pw_and (pt_cmpR op_lt (pe_ix (ix_seqK (K := K) rfl) (pe_dget (hu_of hr) (pv 0) pe_str (fun _ _ => rfl)) (pe_ix (ix_seqK (K := K) rfl) (pv 7) pe_int (fun _ _ => rfl)) (fun _ _ => rfl)) pe_int (nomark _)) (pw_and1 (pt_cmpR (op_ninK (K := K) rfl) (pe_ix (ix_seqK (K := K) rfl) (pv 7) pe_int (fun _ _ => rfl)) (pv 5) (by rfl))))))) (pss_one (ps_expr (pe_bm PySem.F.plainAttrs_list PySem.F.slot_list_append PySem.F.type_list_append mt_append (pv 5) (pa_cons (pe_ix (ix_seqK (K := K) rfl) (pv 7) pe_int (fun _ _ => rfl)) pa_nil)))) pss_nil)))
        (pss_cons (ps_if (pt_cmpR op_lt (pv 6) (pe_callB (call_lenK (K := K) rfl) (by rfl) (T.free 69) PySem.boot_len (pa_cons (pv 5) pa_nil)) (nomark _)) (pss_one (ps_set (i := 1) sc__law_order.nd rfl (Or.inl rfl) (pe_ix (ix_seqK (K := K) rfl) (pe_dget (hu_of hr) (pv 0) pe_str (fun _ _ => rfl)) (pe_ix (ix_seqK (K := K) rfl) (pv 5) (pv 6) (fun _ _ => rfl)) (fun _ _ => rfl)))) pss_nil)
        (pss_one (ps_set (i := 6) sc__law_order.nd rfl (Or.inl rfl) (pe_op op_gAdd (pv 6) pe_int))))))
        (pss_one (ps_ret (pv 5))))))))), ?rd⟩)
  case len => first | exact len__law_order h | (repeat (first | (obtain ⟨rfl, _⟩ := h; rfl; done) | obtain ⟨_, h⟩ := h))
  case rd =>
    obtain ⟨o, A, R, w, kv, S, U, C, rs, pl, ag, sl, hs, rfl, J, q⟩ := h
    have sz : 1000000 ≤ sizeLine := by rw [sizeLine_eq]; omega
    have an := J.n
    walk_at "w3"
    refine ⟨_, J.J.L.get J.J.L.k5, ?_⟩
    obtain ⟨hvs, hhv, htv⟩ := J.J.L.hh
    refine ⟨w.ha, hvs, rfl, .inl (.of hhv), fun s0 ns0 => ?_⟩
    have s1 := same_new (o := .lst hvs) ns0
    have hs0 : upd H s0 (.lst hvs) s0 = some (.lst hvs) := upd_same
    have J1 := J.same s1
    generalize upd H s0 (.lst hvs) = H1 at s1 hs0 J1 ⊢
    refine ⟨_, J1.J.L.get J1.J.L.k3, r_lenL J1.J.L.ga ?_⟩
    rw [List.length_map]
    walk_at "w3"
    rw [Int.toNat_natCast]
    have l1 := J.L.l1
    have l2 := J.L.l2
    have l3 := J.L.l3
    refine ⟨by omega, by omega, fun D nD => lc_range (fun i H' => ∃ as, Same H1 H' ∧ H' D = some (.lst (as.map V.ref)) ∧ TupK H' pl as ((List.range i).filter fun k => decide (ag.getD k 0 = 2))) ⟨[], same_new nD, upd_same, trivial⟩ (fun i Hx hi e => ?_) fun Hx e => ?_⟩
    · obtain ⟨as, s, hD, tk⟩ := e
      have Jx := J1.same s
      have ea := List.getElem?_eq_getElem (l := ag) (i := i) hi
      have ep := List.getElem?_eq_getElem (l := pl) (i := i) (by omega)
      have ek : (List.range (i + 1)).filter (fun k => decide (ag.getD k 0 = 2)) = (List.range i).filter (fun k => decide (ag.getD k 0 = 2)) ++ if ag[i] = 2 then [i] else [] := by
        rw [List.range_succ, List.filter_append]
        congr 1
        by_cases c : ag[i] = 2
        · rw [if_pos c, List.filter_cons_of_pos (by rw [getD_of ea]; exact decide_eq_true c), List.filter_nil]
        · rw [if_neg c, List.filter_cons_of_neg (by rw [getD_of ea, decide_eq_true_iff]; exact c), List.filter_nil]
      rw [ek]
      walk_at "w3"
      refine ⟨_, Jx.J.L.get Jx.J.L.k3, ?_⟩
      simp only [Int.zero_add]
      refine r_ixL Jx.J.L.ga (by rw [List.getElem?_map, ea]; rfl) ?_
      walk_at "w3"
      by_cases c : ag[i] = 2
      · rw [if_pos (by omega), if_pos c]
        have ep2 : ∃ p, pl[i]? = some (some p) := by
          cases e : pl[i]'(by omega) with
          | none =>
            rw [e] at ep
            have := J.L.gn i _ ep ea
            omega
          | some p =>
            rw [e] at ep
            exact ⟨p, ep⟩
        obtain ⟨p, ep2⟩ := ep2
        refine ⟨_, Jx.J.L.get Jx.J.L.k2, ?_⟩
        refine r_ixL Jx.J.L.pp (by rw [List.getElem?_map, ep2]; rfl) ?_
        refine ⟨by omega, fun T nT => ?_⟩
        have sT := same_new (o := .tup [plV (some p), .int (i : Int)]) nT
        have TD : D ≠ T := ne_of_none hD nT
        refine ⟨_, sT _ _ hD, ?_, as ++ [T], fun b x g => ?_, ?_, ?_⟩
        · rw [List.length_map, tk.len]
          have := List.length_filter_le (fun k => decide (ag.getD k 0 = 2)) (List.range i)
          rw [List.length_range] at this
          omega
        · exact (upd_ne (ne_of_none g nD)).trans (sT _ _ (s _ _ g))
        · rw [upd_same, List.map_append]
          rfl
        · have f1 : ∀ c xs, upd Hx T (.tup [plV (some p), .int (i : Int)]) c = some (.tup xs) → upd (upd Hx T (.tup [plV (some p), .int (i : Int)])) D (.lst (as.map V.ref ++ [V.ref T])) c = some (.tup xs) := fun c xs g => (upd_ne (ne_of g (sT _ _ hD) (by intro z; cases z))).trans g
          exact ((tk.same sT).fr f1).snoc ep2 (f1 _ _ upd_same)
      · rw [if_neg (by omega), if_neg c, List.append_nil]
        exact ⟨as, s, hD, tk⟩
    obtain ⟨as, s2, hD, tk⟩ := e
    have J2 := J1.same s2
    have nd0 : ((List.range ag.length).filter fun k => decide (ag.getD k 0 = 2)).Nodup := List.Pairwise.filter _ (List.nodup_range (n := ag.length))
    obtain ⟨-, ta2⟩ := tk.all
    refine ⟨D, _, kk12 Hx, rfl, .of hD, fun x mx => ?_, fun ys p3 so st np3 => ?_⟩
    · obtain ⟨t, k, p, rfl, -, -, ht⟩ := ta2 x mx
      exact ⟨t, rfl, by rw [kk12_at ht]; exact ht⟩
    obtain ⟨ko, pk, sk, yl, yat⟩ := sort12 J.L tk nd0 so st.perm
    have mk : ∀ k : Nat, k ∈ ko ↔ ∃ a, ag[k]? = some a ∧ ¬ a < 2 := fun k => by
      rw [pk.mem_iff, List.mem_filter, List.mem_range, decide_eq_true_iff]
      constructor
      · rintro ⟨hk, h2⟩
        exact ⟨_, _root_.G.getD_at (d := 0) hk, by omega⟩
      · rintro ⟨a, ea, na⟩
        have hk := (List.getElem?_eq_some_iff.mp ea).1
        refine ⟨hk, ?_⟩
        rw [getD_of ea]
        have ep := List.getElem?_eq_getElem (l := pl) (i := k) (by omega)
        cases e : pl[k]'(by omega) with
        | none =>
          rw [e] at ep
          exact absurd (J.L.gn k a ep ea) na
        | some p =>
          rw [e] at ep
          have := (J.L.ag_ k p a ep ea).2.1
          omega
    have s3 := same_new (o := .lst ys) np3
    have hp3 : upd Hx p3 (.lst ys) p3 = some (.lst ys) := upd_same
    have J3 := J2.same s3
    have s13 := s2.trans s3
    generalize upd Hx p3 (.lst ys) = H3 at s3 hp3 J3 s13 ⊢
    have kol : ko.length ≤ ag.length := by
      have h1 := pk.length_eq
      have := List.length_filter_le (fun k => decide (ag.getD k 0 = 2)) (List.range ag.length)
      rw [List.length_range] at this
      omega
    have hl6 := J.J.I.ro.ho.sz
    have hl6' : hs.length ≤ 6 := by
      have := congrArg List.length J.he
      rw [List.length_map] at this
      omega
    have oldl : ∀ i, (oldT sl (ko.take i)).length ≤ 8 * ko.length := fun i => by
      have : ∀ {l : List Nat}, (oldT sl l).length ≤ 8 * l.length := fun {l} => by
        induction l with
        | nil => exact Nat.le_refl _
        | cons k r ih =>
          show (sl.getD k [] ++ oldT sl r).length ≤ 8 * (r.length + 1)
          rw [List.length_append]
          have : (sl.getD k []).length ≤ 8 := by
            rw [List.getD_eq_getElem?_getD]
            cases e : sl[k]? with
            | none => exact Nat.zero_le _
            | some ts => exact J.L.s8 ts (List.mem_of_getElem? e)
          omega
      have h := this (l := ko.take i)
      have := List.length_take_le i ko
      rw [List.length_take] at h
      omega
    refine ⟨p3, rfl, ⟨_, .of hp3⟩, forW_list (xs := ys) (fun i σ H' => ∃ o3 o4 s vs, σ = [some (.ref o), some (.ref s), some (.ref p3), o3, o4, none, none, none] ∧ Same H3 H' ∧ H' s = some (.lst vs) ∧ THs H' (hs ++ oldT sl (ko.take i)) vs) ⟨_, _, s0, hvs, rfl, Same.refl _, (s13 _ _ hs0), by (show THs H3 (hs ++ []) hvs); rw [List.append_nil]; exact htv.same (s1.trans s13)⟩ ?_ ?_ ?_⟩
    · rintro i σ H' _ ⟨o3, o4, s, vs, rfl, s', -, -⟩
      exact .of (s' _ _ hp3)
    · rintro i x σ H' hx ⟨o3, o4, s, vs, rfl, s', hv, tv⟩
      obtain ⟨t, k, p, rfl, ek, ep, ht⟩ := yat i x hx
      have J' := J3.same s'
      have ht' := s' _ _ (s3 _ _ ht)
      obtain ⟨a, r, ts, ea, er, es⟩ := J.L.row ep
      obtain ⟨ts', vs', es', hr, hv'⟩ := J'.J.L.rw_ k r er
      rw [es] at es'
      cases es'
      have e1 : oldT sl (ko.take (i + 1)) = oldT sl (ko.take i) ++ ts := by
        rw [List.take_add_one, ek]
        unfold oldT
        rw [List.flatMap_append]
        show _ ++ (sl.getD k [] ++ []) = _
        rw [getD_of es, List.append_nil]
      walk_at "w3"
      refine ⟨_, .inl (.inl ht'), rfl, ?_⟩
      walk_at "w3"
      refine ⟨_, J'.J.L.get J'.J.L.k4, ?_⟩
      refine r_ixL J'.J.L.ss (by rw [List.getElem?_map, er]; rfl) ?_
      have h8 := J.L.s8 ts (List.mem_of_getElem? es)
      have ol := oldl i
      have vl := tv.len
      rw [List.length_append] at vl
      have vl2 := hv'.len
      refine ⟨_, _, hv, hr, by omega, fun r2 nr2 => ?_⟩
      have s4 := same_new (o := .lst (vs ++ vs')) nr2
      refine ⟨_, _, r2, _, rfl, s'.trans s4, upd_same, ?_⟩
      rw [e1, ← List.append_assoc]
      exact (tv.same s4).app (hv'.same s4)
    rintro σ H4 ⟨o3, o4, s, vs, rfl, s4, hv, tv⟩
    rw [yl, List.take_length] at tv
    have vl := tv.len
    rw [List.length_append] at vl
    have ol := oldl ko.length
    rw [List.take_length] at ol
    walk_at "w3"
    refine ⟨by omega, fun f nf => ?_⟩
    have s5 := same_new (o := .lst []) nf
    have hf0 : upd H4 f (.lst []) f = some (.lst []) := upd_same
    have hv5 := s5 _ _ hv
    have tv5 := tv.same s5
    have J5 := (J3.same s4).same s5
    have nfH : H f = none := none_of ((s1.trans s13).trans s4) nf
    have s15 := ((s1.trans s13).trans s4).trans s5
    have J4 := J3.same s4
    have f5 := J4.J.stay nf
    generalize upd H4 f (.lst []) = H5 at s5 hf0 hv5 tv5 J5 s15 ⊢
    walk_at "w3"
    have hk : ∀ k ∈ ko, ∃ p, pl[k]? = some (some p) := fun k m => by
      obtain ⟨a, ea, na⟩ := (mk k).mp m
      have hl := (List.getElem?_eq_some_iff.mp ea).1
      have e := List.getElem?_eq_getElem (l := pl) (i := k) (by omega)
      cases e2 : pl[k]'(by omega) with
      | none =>
        rw [e2] at e
        exact absurd (J.L.gn k a e ea) na
      | some p =>
        rw [e2] at e
        exact ⟨p, e⟩
    have okA : ∀ t ∈ hs ++ oldT sl ko, TH.ok pl t := fun t m => (List.mem_append.mp m).elim (J.hk t) ((J.L.olds hk).2 t)
    obtain ⟨ou, on⟩ := J.L.ordU (n := C.length) okA
    have fin := fun (ns : List Int) (pm : ns.Perm U.bs) (so : ns.Pairwise (· ≤ ·)) => (J.L.ord J.hk mk sk J.J.I.ro.bo.nd pm so).1
    rw [← J.he] at fin
    have eO : ordT ag sl C.length (hs ++ oldT sl ko) = reachR (kT ag sl) (C.length + 1) (addN [] (ykT ag (hs ++ oldT sl ko))) 0 := rfl
    generalize ordT ag sl C.length (hs ++ oldT sl ko) = O at ou on fin eO
    refine whW (fun m σ H' => ∃ (t : Nat) (F : List Int), ∃ st vs s o7, σ = [some (.ref o), some (.ref s), some (.ref p3), o3, o4, some (.ref f), some (.int (t : Int)), o7] ∧ Same H4 H' ∧ H' f = some (.lst (F.map V.int)) ∧ F.Nodup ∧ (∀ x ∈ F, x ∈ UY pl ag) ∧ ((m + t = C.length + 1 ∧ t ≤ F.length ∧ H4 s = some (.lst vs) ∧ THs H4 st vs ∧ st.length ≤ 1000000 ∧ (∀ u ∈ st, TH.ok pl u) ∧ reachR (kT ag sl) (C.length + 1 - t) (addN F (ykT ag st)) t = O) ∨ (t = F.length + 1 ∧ F = O))) ⟨C.length + 1, 0, [], hs ++ oldT sl ko, vs, s, _, rfl, s5, hf0, List.nodup_nil, (fun x m => (List.not_mem_nil m).elim), .inl ⟨rfl, Nat.le_refl _, hv, tv, by rw [List.length_append]; omega, okA, eO.symm⟩⟩ ?_
    rintro m σ H' ⟨t, F, st, vs, s, o7, rfl, sx, hf, ndF, inF, hh⟩
    have lF := UY_len J.L ndF inF
    walk_at "w3"
    refine r_lenL hf ?_
    rw [List.length_map]
    walk_at "w3"
    rcases hh with ⟨mt, tl, hv, tv, stl, ok, re⟩ | ⟨te, rfl⟩
    · rw [if_pos (by omega)]
      refine whB ?_
      walk_at "w3"
      have vl := tv.len
      refine ⟨⟨_, .of (sx _ _ hv)⟩, forW_list (xs := vs) (fun j σ H2 => ∃ o7', σ = [some (.ref o), some (.ref s), some (.ref p3), o3, o4, some (.ref f), some (.int (t : Int)), o7'] ∧ Same H4 H2 ∧ H2 f = some (.lst ((addN F (ykT ag (st.take j))).map V.int))) ⟨_, rfl, sx, hf⟩ ?_ ?_ ?_⟩
      · rintro j σ H2 _ ⟨o7', rfl, s2', -⟩
        exact .of (s2' _ _ hv)
      · rintro j x σ H2 hx ⟨o7', rfl, s2', hf2⟩
        obtain ⟨u, eu, hu⟩ := tv.get hx
        have tk1 : st.take (j + 1) = st.take j ++ [u] := by
          rw [List.take_add_one, eu]
          rfl
        have ek : ykT ag (st.take (j + 1)) = ykT ag (st.take j) ++ yk1T ag u := by
          rw [tk1]
          unfold ykT
          rw [List.flatMap_append]
          show _ ++ (yk1T ag u ++ []) = _
          rw [List.append_nil]
        rw [ek, addN_app]
        have okj : ∀ v ∈ st.take j, TH.ok pl v := fun v mv => ok v (List.mem_of_mem_take mv)
        have inJ : ∀ x ∈ addN F (ykT ag (st.take j)), x ∈ UY pl ag := fun x mx => (addN_mem mx).elim (inF x) (J.L.yin okj x)
        have lJ := UY_len J.L (addN_nd (xs := ykT ag (st.take j)) ndF) inJ
        generalize addN F (ykT ag (st.take j)) = FJ at hf2 inJ lJ ⊢
        have J2' := J4.same s2'
        cases u with
        | non =>
          cases hu
          walk_at "w3"
          exact ⟨_, rfl, s2', hf2⟩
        | num n =>
          obtain ⟨b, rfl, hb⟩ := hu
          walk_at "w3"
          rw [if_pos (by intro z; cases z)]
          refine r_ixT (i := 0) (s2' _ _ hb) rfl ?_
          walk_at "w3"
          rw [if_neg (by decide +kernel)]
          exact ⟨_, rfl, s2', hf2⟩
        | cell k =>
          obtain ⟨b, rfl, hb⟩ := hu
          obtain ⟨p, ep, -⟩ := ok _ (List.mem_of_getElem? eu)
          obtain ⟨a, r, ts, ea, er, es⟩ := J.L.row ep
          have y2 : yk1T ag (.cell k) = if a < 2 then [(k : Int)] else [] := by
            show (if ag.getD k 0 < 2 then [(k : Int)] else []) = _
            rw [getD_of ea]
          rw [y2]
          walk_at "w3"
          rw [if_pos (by intro z; cases z)]
          refine r_ixT (i := 0) (s2' _ _ hb) rfl ?_
          walk_at "w3"
          refine ⟨_, J2'.J.L.get J2'.J.L.k3, ?_⟩
          walk_at "w3"
          refine r_ixT (i := 1) (s2' _ _ hb) rfl ?_
          refine r_ixL J2'.J.L.ga (by rw [List.getElem?_map, ea]; rfl) ?_
          walk_at "w3"
          by_cases c : a < 2
          · rw [if_pos (by omega), if_pos c]
            refine r_ixT (i := 1) (s2' _ _ hb) rfl ?_
            refine r_ninL (.of hf2) rfl (by rw [List.all_map]; exact List.all_eq_true.mpr fun _ _ => rfl) ?_
            rw [in_ints]
            walk_at "w3"
            by_cases c2 : (k : Int) ∈ FJ
            · rw [if_neg (fun z => z c2), addN_cons, if_pos c2]
              exact ⟨_, rfl, s2', hf2⟩
            · rw [if_pos c2, addN_cons, if_neg c2]
              refine ⟨.inl ⟨rfl, _, .of hf2⟩, r_ixT (i := 1) (s2' _ _ hb) rfl ?_⟩
              refine ⟨_, _, _, rfl, rfl, hf2, by rw [List.length_map]; omega, ?_⟩
              refine ⟨_, rfl, fun b x g => (upd_ne (ne_of_none g nf)).trans (s2' _ _ g), ?_⟩
              rw [upd_same, addN_nil, List.map_append]
              rfl
          · rw [if_neg (by omega), if_neg c]
            exact ⟨_, rfl, s2', hf2⟩
      rintro σ H2 ⟨o7', rfl, s2', hf2⟩
      rw [vl, List.take_length] at hf2
      have inJ : ∀ x ∈ addN F (ykT ag st), x ∈ UY pl ag := fun x mx => (addN_mem mx).elim (inF x) (J.L.yin ok x)
      have ndJ := addN_nd (xs := ykT ag st) ndF
      have lJ := UY_len J.L ndJ inJ
      have leJ : F.length ≤ (addN F (ykT ag st)).length := by
        obtain ⟨z, ez⟩ := addN_pre (xs := ykT ag st) (a := F)
        rw [ez, List.length_append]
        omega
      generalize addN F (ykT ag st) = FJ at hf2 inJ ndJ lJ leJ re
      have J2' := J4.same s2'
      walk_at "w3"
      refine r_lenL hf2 ?_
      rw [List.length_map]
      walk_at "w3"
      by_cases c : t < FJ.length
      · rw [if_pos (by omega)]
        have hm := inJ _ (List.getElem_mem c)
        obtain ⟨k, a, p, ek, ea, -, ep⟩ := UY_mem.mp hm
        obtain ⟨a', r, ts, -, er, es⟩ := J.L.row ep
        obtain ⟨ts', vs', es', hr, hv'⟩ := J4.J.L.rw_ k r er
        rw [es] at es'
        cases es'
        refine ⟨_, J2'.J.L.get J2'.J.L.k4, ?_⟩
        walk_at "w3"
        refine r_ixL hf2 (by rw [List.getElem?_map, List.getElem?_eq_getElem c]; rfl) ?_
        rw [ek]
        refine r_ixL J2'.J.L.ss (by rw [List.getElem?_map, er]; rfl) ?_
        have h8 := J.L.s8 ts (List.mem_of_getElem? es)
        rw [show C.length + 1 - t = (C.length - t) + 1 from by omega, reachR_step c] at re
        have ek2 : FJ.getD t 0 = (k : Int) := by rw [List.getD_eq_getElem?_getD, List.getElem?_eq_getElem c]; exact ek
        rw [ek2, kT_at es] at re
        refine ⟨m - 1, by omega, t + 1, FJ, ts, vs', r, _, rfl, s2', hf2, ndJ, inJ, .inl ⟨by omega, by omega, hr, hv', by omega, J.L.th k p ts ep es, ?_⟩⟩
        rw [show C.length + 1 - (t + 1) = C.length - t from by omega]
        exact re
      · rw [if_neg (by omega)]
        rw [reachR_end (by omega)] at re
        exact ⟨m - 1, by omega, t + 1, FJ, st, vs, s, _, rfl, s2', hf2, ndJ, inJ, .inr ⟨by omega, re⟩⟩
    · rw [if_neg (by omega)]
      exact q F f H' fin ou on nfH (((s1.trans s13).trans s4).trans sx) hf
end

local macro_rules | `(tactic| walk_at "w3") => `(tactic| try simp only [↓x_var0, ↓x_varS, ↓x_c, ↓x_op, ↓x_un, ↓x_cb, ↓x_nil, ↓x_cons, ↓x_test, ↓x_b, ↓x_ex, ↓x_and, ↓x_or, ↓x_not, ↓x_andV, ↓x_orV, ↓x_notV, ↓x_tif, ↓x_chain, ↓x_menu, ↓x_menuI, ↓x_lst, ↓x_tup, ↓x_dnew, ↓x_callW, ↓x_callN, ↓x_seq, ↓x_next, ↓x_ret, ↓x_retN, ↓x_drop, ↓x_ifS, ↓x_asg, ↓x_name, ↓x_raise, ↓x_fld, ↓x_setF, ↓x_meth, ↓x_make, ↓x_sub, ↓r_min, ↓r_max, ↓x_yes, ↓x_for, ↓x_lock, ↓x_keys, ↓x_cut, ↓x_lc, ↓x_rng1, ↓x_rng2, ↓x_lst1, ↓x_itup, ↓x_rng3, ↓x_three, ↓x_lstg, ↓x_tupg, ↓x_adrS, ↓x_one, ↓x_two, ↓x_adr, ↓x_sl, ↓x_np, ↓x_pt, ↓x_int, ↓x_bm, ↓x_bm0, ↓x_consg, ↓x_nilg, ↓x_dget2, ↓x_dget1, ↓x_dgetN, ↓x_dget, ↓x_din, ↓x_dni, ↓x_dput, ↓x_dpop2, ↓r_isB, ↓r_notB, ↓x_enum, ↓x_zip, ↓x_str, ↓x_strE, ↓r_inS, ↓r_ninS, wipe, List.map_cons, List.map_nil, ↓x_isT, ↓r_isiII, ↓r_isiBB, ↓r_isiIB, ↓r_isiSS, ↓r_neNS, ↓r_neSN, ↓r_neNN, ↓r_eqNS, ↓r_eqSN, ↓r_eqNN, ↓r_eqIS, ↓r_neIS, ↓r_neSI, ↓r_neBS, ↓r_eqBB, ↓r_neBB, ↓x_start, ↓x_K, ↓x_start0, ↓r_i0, ↓r_i, ↓r_u, ↓r_addI, ↓r_addS, ↓r_mulI, ↓r_mulS, ↓r_eqI, ↓r_neI, ↓r_eqS, ↓r_neS, ↓r_absI, ↓r_intI, ↓r_intB, List.length_cons, List.length_nil, List.replicate, List.set_cons_zero, List.set_cons_succ, decide_eq_true_eq, Bool.not_eq_true', decide_eq_false_iff_not, if_true, if_false, Bool.false_eq_true, Bool.true_eq_false, ite_true, ite_false, Bool.not_true, Bool.not_false, c_div, n_ten, c_pow, not_true_eq_false, not_false_eq_true, decide_true, decide_false, true_and, and_true, and_self, true_or, or_true, Int.reduceLT, Int.reduceLE, Int.reduceMul, Int.reduceAdd, Int.reduceSub, Int.reducePow, Int.reduceNeg, Int.reduceDiv, Int.reduceMod, Nat.reducePow, Int.reduceToNat, Int.reduceEq, Int.reduceNe, Nat.reduceLT, Nat.reduceLeDiff, Nat.reduceAdd, ↓x_whole, ↓x_kind, Int.natCast_one, Int.natCast_one, Int.natCast_one, Int.natCast_one, Int.natCast_one, Int.natCast_one, Int.natCast_one, Int.natCast_one, Int.natCast_one, Int.natCast_one, Int.natCast_one, Int.natCast_one, Int.natCast_one, Int.natCast_one, Int.natCast_one, Int.natCast_one, Int.natCast_one, Int.natCast_one, Int.natCast_one, Int.natCast_one, Int.natCast_one])
/-! ## the law's rows go along -/
def nplG (g : Int → Nat) (pl : List (Option Nat)) (ag : List Nat) (O : List Int) : List (Option Nat) := upX (grO ag O) (fun k => some (g (k : Int))) (upX (stO ag O) (fun k => some (g (k : Int))) (upX (lostO ag O ag.length) (fun _ => none) pl))
def sp_went12 (K : PySem.W.Frag) : Sp := fun vs H Q _ => ∃ o A R w kv S U rs pl ag sl hs, ∃ (O : List Int) (g : Int → Nat) (ps : List Int) (p : Addr), vs = [.ref o, .ref p, .int (ps.length : Int)] ∧ I12 K H o A R w kv S U rs pl ag sl hs ∧ H p = some (.lst (O.map V.int)) ∧ p ∉ w.ls rs ∧ (∀ x ∈ O, x ∈ UY pl ag) ∧ O.length ≤ 1000 ∧ ag.length ≤ 1000 ∧ ps.length ≤ 10000 ∧ pl.length = ag.length ∧
  Cov S.ws (S.b S.fl) ((stO ag O).map fun k => (g k : Int)) (S.t S.fl) ∧ Cov S.ws 0 (ps ++ (grO ag O).map fun k => (g k : Int)) S.ot ∧
  ∀ H', I12 K H' o A R w kv S U rs (nplG g pl ag O) (nag ag O) sl hs → Kp12 A R U.bd w rs H H' → Q (.bl true) H'
def gA (ag : List Nat) (a : Nat) : V → Option V
  | .int k => if ag.getD k.toNat 0 = a then some (.int k) else none
  | _ => none
theorem gA_map {ag : List Nat} {a : Nat} {O : List Int} : (O.map V.int).filterMap (gA ag a) = (O.filter fun k => decide (ag.getD k.toNat 0 = a)).map V.int := by
  induction O with
  | nil => rfl
  | cons k r ih =>
    have e : gA ag a (.int k) = if ag.getD k.toNat 0 = a then some (.int k) else none := rfl
    by_cases c : ag.getD k.toNat 0 = a
    · rw [if_pos c] at e
      rw [List.map_cons, List.filterMap_cons, e, List.filter_cons_of_pos (by exact decide_eq_true c), List.map_cons, ← ih]
    · rw [if_neg c] at e
      rw [List.map_cons, List.filterMap_cons, e, List.filter_cons_of_neg (by rw [decide_eq_true_iff]; exact c), ← ih]
theorem st_map {ag : List Nat} {O : List Int} : (O.map V.int).filterMap (gA ag 0) = (stO ag O).map V.int := gA_map
theorem gr_map {ag : List Nat} {O : List Int} : (O.map V.int).filterMap (gA ag 1) = (grO ag O).map V.int := gA_map
theorem lostO_succ {ag : List Nat} {O : List Int} {i : Nat} : lostO ag O (i + 1) = lostO ag O i ++ if ag.getD i 0 < 2 ∧ ¬ (i : Int) ∈ O then [(i : Int)] else [] := by
  unfold lostO
  rw [List.range_succ, List.filter_append, List.map_append]
  congr 1
  by_cases c : ag.getD i 0 < 2 ∧ ¬ (i : Int) ∈ O
  · rw [if_pos c, List.filter_cons_of_pos (by rw [Bool.and_eq_true, decide_eq_true_iff, Bool.not_eq_true', decide_eq_false_iff_not]; exact c)]
    rfl
  · rw [if_neg c, List.filter_cons_of_neg (by rw [Bool.and_eq_true, decide_eq_true_iff, Bool.not_eq_true', decide_eq_false_iff_not]; exact c)]
    rfl
theorem cutV_drop {xs : List V} {k : Nat} : cutV xs (some (k : Int)) none = xs.drop k := by
  unfold cutV
  rw [HT.sIx_nat, HT.sIx_none]
  by_cases c : k ≤ xs.length
  · rw [Nat.min_eq_left c, List.take_of_length_le (by rw [List.length_drop]; exact Nat.le_refl _)]
  · rw [Nat.min_eq_right (by omega), List.drop_of_length_le (Nat.le_refl _), List.drop_of_length_le (by omega), List.take_nil]
section
variable {P : Program} {w : World} {K : PySem.W.Frag} {mg : Str → Option Value} {base : Heap}
theorem f__law_went (T : Tx K mg) : Fn P w K mg base 8 "_law_went" ["_law_own", "_law_order_here", "_law_stood"] (sp_went12 K) := by
  have c_Space_cells := f_Space_cells (P := P) (w := w) (base := base) T
  refine T.mkFn 82 53 (d := d__law_went) (N := ["_law_own", "_law_order_here", "_law_stood", "_law_areas", "_law_stays", "_law_k", "_law_grows", "_law_young", "_law_old", "_law_at_here"]) (k := 7) rfl rfl rfl rfl rfl sc__law_went (fun _ _ _ _ _ _ us hl => match us, hl with | [_, _, _], _ => rfl) (fun vs H Q E h => ?len) (fun cdv A outer s H vs Q E hr h => ⟨_,
      (pss_cons (ps_set (i := 3) sc__law_went.nd rfl (Or.inl rfl) (pe_dget (hu_of hr) (pv 0) pe_str (fun _ _ => rfl)))
        (pss_cons (ps_setLc (i := 4) (own := [("_law_k", 5)]) (g := gName 5) rfl sc__law_went.nd rfl rfl (sw_true rfl rfl rfl (by decide +kernel)) (pi_listK (K := K) rfl (pv 1)) (blkOk_by (own := [("_law_k", 5)]) (N := ["_law_own", "_law_order_here", "_law_stood", "_law_areas", "_law_stays", "_law_k", "_law_grows", "_law_young", "_law_old", "_law_at_here"]) (sc := defScope s__law_went) (by decide +kernel)) (fun _ _ _ _ _ => (pg_name (i := 5) sc__law_went.nd rfl (Or.inl rfl))) (fun _ _ _ _ _ => pts_one (pt_cmpR (op_eqK (K := K) rfl hr.units) (pe_ix (ix_seqK (K := K) rfl) (pe_dget (hu_of hr) (pv 0) pe_str (fun _ _ => rfl)) (pv 5) (fun _ _ => rfl)) pe_int (nomark _))) (fun _ _ _ _ _ => (pv 5)))
        (pss_cons (ps_setLc (i := 6) (own := [("_law_k", 5)]) (g := gName 5) rfl sc__law_went.nd rfl rfl (sw_true rfl rfl rfl (by decide +kernel)) (pi_listK (K := K) rfl (pv 1)) (blkOk_by (own := [("_law_k", 5)]) (N := ["_law_own", "_law_order_here", "_law_stood", "_law_areas", "_law_stays", "_law_k", "_law_grows", "_law_young", "_law_old", "_law_at_here"]) (sc := defScope s__law_went) (by decide +kernel)) (fun _ _ _ _ _ => (pg_name (i := 5) sc__law_went.nd rfl (Or.inl rfl))) (fun _ _ _ _ _ => pts_one (pt_cmpR (op_eqK (K := K) rfl hr.units) (pe_ix (ix_seqK (K := K) rfl) (pe_dget (hu_of hr) (pv 0) pe_str (fun _ _ => rfl)) (pv 5) (fun _ _ => rfl)) pe_int (nomark _))) (fun _ _ _ _ _ => (pv 5)))
        (pss_cons (ps_set (i := 7) sc__law_went.nd rfl (Or.inl rfl) (pe_mt (K := K) rfl (takes_of rfl rfl rfl rfl) (pe_fldC (T.cls 112) (T.noat 120) (pv 3)) c_Space_cells (hr.mono (by decide)) (pa_cons (pe_fldC (T.cls 112) (T.noat 118) (pv 3)) pa_nil)))
        (pss_cons (ps_set (i := 8) sc__law_went.nd rfl (Or.inl rfl) (pe_mt (K := K) rfl (takes_of rfl rfl rfl rfl) (pe_fldC (T.cls 112) (T.noat 119) (pv 3)) c_Space_cells (hr.mono (by decide)) (pa_cons (pe_fldC (T.cls 112) (T.noat 118) (pv 3)) pa_nil)))
        (pss_cons (ps_if (PW.pt (pw_or (pt_cmpR (op_neK (K := K) rfl hr.units) (pe_callB (call_lenK (K := K) rfl) (by rfl) (T.free 69) PySem.boot_len (pa_cons (pv 7) pa_nil)) (pe_callB (call_lenK (K := K) rfl) (by rfl) (T.free 69) PySem.boot_len (pa_cons (pv 4) pa_nil)) (nomark _)) (pw_or1 (pt_cmpR (op_neK (K := K) rfl hr.units) (pe_callB (call_lenK (K := K) rfl) (by rfl) (T.free 69) PySem.boot_len (pa_cons (pv 8) pa_nil)) (pe_op op_gAdd (pv 2) (pe_callB (call_lenK (K := K) rfl) (by rfl) (T.free 69) PySem.boot_len (pa_cons (pv 6) pa_nil))) (nomark _))))) (pss_one (ps_ret pe_bl)) pss_nil)
        (pss_cut (ps_for (passes_of rfl) rfl (pi_range1 rfl (T.free 71) (pa_cons (pe_callB (call_lenK (K := K) rfl) (by rfl) (T.free 69) PySem.boot_len (pa_cons (pe_dget (hu_of hr) (pv 0) pe_str (fun _ _ => rfl)) pa_nil)) pa_nil)) (pg_name (i := 5) sc__law_went.nd rfl (Or.inl rfl)) (pss_one (ps_if (PW.pt (pw_and (pt_cmpR op_lt (pe_ix (ix_seqK (K := K) rfl) (pe_dget (hu_of hr) (pv 0) pe_str (fun _ _ => rfl)) (pv 5) (fun _ _ => rfl)) pe_int (nomark _)) (pw_and1 (pt_cmpR (op_ninK (K := K) rfl) (pv 5) (pv 1) (by rfl))))) (pss_one (ps_asg pe_non (pg_sub (pe_dget (hu_of hr) (pv 0) pe_str (fun _ _ => rfl)) (pv 5) set_list))) pss_nil)))
        (pss_cut (ps_for (passes_of rfl) rfl (pi_zip (by rfl) (T.free 74) (pa_cons (pv 4) (pa_cons (pv 7) pa_nil))) (pg_tup (n := 2) rfl (pgs_cons (pg_name (i := 5) sc__law_went.nd rfl (Or.inl rfl)) (pgs_cons (pg_name (i := 9) sc__law_went.nd rfl (Or.inl rfl)) pgs_nil))) (pss_cons (ps_asg (pv 9) (pg_sub (pe_dget (hu_of hr) (pv 0) pe_str (fun _ _ => rfl)) (pv 5) set_list))
        (pss_one (ps_asg pe_int (pg_sub (pe_dget (hu_of hr) (pv 0) pe_str (fun _ _ => rfl)) (pv 5) set_list)))))
        (pss_cons (ps_for (passes_of rfl) rfl (pi_zip (by rfl) (T.free 74) (pa_cons (pv 6) (pa_cons (pe_slice (sl_listK (K := K) rfl) (pv 8) (po_some (pv 2)) po_none) pa_nil))) (pg_tup (n := 2) rfl (pgs_cons (pg_name (i := 5) sc__law_went.nd rfl (Or.inl rfl)) (pgs_cons (pg_name (i := 9) sc__law_went.nd rfl (Or.inl rfl)) pgs_nil))) (pss_cons (ps_asg (pv 9) (pg_sub (pe_dget (hu_of hr) (pv 0) pe_str (fun _ _ => rfl)) (pv 5) set_list))
        (pss_one (ps_asg pe_int (pg_sub (pe_dget (hu_of hr) (pv 0) pe_str (fun _ _ => rfl)) (pv 5) set_list)))))
        (pss_one (ps_ret pe_bl))))))))))), ?rd⟩)
  case len => first | exact len__law_went h | (repeat (first | (obtain ⟨rfl, _⟩ := h; rfl; done) | obtain ⟨_, h⟩ := h))
  case rd =>
    obtain ⟨o, A, R, w, kv, S, U, rs, pl, ag, sl, hs, O, g, ps, p, rfl, J, hp, np, ou, ol, an, psl, l1, cy, co, q⟩ := h
    have sz : 1000000 ≤ sizeLine := by rw [sizeLine_eq]; omega
    walk_at "w3"
    refine ⟨_, J.L.get J.L.k0, ?_⟩
    walk_at "w3"
    have ok : ∀ k ∈ O, ∃ k' : Nat, k = (k' : Int) ∧ ∃ a, ag[k']? = some a ∧ a < 2 := fun k mk => by
      obtain ⟨k', a, p', e, h1, h2, -⟩ := UY_mem.mp (ou k mk)
      exact ⟨k', e, a, h1, h2⟩
    have pl6 : (O.map V.int).length ≤ sizeLine := by rw [List.length_map]; omega
    refine ⟨⟨_, .of hp⟩, fun D1 nD1 => lc_iffL (xs := O.map V.int) (g := gA ag 0) (fun _ => rfl) (fun acc => .of ((upd_ne (ne_of_none hp nD1)).trans hp)) pl6 (fun i x hx acc N n1 n2 => ?_) (fun i x y hx hy acc Q2 q2 => ?_) ?_⟩
    · obtain ⟨k, hk, rfl⟩ := ints_atY hx
      obtain ⟨k', rfl, a, ea, a2⟩ := ok k (List.mem_of_getElem? hk)
      have Jx := J.same (same_new (o := .lst acc) nD1)
      have eg : gA ag 0 (.int (k' : Int)) = if a = 0 then some (.int (k' : Int)) else none := by
        show (if ag.getD (k' : Int).toNat 0 = 0 then _ else _) = _
        rw [Int.toNat_natCast, getD_of ea]
      rw [eg] at n1 n2
      walk_at "w3"
      refine ⟨_, Jx.L.get Jx.L.k3, r_ixL Jx.L.ga (by rw [List.getElem?_map, ea]; rfl) ?_⟩
      walk_at "w3"
      by_cases c : a = 0
      · rw [decide_eq_true (by omega)]
        exact n1 (by rw [if_pos c]; rfl)
      · rw [decide_eq_false (by omega)]
        exact n2 (by rw [if_neg c]; rfl)
    · obtain ⟨k, hk, rfl⟩ := ints_atY hx
      have hy : (if ag.getD k.toNat 0 = 0 then some (V.int k) else none) = some y := hy
      split at hy
      · cases hy
        walk_at "w3"
        exact q2
      · cases hy
    rw [st_map]
    have s1 := same_new (o := .lst ((stO ag O).map V.int)) nD1
    have hD1 : upd H D1 (.lst ((stO ag O).map V.int)) D1 = some (.lst ((stO ag O).map V.int)) := upd_same
    have J1 := J.same s1
    have fD1 := J.stay nD1
    have hp1 := s1 _ _ hp
    generalize upd H D1 (.lst ((stO ag O).map V.int)) = H1 at s1 hD1 J1 hp1 ⊢
    refine ⟨⟨_, .of hp1⟩, fun D2 nD2 => lc_iffL (xs := O.map V.int) (g := gA ag 1) (fun _ => rfl) (fun acc => .of ((upd_ne (ne_of_none hp1 nD2)).trans hp1)) pl6 (fun i x hx acc N n1 n2 => ?_) (fun i x y hx hy acc Q2 q2 => ?_) ?_⟩
    · obtain ⟨k, hk, rfl⟩ := ints_atY hx
      obtain ⟨k', rfl, a, ea, a2⟩ := ok k (List.mem_of_getElem? hk)
      have Jx := J1.same (same_new (o := .lst acc) nD2)
      have eg : gA ag 1 (.int (k' : Int)) = if a = 1 then some (.int (k' : Int)) else none := by
        show (if ag.getD (k' : Int).toNat 0 = 1 then _ else _) = _
        rw [Int.toNat_natCast, getD_of ea]
      rw [eg] at n1 n2
      walk_at "w3"
      refine ⟨_, Jx.L.get Jx.L.k3, r_ixL Jx.L.ga (by rw [List.getElem?_map, ea]; rfl) ?_⟩
      walk_at "w3"
      by_cases c : a = 1
      · rw [decide_eq_true (by omega)]
        exact n1 (by rw [if_pos c]; rfl)
      · rw [decide_eq_false (by omega)]
        exact n2 (by rw [if_neg c]; rfl)
    · obtain ⟨k, hk, rfl⟩ := ints_atY hx
      have hy : (if ag.getD k.toNat 0 = 1 then some (V.int k) else none) = some y := hy
      split at hy
      · cases hy
        walk_at "w3"
        exact q2
      · cases hy
    rw [gr_map]
    have s2 := same_new (o := .lst ((grO ag O).map V.int)) nD2
    have hD2 : upd H1 D2 (.lst ((grO ag O).map V.int)) D2 = some (.lst ((grO ag O).map V.int)) := upd_same
    have J2 := J1.same s2
    have fD2 := J1.stay nD2
    have hp2 := s2 _ _ hp1
    have hD12 := s2 _ _ hD1
    have s02 := s1.trans s2
    generalize upd H1 D2 (.lst ((grO ag O).map V.int)) = H2 at s2 hD2 J2 hp2 hD12 s02 ⊢
    refine ⟨_, fldIs J2.I.ar.ob, recv (J2.I.ar.half S.fl), _, fldIs J2.I.ar.ob, _, _, _, _, _, _, _, _, _, _, rfl, J2.I.ar.half S.fl, J2.I.ar.me, J2.I.ar.vw, cy.chain, fun yl H3 nyl s3 hyl => ?_⟩
    have J3 := J2.same s3
    have fyl := J2.stay nyl
    walk_at "w3"
    refine ⟨_, fldIs J3.I.ar.ob, recv J3.I.ar.so, _, fldIs J3.I.ar.ob, _, _, _, _, _, _, _, _, _, _, rfl, J3.I.ar.so, J3.I.ar.me, J3.I.ar.vw, co.chain, fun ll H4 nll s4 hll => ?_⟩
    have J4 := J3.same s4
    have fll := J3.stay nll
    have hyl4 := s4 _ _ hyl
    have hD14 := (s3.trans s4) _ _ hD12
    have hD24 := (s3.trans s4) _ _ hD2
    have hp4 := (s3.trans s4) _ _ hp2
    walk_at "w3"
    refine r_lenL hyl4 (r_lenL hD14 ?_)
    rw [List.length_map, List.length_map, List.length_map]
    walk_at "w3"
    refine r_lenL hll (r_lenL hD24 ?_)
    rw [List.length_map]
    walk_at "w3"
    rw [List.length_map, List.length_append, List.length_map]
    rw [if_neg (by rw [show ((ps.length + (grO ag O).length : Nat) : Int) = (ps.length : Int) + ((grO ag O).length : Int) from by omega]; exact fun z => z rfl)]
    have ins := ls_in (w := w) (rs := rs)
    have nd := ls_nd J.nd
    have off : ∀ {c}, c ∉ w.ls rs → c ≠ w.pa ∧ c ≠ w.aa := fun n => ⟨fun e => n (e ▸ ins.1), fun e => n (e ▸ ins.2.1)⟩
    have oD1 := off fD1.2.2.2.2.2.2.2.2.2.2
    have oD2 := off fD2.2.2.2.2.2.2.2.2.2.2
    have oyl := off fyl.2.2.2.2.2.2.2.2.2.2
    have oll := off fll.2.2.2.2.2.2.2.2.2.2
    have opp := off np
    refine ⟨fun σ' H' => ∃ o5, σ' = [some (.ref o), some (.ref p), some (.int (ps.length : Int)), some (.ref A.a), some (.ref D1), o5, some (.ref D2), some (.ref yl), some (.ref ll), none] ∧ I12 K H' o A R w kv S U rs (upX (lostO ag O ag.length) (fun _ => none) pl) ag sl hs ∧ ∀ b x, b ≠ w.pa → b ≠ w.aa → H4 b = some x → H' b = some x, ?_, ?_⟩
    · refine ⟨_, J4.L.get J4.L.k3, r_lenL J4.L.ga ?_⟩
      rw [List.length_map]
      walk_at "w3"
      refine ⟨by omega, by omega, ?_⟩
      rw [Int.toNat_natCast]
      refine forW_range (fun i σ' H' => ∃ o5, σ' = [some (.ref o), some (.ref p), some (.int (ps.length : Int)), some (.ref A.a), some (.ref D1), o5, some (.ref D2), some (.ref yl), some (.ref ll), none] ∧ I12 K H' o A R w kv S U rs (upX (lostO ag O i) (fun _ => none) pl) ag sl hs ∧ ∀ b x, b ≠ w.pa → b ≠ w.aa → H4 b = some x → H' b = some x) ⟨_, rfl, by (show I12 K H4 o A R w kv S U rs (upX [] (fun _ => none) pl) ag sl hs); rw [upX_nil]; exact J4, fun b x _ _ g => g⟩ ?_ ?_
      · rintro i σ H' hi ⟨o5, rfl, J', k'⟩
        have ea := List.getElem?_eq_getElem (l := ag) (i := i) hi
        walk_at "w3"
        simp only [Int.zero_add]
        refine ⟨_, J'.L.get J'.L.k3, r_ixL J'.L.ga (by rw [List.getElem?_map, ea]; rfl) ?_⟩
        walk_at "w3"
        rw [lostO_succ, getD_of ea]
        by_cases c : ag[i] < 2
        · rw [if_pos (by omega)]
          refine r_ninL (.of (k' _ _ opp.1 opp.2 hp4)) rfl (by rw [List.all_map]; exact List.all_eq_true.mpr fun _ _ => rfl) ?_
          rw [in_ints]
          walk_at "w3"
          by_cases c2 : (i : Int) ∈ O
          · rw [if_neg (fun z => z c2), if_neg (fun z => z.2 c2), List.append_nil]
            exact ⟨_, rfl, J', k'⟩
          · rw [if_pos c2, if_pos ⟨c, c2⟩]
            refine ⟨_, J'.L.get J'.L.k2, ?_⟩
            refine r_setL J'.L.pp (by omega) (by rw [List.length_map, upX_len]; omega) ?_
            rw [Int.toNat_natCast]
            have J2 := J'.pput (pl' := (upX (lostO ag O i) (fun _ => none) pl).set i none)
            rw [List.map_set] at J2
            have e : (upX (lostO ag O i) (fun _ => none) pl).set i none = upX (lostO ag O i ++ [(i : Int)]) (fun _ => none) pl := upX_snoc (g := fun _ => (none : Option Nat))
            rw [e] at J2
            exact ⟨_, rfl, J2, fun b x n1 n2 g => (upd_ne n1).trans (k' b x n1 n2 g)⟩
        · rw [if_neg (by omega), if_neg (fun z => c z.1), List.append_nil]
          exact ⟨_, rfl, J', k'⟩
      · rintro σ H' ⟨o5, rfl, J', k'⟩
        exact ⟨_, rfl, J', k'⟩
    rintro σ' H5 ⟨o5, rfl, J5, k5⟩
    have zipI : ∀ {X : List Int} {pl1 : List (Option Nat)} {ag1 : List Nat} {v : Nat} {i : Nat} {x y : V} {T : Addr} {Hx : Hp} {o5 o9 : Option V} {D : Ends}, pl1.length = ag.length → ag1.length = ag.length → (∀ k ∈ X, k ∈ O) → (X.map V.int)[i]? = some x → ((X.map fun k => (g k : Int)).map V.int)[i]? = some y → Hx T = none → I12 K Hx o A R w kv S U rs (upX (X.take i) (fun k => some (g (k : Int))) pl1) (upX (X.take i) (fun _ => v) ag1) sl hs →
        (∀ Hy k', I12 K Hy o A R w kv S U rs (upX (X.take (i + 1)) (fun k => some (g (k : Int))) pl1) (upX (X.take (i + 1)) (fun _ => v) ag1) sl hs → (∀ b x, b ≠ w.pa → b ≠ w.aa → Hx b = some x → Hy b = some x) → D.nx [some (.ref o), some (.ref p), some (.int (ps.length : Int)), some (.ref A.a), some (.ref D1), some x, some (.ref D2), some (.ref yl), some (.ref ll), some k'] Hy) →
        (gTup K 2 (gCons (gName 5) (gCons (gName 9) gNil))) (.ref T) [some (.ref o), some (.ref p), some (.int (ps.length : Int)), some (.ref A.a), some (.ref D1), o5, some (.ref D2), some (.ref yl), some (.ref ll), o9] (upd Hx T (.tup [x, y])) fun σ2 H2 => (tSeq (tAsg (tVar 9) (gSub (tDGet (tVar 0) (L2.tC (V.str (Str.ofString "places")))) (tVar 5) rSetL)) (tAsg (L2.tC (V.int (v : Int))) (gSub (tDGet (tVar 0) (L2.tC (V.str (Str.ofString "ages")))) (tVar 5) rSetL))) D σ2 H2 := by
      intro X pl1 ag1 v i x y T Hx o5 o9 D e1 e2 xo hx hy nT Jx fin
      obtain ⟨k, hk, rfl⟩ := ints_atY hx
      obtain ⟨k', rfl, a, ea, a2⟩ := ok k (xo k (List.mem_of_getElem? hk))
      have hk' := (List.getElem?_eq_some_iff.mp ea).1
      have ey : y = .int (g (k' : Int) : Int) := by
        rw [List.getElem?_map, List.getElem?_map, hk] at hy
        exact (Option.some.inj hy).symm
      subst ey
      have sT := same_new (o := .tup [.int (k' : Int), .int (g (k' : Int) : Int)]) nT
      have JT := Jx.same sT
      have tk1 : X.take (i + 1) = X.take i ++ [(k' : Int)] := by
        rw [List.take_add_one, hk]
        rfl
      walk_at "w3"
      refine ⟨_, .inl (.inl upd_same), rfl, ?_⟩
      walk_at "w3"
      generalize upd Hx T (.tup [.int (k' : Int), .int (g (k' : Int) : Int)]) = HT at sT JT ⊢
      refine ⟨_, JT.L.get JT.L.k2, ?_⟩
      refine r_setL JT.L.pp (by omega) (by rw [List.length_map, upX_len]; omega) ?_
      rw [Int.toNat_natCast]
      have J2 := JT.pput (pl' := (upX (X.take i) (fun k => some (g (k : Int))) pl1).set k' (some (g (k' : Int))))
      have e : (upX (X.take i) (fun k => some (g (k : Int))) pl1).set k' (some (g (k' : Int))) = upX (X.take (i + 1)) (fun k => some (g (k : Int))) pl1 := by
        rw [tk1]
        exact upX_snoc (g := fun k : Nat => some (g (k : Int)))
      have em : ((upX (X.take i) (fun k => some (g (k : Int))) pl1).map plV).set k' (.int (g (k' : Int) : Int)) = ((upX (X.take i) (fun k => some (g (k : Int))) pl1).set k' (some (g (k' : Int)))).map plV := by rw [List.map_set]; rfl
      rw [em]
      rw [e] at J2 ⊢
      have k2 : ∀ b x, b ≠ w.pa → b ≠ w.aa → Hx b = some x → upd HT w.pa (.lst ((upX (X.take (i + 1)) (fun k => some (g (k : Int))) pl1).map plV)) b = some x := fun b x n1 n2 h => (upd_ne n1).trans (sT _ _ h)
      generalize upd HT w.pa (.lst ((upX (X.take (i + 1)) (fun k => some (g (k : Int))) pl1).map plV)) = HU at J2 k2 ⊢
      walk_at "w3"
      refine ⟨_, J2.L.get J2.L.k3, ?_⟩
      refine r_setL J2.L.ga (by omega) (by rw [List.length_map, upX_len]; omega) ?_
      rw [Int.toNat_natCast]
      have J3 := J2.aput (ag' := (upX (X.take i) (fun _ => v) ag1).set k' v)
      have e' : (upX (X.take i) (fun _ => v) ag1).set k' v = upX (X.take (i + 1)) (fun _ => v) ag1 := by
        rw [tk1]
        exact upX_snoc (g := fun _ => v)
      have em : ((upX (X.take i) (fun _ => v) ag1).map fun a : Nat => V.int (a : Int)).set k' (.int (v : Int)) = ((upX (X.take i) (fun _ => v) ag1).set k' v).map fun a : Nat => V.int (a : Int) := by rw [List.map_set]
      rw [em]
      rw [e'] at J3 ⊢
      exact fin _ _ J3 fun b x n1 n2 h => (upd_ne n2).trans (k2 b x n1 n2 h)
    refine ⟨fun σ' H' => ∃ o5 o9, σ' = [some (.ref o), some (.ref p), some (.int (ps.length : Int)), some (.ref A.a), some (.ref D1), o5, some (.ref D2), some (.ref yl), some (.ref ll), o9] ∧ I12 K H' o A R w kv S U rs (upX (stO ag O) (fun k => some (g (k : Int))) (upX (lostO ag O ag.length) (fun _ => none) pl)) (upX (stO ag O) (fun _ => 1) ag) sl hs ∧ ∀ b x, b ≠ w.pa → b ≠ w.aa → H4 b = some x → H' b = some x, ?_, ?_⟩
    · walk_at "w3"
      have z1 := k5 _ _ oD1.1 oD1.2 hD14
      have z2 := k5 _ _ oyl.1 oyl.2 hyl4
      refine ⟨_, _, _, _, rfl, .of z1, .of z2, forW_zip (xs := (stO ag O).map V.int) (ys := ((stO ag O).map fun k => (g k : Int)).map V.int) (fun i σ' H' => ∃ o5 o9, σ' = [some (.ref o), some (.ref p), some (.int (ps.length : Int)), some (.ref A.a), some (.ref D1), o5, some (.ref D2), some (.ref yl), some (.ref ll), o9] ∧ I12 K H' o A R w kv S U rs (upX ((stO ag O).take i) (fun k => some (g (k : Int))) (upX (lostO ag O ag.length) (fun _ => none) pl)) (upX ((stO ag O).take i) (fun _ => 1) ag) sl hs ∧ ∀ b x, b ≠ w.pa → b ≠ w.aa → H4 b = some x → H' b = some x) ⟨_, _, rfl, by rw [List.take_zero, upX_nil, upX_nil]; exact J5, k5⟩ ?_ ?_ ?_⟩
      · rintro i σ H' _ ⟨o5', o9', rfl, J', k'⟩
        exact ⟨.of (k' _ _ oD1.1 oD1.2 hD14), .of (k' _ _ oyl.1 oyl.2 hyl4)⟩
      · rintro i x y T σ H' hx hy nT ⟨o5', o9', rfl, J', k'⟩
        exact zipI (by rw [upX_len]; exact l1) rfl (fun k mk => (List.mem_filter.mp mk).1) hx hy nT J' fun Hy k2 Jy ky => ⟨_, _, rfl, Jy, fun b x n1 n2 h => ky b x n1 n2 (k' b x n1 n2 h)⟩
      · rintro σ H' ⟨o5', o9', rfl, J', k'⟩
        rw [List.length_map, List.length_map, List.length_map, Nat.min_self, List.take_length] at J'
        exact ⟨_, _, rfl, J', k'⟩
    rintro σ' H6 ⟨o5', o9', rfl, J6, k6⟩
    walk_at "w3"
    refine ⟨ll, _, rfl, .of (k6 _ _ oll.1 oll.2 hll), fun p7 np7 => ?_⟩
    rw [cutV_drop, ← List.map_drop, List.drop_left]
    have s7 := same_new (o := .lst (((grO ag O).map fun k => (g k : Int)).map V.int)) np7
    have hp7 : upd H6 p7 (.lst (((grO ag O).map fun k => (g k : Int)).map V.int)) p7 = some (.lst (((grO ag O).map fun k => (g k : Int)).map V.int)) := upd_same
    have J7 := J6.same s7
    have f7 := off (J6.stay np7).2.2.2.2.2.2.2.2.2.2
    generalize upd H6 p7 (.lst (((grO ag O).map fun k => (g k : Int)).map V.int)) = H7 at s7 hp7 J7 ⊢
    have z1 := s7 _ _ (k6 _ _ oD2.1 oD2.2 hD24)
    refine ⟨_, _, _, _, rfl, .of z1, .of hp7, forW_zip (xs := (grO ag O).map V.int) (ys := ((grO ag O).map fun k => (g k : Int)).map V.int) (fun i σ' H' => ∃ o5 o9, σ' = [some (.ref o), some (.ref p), some (.int (ps.length : Int)), some (.ref A.a), some (.ref D1), o5, some (.ref D2), some (.ref yl), some (.ref ll), o9] ∧ I12 K H' o A R w kv S U rs (upX ((grO ag O).take i) (fun k => some (g (k : Int))) (upX (stO ag O) (fun k => some (g (k : Int))) (upX (lostO ag O ag.length) (fun _ => none) pl))) (upX ((grO ag O).take i) (fun _ => 2) (upX (stO ag O) (fun _ => 1) ag)) sl hs ∧ ∀ b x, b ≠ w.pa → b ≠ w.aa → H7 b = some x → H' b = some x) ⟨_, _, rfl, by rw [List.take_zero, upX_nil, upX_nil]; exact J7, fun b x _ _ h => h⟩ ?_ ?_ ?_⟩
    · rintro i σ H' _ ⟨o5', o9', rfl, J', k'⟩
      exact ⟨.of (k' _ _ oD2.1 oD2.2 z1), .of (k' _ _ f7.1 f7.2 hp7)⟩
    · rintro i x y T σ H' hx hy nT ⟨o5', o9', rfl, J', k'⟩
      exact zipI (by rw [upX_len, upX_len]; exact l1) (by rw [upX_len]) (fun k mk => (List.mem_filter.mp mk).1) hx hy nT J' fun Hy k2 Jy ky => ⟨_, _, rfl, Jy, fun b x n1 n2 h => ky b x n1 n2 (k' b x n1 n2 h)⟩
    · rintro σ H' ⟨o5', o9', rfl, J', k'⟩
      rw [List.length_map, List.length_map, List.length_map, Nat.min_self, List.take_length] at J'
      walk_at "w3"
      exact q _ J' fun b x _ _ _ _ _ _ _ _ _ _ n h => k' b x (off n).1 (off n).2 (s7 _ _ (k6 b x (off n).1 (off n).2 ((s02.trans (s3.trans s4)) _ _ h)))
end
def sp_stands12 (K : PySem.W.Frag) : Sp := fun vs H Q _ => ∃ o A R w kv S U C rs pl ag sl hs, vs = [.ref o] ∧ All12 K H o A R w kv S U C rs pl ag sl hs ∧ ∀ H', Same H H' → Q (.bl true) H'
section
variable {P : Program} {w : World} {K : PySem.W.Frag} {mg : Str → Option Value} {base : Heap}
theorem f__law_stands (T : Tx K mg) : Fn P w K mg base 6 "_law_stands" ["_law_own"] (sp_stands12 K) := by
  have c_slots_of := f_slots_of (P := P) (w := w) (base := base) T
  have c_age_of := f_age_of (P := P) (w := w) (base := base) T
  have c_Memory_read := f_Memory_read (P := P) (w := w) (base := base) T
  have c__law_word := f__law_word (P := P) (w := w) (base := base) T
  have c_Hands_row := f_Hands_row (P := P) (w := w) (base := base) T
  refine T.mkFn 83 54 (d := d__law_stands) (N := ["_law_own", "_law_memory", "_law_k", "_law_at_here", "_law_slot", "_law_words", "_law_thing_here"]) (k := 5) rfl rfl rfl rfl rfl sc__law_stands (fun _ _ _ _ _ _ us hl => match us, hl with | [_], _ => rfl) (fun vs H Q E h => ?len) (fun cdv A outer s H vs Q E hr h => ⟨_,
      (pss_cons (ps_set (i := 1) sc__law_stands.nd rfl (Or.inl rfl) (pe_fldC (T.cls 112) (T.noat 118) (pe_dget (hu_of hr) (pv 0) pe_str (fun _ _ => rfl))))
        (pss_cons (ps_for (passes_of rfl) rfl (pi_range1 rfl (T.free 71) (pa_cons (pe_callB (call_lenK (K := K) rfl) (by rfl) (T.free 69) PySem.boot_len (pa_cons (pe_dget (hu_of hr) (pv 0) pe_str (fun _ _ => rfl)) pa_nil)) pa_nil)) (pg_name (i := 2) sc__law_stands.nd rfl (Or.inl rfl)) (pss_cons (ps_set (i := 3) sc__law_stands.nd rfl (Or.inl rfl) (pe_ix (ix_seqK (K := K) rfl) (pe_dget (hu_of hr) (pv 0) pe_str (fun _ _ => rfl)) (pv 2) (fun _ _ => rfl)))
        (pss_one (ps_if (pt_cmpR op_notN (pv 3) pe_non (nomark _)) (pss_cons (ps_if (PW.pt (pw_or (pt_cmpR (op_neK (K := K) rfl hr.units) (pe_fn (takes_of rfl rfl rfl rfl) c_age_of (hr.mono (by decide)) (by rfl) (pa_cons (pv 1) (pa_cons (pv 3) pa_nil))) (pe_ix (ix_seqK (K := K) rfl) (pe_dget (hu_of hr) (pv 0) pe_str (fun _ _ => rfl)) (pv 2) (fun _ _ => rfl)) (nomark _)) (pw_or1 (pt_cmpR (op_neK (K := K) rfl hr.units) (pe_fn (takes_of rfl rfl rfl rfl) c_slots_of (hr.mono (by decide)) (by rfl) (pa_cons (pv 1) (pa_cons (pv 3) pa_nil))) (pe_callB (call_lenK (K := K) rfl) (by rfl) (T.free 69) PySem.boot_len (pa_cons (pe_ix (ix_seqK (K := K) rfl) (pe_dget (hu_of hr) (pv 0) pe_str (fun _ _ => rfl)) (pv 2) (fun _ _ => rfl)) pa_nil)) (nomark _))))) (pss_one (ps_ret pe_bl)) pss_nil)
        (pss_one (ps_for (passes_of rfl) rfl (pi_range1 rfl (T.free 71) (pa_cons (pe_callB (call_lenK (K := K) rfl) (by rfl) (T.free 69) PySem.boot_len (pa_cons (pe_ix (ix_seqK (K := K) rfl) (pe_dget (hu_of hr) (pv 0) pe_str (fun _ _ => rfl)) (pv 2) (fun _ _ => rfl)) pa_nil)) pa_nil)) (pg_name (i := 4) sc__law_stands.nd rfl (Or.inl rfl)) (pss_one (ps_if (pt_cmpR (op_neK (K := K) rfl hr.units) (pe_mt (K := K) rfl (takes_of rfl rfl rfl rfl) (pv 1) c_Memory_read (hr.mono (by decide)) (pa_cons (pe_op op_gAdd (pe_op op_gAdd (pv 3) pe_int) (pv 4)) pa_nil)) (pe_fn (takes_of rfl rfl rfl rfl) c__law_word (hr.mono (by decide)) (by rfl) (pa_cons (pe_ix (ix_seqK (K := K) rfl) (pe_ix (ix_seqK (K := K) rfl) (pe_dget (hu_of hr) (pv 0) pe_str (fun _ _ => rfl)) (pv 2) (fun _ _ => rfl)) (pv 4) (fun _ _ => rfl)) (pa_cons (pe_dget (hu_of hr) (pv 0) pe_str (fun _ _ => rfl)) pa_nil))) (nomark _)) (pss_one (ps_ret pe_bl)) pss_nil))))) pss_nil))))
        (pss_cons (ps_setLc (i := 5) (own := [("_law_thing_here", 6)]) (g := gName 6) rfl sc__law_stands.nd rfl rfl (sw_true rfl rfl rfl (by decide +kernel)) (pi_listK (K := K) rfl (pe_dget (hu_of hr) (pv 0) pe_str (fun _ _ => rfl))) (blkOk_by (own := [("_law_thing_here", 6)]) (N := ["_law_own", "_law_memory", "_law_k", "_law_at_here", "_law_slot", "_law_words", "_law_thing_here"]) (sc := defScope s__law_stands) (by decide +kernel)) (fun _ _ _ _ _ => (pg_name (i := 6) sc__law_stands.nd rfl (Or.inl rfl))) (fun _ _ _ _ _ => pts_nil) (fun _ _ _ _ _ => (pe_fn takes0 c__law_word (hr.mono (by decide)) (by rfl) (pa_cons (pv 6) (pa_cons (pe_dget (hu_of hr) (pv 0) pe_str (fun _ _ => rfl)) pa_nil)))))
        (pss_one (ps_ret (pe_cmpR (op_eqK (K := K) rfl hr.units) (pe_mt0 (K := K) rfl (takes_of rfl rfl rfl rfl) (pe_fldC (T.cls 157) (T.noat 160) (pe_dget (hu_of hr) (pv 0) pe_str (fun _ _ => rfl))) c_Hands_row (hr.mono (by decide))) (pv 5) (nomark _))))))), ?rd⟩)
  case len => first | exact len__law_stands h | (repeat (first | (obtain ⟨rfl, _⟩ := h; rfl; done) | obtain ⟨_, h⟩ := h))
  case rd =>
    obtain ⟨o, A, R, w, kv, S, U, C, rs, pl, ag, sl, hs, rfl, J, q⟩ := h
    have sz : 1000000 ≤ sizeLine := by rw [sizeLine_eq]; omega
    have an := J.n
    have l1 := J.L.l1
    walk_at "w3"
    refine ⟨_, J.J.L.get J.J.L.k0, ?_⟩
    walk_at "w3"
    refine ⟨_, fldIs J.J.I.ar.ob, _, J.J.L.get J.J.L.k2, r_lenL J.J.L.pp ?_⟩
    rw [List.length_map]
    walk_at "w3"
    refine ⟨by omega, by omega, ?_⟩
    rw [Int.toNat_natCast]
    refine forW_range (fun i σ H' => ∃ o2 o3 o4, σ = [some (.ref o), some (.ref A.m), o2, o3, o4, none, none] ∧ H' = H) ⟨_, _, _, rfl, rfl⟩ ?_ ?_
    · rintro i σ _ hi ⟨o2, o3, o4, rfl, rfl⟩
      have eo := List.getElem?_eq_getElem (l := pl) (i := i) hi
      walk_at "w3"
      simp only [Int.zero_add]
      refine ⟨_, J.J.L.get J.J.L.k2, ?_⟩
      refine r_ixL J.J.L.pp (by rw [List.getElem?_map, eo]; rfl) ?_
      cases e : pl[i] with
      | none =>
        rw [show plV none = V.non from rfl]
        walk_at "w3"
        exact ⟨_, _, _, rfl⟩
      | some p =>
        rw [e] at eo
        rw [show plV (some p) = V.int (p : Int) from rfl]
        obtain ⟨a, r, ts, ea, er, es⟩ := J.L.row eo
        obtain ⟨r', ts', er', es', mc⟩ := J.L.cell eo
        rw [es] at es'
        cases es'
        obtain ⟨ts', vs, es', hr, hv⟩ := J.J.L.rw_ i r er
        rw [es] at es'
        cases es'
        have lt := J.L.y.cp.lt J.L.y.ln J.L.y.lo J.L.y.lb.2 _ mc
        obtain ⟨hd, e1, e2, e3⟩ := J.L.y.cp.head mc lt
        have e1 : headW S.ws (.int (p : Int)) = .ok p hd := e1
        have e2 : hd / 4 = (ts.map (TH.word pl)).length := e2
        rw [List.length_map] at e2
        have lt : p + (ts.map (TH.word pl)).length < S.ws.length := lt
        rw [List.length_map] at lt
        have h8 := J.L.s8 ts (List.mem_of_getElem? es)
        have eag : hd % 4 = a := by
          obtain ⟨-, -, g⟩ := head_ok e1
          have h1 := (J.L.ag_ i p a eo ea).1
          unfold agO at h1
          rw [g] at h1
          exact h1
        walk_at "w3"
        refine ⟨A.m, A.mx, A.l, S.ws, _, rfl, J.J.I.ar.me, J.J.I.ar.vw, .inl ⟨_, rfl⟩, ?_⟩
        rw [e1]
        dsimp only
        refine ⟨_, J.J.L.get J.J.L.k3, r_ixL J.J.L.ga (by rw [List.getElem?_map, ea]; rfl) ?_⟩
        rw [eag]
        walk_at "w3"
        refine ⟨A.m, A.mx, A.l, S.ws, _, rfl, J.J.I.ar.me, J.J.I.ar.vw, .inl ⟨_, rfl⟩, ?_⟩
        rw [e1]
        dsimp only
        refine ⟨_, J.J.L.get J.J.L.k4, r_ixL J.J.L.ss (by rw [List.getElem?_map, er]; rfl) ?_⟩
        refine r_lenL hr ?_
        rw [hv.len, e2]
        walk_at "w3"
        refine ⟨_, J.J.L.get J.J.L.k4, r_ixL J.J.L.ss (by rw [List.getElem?_map, er]; rfl) ?_⟩
        refine r_lenL hr ?_
        rw [hv.len]
        walk_at "w3"
        refine ⟨by omega, by omega, ?_⟩
        rw [Int.toNat_natCast]
        refine forW_range (fun j σ H' => ∃ o4, σ = [some (.ref o), some (.ref A.m), some (.int (i : Int)), some (.int (p : Int)), o4, none, none] ∧ H' = _) ⟨_, rfl, rfl⟩ ?_ ?_
        · rintro j σ H' hj ⟨o4', rfl, rfl⟩
          obtain ⟨v, ev⟩ := hv.at hj
          obtain ⟨t, et, ht⟩ := hv.get ev
          have ok := J.L.th i p ts eo es t (List.mem_of_getElem? et)
          walk_at "w3"
          simp only [Int.zero_add]
          refine ⟨recv J.J.I.ar.me.ob, A.m, A.mx, A.l, S.ws, _, rfl, J.J.I.ar.me, .inl ⟨_, rfl⟩, ?_⟩
          rw [show (p : Int) + 1 + (j : Int) = ((p + 1 + j : Nat) : Int) from by omega, placeOf_int, if_pos ⟨by omega, by omega⟩, Int.toNat_natCast]
          dsimp only
          refine ⟨_, J.J.L.get J.J.L.k4, r_ixL J.J.L.ss (by rw [List.getElem?_map, er]; rfl) ?_⟩
          refine r_ixL hr ev ?_
          refine ⟨_, J.J.L.get J.J.L.k2, ?_⟩
          refine ⟨t, v, w.pa, pl, rfl, ht, J.J.L.pp, ok, ?_⟩
          have h3 := J.L.y.cp.sl _ mc j (by show j < (ts.map (TH.word pl)).length; rw [List.length_map]; exact hj)
          have h3 : S.ws.getD (p + 1 + j) 0 = (ts.map (TH.word pl)).getD j 0 := h3
          rw [h3, getD_of (a := TH.word pl t) (by rw [List.getElem?_map, et]; rfl)]
          walk_at "w3"
          exact ⟨_, rfl⟩
        · rintro σ H' ⟨o4', rfl, rfl⟩
          exact ⟨_, _, _, rfl, Eq.refl _⟩
    rintro σ H' ⟨o2, o3, o4, rfl, rfl⟩
    walk_at "w3"
    refine ⟨_, J.J.L.get J.J.L.k5, ?_⟩
    obtain ⟨vs, hv, tv⟩ := J.J.L.hh
    refine ⟨w.ha, rfl, ⟨_, .of hv⟩, fun D nD => lc_mapL (xs := vs) (ys := (hs.map (TH.word pl)).map V.int) (fun _ => rfl) (fun acc => .of ((upd_ne (ne_of_none hv nD)).trans hv)) ?_ (by rw [List.length_map, List.length_map, tv.len]) (fun i x y hx hy acc Q2 q2 => ?_) ?_⟩
    · have := tv.len
      have h6 := J.J.I.ro.ho.sz
      have := congrArg List.length J.he
      rw [List.length_map] at this
      omega
    · obtain ⟨t, et, ht⟩ := tv.get hx
      have Jx := J.J.same (same_new (o := .lst acc) nD)
      have ok := J.hk t (List.mem_of_getElem? et)
      rw [List.getElem?_map, List.getElem?_map, et] at hy
      cases hy
      walk_at "w3"
      refine ⟨_, Jx.L.get Jx.L.k2, ?_⟩
      exact ⟨t, x, w.pa, pl, rfl, TH.same (same_new nD) ht, Jx.L.pp, ok, q2⟩
    have s1 := same_new (o := .lst ((hs.map (TH.word pl)).map V.int)) nD
    have J1 := J.same s1
    have hD : upd H' D (.lst ((hs.map (TH.word pl)).map V.int)) D = some (.lst ((hs.map (TH.word pl)).map V.int)) := upd_same
    generalize upd H' D (.lst ((hs.map (TH.word pl)).map V.int)) = H1 at s1 J1 hD ⊢
    refine ⟨_, J1.J.L.get J1.J.L.k1, _, fldIs J1.J.I.ro.ob, recv J1.J.I.ro.ho.ob, R.h, R.hx, R.hl, U.hs, rfl, J1.J.I.ro.ho, fun p4 np4 => ?_⟩
    have s4 := same_new (o := .lst (U.hs.map V.int)) np4
    refine r_eqInts upd_same ?_ (q _ (s1.trans s4))
    rw [J.he]
    exact (same_new np4) _ _ hD
end

local macro_rules | `(tactic| walk_at "w3") => `(tactic| try simp only [↓x_var0, ↓x_varS, ↓x_c, ↓x_op, ↓x_un, ↓x_cb, ↓x_nil, ↓x_cons, ↓x_test, ↓x_b, ↓x_ex, ↓x_and, ↓x_or, ↓x_not, ↓x_andV, ↓x_orV, ↓x_notV, ↓x_tif, ↓x_chain, ↓x_menu, ↓x_menuI, ↓x_lst, ↓x_tup, ↓x_dnew, ↓x_callW, ↓x_callN, ↓x_seq, ↓x_next, ↓x_ret, ↓x_retN, ↓x_drop, ↓x_ifS, ↓x_asg, ↓x_name, ↓x_raise, ↓x_fld, ↓x_setF, ↓x_meth, ↓x_make, ↓x_sub, ↓r_min, ↓r_max, ↓x_yes, ↓x_for, ↓x_lock, ↓x_keys, ↓x_cut, ↓x_lc, ↓x_rng1, ↓x_rng2, ↓x_lst1, ↓x_itup, ↓x_rng3, ↓x_three, ↓x_lstg, ↓x_tupg, ↓x_adrS, ↓x_one, ↓x_two, ↓x_adr, ↓x_sl, ↓x_np, ↓x_pt, ↓x_int, ↓x_bm, ↓x_bm0, ↓x_consg, ↓x_nilg, ↓x_dget2, ↓x_dget1, ↓x_dgetN, ↓x_dget, ↓x_din, ↓x_dni, ↓x_dput, ↓x_dpop2, ↓r_isB, ↓r_notB, ↓x_enum, ↓x_zip, ↓x_str, ↓x_strE, ↓r_inS, ↓r_ninS, wipe, List.map_cons, List.map_nil, ↓x_isT, ↓r_isiII, ↓r_isiBB, ↓r_isiIB, ↓r_isiSS, ↓r_neNS, ↓r_neSN, ↓r_neNN, ↓r_eqNS, ↓r_eqSN, ↓r_eqNN, ↓r_eqIS, ↓r_neIS, ↓r_neSI, ↓r_neBS, ↓r_eqBB, ↓r_neBB, ↓x_start, ↓x_K, ↓x_start0, ↓r_i0, ↓r_i, ↓r_u, ↓r_addI, ↓r_addS, ↓r_mulI, ↓r_mulS, ↓r_eqI, ↓r_neI, ↓r_eqS, ↓r_neS, ↓r_absI, ↓r_intI, ↓r_intB, List.length_cons, List.length_nil, List.replicate, List.set_cons_zero, List.set_cons_succ, decide_eq_true_eq, Bool.not_eq_true', decide_eq_false_iff_not, if_true, if_false, Bool.false_eq_true, Bool.true_eq_false, ite_true, ite_false, Bool.not_true, Bool.not_false, c_div, n_ten, c_pow, not_true_eq_false, not_false_eq_true, decide_true, decide_false, true_and, and_true, and_self, true_or, or_true, Int.reduceLT, Int.reduceLE, Int.reduceMul, Int.reduceAdd, Int.reduceSub, Int.reducePow, Int.reduceNeg, Int.reduceDiv, Int.reduceMod, Nat.reducePow, Int.reduceToNat, Int.reduceEq, Int.reduceNe, Nat.reduceLT, Nat.reduceLeDiff, Nat.reduceAdd, ↓x_whole, ↓x_kind, Int.natCast_one, Int.natCast_one, Int.natCast_one, Int.natCast_one, Int.natCast_one, Int.natCast_one, Int.natCast_one, Int.natCast_one, Int.natCast_one, Int.natCast_one, Int.natCast_one, Int.natCast_one, Int.natCast_one, Int.natCast_one, Int.natCast_one, Int.natCast_one, Int.natCast_one, Int.natCast_one, Int.natCast_one, Int.natCast_one, Int.natCast_one, Int.natCast_one])
/-! ## a young collection, by the law -/
def ro12 (S : ArS) (qs : List CeL) (U : RoS) (rs' : List V) (bs' : List Int) : RoS := { U with hs := U.hs.map (trY S qs), ts := U.ts.map (nmG (gY S qs)), rs := rs', ws := U.ws.map (tkG (gY S qs)), ss := U.ss ++ saidG (gY S qs) U.ws, bs := bs' }
/-- names and tickets fit -/
structure Tab12 (S : ArS) (U : RoS) (C : List CeL) : Prop where
  fl : ∀ t ∈ U.ts, flatN t = true
  tl : U.ts.length < 100000
  tn : ∀ p, .int p ∈ U.ts → Yng S p → ∃ c ∈ C, p = (c.p : Int)
  wl : U.ws.length < 100000
  sl : U.ss.length < 800000
  wn : ∀ p n, some (p, n) ∈ U.ws → Yng S p → ∃ c ∈ C, p = (c.p : Int)
def sp_collected12 (K : PySem.W.Frag) : Sp := fun vs H Q _ => ∃ o A R w kv S U C rs pl ag sl hs, vs = [.ref o] ∧ All12 K H o A R w kv S U C rs pl ag sl hs ∧ Tab12 S U C ∧
  ∀ qs S1 O rs' bs' H', All12 K H' o A R w kv (flS S1) (ro12 S qs U rs' bs') (newC S C qs) rs (npl S qs pl ag O) (nag ag O) sl hs → Yg S C qs S1 → Ord S qs pl ag O → Kp12 A R U.bd w rs H H' → Q (.bl true) H'
theorem r_neTupS {K : PySem.W.Frag} {H : Hp} {Q : VK} {a b : Addr} {xs : List V} (h1 : H a = some (.tup xs)) (h2 : H b = some (.tup xs)) (f : ∀ x ∈ xs, flatI x = true) (q : Q (.bl false) H) : gNe K (.ref a) (.ref b) H Q :=
  r_neSame (d := .tuple (xs.map toD)) (.tup (.inl (.inl h1)) (toDs_dp f)) (.tup (.inl (.inl h2)) (toDs_dp f)) ((ShK.tup toDs_sh).ok (by decide)) q
theorem two_filt {α : Type} {p r : α → Bool} : ∀ {l : List α}, (∀ x ∈ l, p x = !r x) → (l.filter p).length + (l.filter r).length = l.length
  | [], _ => rfl
  | x :: t, h => by
    have ih := two_filt fun y m => h y (List.mem_cons_of_mem _ m)
    have hx := h x List.mem_cons_self
    cases c : r x with
    | true =>
      rw [c] at hx
      rw [List.filter_cons_of_neg (by rw [hx]; exact Bool.false_ne_true), List.filter_cons_of_pos c, List.length_cons, List.length_cons]
      omega
    | false =>
      rw [c] at hx
      rw [List.filter_cons_of_pos hx, List.filter_cons_of_neg (by rw [c]; exact Bool.false_ne_true), List.length_cons, List.length_cons]
      omega
theorem Ord.lens {S S1 : ArS} {C qs : List CeL} {bs : List Int} {rs : List Addr} {pl : List (Option Nat)} {ag : List Nat} {sl : List (List TH)} {O : List Int} (W : Ord S qs pl ag O) (L : Law12 S C bs rs pl ag sl) (G : Yg S C qs S1) : (grL S qs).length = (grO ag O).length ∧ qs.length = (stO ag O).length + (grO ag O).length := by
  have h1 := congrArg List.length (W.st_tab L G).2
  rw [List.length_map, List.length_map] at h1
  have h2 := congrArg List.length W.m
  rw [List.length_map, List.length_map] at h2
  refine ⟨h1, ?_⟩
  rw [← h2]
  refine (two_filt fun k mk => ?_).symm
  have := (W.agO_is L G mk).2
  by_cases z : ag.getD k.toNat 0 = 0
  · rw [decide_eq_true z, decide_eq_false (by omega)]
    rfl
  · rw [decide_eq_false z, decide_eq_true (by omega)]
    rfl
theorem nplG_is {S : ArS} {qs : List CeL} {pl : List (Option Nat)} {ag : List Nat} {O : List Int} : nplG (nP S qs pl) pl ag O = npl S qs pl ag O := rfl
section
variable {P : Program} {w : World} {K : PySem.W.Frag} {mg : Str → Option Value} {base : Heap}
theorem f__law_collected (T : Tx K mg) : Fn P w K mg base 12 "_law_collected" ["_law_own"] (sp_collected12 K) := by
  have c__law_order := f__law_order (P := P) (w := w) (base := base) T
  have c_Space_cells := f_Space_cells (P := P) (w := w) (base := base) T
  have c_collect_young := f_collect_young (P := P) (w := w) (base := base) T
  have c__law_whole := f__law_whole (P := P) (w := w) (base := base) T
  have c_Space_used := f_Space_used (P := P) (w := w) (base := base) T
  have c__law_stands := f__law_stands (P := P) (w := w) (base := base) T
  have c__law_went := f__law_went (P := P) (w := w) (base := base) T
  refine T.mkFn 84 55 (d := d__law_collected) (N := ["_law_own", "_law_areas", "_law_order_here", "_law_stood", "_law_begins", "_law_due", "_law_k", "_law_found"]) (k := 11) rfl rfl rfl rfl rfl sc__law_collected (fun _ _ _ _ _ _ us hl => match us, hl with | [_], _ => rfl) (fun vs H Q E h => ?len) (fun cdv A outer s H vs Q E hr h => ⟨_,
      (pss_cons (ps_set (i := 1) sc__law_collected.nd rfl (Or.inl rfl) (pe_dget (hu_of hr) (pv 0) pe_str (fun _ _ => rfl)))
        (pss_cons (ps_set (i := 2) sc__law_collected.nd rfl (Or.inl rfl) (pe_fn (takes_of rfl rfl rfl rfl) c__law_order (hr.mono (by decide)) (by rfl) (pa_cons (pv 0) pa_nil)))
        (pss_cons (ps_set (i := 3) sc__law_collected.nd rfl (Or.inl rfl) (pe_callB (call_lenK (K := K) rfl) (by rfl) (T.free 69) PySem.boot_len (pa_cons (pe_mt (K := K) rfl (takes_of rfl rfl rfl rfl) (pe_fldC (T.cls 112) (T.noat 119) (pv 1)) c_Space_cells (hr.mono (by decide)) (pa_cons (pe_fldC (T.cls 112) (T.noat 118) (pv 1)) pa_nil)) pa_nil)))
        (pss_cons (ps_set (i := 4) sc__law_collected.nd rfl (Or.inl rfl) (pe_lst (pa_cons (pe_fldC (T.cls 100) (T.noat 109) (pe_fldC (T.cls 112) (T.noat 120) (pv 1))) (pa_cons (pe_fldC (T.cls 100) (T.noat 109) (pe_fldC (T.cls 112) (T.noat 121) (pv 1))) pa_nil))))
        (pss_cons (ps_set (i := 5) sc__law_collected.nd rfl (Or.inl rfl) (pe_tup (pa_cons (pe_callB (call_lenK (K := K) rfl) (by rfl) (T.free 69) PySem.boot_len (pa_cons (pe_lc (own := [("_law_k", 6)]) (g := gName 6) rfl sc__law_collected.nd (pi_listK (K := K) rfl (pv 2)) (blkOk_by (own := [("_law_k", 6)]) (N := ["_law_own", "_law_areas", "_law_order_here", "_law_stood", "_law_begins", "_law_due", "_law_k", "_law_found"]) (sc := defScope s__law_collected) (by decide +kernel)) (fun _ _ _ _ _ => (pg_name (i := 6) sc__law_collected.nd rfl (Or.inl rfl))) (fun _ _ _ _ _ => pts_one (pt_cmpR (op_eqK (K := K) rfl hr.units) (pe_ix (ix_seqK (K := K) rfl) (pe_dget (hu_of hr) (pv 0) pe_str (fun _ _ => rfl)) (pv 6) (fun _ _ => rfl)) pe_int (nomark _))) (fun _ _ _ _ _ => (pv 6))) pa_nil)) (pa_cons (pe_callB (call_lenK (K := K) rfl) (by rfl) (T.free 69) PySem.boot_len (pa_cons (pe_lc (own := [("_law_k", 6)]) (g := gName 6) rfl sc__law_collected.nd (pi_listK (K := K) rfl (pv 2)) (blkOk_by (own := [("_law_k", 6)]) (N := ["_law_own", "_law_areas", "_law_order_here", "_law_stood", "_law_begins", "_law_due", "_law_k", "_law_found"]) (sc := defScope s__law_collected) (by decide +kernel)) (fun _ _ _ _ _ => (pg_name (i := 6) sc__law_collected.nd rfl (Or.inl rfl))) (fun _ _ _ _ _ => pts_one (pt_cmpR (op_eqK (K := K) rfl hr.units) (pe_ix (ix_seqK (K := K) rfl) (pe_dget (hu_of hr) (pv 0) pe_str (fun _ _ => rfl)) (pv 6) (fun _ _ => rfl)) pe_int (nomark _))) (fun _ _ _ _ _ => (pv 6))) pa_nil)) pa_nil))))
        (pss_cons (ps_set (i := 7) sc__law_collected.nd rfl (Or.inl rfl) (pe_fn (takes_of rfl rfl rfl rfl) c_collect_young (hr.mono (by decide)) (by rfl) (pa_cons (pv 1) (pa_cons (pe_dget (hu_of hr) (pv 0) pe_str (fun _ _ => rfl)) pa_nil))))
        (pss_cons (ps_if (PW.pt (pw_or (pt_not (pt_val (pe_callB call_gIsi (by rfl) (T.free 68) (by decide +kernel) (pa_cons (pv 7) (pa_cons (pe_ty (T := "tuple") (T.free 79) (by decide +kernel) (by rfl)) pa_nil))))) (pw_or (pt_cmpR (op_neK (K := K) rfl hr.units) (pv 7) (pv 5) (nomark _)) (pw_or (pt_not (pt_val (pe_fnH c__law_whole (roomN_of (hr.mono (by decide))) (by rfl) (pa_cons (pe_ix (ix_seqK (K := K) rfl) (pv 7) pe_int (fun _ _ => rfl)) pa_nil)))) (pw_or1 (pt_not (pt_val (pe_fnH c__law_whole (roomN_of (hr.mono (by decide))) (by rfl) (pa_cons (pe_ix (ix_seqK (K := K) rfl) (pv 7) pe_int (fun _ _ => rfl)) pa_nil))))))))) (pss_one (ps_ret pe_bl)) pss_nil)
        (pss_cons (ps_if (PW.pt (pw_or (pt_cmpR (op_neK (K := K) rfl hr.units) (pe_lst (pa_cons (pe_fldC (T.cls 100) (T.noat 109) (pe_fldC (T.cls 112) (T.noat 121) (pv 1))) (pa_cons (pe_fldC (T.cls 100) (T.noat 109) (pe_fldC (T.cls 112) (T.noat 120) (pv 1))) pa_nil))) (pv 4) (nomark _)) (pw_or1 (pt_cmpR (op_neK (K := K) rfl hr.units) (pe_mt0 (K := K) rfl (takes_of rfl rfl rfl rfl) (pe_fldC (T.cls 112) (T.noat 121) (pv 1)) c_Space_used (hr.mono (by decide))) pe_int (nomark _))))) (pss_one (ps_ret pe_bl)) pss_nil)
        (pss_one (ps_ret (pe_and (pe_fn (takes_of rfl rfl rfl rfl) c__law_went (hr.mono (by decide)) (by rfl) (pa_cons (pv 0) (pa_cons (pv 2) (pa_cons (pv 3) pa_nil)))) (pe_one (pe_fn (takes_of rfl rfl rfl rfl) c__law_stands (hr.mono (by decide)) (by rfl) (pa_cons (pv 0) pa_nil)))))))))))))), ?rd⟩)
  case len => first | exact len__law_collected h | (repeat (first | (obtain ⟨rfl, _⟩ := h; rfl; done) | obtain ⟨_, h⟩ := h))
  case rd =>
    obtain ⟨o, A, R, w, kv, S, U, C, rs, pl, ag, sl, hs, rfl, J, T, q⟩ := h
    have sz : 1000000 ≤ sizeLine := by rw [sizeLine_eq]; omega
    have an := J.n
    have l1 := J.L.l1
    walk_at "w3"
    refine ⟨_, J.J.L.get J.J.L.k0, ?_⟩
    walk_at "w3"
    refine ⟨o, A, R, w, kv, S, U, C, rs, pl, ag, sl, hs, rfl, J, fun O p1 H1 ord ou on np1 s1 hp1 => ?_⟩
    have J1 := J.same s1
    have f1 := J.J.stay np1
    obtain ⟨ps, c1, c2⟩ := J.L.cv
    have psl : ps.length ≤ 10000 := by
      have : ∀ {i t : Nat} {ps : List Int}, Cov S.ws i ps t → ps.length ≤ t - i := fun {i t ps} h => by
        induction h with
        | nil => exact Nat.zero_le _
        | cons _ _ c ih =>
          have := c.le
          rw [List.length_cons]
          omega
      have := this c1
      have := J.L.y.lo
      have := J.L.y.sz
      omega
    walk_at "w3"
    refine ⟨_, fldIs J1.J.I.ar.ob, recv J1.J.I.ar.so, _, fldIs J1.J.I.ar.ob, _, _, _, _, _, _, _, _, _, _, rfl, J1.J.I.ar.so, J1.J.I.ar.me, J1.J.I.ar.vw, c1.chain, fun p2 H2 np2 s2 hp2 => ?_⟩
    have J2 := J1.same s2
    refine r_lenL hp2 ?_
    rw [List.length_map]
    walk_at "w3"
    refine ⟨_, fldIs J2.J.I.ar.ob, _, fldIs (J2.J.I.ar.half S.fl), _, fldIs J2.J.I.ar.ob, _, fldIs (J2.J.I.ar.half (!S.fl)), by omega, fun p3 np3 => ?_⟩
    have s3 := same_new (o := .lst [.int (S.b S.fl : Int), .int (S.b (!S.fl) : Int)]) np3
    have hp3 : upd H2 p3 (.lst [.int (S.b S.fl : Int), .int (S.b (!S.fl) : Int)]) p3 = some (.lst [.int (S.b S.fl : Int), .int (S.b (!S.fl) : Int)]) := upd_same
    have J3 := J2.same s3
    have f3 := J2.J.stay np3
    have hp13 := (s2.trans s3) _ _ hp1
    generalize upd H2 p3 (.lst [.int (S.b S.fl : Int), .int (S.b (!S.fl) : Int)]) = H3 at s3 hp3 J3 hp13 ⊢
    have ol := UY_len J.L on ou
    have ok : ∀ k ∈ O, ∃ k' : Nat, k = (k' : Int) ∧ ∃ a, ag[k']? = some a ∧ a < 2 := fun k mk => by
      obtain ⟨k', a, p', e, h1, h2, -⟩ := UY_mem.mp (ou k mk)
      exact ⟨k', e, a, h1, h2⟩
    have pl6 : (O.map V.int).length ≤ sizeLine := by rw [List.length_map]; omega
    refine ⟨⟨_, .of hp13⟩, fun D1 nD1 => lc_iffL (xs := O.map V.int) (g := gA ag 0) (fun _ => rfl) (fun acc => .of ((upd_ne (ne_of_none hp13 nD1)).trans hp13)) pl6 (fun i x hx acc N n1 n2 => ?_) (fun i x y hx hy acc Q2 q2 => ?_) ?_⟩
    · obtain ⟨k, hk, rfl⟩ := ints_atY hx
      obtain ⟨k', rfl, a, ea, a2⟩ := ok k (List.mem_of_getElem? hk)
      have Jx := J3.J.same (same_new (o := .lst acc) nD1)
      have eg : gA ag 0 (.int (k' : Int)) = if a = 0 then some (.int (k' : Int)) else none := by
        show (if ag.getD (k' : Int).toNat 0 = 0 then _ else _) = _
        rw [Int.toNat_natCast, getD_of ea]
      rw [eg] at n1 n2
      walk_at "w3"
      refine ⟨_, Jx.L.get Jx.L.k3, r_ixL Jx.L.ga (by rw [List.getElem?_map, ea]; rfl) ?_⟩
      walk_at "w3"
      by_cases c : a = 0
      · rw [decide_eq_true (by omega)]
        exact n1 (by rw [if_pos c]; rfl)
      · rw [decide_eq_false (by omega)]
        exact n2 (by rw [if_neg c]; rfl)
    · obtain ⟨k, hk, rfl⟩ := ints_atY hx
      have hy : (if ag.getD k.toNat 0 = 0 then some (V.int k) else none) = some y := hy
      split at hy
      · cases hy
        walk_at "w3"
        exact q2
      · cases hy
    rw [st_map]
    refine r_lenL upd_same ?_
    have s4 := same_new (o := .lst ((stO ag O).map V.int)) nD1
    have J4 := J3.same s4
    have hp14 := s4 _ _ hp13
    have hp34 := s4 _ _ hp3
    rw [List.length_map]
    generalize upd H3 D1 (.lst ((stO ag O).map V.int)) = H4 at s4 J4 hp14 hp34 ⊢
    refine ⟨⟨_, .of hp14⟩, fun D1 nD1 => lc_iffL (xs := O.map V.int) (g := gA ag 1) (fun _ => rfl) (fun acc => .of ((upd_ne (ne_of_none hp14 nD1)).trans hp14)) pl6 (fun i x hx acc N n1 n2 => ?_) (fun i x y hx hy acc Q2 q2 => ?_) ?_⟩
    · obtain ⟨k, hk, rfl⟩ := ints_atY hx
      obtain ⟨k', rfl, a, ea, a2⟩ := ok k (List.mem_of_getElem? hk)
      have Jx := J4.J.same (same_new (o := .lst acc) nD1)
      have eg : gA ag 1 (.int (k' : Int)) = if a = 1 then some (.int (k' : Int)) else none := by
        show (if ag.getD (k' : Int).toNat 0 = 1 then _ else _) = _
        rw [Int.toNat_natCast, getD_of ea]
      rw [eg] at n1 n2
      walk_at "w3"
      refine ⟨_, Jx.L.get Jx.L.k3, r_ixL Jx.L.ga (by rw [List.getElem?_map, ea]; rfl) ?_⟩
      walk_at "w3"
      by_cases c : a = 1
      · rw [decide_eq_true (by omega)]
        exact n1 (by rw [if_pos c]; rfl)
      · rw [decide_eq_false (by omega)]
        exact n2 (by rw [if_neg c]; rfl)
    · obtain ⟨k, hk, rfl⟩ := ints_atY hx
      have hy : (if ag.getD k.toNat 0 = 1 then some (V.int k) else none) = some y := hy
      split at hy
      · cases hy
        walk_at "w3"
        exact q2
      · cases hy
    rw [gr_map]
    refine r_lenL upd_same ?_
    have s5 := same_new (o := .lst ((grO ag O).map V.int)) nD1
    have J5 := J4.same s5
    have hp15 := s5 _ _ hp14
    have hp35 := s5 _ _ hp34
    rw [List.length_map]
    generalize upd H4 D1 (.lst ((grO ag O).map V.int)) = H5 at s5 J5 hp15 hp35 ⊢
    refine ⟨by omega, fun p6 np6 => ?_⟩
    have s6 := same_new (o := .tup [.int ((stO ag O).length : Int), .int ((grO ag O).length : Int)]) np6
    have hp6 : upd H5 p6 (.tup [.int ((stO ag O).length : Int), .int ((grO ag O).length : Int)]) p6 = some (.tup [.int ((stO ag O).length : Int), .int ((grO ag O).length : Int)]) := upd_same
    have J6 := J5.same s6
    have hp16 := s6 _ _ hp15
    have hp36 := s6 _ _ hp35
    have f6 := J5.J.stay np6
    have s06 := s1.trans (s2.trans (s3.trans (s4.trans (s5.trans s6))))
    generalize upd H5 p6 (.tup [.int ((stO ag O).length : Int), .int ((grO ag O).length : Int)]) = H6 at s6 hp6 J6 hp16 hp36 s06 ⊢
    have bl := J.L.bl J.J.I.ro.bo.nd
    refine ⟨_, J6.J.L.get J6.J.L.k1, A, R, S, U, C, rfl, J6.J.I, J6.L.y, J6.L.b, by omega, fun x mx => ?_, T.fl, T.tl, T.tn, T.wl, T.sl, T.wn, fun qs S1 rs' bs' ns ns2 tp H7 G I7 pn sn pn2 eq dn dh ebs ntp htp k7 => ?_⟩
    · rw [J.he] at mx
      obtain ⟨t, mt, rfl⟩ := List.mem_map.mp mx
      have ok := J.hk t mt
      cases t with
      | non => exact ClW.non
      | num n => exact ClW.num ok
      | cell i =>
        obtain ⟨q', eq', hq'⟩ := ok
        obtain ⟨r', ts', -, -, mc'⟩ := J.L.cell eq'
        rw [word_cell eq']
        exact ClW.cell mc' hq'
    have W : Ord S qs pl ag O := ⟨(ord ns pn sn).trans eq.symm, ou, on⟩
    have B := newC_bk J.L.y G J.L.b dn pn2
    rw [← ebs] at B
    have Ln := W.next J.L G dn B
    have J7 : I12 K H7 o A R w kv (flS S1) (ro12 S qs U rs' bs') rs pl ag sl hs := J6.J.pair I7 rfl k7
    obtain ⟨len1, len2⟩ := W.lens J.L G
    obtain ⟨f1', f2', f3', f4', f5', f6', f7', f8'⟩ := flS_is (S := S1)
    have kp7 : Kp12 A R U.bd w rs H6 H7 := fun b x n1 n2 n3 n4 n5 n6 n7 n8 n9 n10 _ g => k7 b x n1 n2 n3 n4 n5 n6 n7 n8 n9 n10 g
    have hp17 := kp7.at f1 hp16
    have hp37 := kp7.at f3 hp36
    have hp67 := kp7.at f6 hp6
    rw [len1, show ((qs.length : Int) - ((grO ag O).length : Int)) = ((stO ag O).length : Int) from by omega] at htp
    walk_at "w3"
    refine r_isiT htp ?_
    walk_at "w3"
    refine r_neTupS htp hp67 (by intro x mx; simp only [List.mem_cons, List.not_mem_nil, or_false] at mx; rcases mx with rfl | rfl <;> rfl) ?_
    walk_at "w3"
    refine r_ixT (i := 0) htp rfl ?_
    rw [x_whole]
    walk_at "w3"
    refine r_ixT (i := 1) htp rfl ?_
    rw [x_whole]
    walk_at "w3"
    have hy := J7.I.ar.half (flS S1).fl
    have hz := J7.I.ar.half (!(flS S1).fl)
    refine ⟨_, fldIs J7.I.ar.ob, _, fldIs hz, _, fldIs J7.I.ar.ob, _, fldIs hy, by omega, fun p8 np8 => ?_⟩
    have s8 := same_new (o := .lst [.int ((flS S1).b (!(flS S1).fl) : Int), .int ((flS S1).b (flS S1).fl : Int)]) np8
    have eb : ∀ f, (flS S1).b f = S.b f := fun f => by
      rw [f8']
      unfold ArS.b
      rw [G.n, G.k]
    have ef : (flS S1).fl = !S.fl := by rw [f3', G.fl]
    have e8 : (.lst [.int ((flS S1).b (!(flS S1).fl) : Int), .int ((flS S1).b (flS S1).fl : Int)] : HO) = .lst ([(S.b S.fl : Int), (S.b (!S.fl) : Int)].map V.int) := by
      rw [eb, eb, ef, Bool.not_not]
      rfl
    refine r_neInts (ns := [(S.b S.fl : Int), (S.b (!S.fl) : Int)]) (by rw [upd_same, e8]) (s8 _ _ hp37) ?_
    walk_at "w3"
    have J8 := J7.same s8
    have kp8 := (Kp12.of s06).tr (kp7.tr (.of (A := A) (R := R) (bd := U.bd) (w := w) (rs := rs) s8))
    have hp18 := s8 _ _ hp17
    generalize upd H7 p8 (.lst [.int ((flS S1).b (!(flS S1).fl) : Int), .int ((flS S1).b (flS S1).fl : Int)]) = H8 at s8 J8 kp8 hp18 ⊢
    have hz := J8.I.ar.half (!(flS S1).fl)
    refine ⟨_, fldIs J8.I.ar.ob, recv hz, _, _, _, _, _, rfl, hz, ?_⟩
    have et : (flS S1).t (!(flS S1).fl) = (flS S1).b (!(flS S1).fl) := by
      rw [f3', Bool.not_not, f7', f8']
    rw [et, Int.sub_self]
    walk_at "w3"
    obtain ⟨tb1, tb2⟩ := W.st_tab J.L G
    have cy := cov_young J.L.y G
    have co := cov_old J.L.y G c1 c2
    have ey : ((stL S qs).map fun x => (x.2 : Int)) = (stO ag O).map fun k => (nP S qs pl k : Int) := by
      have := congrArg (List.map fun n : Nat => (n : Int)) tb1
      rw [List.map_map, List.map_map] at this
      exact this
    have eo : ((grL S qs).map fun x => (x.2 : Int)) = (grO ag O).map fun k => (nP S qs pl k : Int) := by
      have := congrArg (List.map fun n : Nat => (n : Int)) tb2
      rw [List.map_map, List.map_map] at this
      exact this
    rw [ey] at cy
    rw [eo] at co
    refine ⟨o, A, R, w, kv, flS S1, ro12 S qs U rs' bs', rs, pl, ag, sl, hs, O, nP S qs pl, ps, p1, rfl, J8, hp18, f1.2.2.2.2.2.2.2.2.2.2, ou, by omega, an, psl, l1, cy, co, fun H9 J9 k9 => ?_⟩
    rw [nplG_is] at J9
    walk_at "w3"
    have wd : ∀ t ∈ hs, TH.ok (npl S qs pl ag O) t ∧ TH.word (npl S qs pl ag O) t = trY S qs (TH.word pl t) := fun t mt => by
      have d := dh (TH.word pl t) (by rw [J.he]; exact List.mem_map.mpr ⟨t, mt, rfl⟩)
      obtain ⟨e1, e2⟩ := W.word J.L G (J.hk t mt) d
      exact ⟨e2, e1⟩
    have A9 : All12 K H9 o A R w kv (flS S1) (ro12 S qs U rs' bs') (newC S C qs) rs (npl S qs pl ag O) (nag ag O) sl hs := ⟨J9, Ln, fun t mt => (wd t mt).1, by
      show U.hs.map (trY S qs) = _
      rw [J.he, List.map_map]
      exact List.map_congr_left fun t mt => (wd t mt).2.symm, by rw [nag_len]; exact an⟩
    exact ⟨_, _, _, _, _, _, _, _, _, _, _, _, _, rfl, A9, fun H' s' => q qs S1 O rs' bs' H' (A9.same s') G W ((kp8.tr k9).tr (.of s'))⟩
end

local macro_rules | `(tactic| walk_at "w3") => `(tactic| try simp only [↓x_var0, ↓x_varS, ↓x_c, ↓x_op, ↓x_un, ↓x_cb, ↓x_nil, ↓x_cons, ↓x_test, ↓x_b, ↓x_ex, ↓x_and, ↓x_or, ↓x_not, ↓x_andV, ↓x_orV, ↓x_notV, ↓x_tif, ↓x_chain, ↓x_menu, ↓x_menuI, ↓x_lst, ↓x_tup, ↓x_dnew, ↓x_callW, ↓x_callN, ↓x_seq, ↓x_next, ↓x_ret, ↓x_retN, ↓x_drop, ↓x_ifS, ↓x_asg, ↓x_name, ↓x_raise, ↓x_fld, ↓x_setF, ↓x_meth, ↓x_make, ↓x_sub, ↓r_min, ↓r_max, ↓x_yes, ↓x_for, ↓x_lock, ↓x_keys, ↓x_cut, ↓x_lc, ↓x_rng1, ↓x_rng2, ↓x_lst1, ↓x_itup, ↓x_rng3, ↓x_three, ↓x_lstg, ↓x_tupg, ↓x_adrS, ↓x_one, ↓x_two, ↓x_adr, ↓x_sl, ↓x_np, ↓x_pt, ↓x_int, ↓x_bm, ↓x_bm0, ↓x_consg, ↓x_nilg, ↓x_dget2, ↓x_dget1, ↓x_dgetN, ↓x_dget, ↓x_din, ↓x_dni, ↓x_dput, ↓x_dpop2, ↓r_isB, ↓r_notB, ↓x_enum, ↓x_zip, ↓x_str, ↓x_strE, ↓r_inS, ↓r_ninS, wipe, List.map_cons, List.map_nil, ↓x_isT, ↓r_isiII, ↓r_isiBB, ↓r_isiIB, ↓r_isiSS, ↓r_neNS, ↓r_neSN, ↓r_neNN, ↓r_eqNS, ↓r_eqSN, ↓r_eqNN, ↓r_eqIS, ↓r_neIS, ↓r_neSI, ↓r_neBS, ↓r_eqBB, ↓r_neBB, ↓x_start, ↓x_K, ↓x_start0, ↓r_i0, ↓r_i, ↓r_u, ↓r_addI, ↓r_addS, ↓r_mulI, ↓r_mulS, ↓r_eqI, ↓r_neI, ↓r_eqS, ↓r_neS, ↓r_absI, ↓r_intI, ↓r_intB, List.length_cons, List.length_nil, List.replicate, List.set_cons_zero, List.set_cons_succ, decide_eq_true_eq, Bool.not_eq_true', decide_eq_false_iff_not, if_true, if_false, Bool.false_eq_true, Bool.true_eq_false, ite_true, ite_false, Bool.not_true, Bool.not_false, c_div, n_ten, c_pow, not_true_eq_false, not_false_eq_true, decide_true, decide_false, true_and, and_true, and_self, true_or, or_true, Int.reduceLT, Int.reduceLE, Int.reduceMul, Int.reduceAdd, Int.reduceSub, Int.reducePow, Int.reduceNeg, Int.reduceDiv, Int.reduceMod, Nat.reducePow, Int.reduceToNat, Int.reduceEq, Int.reduceNe, Nat.reduceLT, Nat.reduceLeDiff, Nat.reduceAdd, ↓x_whole, ↓x_kind, Int.natCast_one, Int.natCast_one, Int.natCast_one, Int.natCast_one, Int.natCast_one, Int.natCast_one, Int.natCast_one, Int.natCast_one, Int.natCast_one, Int.natCast_one, Int.natCast_one, Int.natCast_one, Int.natCast_one, Int.natCast_one, Int.natCast_one, Int.natCast_one, Int.natCast_one, Int.natCast_one, Int.natCast_one, Int.natCast_one, Int.natCast_one, Int.natCast_one, Int.natCast_one])
def sp_law (K : PySem.W.Frag) : Sp := fun vs H Q _ => ∃ (a : Addr) (ns : List Int), vs = [.ref a] ∧ SqL K H a (ns.map V.int) ∧ ns.length ≤ 63 ∧ ∀ H', Q (.bl true) H'
def thrO (ag : List Nat) (pl : List (Option Nat)) (i : Nat) : List Int := ((List.range i).filter fun k => decide (ag.getD k 0 = 1) && (pl.getD k none).isSome).map fun k : Nat => (k : Int)
theorem thrO_succ {ag : List Nat} {pl : List (Option Nat)} {i : Nat} : thrO ag pl (i + 1) = thrO ag pl i ++ if ag.getD i 0 = 1 ∧ (pl.getD i none).isSome = true then [(i : Int)] else [] := by
  unfold thrO
  rw [List.range_succ, List.filter_append, List.map_append]
  congr 1
  by_cases c : ag.getD i 0 = 1 ∧ (pl.getD i none).isSome = true
  · rw [if_pos c, List.filter_cons_of_pos (by rw [Bool.and_eq_true, decide_eq_true_iff]; exact c)]
    rfl
  · rw [if_neg c, List.filter_cons_of_neg (by rw [Bool.and_eq_true, decide_eq_true_iff]; exact c)]
    rfl
theorem thrO_in {ag : List Nat} {pl : List (Option Nat)} {i : Nat} {x : Int} (h : x ∈ thrO ag pl i) : ∃ k : Nat, x = (k : Int) ∧ k < i := by
  obtain ⟨k, m, e⟩ := List.mem_map.mp h
  exact ⟨k, e.symm, List.mem_range.mp (List.mem_filter.mp m).1⟩
/-- nothing of age 0 is there -/
def Gr12 (pl : List (Option Nat)) (ag : List Nat) : Prop := ∀ k p a : Nat, pl[k]? = some (some p) → ag[k]? = some a → a ≠ 0
theorem Ord.gr {S S1 : ArS} {C qs : List CeL} {bs : List Int} {rs : List Addr} {pl : List (Option Nat)} {ag : List Nat} {sl : List (List TH)} {O : List Int} (W : Ord S qs pl ag O) (L : Law12 S C bs rs pl ag sl) (G : Yg S C qs S1) : Gr12 (npl S qs pl ag O) (nag ag O) := fun k p' a' h ha => by
  obtain ⟨a, p, ea, ep, hh⟩ := W.live L G h
  rw [W.ag_at ea] at ha
  have ha := Option.some.inj ha
  rcases hh with ⟨c, -⟩ | ⟨c, lt, -⟩
  · rw [if_pos c] at ha
    omega
  · rw [if_neg c] at ha
    omega
theorem Ord.st_nil {S : ArS} {C qs : List CeL} {bs : List Int} {rs : List Addr} {pl : List (Option Nat)} {ag : List Nat} {sl : List (List TH)} {O : List Int} (W : Ord S qs pl ag O) (g : Gr12 pl ag) : stO ag O = [] := by
  refine List.filter_eq_nil_iff.mpr fun k mk => ?_
  obtain ⟨k', a, p, rfl, h1, h2, h3⟩ := UY_mem.mp (W.u k mk)
  rw [Int.toNat_natCast, getD_of h1, decide_eq_true_iff]
  exact g k' p a h3 h1
section
variable {P : Program} {w : World} {K : PySem.W.Frag} {mg : Str → Option Value} {base : Heap}
theorem f_law (T : Tx K mg) : Fn P w K mg base 13 "law" ["_law_script"] (sp_law K) := by
  have c__law_built := f__law_built (P := P) (w := w) (base := base) T
  have c__law_collected := f__law_collected (P := P) (w := w) (base := base) T
  have c_Space_used := f_Space_used (P := P) (w := w) (base := base) T
  refine T.mkFn 85 56 (d := d_law) (N := ["_law_script", "_law_own", "_law_turn", "_law_there", "_law_k"]) (k := 12) rfl rfl rfl rfl rfl sc_law (fun _ _ _ _ _ _ us hl => match us, hl with | [_], _ => rfl) (fun vs H Q E h => ?len) (fun cdv A outer s H vs Q E hr h => ⟨_,
      (pss_cons (ps_set (i := 1) sc_law.nd rfl (Or.inr rfl) (pe_fn (takes_of rfl rfl rfl rfl) c__law_built (hr.mono (by decide)) (by rfl) (pa_cons (pv 0) pa_nil)))
        (pss_cons (ps_for (passes_of rfl) rfl (pi_range1 rfl (T.free 71) (pa_cons pe_int pa_nil)) (pg_name (i := 2) sc_law.nd rfl (Or.inl rfl)) (pss_cons (ps_if (pt_not (pt_val (pe_fn (takes_of rfl rfl rfl rfl) c__law_collected (hr.mono (by decide)) (by rfl) (pa_cons (pv 1) pa_nil)))) (pss_one (ps_ret pe_bl)) pss_nil)
        (pss_cons (ps_setLc (i := 3) (own := [("_law_k", 4)]) (g := gName 4) rfl sc_law.nd rfl rfl (sw_true rfl rfl rfl (by decide +kernel)) (pi_range1 rfl (T.free 71) (pa_cons (pe_callB (call_lenK (K := K) rfl) (by rfl) (T.free 69) PySem.boot_len (pa_cons (pe_dget (hu_of hr) (pv 1) pe_str (fun _ _ => rfl)) pa_nil)) pa_nil)) (blkOk_by (own := [("_law_k", 4)]) (N := ["_law_script", "_law_own", "_law_turn", "_law_there", "_law_k"]) (sc := defScope s_law) (by decide +kernel)) (fun _ _ _ _ _ => (pg_name (i := 4) sc_law.nd rfl (Or.inl rfl))) (fun _ _ _ _ _ => pts_one (PW.pt (pw_and (pt_cmpR (op_eqK (K := K) rfl hr.units) (pe_ix (ix_seqK (K := K) rfl) (pe_dget (hu_of hr) (pv 1) pe_str (fun _ _ => rfl)) (pv 4) (fun _ _ => rfl)) pe_int (nomark _)) (pw_and1 (pt_cmpR op_notN (pe_ix (ix_seqK (K := K) rfl) (pe_dget (hu_of hr) (pv 1) pe_str (fun _ _ => rfl)) (pv 4) (fun _ _ => rfl)) pe_non (nomark _)))))) (fun _ _ _ _ _ => (pv 4)))
        (pss_one (ps_if (pt_cmpR (op_neK (K := K) rfl hr.units) (pe_mt0 (K := K) rfl (takes_of rfl rfl rfl rfl) (pe_fldC (T.cls 112) (T.noat 120) (pe_dget (hu_of hr) (pv 1) pe_str (fun _ _ => rfl))) c_Space_used (hr.mono (by decide))) (pe_callB (call_sumK (K := K) rfl rfl) (by rfl) (T.free 75) (by decide +kernel) (pa_cons (pe_lc (own := [("_law_k", 4)]) (g := gName 4) rfl sc_law.nd (pi_listK (K := K) rfl (pv 3)) (blkOk_by (own := [("_law_k", 4)]) (N := ["_law_script", "_law_own", "_law_turn", "_law_there", "_law_k"]) (sc := defScope s_law) (by decide +kernel)) (fun _ _ _ _ _ => (pg_name (i := 4) sc_law.nd rfl (Or.inl rfl))) (fun _ _ _ _ _ => pts_nil) (fun _ _ _ _ _ => (pe_op op_gAdd pe_int (pe_callB (call_lenK (K := K) rfl) (by rfl) (T.free 69) PySem.boot_len (pa_cons (pe_ix (ix_seqK (K := K) rfl) (pe_dget (hu_of hr) (pv 1) pe_str (fun _ _ => rfl)) (pv 4) (fun _ _ => rfl)) pa_nil))))) pa_nil)) (nomark _)) (pss_one (ps_ret pe_bl)) pss_nil)))))
        (pss_one (ps_ret (pe_cmpR (op_eqK (K := K) rfl hr.units) (pe_mt0 (K := K) rfl (takes_of rfl rfl rfl rfl) (pe_fldC (T.cls 112) (T.noat 120) (pe_dget (hu_of hr) (pv 1) pe_str (fun _ _ => rfl))) c_Space_used (hr.mono (by decide))) pe_int (nomark _)))))), ?rd⟩)
  case len => first | exact len_law h | (repeat (first | (obtain ⟨rfl, _⟩ := h; rfl; done) | obtain ⟨_, h⟩ := h))
  case rd =>
    obtain ⟨a, ns, rfl, hS, hl, q⟩ := h
    have sz : 1000000 ≤ sizeLine := by rw [sizeLine_eq]; omega
    walk_at "w3"
    refine ⟨a, ns, rfl, hS, by omega, fun o A R w S U C rs pl ag sl hs H1 J an et ew es hs1 s1 => ?_⟩
    walk_at "w3"
    refine forW_range (lo := 0) (fun i σ H' => ∃ S U C pl ag o2 o3, σ = [some (.ref a), some (.ref o), o2, o3, none] ∧ All12 K H' o A R w (kd6 (.ref A.a) (.ref R.r) (.ref w.pa) (.ref w.aa) (.ref w.sa) (.ref w.ha)) S U C rs pl ag sl hs ∧ ag.length ≤ 10 ∧ U.ts = [] ∧ U.ws = [] ∧ U.ss = [] ∧ (1 ≤ i → Gr12 pl ag) ∧ (2 ≤ i → S.t S.fl = S.b S.fl)) ⟨S, U, C, pl, ag, _, _, rfl, J, an, et, ew, es, (fun h => absurd h (by omega)), fun h => absurd h (by omega)⟩ ?_ ?_
    · rintro i σ H2 hi ⟨S, U, C, pl, ag, o2, o3, rfl, J, an, et, ew, es, g1, g2⟩
      have T : Tab12 S U C := ⟨fun t m => by (rw [et] at m; cases m), by rw [et]; show 0 < _; omega, fun p m => by (rw [et] at m; cases m), by rw [ew]; show 0 < _; omega, by rw [es]; show 0 < _; omega, fun p n m => by (rw [ew] at m; cases m)⟩
      rw [Int.zero_add]
      walk_at "w3"
      refine ⟨o, A, R, w, _, S, U, C, rs, pl, ag, sl, hs, rfl, J, T, fun qs S1 O rs' bs' H3 J3 G W k3 => ?_⟩
      have n3 : (nag ag O).length = ag.length := nag_len
      have e3 : (ro12 S qs U rs' bs').ts = [] ∧ (ro12 S qs U rs' bs').ws = [] ∧ (ro12 S qs U rs' bs').ss = [] := by
        refine ⟨?_, ?_, ?_⟩
        · show U.ts.map _ = []
          rw [et]
          rfl
        · show U.ws.map _ = []
          rw [ew]
          rfl
        · show U.ss ++ saidG _ U.ws = []
          rw [es, ew]
          rfl
      walk_at "w3"
      refine ⟨_, J3.J.L.get J3.J.L.k3, r_lenL J3.J.L.ga ?_⟩
      rw [List.length_map, n3]
      walk_at "w3"
      rw [Int.toNat_natCast]
      have l1 := J3.L.l1
      have l2 := J3.L.l2
      have l3 := J3.L.l3
      refine ⟨by omega, by omega, fun D nD => lc_range (fun i H' => H' = upd H3 D (.lst ((thrO (nag ag O) (npl S qs pl ag O) i).map V.int))) rfl (fun j Hx hj e => ?_) fun Hx e => ?_⟩
      · subst e
        have Jx := J3.J.same (same_new (o := .lst ((thrO (nag ag O) (npl S qs pl ag O) j).map V.int)) nD)
        have ea := List.getElem?_eq_getElem (l := nag ag O) (i := j) (by omega)
        have ep := List.getElem?_eq_getElem (l := npl S qs pl ag O) (i := j) (by omega)
        rw [thrO_succ, getD_of ea, getD_of ep]
        have acc : ((thrO (nag ag O) (npl S qs pl ag O) j).map V.int).length < sizeLine := by
          unfold thrO
          rw [List.length_map, List.length_map]
          have := List.length_filter_le (fun k => decide ((nag ag O).getD k 0 = 1) && ((npl S qs pl ag O).getD k none).isSome) (List.range j)
          rw [List.length_range] at this
          omega
        walk_at "w3"
        simp only [Int.zero_add]
        refine ⟨_, Jx.L.get Jx.L.k3, r_ixL Jx.L.ga (by rw [List.getElem?_map, ea]; rfl) ?_⟩
        walk_at "w3"
        by_cases c : (nag ag O)[j]'(by omega) = 1
        · rw [if_pos (by omega)]
          refine ⟨_, Jx.L.get Jx.L.k2, r_ixL Jx.L.pp (by rw [List.getElem?_map, ep]; rfl) ?_⟩
          cases e : (npl S qs pl ag O)[j]'(by omega) with
          | none =>
            rw [show plV none = V.non from rfl]
            walk_at "w3"
            rw [if_neg (by rintro ⟨-, z⟩; cases z), List.append_nil]
          | some p =>
            rw [show plV (some p) = V.int (p : Int) from rfl]
            walk_at "w3"
            rw [if_pos (show ¬ V.int (p : Int) = V.non from fun z => by cases z), if_pos (⟨c, rfl⟩ : (nag ag O)[j]'(by omega) = 1 ∧ (some p).isSome = true)]
            refine ⟨_, upd_same, acc, ?_⟩
            rw [upd_upd, List.map_append]
            rfl
        · rw [if_neg (by omega), if_neg (fun z => c z.1), List.append_nil]
      subst e
      have s4 := same_new (o := .lst ((thrO (nag ag O) (npl S qs pl ag O) ag.length).map V.int)) nD
      have J4 := J3.same s4
      have hD : upd H3 D (.lst ((thrO (nag ag O) (npl S qs pl ag O) ag.length).map V.int)) D = some (.lst ((thrO (nag ag O) (npl S qs pl ag O) ag.length).map V.int)) := upd_same
      generalize upd H3 D (.lst ((thrO (nag ag O) (npl S qs pl ag O) ag.length).map V.int)) = H4 at s4 J4 hD ⊢
      refine ⟨_, J4.J.L.get J4.J.L.k0, _, fldIs J4.J.I.ar.ob, recv (J4.J.I.ar.half (flS S1).fl), _, _, _, _, _, rfl, J4.J.I.ar.half (flS S1).fl, ?_⟩
      have thl : (thrO (nag ag O) (npl S qs pl ag O) ag.length).length ≤ 10 := by
        unfold thrO
        rw [List.length_map]
        have := List.length_filter_le (fun k => decide ((nag ag O).getD k 0 = 1) && ((npl S qs pl ag O).getD k none).isSome) (List.range ag.length)
        rw [List.length_range] at this
        omega
      refine ⟨_, rfl, ⟨_, .of hD⟩, fun D2 nD2 => lc_mapL (xs := (thrO (nag ag O) (npl S qs pl ag O) ag.length).map V.int) (ys := ((thrO (nag ag O) (npl S qs pl ag O) ag.length).map fun k => 1 + ((sl.getD k.toNat []).length : Int)).map V.int) (fun _ => rfl) (fun acc => .of ((upd_ne (ne_of_none hD nD2)).trans hD)) (by rw [List.length_map]; omega) (by rw [List.length_map, List.length_map, List.length_map]) (fun j x y hx hy acc Q2 q2 => ?_) ?_⟩
      · obtain ⟨k, hk, rfl⟩ := ints_atY hx
        obtain ⟨k', rfl, hk'⟩ := thrO_in (List.mem_of_getElem? hk)
        have Jx := J4.J.same (same_new (o := .lst acc) nD2)
        rw [List.getElem?_map, List.getElem?_map, hk] at hy
        cases hy
        have er := List.getElem?_eq_getElem (l := rs) (i := k') (by omega)
        obtain ⟨ts, vs, es', hr, hv⟩ := Jx.L.rw_ k' _ er
        walk_at "w3"
        refine ⟨_, Jx.L.get Jx.L.k4, r_ixL Jx.L.ss (by rw [List.getElem?_map, er]; rfl) ?_⟩
        refine r_lenL hr ?_
        walk_at "w3"
        have q2 : Q2 (V.int (1 + ((sl.getD (k' : Int).toNat []).length : Int))) (upd H4 D2 (.lst acc)) := q2
        rw [Int.toNat_natCast, getD_of es'] at q2
        rw [hv.len]
        exact q2
      refine r_sumL upd_same ?_
      have s5 := same_new (o := .lst (((thrO (nag ag O) (npl S qs pl ag O) ag.length).map fun k => 1 + ((sl.getD k.toNat []).length : Int)).map V.int)) nD2
      have J5 := J4.same s5
      have eu : ((flS S1).t (flS S1).fl : Int) - ((flS S1).b (flS S1).fl : Int) = ((thrO (nag ag O) (npl S qs pl ag O) ag.length).map fun k => 1 + ((sl.getD k.toNat []).length : Int)).sum := by
        have h1 := used_young J.L.y G
        have h2 := W.used J.L G
        have h3 := sum_perm ((W.there J.L G).map fun k => 1 + ((sl.getD k.toNat []).length : Int))
        have h4 := J3.L.y.lb.1
        rw [← h2] at h3
        refine Eq.trans ?_ h3.symm
        omega
      rw [eu]
      walk_at "w3"
      refine ⟨flS S1, ro12 S qs U rs' bs', newC S C qs, npl S qs pl ag O, nag ag O, _, _, rfl, J5, by omega, e3.1, e3.2.1, e3.2.2, (fun _ => W.gr J.L G), fun h => ?_⟩
      have h2 := W.used J.L G
      rw [W.st_nil (S := S) (C := C) (bs := bs') (rs := rs) (sl := sl) (g1 h)] at h2
      have h2 : ((stY S qs : Nat) : Int) = 0 := h2
      have h1 := used_young J.L.y G
      have h4 := J3.L.y.lb.1
      omega
    rintro σ H2 ⟨S, U, C, pl, ag, o2, o3, rfl, J, an, et, ew, es, g1, g2⟩
    walk_at "w3"
    have e := g2 (by decide)
    refine ⟨_, J.J.L.get J.J.L.k0, _, fldIs J.J.I.ar.ob, recv (J.J.I.ar.half S.fl), _, _, _, _, _, rfl, J.J.I.ar.half S.fl, ?_⟩
    rw [e, Int.sub_self]
    walk_at "w3"
    exact q H2
end

theorem facts {w : World} {K : PySem.W.Frag} {h : Heap} {mg : Str → Option Value} {f : Addr} (X : K.In h) (G : h.Ns mainGlobals mg) (hfa : mg ("law" : Str) = some (.ref f)) (c : He.SaysD fa fn K) (ce : exOk exL K = true) :
    ∃ fd : FuncData, (∀ (s : Shared) (v : Value), BindsTo s fd ⟨[v], []⟩ [("_law_script", v)]) ∧ ∀ base : Heap, K.In base → base.Ns mainGlobals mg → FnOk (PySem.Challenge.rw_cellkeep_k12_whole_young).prog w K mg base CX0 13 f fd ["_law_script"] (sp_law K) := by
  have T : Tx K mg := ⟨⟨h, X, G⟩, c, ce⟩
  have e := hfa.symm.trans (T.glo 56)
  cases e
  have F : ∀ base : Heap, Fn (PySem.Challenge.rw_cellkeep_k12_whole_young).prog w K mg base 13 "law" ["_law_script"] (sp_law K) := fun base => f_law T
  exact ⟨_, fun s v => (F h).bd s [v] rfl, fun base _ _ => quiet (F base).ok fun _ _ _ _ z => z⟩

end Pr
open PySem PySem.W PySem.Calls PyProof.Rows
theorem PySem.Challenge.cw_cellkeep_k12_whole_young_holds : PySem.Challenge.rw_cellkeep_k12_whole_young.Holds := by
  w_on; o_law
  refine HandSHeadRun.head_any (r := OpenLaw.row PySem.Challenge.rw_cellkeep_k12_whole_young) (q := view (OpenLaw.row PySem.Challenge.rw_cellkeep_k12_whole_young).prog [81]) (H := Pr.hk) (ob := Pr.ob) (M := 16000) (loose := Pr.loose) (d := HandSHeadRun.topDef (OpenLaw.row PySem.Challenge.rw_cellkeep_k12_whole_young).prog 81) (kwd := []) Pr.ob_eq
    (by kernel_rfl) (fun s => by kernel_rfl) Pr.run (by kernel_rfl) (by kernel_rfl) (by kernel_rfl) (by rfl) (by first | assumption | decide +kernel) (by decide +kernel) ⟨rfl, rfl, rfl, rfl, rfl, by decide +kernel⟩ ?hw ?hc
  case hw => w_witness2
  case hc =>
    refine L2.walk_ofE (l := PySem.Challenge.rw_cellkeep_k12_whole_young) (n := 63) (k := 13) (x := "_law_script") (CX := L2.CX0) rfl (by decide) (by kernel_rfl) ⟨rfl, by decide, by decide⟩ ?F (fun _ _ _ _ z => z)
    case F =>
      intro w mg fa h Y G hmg0
      obtain ⟨K, KX, c, ce⟩ := Y
      have hmg : mg ("law" : PySem.Str) = some (.ref fa) := by
        have e : (HandSHeadRun.topDef (OpenLaw.row PySem.Challenge.rw_cellkeep_k12_whole_young).prog 81).name = ("law" : PySem.Str) := by kernel_rfl
        rw [← e]
        exact hmg0
      obtain ⟨fd, hb, hF⟩ := Pr.facts (w := w) KX G hmg c ce
      exact ⟨K, fd, Pr.sp_law K, KX, hb, fun H a ns hl _ hS => ⟨a, ns, rfl, hS, hl, fun _ => rfl⟩, hF⟩
#print axioms PySem.Challenge.cw_cellkeep_k12_whole_young_holds

