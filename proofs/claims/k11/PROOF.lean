import PyProof.Rows.All
import Wide.All
import OpenK.AllK
import Wide.FinOn
import HandS.ForMost
import HandS.ForExc
import HandS.Codes
import HandS.WideBits
import HandS.Flow
import HandS.IsInst
import PyProof.ReprRoads
import PyProof.FitsInt
import PyProof.StrLawsRepr
import HandS.More
import HandS.Dict
import HandS.Text
import HandS.TupAny
import HandS.Wide
import HandS.DictTup
import HandS.EndBits
import HandS.Zip
import HandS.Iter
import PyProof.RulesMatch
import HandS.Style
import HandS.TupLe
import PyProof.Draws
import PyProof.ZipIter
import HandS.Zip0
import HandS.Ends
import PySem.Challenge.RW_cycleready_k11_words_and_steps
set_option Elab.async false
set_option linter.all false
set_option maxRecDepth 100000
set_option maxHeartbeats 800000
/-! Z: contracts of defs that are called where no repr is under way (the guards are told), and the rules that use them. -/
namespace Z
open PySem PySem.Spec PyProof.Rows L2

/-- a call: the arguments, then the promise -/
def tCl (sp : Sp) (E : XK) (t : TA) : TE := fun σ H Q => t σ H fun vs H1 => sp vs H1 Q E

structure FnG (P : Program) (w : World) (K : PySem.W.Frag) (mg : Str → Option Value) (base : Heap) (CX : CXT)
    (k : Nat) (f : Addr) (fd : FuncData) (ps : List Str) (sp : Sp) : Prop where
  len : ∀ vs H Q E, sp vs H Q E → vs.length = ps.length
  run : ∀ (A : Around) (outer : List Env) (s : Shared) (H : Hp) (args : Args) (us : List Value) (vs : List V) (Q : VK) (E : XK),
    A.guards = some [] → Room k A → Env0 P w K mg base A outer s H → BindsTo s fd args (ps.zip us) → Vals vs us →
    sp vs H Q E → codeAny (model P w) A (.call (.ref f) args) (CR CX outer P w H s Q E) s

theorem FnG.lift {P : Program} {w : World} {K : PySem.W.Frag} {mg : Str → Option Value} {base : Heap} {CX : CXT}
    {j k : Nat} {f : Addr} {fd : FuncData} {ps : List Str} {sp : Sp} (F : FnG P w K mg base CX j f fd ps sp) (h : j ≤ k) :
    FnG P w K mg base CX k f fd ps sp :=
  ⟨F.len, fun A outer s H args us vs Q E hg hr => F.run A outer s H args us vs Q E hg (hr.mono h)⟩

theorem FnG.weaker {P : Program} {w : World} {K : PySem.W.Frag} {mg : Str → Option Value} {base : Heap} {CX : CXT}
    {k : Nat} {f : Addr} {fd : FuncData} {ps : List Str} {sp sp' : Sp} (F : FnG P w K mg base CX k f fd ps sp)
    (h : ∀ vs H Q E, sp' vs H Q E → sp vs H Q E) : FnG P w K mg base CX k f fd ps sp' :=
  ⟨fun vs H Q E q => F.len _ _ _ _ (h _ _ _ _ q),
   fun A outer s H args us vs Q E hg hr e0 hb hv q => F.run A outer s H args us vs Q E hg hr e0 hb hv (h _ _ _ _ q)⟩

section
variable {X : Cx} {CX : CXT} {k : Nat} {f C : Addr} {fd : FuncData} {ps : List Str} {sp : Sp} {E : XK}
  {x m : Str} {p pos apos : Pos} {e o : Expr} {es : List Expr} {ta : TE} {t : TA}

theorem runG {pins : List (Addr × Obj)} {σ : L2.St} {H : Hp} {s : Shared} {Q : VK} {us : List Value} {vs : List V}
    (hG : X.A.guards = some []) (F : FnG X.prog X.w X.K X.mg X.base CX k f fd ps sp) (hr : Room k X.A)
    (hb : Binds X.K fd ps []) (hx : Passes CX X E) (I : Inv X pins σ H s) (r : Vals vs us) (h : sp vs H Q E) :
    wpAny (model X.prog X.w) X.A (call (.ref f) us) (EP X pins σ Q) X.xe s := by
  have hl : (us ++ []).length = ps.length := by
    rw [List.append_nil, ← r.length]
    exact F.len _ _ _ _ h
  have hb' := hb s us I.kIn hl
  rw [List.append_nil] at hb'
  have c := F.run X.A X.stack s H ⟨us, []⟩ us vs Q E hG hr I.env0 hb' r h
  refine wpAny_call (codeAny_mono c ?_)
  rintro (er | fl) s' hq
  · exact hx pins σ H s er s' I hq
  · cases fl with
    | ret u => exact I.after hq
    | next | brk | cont => exact hq.elim

theorem pe_callG (hG : X.A.guards = some []) (F : FnG X.prog X.w X.K X.mg X.base CX k f fd ps sp) (hr : Room k X.A)
    (hm : X.mg x = some (.ref f)) (hk : PySem.W.keepIn X.K (.ref f) = true) (hb : Binds X.K fd ps []) (hx : Passes CX X E)
    (ha : PA X (e :: es) t) (hg : Gl X x := by rfl) (hdb : (x == ("__debug__" : Str)) = false := by decide)
    (he : starEach (e :: es) X.env = (false, eval e X.env) :: starEach es X.env := by rfl)
    (hpl : (backTo pos (starEach es X.env)).any (·.1) = false := by rfl) :
    PE X (.Call (.Name x p) (e :: es) [] pos) (tCl sp E t) :=
  ⟨fun pins s σ H Q I h => wpAny_Call_Name_kw (ld_glob I hg hm (PySem.W.callWith_K (h₀ := X.base) I.ok.mod.kin hk
    (thn (ha.run pos pins s σ H _ I h) fun us s1 ⟨vs, H1, I1, r, q⟩ =>
      ⟨I1.kIn, runG hG F hr hb hx I1 r q⟩) he hpl) hdb)⟩

theorem pe_callG0 (hG : X.A.guards = some []) (F : FnG X.prog X.w X.K X.mg X.base CX k f fd ps sp) (hr : Room k X.A)
    (hm : X.mg x = some (.ref f)) (hk : PySem.W.keepIn X.K (.ref f) = true) (hb : Binds X.K fd ps []) (hx : Passes CX X E)
    (hg : Gl X x := by rfl) (hdb : (x == ("__debug__" : Str)) = false := by decide) :
    PE X (.Call (.Name x p) [] [] pos) (tCl sp E tNil) :=
  ⟨fun pins s σ H Q I h => wpAny_Call_Name_kw (ld_glob I hg hm
    (PySem.W.callWith_K0 I.kIn hk (runG (us := []) hG F hr hb hx I .nil h)) hdb)⟩

end

/-- a def's contract by its body, where the guards are told -/
theorem fn_ofG {CX : CXT} {P : Program} {w : World} {K : PySem.W.Frag} {mg : Str → Option Value} {base : Heap} {k : Nat} {f : Addr}
    {name qual : Str} {params : Arguments} {body : List Stmt} {scope : Scope} {dV kV doc pm cdv ct oc : Value} {an od : Option Addr}
    {osl : Array (Option Value)} {N ps : List Str} {sp : Sp}
    (lk : K.lookup f = some ⟨oc, od, .func (PySem.W.fnOf name qual params body scope dV kV doc pm an cdv ct), osl⟩)
    (hcd : PySem.W.codeIn K cdv qual = true) (S : FnScope N ps scope) (len : ∀ vs H Q E, sp vs H Q E → vs.length = ps.length)
    (hbody : ∀ (A : Around) (outer : List Env) (s : Shared) (H : Hp) (vs : List V) (Q : VK) (E : XK),
      (A.deeper (envOfC qual scope s.heap.objs.size f cdv)).guards = some [] →
      Room k (A.deeper (envOfC qual scope s.heap.objs.size f cdv)) → sp vs H Q E →
      ∃ t, PSs (cxOf CX P w K mg base N qual scope f cdv A outer s H E) body t ∧ t { nx := fun _ H' => Q .non H', rt := Q } (start N vs) H) :
    FnG P w K mg base CX (k + 1) f (PySem.W.fnOf name qual params body scope dV kV doc pm an cdv ct) ps sp := by
  constructor
  · exact len
  intro A outer s H args us vs Q E hg hr e0 hb r hsp
  have kept : ∀ b o, base.get? b = some o → s.heap.get? b = some o := fun b o e => (e0.bs b o e).1
  have KX := e0.mod.kin.keeps kept
  have hkind : ∀ y ∈ ps.zip us, scope.names.lookup y.1 = some .local ∨
      (scope.names.lookup y.1 = some .cell ∧ ((cellsFrom (s.heap.objs.size + 1) scope.names []).lookup y.1).isSome = true) := by
    intro y hy
    have hm : y.1 ∈ ps := (List.of_mem_zip (show (y.1, y.2) ∈ ps.zip us from hy)).1
    exact (S.par y.1 hm).imp id fun q => ⟨q, PySem.W.cellsFrom_some _ _ _ (.inl q)⟩
  apply codeAny_call_function hr.depth (KX _ _ lk) rfl S.co S.gen rfl (PySem.W.codeRec_of KX hcd) (hb _ _ _ _ ?_)
  apply wpAny_newFunctionEnv_cells S.kind hkind
  intro env he s1 x
  subst he
  refine ⟨(e0.mod.nolimit.keeps kept).keeps x.toInCall.keep, codeAny_func ?_⟩
  obtain ⟨t, ht, hq⟩ := hbody A outer s H vs Q E hg (hr.deeper _) hsp
  have I := inv_start (CX := CX) (E := E) (qual := qual) (f := f) (cd := cdv) S hr.hd e0 (len _ _ _ _ hsp) r x
  refine wpAny_mono (ht.run [] s1 (start N vs) H _ I hq) ?_ (fun _ _ z => z)
  intro fl s' hs
  match fl, hs with
  | .ret u, ⟨v, σ', H', J, rv, q⟩ => exact ⟨v, H', J.os, J.bare, J.base, J.hok, rv, q⟩
  | .next, ⟨σ', H', J, q⟩ => exact ⟨.non, H', J.os, J.bare, J.base, J.hok, rfl, q⟩
  | .brk, ⟨_, _, _, q⟩ => exact q.elim
  | .cont, ⟨_, _, _, q⟩ => exact q.elim

theorem okG {P : Program} {w : World} {K : PySem.W.Frag} {mg : Str → Option Value} {base : Heap}
    {x qual : Str} {st : Stmt} {f : Addr} {fd : FuncData} {N ps : List Str} {k : Nat} {sp : Sp}
    (F : Fun K x qual st f fd) (S : FnScope N ps (defScope st)) (len : ∀ vs H Q E, sp vs H Q E → vs.length = ps.length)
    (hbody : ∀ (cdv : Value) (A : Around) (outer : List Env) (s : Shared) (H : Hp) (vs : List V) (Q : VK) (E : XK),
      (A.deeper (envOfC qual (defScope st) s.heap.objs.size f cdv)).guards = some [] →
      Room k (A.deeper (envOfC qual (defScope st) s.heap.objs.size f cdv)) → sp vs H Q E →
      ∃ t, PSs (cxOf CX0 P w K mg base N qual (defScope st) f cdv A outer s H E).nox (defBody st) t ∧
        t { nx := fun _ H' => Q .non H', rt := Q } (start N vs) H) :
    FnG P w K mg base CX0 (k + 1) f fd ps sp := by
  obtain ⟨oc, od, kV, doc, pm, an, cdv, ct, osl, rfl, lk, hcd⟩ := F.ex
  refine fn_ofG lk hcd S len fun A outer s H vs Q E hg hr hsp => ?_
  obtain ⟨t, h, q⟩ := hbody cdv A outer s H vs Q E hg hr hsp
  exact ⟨t, h.nox, q⟩
end Z

/-! Z1: an object hidden while code runs that does not touch it. -/
namespace Z
open PySem PySem.Spec PyProof.Rows L2

theorem small_lt {n : Nat} (h : n ≤ 1000000) : n < sizeLine := Nat.lt_of_le_of_lt h (by decide)
theorem small_le {n : Nat} (h : n ≤ 1000000) : n ≤ sizeLine := Nat.le_of_lt (small_lt h)

def del (H : Hp) (D : Addr) : Hp := fun b => if b = D then none else H b
theorem del_same {H : Hp} {D : Addr} : del H D D = none := if_pos rfl
theorem del_ne {H : Hp} {D b : Addr} (h : b ≠ D) : del H D b = H b := if_neg h
theorem del_upd {H : Hp} {D : Addr} {o : HO} (h : H D = none) : del (upd H D o) D = H := by
  funext b
  by_cases e : b = D
  · rw [e, del_same, h]
  · rw [del_ne e, upd_ne e]
theorem upd_del {H : Hp} {D : Addr} {o : HO} (h : H D = some o) : upd (del H D) D o = H := by
  funext b
  by_cases e : b = D
  · rw [e, upd_same, h]
  · rw [upd_ne e, del_ne e]
theorem del_of {H : Hp} {D b : Addr} {o : HO} (h : del H D b = some o) : b ≠ D ∧ H b = some o := by
  by_cases e : b = D
  · rw [e, del_same] at h; cases h
  · exact ⟨e, by rw [del_ne e] at h; exact h⟩

/-- what may be hidden: it leans on its own object alone, and nothing else leans on it -/
def Hid : HO → Prop
  | .lst _ => True
  | .dK _ => True
  | _ => False

section
variable {X : Cx} {pins : List (Addr × Obj)} {σ : L2.St} {H : Hp} {s : Shared} {D : Addr} {o : HO}

theorem obj_at {P : Program} {w : World} {H H' : Hp} {h h' : Heap} {a : Addr} {o : HO} (hd : Hid o) (x : ObjOk P w H h a o)
    (e : ∀ u, h.get? a = some u → h'.get? a = some u) : ObjOk P w H' h' a o := by
  cases o with
  | lst xs => obtain ⟨z, its, n, r, q⟩ := x; exact ⟨z, its, n, r, e _ q⟩
  | dK kvs => obtain ⟨z, y, vs, r, ob, es, ep, q, c⟩ := x; exact ⟨z, y, vs, r, ob, es, ep, e _ q, c⟩
  | _ => exact hd.elim
theorem obj_no_cell {P : Program} {w : World} {H : Hp} {h : Heap} {a : Addr} {o : HO} (x : ObjOk P w H h a o) (hd : Hid o) : ∃ u, h.get? a = some u ∧ ∀ v, u.data ≠ .cell v := by
  cases o with
  | lst xs => obtain ⟨z, its, n, r, q⟩ := x; exact ⟨_, q, fun v => by intro c; cases c⟩
  | dK kvs => obtain ⟨z, y, vs, r, ob, es, ep, q, _, c, _⟩ := x; exact ⟨_, q, fun v => by rw [c]; intro c; cases c⟩
  | _ => exact hd.elim

theorem stay_del {P : Program} {w : World} {h : Heap} (ok : HOk P w H h) (e : H D = some o) (hd : Hid o) : HOk P w (del H D) h := by
  intro a u q
  obtain ⟨ne, q⟩ := del_of q
  refine (ok a u q).stay (fun _ _ _ z => z) (fun b z => ?_) (fun b xs z => ?_)
  · rw [del_ne]
    · exact z
    · rintro rfl; rw [z] at e; cases e; exact hd
  · rw [del_ne]
    · exact z
    · rintro rfl; rw [z] at e; cases e; exact hd

theorem hide (I : Inv X pins σ H s) (e : H D = some o) (hd : Hid o) :
    ∃ ob, Inv X ((D, ob) :: pins) σ (del H D) s ∧
      ∀ σ' H' s', Inv X ((D, ob) :: pins) σ' H' s' → H' D = none ∧ Inv X pins σ' (upd H' D o) s' := by
  have notin : D ∉ X.fs := fun z => by
    obtain ⟨_, u, hu, _⟩ := I.ok.funs.mem z
    have := I.base.free D u hu (I.ok.frf D z) fun y => I.ok.exfs D y z
    rw [e] at this; cases this
  have neL : D ≠ X.env.locals := fun z => by have := I.free; rw [← z, e] at this; cases this
  have neC : ∀ x c, X.env.cells.lookup x = some c → c ≠ D := fun x c h z => by have := I.freeC x c h; rw [z, e] at this; cases this
  have neP : ∀ p ∈ X.pn ++ pins, p.1 ≠ D := fun p hp z => by have := (I.pin p hp).2.1; rw [z, e] at this; cases this
  obtain ⟨ob, hob, hc⟩ := obj_no_cell (I.hok D o e) hd
  have dn : ∀ {b}, H b = none → del H D b = none := fun {b} h => by
    by_cases q : b = D
    · rw [q, del_same]
    · rw [del_ne q]; exact h
  have db : ∀ {b u}, H b = some u → (match u with | .tup _ => True | .frz _ _ => True | .tbl _ => True | _ => False) → del H D b = some u := fun {b u} h k => by
    rw [del_ne]
    · exact h
    · rintro rfl; rw [h] at e; cases e; cases o <;> first | exact hd.elim | exact k.elim
  refine ⟨ob, ⟨I.ok, I.os, I.bare, ⟨I.base.keep, I.base.slot, fun b u q n x => dn (I.base.free b u q n x), I.base.there, fun b xs q => db (I.base.tups b xs q) trivial,
      fun b u v q => db (I.base.frzs b u v q) trivial, fun b ps q => ?_⟩, I.loc, I.cell, dn I.free, fun x c h => dn (I.freeC x c h), fun p hp => ?_, stay_del I.hok e hd, I.len⟩, fun σ' H' s' J => ?_⟩
  · obtain ⟨m, z⟩ := I.base.tbls b ps q
    exact ⟨m, db z trivial⟩
  · rcases List.mem_append.mp hp with hp | hp
    · obtain ⟨a, b, c⟩ := I.pin p (List.mem_append_left _ hp)
      exact ⟨a, dn b, c⟩
    · rcases List.mem_cons.mp hp with rfl | hp
      · exact ⟨hob, del_same, neL, notin, hc⟩
      · obtain ⟨a, b, c⟩ := I.pin p (List.mem_append_right _ hp)
        exact ⟨a, dn b, c⟩
  · obtain ⟨hD, hn, _⟩ := J.pin (D, ob) (List.mem_append_right _ List.mem_cons_self)
    have hD : s'.heap.get? D = some ob := hD
    have hn : H' D = none := hn
    have keepU : ∀ {b u}, H' b = some u → upd H' D o b = some u := fun {b u} h => by rw [upd_ne (ne_of_none h hn)]; exact h
    have un : ∀ {b}, b ≠ D → H' b = none → upd H' D o b = none := fun {b} h k => by rw [upd_ne h]; exact k
    refine ⟨hn, J.ok, J.os, J.bare, ⟨J.base.keep, J.base.slot, fun b u q n x => ?_, J.base.there, fun b xs q => keepU (J.base.tups b xs q), fun b u v q => keepU (J.base.frzs b u v q), fun b ps q => ?_⟩,
      J.loc, J.cell, un (Ne.symm neL) J.free, fun x c h => un (neC x c h) (J.freeC x c h), fun p hp => ?_, fun a u q => ?_, J.len⟩
    · refine un ?_ (J.base.free b u q n x)
      rintro rfl
      have := I.base.free b u q n x
      rw [e] at this; cases this
    · obtain ⟨m, z⟩ := J.base.tbls b ps q
      exact ⟨m, keepU z⟩
    · have hp' : p ∈ X.pn ++ (D, ob) :: pins := by
        rcases List.mem_append.mp hp with z | z
        · exact List.mem_append_left _ z
        · exact List.mem_append_right _ (List.mem_cons_of_mem _ z)
      obtain ⟨a, b, c⟩ := J.pin p hp'
      exact ⟨a, un (neP p hp) b, c⟩
    · by_cases h : a = D
      · subst h
        rw [upd_same] at q; cases q
        refine obj_at hd (I.hok a o e) fun v hv => ?_
        rw [hob] at hv; cases hv; exact hD
      · rw [upd_ne h] at q
        exact (J.hok a u q).stay (fun _ _ _ z => z) (fun b z => keepU z) fun b xs z => keepU z

/-- the reading while a list (or dict) is hidden -/
def tFr (te : TE) : TE := fun σ H Q => ∃ D o, H D = some o ∧ Hid o ∧ te σ (del H D) fun v H' => H' D = none → Q v (upd H' D o)
def tFrT (te : TT) : TT := fun σ H Q => ∃ D o, H D = some o ∧ Hid o ∧ te σ (del H D) fun v H' => H' D = none → Q v (upd H' D o)
theorem pe_fr {e : Expr} {te : TE} (h : PE X e te) : PE X e (tFr te) := by
  constructor
  intro pins s σ H Q I q
  obtain ⟨D, o, e1, hd, q⟩ := q
  obtain ⟨ob, J, back⟩ := hide I e1 hd
  refine thn (h.run _ s σ _ _ J q) ?_
  rintro u s' ⟨v, H', J', r, k⟩
  obtain ⟨n, I'⟩ := back _ _ _ J'
  exact ⟨v, _, I', r, k n⟩
theorem pt_fr {e : Expr} {te : TT} (h : PT X e te) : PT X e (tFrT te) := by
  constructor
  intro pins s σ H Q I q
  obtain ⟨D, o, e1, hd, q⟩ := q
  obtain ⟨ob, J, back⟩ := hide I e1 hd
  refine thn (h.run _ s σ _ _ J q) ?_
  rintro u s' ⟨H', J', k⟩
  obtain ⟨n, I'⟩ := back _ _ _ J'
  exact ⟨_, I', k n⟩
theorem PE.imp {e : Expr} {t t' : TE} (h : PE X e t) (k : ∀ σ H Q, t' σ H Q → t σ H Q) : PE X e t' :=
  ⟨fun pins s σ H Q I q => h.run pins s σ H Q I (k _ _ _ q)⟩
theorem PS.imp {e : Stmt} {t t' : TS} (h : PS X e t) (k : ∀ D σ H, t' D σ H → t D σ H) : PS X e t' :=
  ⟨fun pins s σ H Q I q => h.run pins s σ H Q I (k _ _ _ q)⟩
theorem PSs.imp {e : List Stmt} {t t' : TS} (h : PSs X e t) (k : ∀ D σ H, t' D σ H → t D σ H) : PSs X e t' :=
  ⟨fun pins s σ H Q I q => h.run pins s σ H Q I (k _ _ _ q)⟩
end

/-! ### comprehensions: the list stands behind the turns -/
section
variable {te : TE} {tt : TT} {σ : L2.St} {H1 : Hp} {Q : VK} {j : Nat}
theorem wipe_one (σ : L2.St) (j : Nat) (x : Option V) : wipe ((wipe σ [j]).set j x) [j] = wipe σ [j] := by
  show ((σ.set j none).set j x).set j none = σ.set j none
  rw [List.set_set, List.set_set]
/-- one turn with x at the comprehension's name -/
def Turn (tt : TT) (te : TE) (σ : L2.St) (j : Nat) (x : V) (acc : List V) (G : Hp) (N : List V → Hp → Prop) : Prop :=
  ∀ R : Bool → Hp → Prop, (∀ b G3, (if b = true then ∀ R2 : VK, (∀ y G4, N (acc ++ [y]) G4 → R2 y G4) → te (σ.set j (some x)) G3 R2 else N acc G3) → R b G3) →
    tt (σ.set j (some x)) G R
theorem turn_yes {te : TE} {σ : L2.St} {j : Nat} {x : V} {acc : List V} {G : Hp} {N : List V → Hp → Prop}
    (h : ∀ R2 : VK, (∀ y G4, N (acc ++ [y]) G4 → R2 y G4) → te (σ.set j (some x)) G R2) : Turn tYes te σ j x acc G N := by
  intro R hR
  refine hR true G ?_
  rw [if_pos rfl]
  exact h
theorem turn_core {D : Addr} {G : Hp} {acc : List V} {x : V} {N : List V → Hp → Prop} {Nx : Hp → Prop} (hD : G D = none) (hl : acc.length < sizeLine)
    (h : Turn tt te σ j x acc G N) (k : ∀ acc' G', N acc' G' → acc'.length ≤ acc.length + 1 → G' D = none → Nx (upd G' D (.lst acc'))) :
    gName j x (wipe σ [j]) (upd G D (.lst acc)) fun σ2 H2 => wipe σ2 [j] = wipe σ [j] ∧ tFrT tt σ2 H2 fun b H3 =>
      if b = true then tFr te σ2 H3 fun y H4 => ∃ acc, H4 D = some (.lst acc) ∧ acc.length < sizeLine ∧ Nx (upd H4 D (.lst (acc ++ [y]))) else Nx H3 := by
  refine ⟨wipe_one _ _ _, D, _, upd_same, trivial, ?_⟩
  rw [del_upd hD]
  have e : (wipe σ [j]).set j (some x) = σ.set j (some x) := by
    show (σ.set j none).set j (some x) = _
    rw [List.set_set]
  rw [e]
  refine h _ ?_
  intro b G3 hb n3
  cases b with
  | false =>
    rw [if_neg Bool.false_ne_true] at hb ⊢
    exact k _ _ hb (Nat.le_succ _) n3
  | true =>
    rw [if_pos rfl] at hb ⊢
    refine ⟨D, _, upd_same, trivial, ?_⟩
    rw [del_upd n3]
    refine hb _ ?_
    intro y G4 hN n4
    refine ⟨acc, upd_same, hl, ?_⟩
    rw [upd_upd]
    exact k _ _ hN (by rw [List.length_append]; exact Nat.le_refl _) n4
theorem lcF_range {lo : Int} {n : Nat} (Pv : Nat → List V → Hp → Prop) (h0 : Pv 0 [] H1) (hn : n ≤ 1000000)
    (hs : ∀ i acc H, i < n → acc.length ≤ i → Pv i acc H → Turn tt te σ j (.int (lo + i)) acc H (Pv (i + 1)))
    (hd : ∀ acc H D, acc.length ≤ n → Pv n acc H → H D = none → Q (.ref D) (upd H D (.lst acc))) :
    ∀ D, H1 D = none → ∃ W : Nat → Nat → Hp → Prop, (∃ m, W 0 m (upd H1 D (.lst []))) ∧ ∀ i m H, W i m H →
      ((Itr lo n).stop i H ∧ Q (.ref D) H) ∨ ((Itr lo n).go i H ∧ ∃ Nx : Hp → Prop, (∀ H', Nx H' → ∃ m', m' < m ∧ W (i + 1) m' H') ∧
        ∀ x H', (Itr lo n).yld i H x H' → gName j x (wipe σ [j]) H' fun σ2 H2 => wipe σ2 [j] = wipe σ [j] ∧ tFrT tt σ2 H2 fun b H3 =>
          if b = true then tFr te σ2 H3 fun y H4 => ∃ acc, H4 D = some (.lst acc) ∧ acc.length < sizeLine ∧ Nx (upd H4 D (.lst (acc ++ [y]))) else Nx H3) := by
  intro D hD
  refine lc_range (fun i H => ∃ acc G, H = upd G D (.lst acc) ∧ G D = none ∧ acc.length ≤ i ∧ Pv i acc G) ⟨[], H1, rfl, hD, Nat.le_refl _, h0⟩ ?_ ?_
  · rintro i H hi ⟨acc, G, rfl, hG, hl, p⟩
    exact turn_core hG (small_lt (by omega)) (hs i acc G hi hl p) fun acc' G' p' hl' hD' => ⟨acc', G', rfl, hD', by omega, p'⟩
  · rintro H ⟨acc, G, rfl, hG, hl, p⟩
    exact hd acc G D hl p hG
theorem lcF_list {K : PySem.W.Frag} {a : Addr} {xs : List V} (Pv : Nat → List V → Hp → Prop) (h0 : Pv 0 [] H1) (hn : xs.length ≤ 1000000)
    (hl : ∀ i acc H, Pv i acc H → SqL K H a xs)
    (hs : ∀ i x acc H, xs[i]? = some x → acc.length ≤ i → Pv i acc H → Turn tt te σ j x acc H (Pv (i + 1)))
    (hd : ∀ acc H D, acc.length ≤ xs.length → Pv xs.length acc H → H D = none → Q (.ref D) (upd H D (.lst acc))) :
    ∀ D, H1 D = none → ∃ W : Nat → Nat → Hp → Prop, (∃ m, W 0 m (upd H1 D (.lst []))) ∧ ∀ i m H, W i m H →
      ((Itl K a).stop i H ∧ Q (.ref D) H) ∨ ((Itl K a).go i H ∧ ∃ Nx : Hp → Prop, (∀ H', Nx H' → ∃ m', m' < m ∧ W (i + 1) m' H') ∧
        ∀ x H', (Itl K a).yld i H x H' → gName j x (wipe σ [j]) H' fun σ2 H2 => wipe σ2 [j] = wipe σ [j] ∧ tFrT tt σ2 H2 fun b H3 =>
          if b = true then tFr te σ2 H3 fun y H4 => ∃ acc, H4 D = some (.lst acc) ∧ acc.length < sizeLine ∧ Nx (upd H4 D (.lst (acc ++ [y]))) else Nx H3) := by
  intro D hD
  refine lc_list (K := K) (a := a) (xs := xs) (fun i H => ∃ acc G, H = upd G D (.lst acc) ∧ G D = none ∧ acc.length ≤ i ∧ Pv i acc G) ⟨[], H1, rfl, hD, Nat.le_refl _, h0⟩ ?_ ?_ ?_
  · rintro i H hi ⟨acc, G, rfl, hG, hl', p⟩
    exact Same.seq (fun b o e => by rw [upd_ne (ne_of_none e hG)]; exact e) (hl i acc G p)
  · rintro i x H hi ⟨acc, G, rfl, hG, hl', p⟩
    have hlt : i < xs.length := (List.getElem?_eq_some_iff.mp hi).1
    exact turn_core hG (small_lt (by omega)) (hs i x acc G hi hl' p) fun acc' G' p' hl' hD' => ⟨acc', G', rfl, hD', by omega, p'⟩
  · rintro H ⟨acc, G, rfl, hG, hl, p⟩
    exact hd acc G D hl p hG
theorem lcF_tup {K : PySem.W.Frag} {a : Addr} {xs : List V} (Pv : Nat → List V → Hp → Prop) (h0 : Pv 0 [] H1) (hn : xs.length ≤ 1000000)
    (hl : ∀ i acc H, Pv i acc H → SqT K H a xs)
    (hs : ∀ i x acc H, xs[i]? = some x → acc.length ≤ i → Pv i acc H → Turn tt te σ j x acc H (Pv (i + 1)))
    (hd : ∀ acc H D, acc.length ≤ xs.length → Pv xs.length acc H → H D = none → Q (.ref D) (upd H D (.lst acc))) :
    ∀ D, H1 D = none → ∃ W : Nat → Nat → Hp → Prop, (∃ m, W 0 m (upd H1 D (.lst []))) ∧ ∀ i m H, W i m H →
      ((Itt K a).stop i H ∧ Q (.ref D) H) ∨ ((Itt K a).go i H ∧ ∃ Nx : Hp → Prop, (∀ H', Nx H' → ∃ m', m' < m ∧ W (i + 1) m' H') ∧
        ∀ x H', (Itt K a).yld i H x H' → gName j x (wipe σ [j]) H' fun σ2 H2 => wipe σ2 [j] = wipe σ [j] ∧ tFrT tt σ2 H2 fun b H3 =>
          if b = true then tFr te σ2 H3 fun y H4 => ∃ acc, H4 D = some (.lst acc) ∧ acc.length < sizeLine ∧ Nx (upd H4 D (.lst (acc ++ [y]))) else Nx H3) := by
  intro D hD
  have lift : ∀ {acc : List V} {G : Hp}, G D = none → SqT K G a xs → SqT K (upd G D (.lst acc)) a xs := fun {acc G} hG h => by
    rcases h with (h | ⟨o, h⟩) | h
    · exact .inl (.inl (by rw [upd_ne (ne_of_none h hG)]; exact h))
    · exact .inl (.inr ⟨o, by rw [upd_ne (ne_of_none h hG)]; exact h⟩)
    · exact .inr h
  refine lc_tup (K := K) (a := a) (xs := xs) (fun i H => ∃ acc G, H = upd G D (.lst acc) ∧ G D = none ∧ acc.length ≤ i ∧ Pv i acc G) ⟨[], H1, rfl, hD, Nat.le_refl _, h0⟩ ?_ ?_ ?_
  · rintro i H hi ⟨acc, G, rfl, hG, hl', p⟩
    exact lift hG (hl i acc G p)
  · rintro i x H hi ⟨acc, G, rfl, hG, hl', p⟩
    have hlt : i < xs.length := (List.getElem?_eq_some_iff.mp hi).1
    exact turn_core hG (small_lt (by omega)) (hs i x acc G hi hl' p) fun acc' G' p' hl' hD' => ⟨acc', G', rfl, hD', by omega, p'⟩
  · rintro H ⟨acc, G, rfl, hG, hl, p⟩
    exact hd acc G D hl p hG
end
end Z

/-! Z2: a tracked list told by an invariant alone, and back. -/
namespace Z
open PySem PySem.Spec PyProof.Rows L2
section
variable {X : Cx} {pins : List (Addr × Obj)} {σ : L2.St} {H : Hp} {s : Shared} {a : Addr} {o o' : HO}
def Sft : HO → Prop
  | .lst _ => True
  | .ext _ => True
  | _ => False
/-- the same object, described otherwise -/
theorem retell (I : Inv X pins σ H s) (e : H a = some o) (h1 : Sft o) (h2 : Sft o') (ok : ObjOk X.prog X.w (upd H a o') s.heap a o') : Inv X pins σ (upd H a o') s := by
  have un : ∀ {b}, H b = none → upd H a o' b = none := fun {b} h => by
    have : b ≠ a := fun z => by rw [z, e] at h; cases h
    rw [upd_ne this]; exact h
  have up : ∀ {b u}, H b = some u → (match u with | .tup _ => True | .frz _ _ => True | .tbl _ => True | .own _ => True | _ => False) → upd H a o' b = some u := fun {b u} h k => by
    rw [upd_ne]
    · exact h
    · rintro rfl; rw [h] at e; cases e; cases o <;> first | exact h1.elim | exact k.elim
  refine ⟨I.ok, I.os, I.bare, ⟨I.base.keep, I.base.slot, fun b u q n x => un (I.base.free b u q n x), I.base.there, fun b xs q => up (I.base.tups b xs q) trivial,
    fun b u v q => up (I.base.frzs b u v q) trivial, fun b ps q => ?_⟩, I.loc, I.cell, un I.free, fun x c h => un (I.freeC x c h), fun p hp => ?_, fun b u q => ?_, I.len⟩
  · obtain ⟨m, z⟩ := I.base.tbls b ps q
    exact ⟨m, up z trivial⟩
  · obtain ⟨a1, a2, a3⟩ := I.pin p hp
    exact ⟨a1, un a2, a3⟩
  · by_cases h : b = a
    · subst h
      rw [upd_same] at q; cases q; exact ok
    · rw [upd_ne h] at q
      exact (I.hok b u q).stay (fun _ _ _ z => z) (fun c z => up z trivial) fun c xs z => up z trivial
end

/-- what the two cells of a pot are -/
def PotOk (i j : Int) : Prop := 0 ≤ i ∧ 0 ≤ j ∧ j < 2147483588
def potPhi (a : Addr) : Heap → Prop := fun h => ∃ i j t u n, PotOk i j ∧ h.get? a = some { cls := .type "list", data := .seq #[.int i t, .int j u] n }
def pot (a : Addr) : HO := .ext (potPhi a)
theorem upd_self {H : Hp} {a : Addr} {o : HO} (h : H a = some o) : upd H a o = H := by
  funext b
  by_cases e : b = a
  · rw [e, upd_same, h]
  · rw [upd_ne e]
section
variable {X : Cx} {pins : List (Addr × Obj)} {σ : L2.St} {H : Hp} {s : Shared} {a : Addr}
theorem pot_open (I : Inv X pins σ H s) (e : H a = some (pot a)) : ∃ i j, PotOk i j ∧ Inv X pins σ (upd H a (.lst [.int i, .int j])) s := by
  obtain ⟨⟨i, j, t, u, n, ok, g⟩, _, _⟩ := I.hok a _ e
  exact ⟨i, j, ok, retell I e trivial trivial ⟨small_le (by show 2 ≤ 1000000; decide), [.int i t, .int j u], n, .cons ⟨t, rfl⟩ (.cons ⟨u, rfl⟩ .nil), g⟩⟩
theorem pot_close (I : Inv X pins σ H s) {i j : Int} (ok : PotOk i j) (e : H a = some (.lst [.int i, .int j])) : Inv X pins σ (upd H a (pot a)) s := by
  obtain ⟨_, its, n, r, g⟩ := I.hok a _ e
  obtain ⟨u1, u2, rfl, ⟨t, rfl⟩, ⟨u, rfl⟩⟩ := vals2 r
  refine retell I e trivial trivial ⟨⟨i, j, t, u, n, ok, g⟩, ⟨_, g⟩, ?_⟩
  rintro h1 h2 ⟨i, j, t, u, n, ok, g⟩ k
  exact ⟨i, j, t, u, n, ok, k _ g⟩
end
/-- a body that works at the pot at a -/
def tPot (t : TS) : TS := fun D σ H => ∃ a, H a = some (pot a) ∧ ∀ i j, PotOk i j → t
  { nx := fun σ' H' => ∃ i j, PotOk i j ∧ H' a = some (.lst [.int i, .int j]) ∧ D.nx σ' (upd H' a (pot a)),
    rt := fun v H' => ∃ i j, PotOk i j ∧ H' a = some (.lst [.int i, .int j]) ∧ D.rt v (upd H' a (pot a)) } σ (upd H a (.lst [.int i, .int j]))
theorem pss_pot {X : Cx} {b : List Stmt} {t : TS} (h : PSs X b t) : PSs X b (tPot t) := by
  constructor
  intro pins s σ H D I q
  obtain ⟨a, e, q⟩ := q
  obtain ⟨i, j, ok, J⟩ := pot_open I e
  refine thn (h.run pins s σ _ _ J (q i j ok)) ?_
  intro fl s' hs
  match fl, hs with
  | .ret u, ⟨v, σ', H', J', r, i, j, ok, e', k⟩ => exact ⟨v, σ', _, pot_close J' ok e', r, k⟩
  | .next, ⟨σ', H', J', i, j, ok, e', k⟩ => exact ⟨σ', _, pot_close J' ok e', k⟩
  | .brk, ⟨_, _, _, k⟩ => exact k.elim
  | .cont, ⟨_, _, _, k⟩ => exact k.elim
/-- a body that hands back a new pot -/
def tPotRet (t : TS) : TS := fun D σ H => t
  { nx := fun _ _ => False,
    rt := fun v H' => ∃ a i j, v = .ref a ∧ PotOk i j ∧ H' a = some (.lst [.int i, .int j]) ∧ D.rt (.ref a) (upd H' a (pot a)) } σ H
theorem pss_potRet {X : Cx} {b : List Stmt} {t : TS} (h : PSs X b t) : PSs X b (tPotRet t) := by
  constructor
  intro pins s σ H D I q
  refine thn (h.run pins s σ _ _ I q) ?_
  intro fl s' hs
  match fl, hs with
  | .ret u, ⟨v, σ', H', J', r, a, i, j, e0, ok, e', k⟩ => exact ⟨.ref a, σ', _, pot_close J' ok e', by rw [← e0]; exact r, k⟩
  | .next, ⟨σ', H', J', k⟩ => exact k.elim
  | .brk, ⟨_, _, _, k⟩ => exact k.elim
  | .cont, ⟨_, _, _, k⟩ => exact k.elim
end Z

/-! Z3: values as data; repr of data. -/
namespace Z
open PySem PySem.Spec PyProof.Rows L2

def keyD : Key → PyData
  | .inl i => .int i
  | .inr x => .str x
mutual
/-- the value v stands for the data d -/
inductive Rp (K : PySem.W.Frag) (H : Hp) : V → PyData → Prop
  | non : Rp K H .non .none
  | bl (b : Bool) : Rp K H (.bl b) (.bool b)
  | int (i : Int) : Rp K H (.int i) (.int i)
  | str (x : Str) : Rp K H (.str x) (.str x)
  | lst {a : Addr} {xs : List V} {ds : List PyData} : SqL K H a xs → RpAll K H xs ds → Rp K H (.ref a) (.list ds)
  | tup {a : Addr} {xs : List V} {ds : List PyData} : SqT K H a xs → RpAll K H xs ds → Rp K H (.ref a) (.tuple ds)
  | dct {a : Addr} {kvs : List (Key × V)} {ds : List (PyData × PyData)} : H a = some (.dK kvs) → RpKv K H kvs ds → Rp K H (.ref a) (.dict ds)
inductive RpAll (K : PySem.W.Frag) (H : Hp) : List V → List PyData → Prop
  | nil : RpAll K H [] []
  | cons {v : V} {vs : List V} {d : PyData} {ds : List PyData} : Rp K H v d → RpAll K H vs ds → RpAll K H (v :: vs) (d :: ds)
inductive RpKv (K : PySem.W.Frag) (H : Hp) : List (Key × V) → List (PyData × PyData) → Prop
  | nil : RpKv K H [] []
  | cons {k : Key} {v : V} {r : List (Key × V)} {d : PyData} {ds : List (PyData × PyData)} : Rp K H v d → RpKv K H r ds → RpKv K H ((k, v) :: r) ((keyD k, d) :: ds)
end

theorem Same.seqT {K : PySem.W.Frag} {H H' : Hp} {a : Addr} {xs : List V} (e : Same H H') (h : SqT K H a xs) : SqT K H' a xs := by
  rcases h with (h | ⟨o, h⟩) | h
  · exact .inl (.inl (e _ _ h))
  · exact .inl (.inr ⟨o, e _ _ h⟩)
  · exact .inr h
theorem Same.new {H : Hp} {p : Addr} {o : HO} (h : H p = none) : Same H (upd H p o) := fun b u e => by
  rw [upd_ne (ne_of_none e h)]
  exact e
mutual
theorem Rp.mono {K : PySem.W.Frag} {H H' : Hp} (e : Same H H') : ∀ {v : V} {d : PyData}, Rp K H v d → Rp K H' v d
  | _, _, .non => .non
  | _, _, .bl b => .bl b
  | _, _, .int i => .int i
  | _, _, .str x => .str x
  | _, _, .lst h r => .lst (e.seq h) (RpAll.mono e r)
  | _, _, .tup h r => .tup (Same.seqT e h) (RpAll.mono e r)
  | _, _, .dct h r => .dct (e _ _ h) (RpKv.mono e r)
theorem RpAll.mono {K : PySem.W.Frag} {H H' : Hp} (e : Same H H') : ∀ {v : List V} {d : List PyData}, RpAll K H v d → RpAll K H' v d
  | _, _, .nil => .nil
  | _, _, .cons h r => .cons (Rp.mono e h) (RpAll.mono e r)
theorem RpKv.mono {K : PySem.W.Frag} {H H' : Hp} (e : Same H H') : ∀ {v : List (Key × V)} {d : List (PyData × PyData)}, RpKv K H v d → RpKv K H' v d
  | _, _, .nil => .nil
  | _, _, .cons h r => .cons (Rp.mono e h) (RpKv.mono e r)
end
theorem RpAll.len {K : PySem.W.Frag} {H : Hp} : ∀ {vs : List V} {ds : List PyData}, RpAll K H vs ds → vs.length = ds.length
  | _, _, .nil => rfl
  | _, _, .cons _ r => by rw [List.length_cons, List.length_cons, r.len]
theorem RpAll.at {K : PySem.W.Frag} {H : Hp} : ∀ {vs : List V} {ds : List PyData} {i : Nat} {v : V}, RpAll K H vs ds → vs[i]? = some v → ∃ d, ds[i]? = some d ∧ Rp K H v d
  | _, _, i, v, .nil, e => by simp at e
  | _, _, 0, v, .cons h _, e => ⟨_, rfl, by simp at e; subst e; exact h⟩
  | _, _, i + 1, v, .cons _ r, e => by
    obtain ⟨d, a, b⟩ := r.at (i := i) (v := v) (by simpa using e)
    exact ⟨d, by simpa using a, b⟩
theorem RpAll.set {K : PySem.W.Frag} {H : Hp} {v : V} {d : PyData} (h : Rp K H v d) : ∀ {vs : List V} {ds : List PyData} (i : Nat), RpAll K H vs ds → RpAll K H (vs.set i v) (ds.set i d)
  | _, _, _, .nil => .nil
  | _, _, 0, .cons _ r => .cons h r
  | _, _, i + 1, .cons a r => .cons a (RpAll.set h i r)
theorem RpAll.app {K : PySem.W.Frag} {H : Hp} : ∀ {vs ws : List V} {ds es : List PyData}, RpAll K H vs ds → RpAll K H ws es → RpAll K H (vs ++ ws) (ds ++ es)
  | _, _, _, _, .nil, s => s
  | _, _, _, _, .cons a r, s => .cons a (r.app s)
theorem RpAll.take {K : PySem.W.Frag} {H : Hp} : ∀ {vs : List V} {ds : List PyData} (n : Nat), RpAll K H vs ds → RpAll K H (vs.take n) (ds.take n)
  | _, _, 0, _ => .nil
  | _, _, _ + 1, .nil => .nil
  | _, _, n + 1, .cons a r => .cons a (RpAll.take n r)
theorem RpAll.drop {K : PySem.W.Frag} {H : Hp} : ∀ {vs : List V} {ds : List PyData} (n : Nat), RpAll K H vs ds → RpAll K H (vs.drop n) (ds.drop n)
  | _, _, 0, r => r
  | _, _, _ + 1, .nil => .nil
  | _, _, n + 1, .cons _ r => RpAll.drop n r
theorem RpAll.erase {K : PySem.W.Frag} {H : Hp} : ∀ {vs : List V} {ds : List PyData} (n : Nat), RpAll K H vs ds → RpAll K H (vs.eraseIdx n) (ds.eraseIdx n)
  | _, _, _, .nil => .nil
  | _, _, 0, .cons _ r => r
  | _, _, n + 1, .cons a r => .cons a (RpAll.erase n r)

/-- the module's dict of modules stands in the base -/
def SysB (base : Heap) : Prop := ∃ o es n, base.get? sysModules = some o ∧ o.data = .dict es n
section
variable {X : Cx} {pins : List (Addr × Obj)} {σ : L2.St} {H : Hp} {s : Shared}
theorem rd_ne (I : Inv X pins σ H s) (hS : SysB X.base) {a : Addr} {u : HO} (h : Rd H a u) : sysModules ≠ a := by
  obtain ⟨o, es, n, e, _⟩ := hS
  rintro rfl
  have := (I.bs _ _ e).2
  rcases h with h | ⟨o, h⟩ <;> (rw [this] at h; cases h)
mutual
theorem Rp.reads (I : Inv X pins σ H s) (hS : SysB X.base) : ∀ {v : V} {d : PyData} {u : Value}, Rp X.K H v d → RelV v u → ∃ as, Reads s.heap u d as ∧ sysModules ∉ as
  | _, _, _, .non, r => by cases r; exact ⟨[], .none, by simp⟩
  | _, _, _, .bl b, r => by cases r; exact ⟨[], .bool b, by simp⟩
  | _, _, _, .int i, r => by obtain ⟨t, rfl⟩ := r; exact ⟨[], .int i t, by simp⟩
  | _, _, _, .str x, r => by obtain ⟨t, rfl⟩ := r; exact ⟨[], .str x t, by simp⟩
  | _, _, _, .lst (a := a) h q, r => by
    cases r
    rcases h with h | ⟨o, its, n, hk, hc, hd, hdata, hz, rv⟩
    · obtain ⟨_, its, n, rv, g⟩ := h.ok I.hok
      obtain ⟨as, ra, ne⟩ := RpAll.reads I hS q rv
      refine ⟨a :: as, .list g rfl rfl (by simpa using ra), fun z => ?_⟩
      rcases List.mem_cons.mp z with z | z
      · exact rd_ne I hS h z
      · exact ne z
    · obtain ⟨as, ra, ne⟩ := RpAll.reads I hS q rv
      refine ⟨a :: as, .list (I.kIn _ _ hk) hc hdata ra, fun z => ?_⟩
      rcases List.mem_cons.mp z with z | z
      · obtain ⟨o', es, n', e, e2⟩ := hS
        have e3 := I.bk _ _ e
        rw [z, I.kIn _ _ hk] at e3
        cases e3
        rw [hdata] at e2; cases e2
      · exact ne z
  | _, _, _, .tup (a := a) h q, r => by
    cases r
    rcases h with h | ⟨o, its, n, hk, hc, hdata, hz, rv⟩
    · obtain ⟨_, its, rv, o, g, hc, n, hd⟩ := h.ok I.hok
      obtain ⟨as, ra, ne⟩ := RpAll.reads I hS q rv
      exact ⟨as, .tuple g hc hd (by simpa using ra), ne⟩
    · obtain ⟨as, ra, ne⟩ := RpAll.reads I hS q rv
      exact ⟨as, .tuple (I.kIn _ _ hk) hc hdata ra, ne⟩
  | _, _, _, .dct (a := a) h q, r => by
    cases r
    obtain ⟨_, _, vs, kv, ob, es, ep, g, hx, hd, _, hp, _⟩ := I.hok a _ h
    obtain ⟨as, bs, r1, r2, n1, n2⟩ := RpKv.reads I hS q kv hp
    refine ⟨a :: as ++ bs, .dict g hx.1 hd r1 r2, fun z => ?_⟩
    rcases List.mem_append.mp z with z | z
    · rcases List.mem_cons.mp z with z | z
      · exact rd_ne I hS (.inl h) z
      · exact n1 z
    · exact n2 z
theorem RpAll.reads (I : Inv X pins σ H s) (hS : SysB X.base) : ∀ {vs : List V} {ds : List PyData} {us : List Value}, RpAll X.K H vs ds → Vals vs us → ∃ as, ReadsAll s.heap us ds as ∧ sysModules ∉ as
  | _, _, _, .nil, .nil => ⟨[], .nil, by simp⟩
  | _, _, _, .cons h q, .cons r rs => by
    obtain ⟨as, r1, n1⟩ := Rp.reads I hS h r
    obtain ⟨bs, r2, n2⟩ := RpAll.reads I hS q rs
    exact ⟨as ++ bs, .cons r1 r2, fun z => (List.mem_append.mp z).elim n1 n2⟩
theorem RpKv.reads (I : Inv X pins σ H s) (hS : SysB X.base) : ∀ {kvs : List (Key × V)} {ds : List (PyData × PyData)} {vs : List (Key × Value)} {es : List DictEntry}, RpKv X.K H kvs ds → KV kvs vs →
    Pairs (mixKind X.prog X.w) es vs →
    ∃ as bs, ReadsAll s.heap (es.map (·.key)) (ds.map (·.1)) as ∧ ReadsAll s.heap (es.map (·.val)) (ds.map (·.2)) bs ∧ sysModules ∉ as ∧ sysModules ∉ bs
  | _, _, _, _, .nil, .nil, .nil => ⟨[], [], .nil, .nil, by simp, by simp⟩
  | _, _, _, _, .cons (k := k) h q, .cons r rs, .cons (e := e) hk hv hp => by
    obtain ⟨as, r1, n1⟩ := Rp.reads I hS h r.2
    obtain ⟨bs, cs, r2, r3, n2, n3⟩ := RpKv.reads I hS q rs hp
    have hk' : keyIs k e.key = true := by have e2 : k = _ := r.1; rw [e2]; exact hk
    have kr : Reads s.heap e.key (keyD k) [] := by
      rcases keyIs_shape hk' with ⟨i, t, rfl, e1⟩ | ⟨x, t, rfl, e1⟩
      · rw [e1]; exact .int i t
      · rw [e1]; exact .str x t
    refine ⟨[] ++ bs, as ++ cs, .cons kr r2, .cons (by show Reads s.heap e.val _ as; rw [hv]; exact r1) r3, by simpa using n2, fun z => (List.mem_append.mp z).elim n1 n3⟩
end
/-- repr(x), x any data -/
def rRepr (K : PySem.W.Frag) : List V → Hp → VK → Prop := fun xs H Q => ∃ x d, xs = [x] ∧ Rp K H x d ∧ d.showable = true ∧ d.shown.length ≤ sizeLine ∧ d.depth ≤ 40 ∧ Q (.str d.shown) H
theorem call_repr {k : Nat} (hG : X.A.guards = some []) (hr : Room k X.A) (hS : SysB X.base) : CallR X (.builtin "repr") (rRepr X.K) := by
  intro pins s σ H xs us Q I r h
  obtain ⟨x, d, rfl, hd, sh, sz, dp, q⟩ := h
  obtain ⟨u, rfl, rx⟩ := vals1 r
  obtain ⟨as, ra, ns⟩ := hd.reads I hS rx
  have hu := hr.units
  have fin : ∀ (h' : Heap) (t : Tok) (tk : Nat), (∀ b o, s.heap.get? b = some o → h'.get? b = some o) → EP X pins σ Q (.str d.shown t) { s with heap := h', toks := tk } :=
    fun h' t tk k => ⟨.str d.shown, H, I.kept k, ⟨t, rfl⟩, q⟩
  cases hd with
  | non => cases rx; exact PySem.P.repr_of_none (fin s.heap _ _ fun _ _ e => e)
  | bl b => cases rx; exact PySem.P.repr_of_bool (fin s.heap _ _ fun _ _ e => e)
  | int i => obtain ⟨t, rfl⟩ := rx; exact PySem.P.repr_of_int (of_decide_eq_true sh) (fin s.heap _ _ fun _ _ e => e)
  | str z => obtain ⟨t, rfl⟩ := rx; exact PySem.P.repr_of_str (fin s.heap _ _ fun _ _ e => e) sz
  | lst _ _ => cases rx; exact repr_of_reads' ra sh (fun _ => ns) hG (by omega) (fun _ _ e => e) (fun h' t tk k => fin h' t tk k) sz
  | tup _ _ => cases rx; exact repr_of_reads' ra sh (fun _ => ns) hG (by omega) (fun _ _ e => e) (fun h' t tk k => fin h' t tk k) sz
  | dct _ _ => cases rx; exact repr_of_reads' ra sh (fun _ => ns) hG (by omega) (fun _ _ e => e) (fun h' t tk k => fin h' t tk k) sz
end

/-! ### small data -/
/-- what is shown is short, nothing is deep -/
structure Sm (k n : Nat) (d : PyData) : Prop where
  sh : d.showable = true
  ln : d.shown.length ≤ n
  dp : d.depth ≤ k
theorem Sm.mono {k n k' n' : Nat} {d : PyData} (s : Sm k n d) (h1 : k ≤ k') (h2 : n ≤ n') : Sm k' n' d := ⟨s.sh, Nat.le_trans s.ln h2, Nat.le_trans s.dp h1⟩
theorem Sm.none : Sm 0 4 .none := ⟨rfl, by decide +kernel, Nat.le_refl _⟩
theorem Sm.bool (b : Bool) : Sm 0 5 (.bool b) := ⟨rfl, by cases b <;> decide +kernel, Nat.le_refl _⟩
theorem Sm.int {i : Int} (h : i.natAbs < 10 ^ 60) : Sm 0 61 (.int i) := by
  refine ⟨decide_eq_true ?_, ?_, Nat.le_refl _⟩
  · by_cases z : i.natAbs = 0
    · rw [z]; decide
    · exact (Nat.log2_lt z).mpr (Nat.lt_of_lt_of_le h (by decide +kernel))
  · have e := PySem.int_text_length_le10 (k := 60) (by decide) h
    show (Str.ofString (toString i)).length ≤ 61
    rw [PySem.ofString_length]
    exact e
theorem Sm.str {x : Str} {m : Nat} (h : x.length ≤ m) (hc : ∀ c ∈ x.cps.toList, c < 16 ^ 8) : Sm 0 (10 * m + 2) (.str x) :=
  ⟨rfl, Nat.le_trans (StrLaws.reprText_len x hc) (by omega), Nat.le_refl _⟩
theorem textFrom_le : ∀ (ts : List Str) (k : Nat) (acc : Str), (textFrom k acc ts).length ≤ acc.length + piled ts
  | [], k, acc => by show acc.length ≤ _; omega
  | t :: ts, k, acc => by
    show (textFrom (k + 1) _ ts).length ≤ _
    refine Nat.le_trans (textFrom_le ts (k + 1) _) ?_
    rw [strLen_append, strLen_append, piled_cons]
    split <;> (first | (have : (Str.ofString ", ").length = 2 := by decide +kernel) | skip) <;> (have : (Str.ofString "").length = 0 := by decide +kernel) <;> omega
theorem listText_le (ts : List Str) : (listText ts).length ≤ piled ts + 2 := by
  show (textFrom 0 "[" ts ++ ("]" : Str)).length ≤ _
  rw [strLen_append]
  have h1 := textFrom_le ts 0 "["
  have h2 : (Str.ofString "[").length = 1 := by decide +kernel
  have h3 : (Str.ofString "]").length = 1 := by decide +kernel
  omega
theorem tupleText_le (ts : List Str) : (tupleText ts).length ≤ piled ts + 3 := by
  unfold tupleText
  rw [strLen_append, strLen_append]
  have h2 : (Str.ofString "(").length = 1 := by decide +kernel
  have h3 : (Str.ofString (if ts.length == 1 then ",)" else ")" : String)).length ≤ 2 := by split <;> decide +kernel
  by_cases e : ts = []
  · subst e
    have : (Str.join ", " ([] : List Str)).length = 0 := by decide +kernel
    omega
  · have := join_length_add ts e
    omega
theorem dictText_le (ts : List Str) : (dictText ts).length ≤ piled ts + 2 := by
  unfold dictText
  rw [strLen_append, strLen_append]
  have h2 : (Str.ofString "{").length = 1 := by decide +kernel
  have h3 : (Str.ofString "}").length = 1 := by decide +kernel
  by_cases e : ts = []
  · subst e
    have : (Str.join ", " ([] : List Str)).length = 0 := by decide +kernel
    omega
  · have := join_length_add ts e
    omega
theorem sm_all {k n : Nat} : ∀ {ds : List PyData}, (∀ d ∈ ds, Sm k n d) → PyData.showableAll ds = true ∧ piled (PyData.shownAll ds) ≤ ds.length * (n + 2) ∧ PyData.depthAll ds ≤ k
  | [], _ => ⟨rfl, Nat.zero_le _, Nat.zero_le _⟩
  | d :: ds, h => by
    obtain ⟨a, b, c⟩ := sm_all (fun x hx => h x (List.mem_cons_of_mem _ hx))
    obtain ⟨a', b', c'⟩ := h d List.mem_cons_self
    refine ⟨by show (d.showable && PyData.showableAll ds) = true; rw [a, a'] <;> rfl, ?_, ?_⟩
    · show piled (d.shown :: PyData.shownAll ds) ≤ (ds.length + 1) * (n + 2)
      rw [piled_cons, Nat.succ_mul]
      omega
    · show max d.depth (PyData.depthAll ds) ≤ k
      omega
theorem Sm.list {k n m : Nat} {ds : List PyData} (h : ∀ d ∈ ds, Sm k n d) (hl : ds.length ≤ m) : Sm (k + 1) (m * (n + 2) + 2) (.list ds) := by
  obtain ⟨a, b, c⟩ := sm_all h
  refine ⟨a, Nat.le_trans (listText_le _) ?_, Nat.succ_le_succ c⟩
  have := Nat.mul_le_mul_right (n + 2) hl
  omega
theorem Sm.tuple {k n m : Nat} {ds : List PyData} (h : ∀ d ∈ ds, Sm k n d) (hl : ds.length ≤ m) : Sm (k + 1) (m * (n + 2) + 3) (.tuple ds) := by
  obtain ⟨a, b, c⟩ := sm_all h
  refine ⟨a, Nat.le_trans (tupleText_le _) ?_, Nat.succ_le_succ c⟩
  have := Nat.mul_le_mul_right (n + 2) hl
  omega
end Z

/-! Z4: readings taken apart, one head at a time. -/
namespace Z
open PySem PySem.Spec PyProof.Rows L2

theorem szok {n : Nat} (h : Nat.ble n 1000000 = true) : n ≤ sizeLine := small_le (Nat.le_of_ble_eq_true h)
theorem szlt {n : Nat} (h : n ≤ 100000) : n < sizeLine := small_lt (Nat.le_trans h (by decide))

section
variable {σ : L2.St} {H : Hp} {Q : VK} {v x y : V} {te ta tb : TE} {tt tu : TT} {tA : TA} {i : Nat} {o : Option V}
/-! values -/
theorem g_var0 (k : Q v H) : tVar 0 (some v :: σ) H Q := ⟨v, rfl, k⟩
theorem g_varS (k : tVar i σ H Q) : tVar (i + 1) (o :: σ) H Q := by
  obtain ⟨v, e, q⟩ := k
  exact ⟨v, by rw [List.getElem?_cons_succ]; exact e, q⟩
theorem g_c (k : Q v H) : tC v σ H Q := k
theorem g_op {r : R2} (k : ta σ H fun x H1 => tb σ H1 fun y H2 => r x y H2 Q) : tOp r ta tb σ H Q := k
theorem g_un {r : V → Hp → VK → Prop} (k : ta σ H fun x H1 => r x H1 Q) : tUn r ta σ H Q := k
theorem g_cl {sp : Sp} {E : XK} (k : tA σ H fun vs H1 => sp vs H1 Q E) : tCl sp E tA σ H Q := k
theorem g_cb {r : List V → Hp → VK → Prop} (k : tA σ H fun vs H1 => r vs H1 Q) : tCB r tA σ H Q := k
theorem g_nil {R : List V → Hp → Prop} (k : R [] H) : tNil σ H R := k
theorem g_cons {R : List V → Hp → Prop} (k : ta σ H fun x H1 => tA σ H1 fun xs H2 => R (x :: xs) H2) : tCons ta tA σ H R := k
def NewO (o : HO) (H : Hp) (Q : VK) : Prop := ∀ p H2, H p = none → L2.Same H H2 → H2 p = some o → H2 = upd H p o → Q (.ref p) H2
theorem newO {o : HO} (k : NewO o H Q) : ∀ p, H p = none → Q (.ref p) (upd H p o) := fun p hp => k p _ hp (Same.new hp) upd_same rfl
def NewL (xs : List V) (H : Hp) (Q : VK) : Prop := xs.length ≤ sizeLine ∧ NewO (.lst xs) H Q
def NewT (xs : List V) (H : Hp) (Q : VK) : Prop := xs.length ≤ sizeLine ∧ NewO (.tup xs) H Q
theorem newL {xs : List V} (k : NewL xs H Q) : xs.length ≤ sizeLine ∧ ∀ p, H p = none → Q (.ref p) (upd H p (.lst xs)) := ⟨k.1, newO k.2⟩
theorem newT {xs : List V} (k : NewT xs H Q) : xs.length ≤ sizeLine ∧ ∀ p, H p = none → Q (.ref p) (upd H p (.tup xs)) := ⟨k.1, newO k.2⟩
/-- a new list, a new tuple (the heap behind it a name, with what is known) -/
def tLs (tA : TA) : TE := fun σ H Q => tA σ H fun xs H1 => NewL xs H1 Q
def tTp (tA : TA) : TE := fun σ H Q => tA σ H fun xs H1 => NewT xs H1 Q
theorem g_ls (k : tA σ H fun xs H1 => NewL xs H1 Q) : tLs tA σ H Q := k
theorem g_tp (k : tA σ H fun xs H1 => NewT xs H1 Q) : tTp tA σ H Q := k
theorem k_newL {xs : List V} (hl : Nat.ble xs.length 1000000 = true) (k : ∀ p H2, H p = none → L2.Same H H2 → H2 p = some (.lst xs) → H2 = upd H p (.lst xs) → Q (.ref p) H2) : NewL xs H Q := ⟨szok hl, k⟩
theorem k_newT {xs : List V} (hl : Nat.ble xs.length 1000000 = true) (k : ∀ p H2, H p = none → L2.Same H H2 → H2 p = some (.tup xs) → H2 = upd H p (.tup xs) → Q (.ref p) H2) : NewT xs H Q := ⟨szok hl, k⟩
theorem g_if (k : tt σ H fun c H1 => if c = true then ta σ H1 Q else tb σ H1 Q) : tIf tt ta tb σ H Q := k
theorem g_andV (k : ta σ H fun x H1 => ∃ c, x = .bl c ∧ if c = true then tb σ H1 Q else Q (.bl false) H1) : tAndV ta tb σ H Q := k
theorem g_orV (k : ta σ H fun x H1 => ∃ c, x = .bl c ∧ if c = true then Q (.bl true) H1 else tb σ H1 Q) : tOrV ta tb σ H Q := k
theorem g_notV (k : ta σ H fun x H1 => ∃ c, x = .bl c ∧ Q (.bl (!c)) H1) : tNotV ta σ H Q := k
/-! tests -/
theorem g_test {R : Bool → Hp → Prop} (k : ta σ H fun x H1 => ∃ k, x = .bl k ∧ R k H1) : tTest ta σ H R := k
theorem g_B {R : Bool → Hp → Prop} (k : ta σ H fun x H1 => ∃ c, x = .bl c ∧ R c H1) : tB ta σ H R := k
theorem g_and {R : Bool → Hp → Prop} (k : tt σ H fun c H1 => if c = true then tu σ H1 R else R false H1) : tAnd tt tu σ H R := k
theorem g_or {R : Bool → Hp → Prop} (k : tt σ H fun c H1 => if c = true then R true H1 else tu σ H1 R) : tOr tt tu σ H R := k
theorem g_not {R : Bool → Hp → Prop} (k : tt σ H fun c H1 => R (!c) H1) : tNot tt σ H R := k
theorem k_bl {b : Bool} {R : Bool → Hp → Prop} (k : R b H) : ∃ c, V.bl b = .bl c ∧ R c H := ⟨b, rfl, k⟩
theorem k_blI {b : Bool} {A B : Bool → Prop} (k : if b = true then A b else B b) : ∃ c, V.bl b = .bl c ∧ if c = true then A c else B c := ⟨b, rfl, k⟩
theorem k_blp {b : Bool} {R : Bool → Prop} (k : R b) : ∃ c, V.bl b = .bl c ∧ R c := ⟨b, rfl, k⟩
/-! forks -/
theorem k_ifT {A B : Prop} (k : A) : if true = true then A else B := iteT k
theorem k_ifF {A B : Prop} (k : B) : if false = true then A else B := iteF k
theorem k_ifNT {A B : Prop} (k : B) : if (!true) = true then A else B := iteF k
theorem k_ifNF {A B : Prop} (k : A) : if (!false) = true then A else B := iteT k
theorem k_ifD {p A B : Prop} [Decidable p] (h1 : p → A) (h2 : ¬ p → B) : if decide p = true then A else B := by
  by_cases h : p
  · rw [decide_eq_true h]; exact iteT (h1 h)
  · rw [decide_eq_false h]; exact iteF (h2 h)
theorem k_ifDy {p A B : Prop} [Decidable p] (h : p) (k : A) : if decide p = true then A else B := by
  rw [decide_eq_true h]; exact iteT k
theorem k_ifDn {p A B : Prop} [Decidable p] (h : ¬ p) (k : B) : if decide p = true then A else B := by
  rw [decide_eq_false h]; exact iteF k
theorem k_ifND {p A B : Prop} [Decidable p] (h1 : ¬ p → A) (h2 : p → B) : if (!decide p) = true then A else B := by
  by_cases h : p
  · rw [decide_eq_true h]; exact iteF (h2 h)
  · rw [decide_eq_false h]; exact iteT (h1 h)
theorem k_ifNDy {p A B : Prop} [Decidable p] (h : ¬ p) (k : A) : if (!decide p) = true then A else B := by
  rw [decide_eq_false h]; exact iteT k
theorem k_ifNDn {p A B : Prop} [Decidable p] (h : p) (k : B) : if (!decide p) = true then A else B := by
  rw [decide_eq_true h]; exact iteF k
theorem k_ifB {b : Bool} {A B : Prop} (h1 : b = true → A) (h2 : b = false → B) : if b = true then A else B := by
  cases b
  · exact iteF (h2 rfl)
  · exact iteT (h1 rfl)
theorem k_ifNB {b : Bool} {A B : Prop} (h1 : b = false → A) (h2 : b = true → B) : if (!b) = true then A else B := by
  cases b
  · exact iteT (h1 rfl)
  · exact iteF (h2 rfl)
theorem k_ifBy {b : Bool} {A B : Prop} (h : b = true) (k : A) : if b = true then A else B := by rw [if_pos h]; exact k
theorem k_ifBn {b : Bool} {A B : Prop} (h : b = false) (k : B) : if b = true then A else B := by rw [h]; exact iteF k
/-! operations on values -/
theorem k_I0 {g : Int → Int → V} {a b : Int} (k : Q (g a b) H) : rI0 g (.int a) (.int b) H Q := ⟨a, b, rfl, rfl, k⟩
theorem k_I {C : Int → Int → Prop} {g : Int → Int → V} {a b : Int} (c : C a b) (k : Q (g a b) H) : rI C g (.int a) (.int b) H Q := ⟨a, b, rfl, rfl, c, k⟩
theorem k_U {g : Int → V} {a : Int} (k : Q (g a) H) : rU g (.int a) H Q := ⟨a, rfl, k⟩
theorem k_eqI {a b : Int} (k : Q (.bl (decide (a = b))) H) : rEq (.int a) (.int b) H Q := by
  refine ⟨rfl, ?_⟩
  have e : decide (V.int a = V.int b) = decide (a = b) := by by_cases h : a = b <;> simp [h]
  rw [e]; exact k
theorem k_neI {a b : Int} (k : Q (.bl (!decide (a = b))) H) : rNe (.int a) (.int b) H Q := by
  refine ⟨rfl, ?_⟩
  have e : decide (V.int a = V.int b) = decide (a = b) := by by_cases h : a = b <;> simp [h]
  rw [e]; exact k
theorem k_eqS {a b : Str} (k : Q (.bl (decide (a = b))) H) : rEq (.str a) (.str b) H Q := by
  refine ⟨rfl, ?_⟩
  have e : decide (V.str a = V.str b) = decide (a = b) := by by_cases h : a = b <;> simp [h]
  rw [e]; exact k
theorem k_neS {a b : Str} (k : Q (.bl (!decide (a = b))) H) : rNe (.str a) (.str b) H Q := by
  refine ⟨rfl, ?_⟩
  have e : decide (V.str a = V.str b) = decide (a = b) := by by_cases h : a = b <;> simp [h]
  rw [e]; exact k
theorem k_eqX (h : scal x y = true) (k : Q (.bl (decide (x = y))) H) : rEq x y H Q := ⟨h, k⟩
theorem k_neX (h : scal x y = true) (k : Q (.bl (!decide (x = y))) H) : rNe x y H Q := ⟨h, k⟩
/-- an item of a list or tuple at a place in bounds -/
theorem k_ixL {K : PySem.W.Frag} {p : Addr} {xs : List V} {a : Int} (h : SqL K H p xs) (h0 : 0 ≤ a) (h1 : a < (xs.length : Int)) (k : ∀ v, xs[a.toNat]? = some v → Q v H) : rIxL K (.ref p) (.int a) H Q := by
  have hlt : a.toNat < xs.length := by omega
  refine ⟨p, xs, a, xs[a.toNat], rfl, rfl, h, ?_, k _ (List.getElem?_eq_getElem hlt)⟩
  unfold atI ixN
  rw [if_pos h0, if_pos h1]
  exact List.getElem?_eq_getElem hlt
theorem k_ixT {K : PySem.W.Frag} {p : Addr} {xs : List V} {a : Int} (h : SqT K H p xs) (h0 : 0 ≤ a) (h1 : a < (xs.length : Int)) (k : ∀ v, xs[a.toNat]? = some v → Q v H) : rIxT K (.ref p) (.int a) H Q := by
  have hlt : a.toNat < xs.length := by omega
  refine ⟨p, xs, a, xs[a.toNat], rfl, rfl, h, ?_, k _ (List.getElem?_eq_getElem hlt)⟩
  unfold atI ixN
  rw [if_pos h0, if_pos h1]
  exact List.getElem?_eq_getElem hlt
theorem k_ixS {z : Str} {a : Int} (hl : z.length ≤ 100000) (h0 : 0 ≤ a) (h1 : a < (z.length : Int)) (k : ∀ c, z.cps.toList[a.toNat]? = some c → Q (.str ⟨#[c]⟩) H) : rIxS (.str z) (.int a) H Q := by
  have hz : z.cps.toList.length = z.length := by simp [Str.length]
  have hlt : a.toNat < z.cps.toList.length := by omega
  refine ⟨z, a, z.cps.toList[a.toNat], rfl, rfl, Nat.le_of_lt (szlt hl), ?_, k _ (List.getElem?_eq_getElem hlt)⟩
  unfold atI ixN
  rw [if_pos h0, if_pos (by omega)]
  exact List.getElem?_eq_getElem hlt
end
/-! statements -/
/-- a word between a statement and what follows it: what follows is read once -/
def tMid (t u : TS) : TS := fun D σ H => ∃ M : L2.St → Hp → Prop, t ⟨M, D.rt, D.bk, D.ct⟩ σ H ∧ ∀ σ' H', M σ' H' → u D σ' H'
theorem pss_mid {X : Cx} {st : Stmt} {rest : List Stmt} {t u : TS} (h1 : PS X st t) (h2 : PSs X rest u) : PSs X (st :: rest) (tMid t u) := by
  constructor
  rintro pins s σ H D I ⟨M, hm, hu⟩
  refine wpAny_execs_cons (thn (h1.run pins s σ H _ I hm) ?_)
  intro fl s1 q
  match fl, q with
  | .next, ⟨σ', H', I', q⟩ => exact h2.run pins s1 σ' H' D I' (hu σ' H' q)
  | .ret _, q => exact q
  | .brk, q => exact q
  | .cont, q => exact q
section
variable {σ σ' : L2.St} {H : Hp} {n b c : L2.St → Hp → Prop} {r : VK} {te ta : TE} {tc : TT} {t u : TS} {g : TG} {tA : TA} {i : Nat} {v w : V} {o : Option V} {N : L2.St → Hp → Prop}
theorem g_seq (k : t ⟨u ⟨n, r, b, c⟩, r, b, c⟩ σ H) : tSeq t u ⟨n, r, b, c⟩ σ H := k
theorem g_cut (M : L2.St → Hp → Prop) (k1 : t ⟨M, r, b, c⟩ σ H) (k2 : ∀ σ' H', M σ' H' → u ⟨n, r, b, c⟩ σ' H') : tMid t u ⟨n, r, b, c⟩ σ H := ⟨M, k1, k2⟩
theorem g_next (k : n σ H) : tNext ⟨n, r, b, c⟩ σ H := k
theorem g_brk (k : b σ H) : tBreak ⟨n, r, b, c⟩ σ H := k
theorem g_cont (k : c σ H) : tCont ⟨n, r, b, c⟩ σ H := k
theorem g_ret (k : te σ H r) : tRet te ⟨n, r, b, c⟩ σ H := k
theorem g_retN (k : r .non H) : tRetN ⟨n, r, b, c⟩ σ H := k
theorem g_drop (k : te σ H fun _ H1 => n σ H1) : tDrop te ⟨n, r, b, c⟩ σ H := k
theorem g_ifS (k : tc σ H fun z H1 => if z = true then t ⟨n, r, b, c⟩ σ H1 else u ⟨n, r, b, c⟩ σ H1) : tIfS tc t u ⟨n, r, b, c⟩ σ H := k
theorem g_asg (k : te σ H fun x H1 => g x σ H1 n) : tAsg te g ⟨n, r, b, c⟩ σ H := k
theorem g_set0 (k : N (some v :: σ) H) : gName 0 v (o :: σ) H N := k
theorem g_setS (k : gName i v σ H fun σ' H' => N (o :: σ') H') : gName (i + 1) v (o :: σ) H N := k
theorem g_par {j l : Nat} (k : tA σ H fun vs H1 => ∃ v w, vs = [v, w] ∧ gName j v σ H1 fun σ1 H2 => gName l w σ1 H2 n) : tPar j l tA ⟨n, r, b, c⟩ σ H := k
theorem k_par {R : V → V → Prop} (k : R v w) : ∃ a b, [v, w] = [a, b] ∧ R a b := ⟨v, w, rfl, k⟩
end
end Z

/-! Z5: operators by the shapes of their values, several shapes under one name. -/
namespace Z
open PySem PySem.Spec PyProof.Rows L2

/-- a module's dict with texts as keys: what it holds at each text -/
structure KD (K : PySem.W.Frag) (w : World) (a : Addr) (f : Str → Option V) : Prop where
  ex : ∃ es n, K.lookup a = some ⟨.type "dict", none, .dict es n, #[]⟩ ∧ PySem.W.KeysLit w.params es.toList
  low : (a == sysModules) = false
  has : ∀ z v, f z = some v → ∃ u, PySem.W.nsIn K a z = some (some u) ∧ RelV v u
  no : ∀ z, f z = none → PySem.W.nsIn K a z = some none

def zAdd (K : PySem.W.Frag) : R2 := fun x y H Q => rI0 (fun i j => .int (i + j)) x y H Q ∨
  (∃ i j, x = .str i ∧ y = .str j ∧ i.length + j.length ≤ sizeLine ∧ Q (.str (i ++ j)) H) ∨ rCat x y H Q ∨ rCatA K x y H Q
def zSub : R2 := rI0 fun i j => .int (i - j)
def zMul : R2 := fun x y H Q => rI CMul (fun i j => .int (i * j)) x y H Q ∨ rRep x y H Q
def zMod : R2 := rI (fun _ j => 0 < j) fun i j => .int (i % j)
def zDiv : R2 := rI CDivN fun i j => .int (i.fdiv j)
def zPow : R2 := rI CPow fun i j => .int (i ^ j.toNat)
def zEqD (K : PySem.W.Frag) (neg : Bool) : R2 := fun x y H Q => ∃ d e, Rp K H x d ∧ Rp K H y e ∧ SeqAt.shaped d = true ∧ SeqAt.shaped e = true ∧ Q (.bl (if neg then !PyData.eqv d e else PyData.eqv d e)) H
/-- a tuple and the empty one -/
def zEqT0 (K : PySem.W.Frag) : R2 := fun x y H Q => ∃ p q xs, x = .ref p ∧ y = .ref q ∧ SqT K H p xs ∧ SqT K H q [] ∧ Q (.bl xs.isEmpty) H
def zEq (K : PySem.W.Frag) : R2 := fun x y H Q => rEq x y H Q ∨ zEqD K false x y H Q ∨ zEqT0 K x y H Q
def zNe (K : PySem.W.Frag) : R2 := fun x y H Q => rNe x y H Q ∨ zEqD K true x y H Q
def zLt : R2 := fun x y H Q => rI0 (fun i j => .bl (decide (i < j))) x y H Q ∨ ∃ i j, x = .str i ∧ y = .str j ∧ Q (.bl (decide (i.cps.toList < j.cps.toList))) H
def zLe : R2 := fun x y H Q => rI0 (fun i j => .bl (decide (i ≤ j))) x y H Q ∨ ∃ i j, x = .str i ∧ y = .str j ∧ Q (.bl (!decide (j.cps.toList < i.cps.toList))) H
def zGt : R2 := fun x y H Q => rI0 (fun i j => .bl (decide (j < i))) x y H Q ∨ ∃ i j, x = .str i ∧ y = .str j ∧ Q (.bl (decide (j.cps.toList < i.cps.toList))) H
def zGe : R2 := fun x y H Q => rI0 (fun i j => .bl (decide (j ≤ i))) x y H Q ∨ ∃ i j, x = .str i ∧ y = .str j ∧ Q (.bl (!decide (i.cps.toList < j.cps.toList))) H
def zIn (K : PySem.W.Frag) (w : World) (neg : Bool) : R2 := fun x y H Q => rIn K neg x y H Q ∨
  (∃ (c : Nat) (z : Str), x = .str ⟨#[c]⟩ ∧ y = .str z ∧ Q (.bl (if neg then !decide (c ∈ z.cps.toList) else decide (c ∈ z.cps.toList))) H) ∨
  (∃ a o, y = .ref a ∧ DGet H a x o ∧ Q (.bl (if neg then !o.isSome else o.isSome)) H) ∨
  (∃ a f z, x = .str z ∧ y = .ref a ∧ KD K w a f ∧ Q (.bl (if neg then !(f z).isSome else (f z).isSome)) H)
def zIs (neg : Bool) : R2 := fun x y H Q => y = .non ∧ Q (.bl (if neg then !decide (x = .non) else decide (x = .non))) H

section
variable {X : Cx}
theorem opr_or {f : Value → Value → Sem Value} {r r' : R2} (h : OpR X f r) (h' : OpR X f r') : OpR X f fun x y H Q => r x y H Q ∨ r' x y H Q := by
  rintro pins s σ H x y v u Q I rx ry (q | q)
  · exact h pins s σ H x y v u Q I rx ry q
  · exact h' pins s σ H x y v u Q I rx ry q
theorem o_add : OpR X (binaryOp .Add) (zAdd X.K) := opr_or op_add (opr_or op_add_str (opr_or op_cat op_catA))
theorem o_sub : OpR X (binaryOp .Sub) zSub := op_sub
theorem o_mul : OpR X (binaryOp .Mult) zMul := opr_or op_mul op_rep
theorem o_mod : OpR X (binaryOp .Mod) zMod := op_mod
theorem o_div : OpR X (binaryOp .FloorDiv) zDiv := op_fdivN
theorem o_pow : OpR X (binaryOp .Pow) zPow := op_pow
theorem o_eqD (hS : SysB X.base) {k : Nat} (hr : Room k X.A) : OpR X (compareOp .Eq) (zEqD X.K false) := by
  rintro pins s σ H x y v u Q I rx ry ⟨d, e, hd, he, sd, se, q⟩
  obtain ⟨as, ra, _⟩ := hd.reads I hS rx
  obtain ⟨bs, rb, _⟩ := he.reads I hS ry
  exact SeqAt.compareEq_shaped ra rb sd se hr.units ⟨.bl _, H, I, rfl, q⟩
theorem o_neD (hS : SysB X.base) {k : Nat} (hr : Room k X.A) : OpR X (compareOp .NotEq) (zEqD X.K true) := by
  rintro pins s σ H x y v u Q I rx ry ⟨d, e, hd, he, sd, se, q⟩
  obtain ⟨as, ra, _⟩ := hd.reads I hS rx
  obtain ⟨bs, rb, _⟩ := he.reads I hS ry
  exact SeqAt.compareNe_shaped ra rb sd se hr.units ⟨.bl _, H, I, rfl, q⟩
theorem o_eqT0 {k : Nat} (hr : Room k X.A) : OpR X (compareOp .Eq) (zEqT0 X.K) := by
  rintro pins s σ H x y v u Q I rx ry ⟨p, q, xs, rfl, rfl, h1, h2, k⟩
  cases rx
  cases ry
  obtain ⟨i1, r1, t1, _⟩ := I.tuple h1
  obtain ⟨i2, r2, t2, _⟩ := I.tuple h2
  cases r2
  refine SeqAt.eq_tupleAt (e := fun _ => true) t1 t2 hr.units0 (fun j _ h => absurd h (by simp)) ⟨.bl xs.isEmpty, H, I, ?_, k⟩
  have e := r1.length
  cases xs with
  | nil => cases r1; rfl
  | cons a l =>
    cases r1
    rfl
theorem o_eq (hS : SysB X.base) {k : Nat} (hr : Room k X.A) : OpR X (compareOp .Eq) (zEq X.K) := opr_or op_eq (opr_or (o_eqD hS hr) (o_eqT0 hr))
theorem o_ne (hS : SysB X.base) {k : Nat} (hr : Room k X.A) : OpR X (compareOp .NotEq) (zNe X.K) := opr_or op_ne (o_neD hS hr)
theorem o_lt : OpR X (compareOp .Lt) zLt := opr_or op_lt op_lt_str
theorem o_le : OpR X (compareOp .LtE) zLe := opr_or op_le op_le_str
theorem o_gt : OpR X (compareOp .Gt) zGt := opr_or op_gt op_gt_str
theorem o_ge : OpR X (compareOp .GtE) zGe := opr_or op_ge op_ge_str
theorem o_isN : OpR X (compareOp .Is) (zIs false) := op_isN
theorem o_notN : OpR X (compareOp .IsNot) (zIs true) := op_notN
theorem KD.kdict {K : PySem.W.Frag} {w : World} {a : Addr} {f : Str → Option V} (D : KD K w a f) : ∃ es n, KDict K w a es n := by
  obtain ⟨es, n, h1, h2⟩ := D.ex
  exact ⟨es, n, ⟨h1, h2, D.low⟩⟩
theorem o_in {k : Nat} (hr : Room k X.A) : OpR X (compareOp .In) (zIn X.K X.w false) := by
  refine opr_or op_in_seq (opr_or op_in_sign (opr_or ?_ ?_))
  · rintro pins s σ H x y v u Q I rx ry ⟨a, o, rfl, g, q⟩
    cases ry
    exact d_in (hu_of hr) I g rx fun s' I' => ⟨.bl o.isSome, H, I', rfl, q⟩
  · rintro pins s σ H x y v u Q I rx ry ⟨a, f, z, rfl, rfl, D, q⟩
    obtain ⟨es, n, kd⟩ := D.kdict
    have e : ∃ r, PySem.W.nsIn X.K a z = some r ∧ r.isSome = (f z).isSome := by
      cases h : f z with
      | none => exact ⟨none, D.no z h, rfl⟩
      | some v0 =>
        obtain ⟨u0, e1, _⟩ := D.has z v0 h
        exact ⟨some u0, e1, rfl⟩
    obtain ⟨r, e1, e2⟩ := e
    refine op_in_kd kd pins s σ H _ _ v u Q I rx ry ⟨z, r, rfl, rfl, e1, ?_⟩
    rw [e2]; exact q
theorem o_notIn {k : Nat} (hr : Room k X.A) : OpR X (compareOp .NotIn) (zIn X.K X.w true) := by
  refine opr_or op_notIn_seq (opr_or op_notIn_sign (opr_or ?_ ?_))
  · rintro pins s σ H x y v u Q I rx ry ⟨a, o, rfl, g, q⟩
    cases ry
    exact d_notIn (hu_of hr) I g rx fun s' I' => ⟨.bl (!o.isSome), H, I', rfl, q⟩
  · rintro pins s σ H x y v u Q I rx ry ⟨a, f, z, rfl, rfl, D, q⟩
    obtain ⟨es, n, kd⟩ := D.kdict
    have e : ∃ r, PySem.W.nsIn X.K a z = some r ∧ r.isSome = (f z).isSome := by
      cases h : f z with
      | none => exact ⟨none, D.no z h, rfl⟩
      | some v0 =>
        obtain ⟨u0, e1, _⟩ := D.has z v0 h
        exact ⟨some u0, e1, rfl⟩
    obtain ⟨r, e1, e2⟩ := e
    refine op_notIn_kd kd pins s σ H _ _ v u Q I rx ry ⟨z, r, rfl, rfl, e1, ?_⟩
    rw [e2]; exact q
def zIx (K : PySem.W.Frag) (w : World) : R2 := fun x y H Q => rIx K x y H Q ∨ (∃ a v, x = .ref a ∧ DGet H a y (some v) ∧ Q v H) ∨ ∃ a f z v, x = .ref a ∧ y = .str z ∧ KD K w a f ∧ f z = some v ∧ Q v H
theorem o_ix {k : Nat} (hr : Room k X.A) : IxR X (zIx X.K X.w) := by
  refine (ix_list.or (ix_tup.or ix_str)).or (IxR.or ?_ ?_)
  · rintro value slice pins s σ H x y v u Q I rx ry ⟨a, v0, rfl, g, q⟩ hs
    cases rx
    exact tail_any (dict_typeIs I g) slot_dict_getitem.lookup (d_getItem (hu_of hr) I g ry fun w' s' I' rw' => ⟨v0, H, I', rw', q⟩) hs
  · rintro value slice pins s σ H x y v u Q I rx ry ⟨a, f, z, v0, rfl, rfl, D, hf, q⟩ hs
    obtain ⟨es, n, h1, h2⟩ := D.ex
    obtain ⟨u0, e1, r0⟩ := D.has z v0 hf
    exact ix_kdict value slice pins s σ H _ _ v u Q I rx ry ⟨a, z, v0, rfl, rfl, ⟨es, n, u0, h1, h2, e1, r0⟩, q⟩ hs
def zLen (K : PySem.W.Frag) : List V → Hp → VK → Prop := fun xs H Q => (∃ x n, xs = [x] ∧ LenV K x H n ∧ Q (.int n) H) ∨ ∃ a kvs, xs = [.ref a] ∧ H a = some (.dK kvs) ∧ Q (.int kvs.length) H
theorem callr_or {f : Value} {r r' : List V → Hp → VK → Prop} (h : CallR X f r) (h' : CallR X f r') : CallR X f fun xs H Q => r xs H Q ∨ r' xs H Q := by
  rintro pins s σ H xs us Q I rx (q | q)
  · exact h pins s σ H xs us Q I rx q
  · exact h' pins s σ H xs us Q I rx q
theorem o_len : CallR X (.builtin "len") (zLen X.K) := callr_or call_len call_lenD
def zSl (K : PySem.W.Frag) : V → Option Int → Option Int → Hp → VK → Prop := fun x lo hi H Q => rSlL K x lo hi H Q ∨ rSlA K x lo hi H Q ∨ rSlS x lo hi H Q
theorem slr_or {r r' : V → Option Int → Option Int → Hp → VK → Prop} (h : SlR X r) (h' : SlR X r') : SlR X fun x lo hi H Q => r x lo hi H Q ∨ r' x lo hi H Q := by
  rintro pins s σ H x v vl vu lo hi sl Q I rx hs pl pu (q | q)
  · exact h pins s σ H x v vl vu lo hi sl Q I rx hs pl pu q
  · exact h' pins s σ H x v vl vu lo hi sl Q I rx hs pl pu q
theorem o_sl : SlR X (zSl X.K) := slr_or sl_list (slr_or sl_tupA sl_str)
end
/-! ### the same, apart -/
section
variable {K : PySem.W.Frag} {w : World} {σ : L2.St} {H : Hp} {Q : VK} {x y : V} {a b : Int} {s t : Str} {p q : Addr} {xs ys : List V}
theorem kAdd_I (k : Q (.int (a + b)) H) : zAdd K (.int a) (.int b) H Q := .inl (k_I0 k)
theorem kAdd_S (h : s.length + t.length ≤ 1000000) (k : Q (.str (s ++ t)) H) : zAdd K (.str s) (.str t) H Q := .inr (.inl ⟨s, t, rfl, rfl, small_le h, k⟩)
theorem kAdd_L (h1 : H p = some (.lst xs)) (h2 : H q = some (.lst ys)) (hl : xs.length + ys.length ≤ 1000000)
    (k : ∀ r H2, H r = none → L2.Same H H2 → H2 r = some (.lst (xs ++ ys)) → H2 = upd H r (.lst (xs ++ ys)) → Q (.ref r) H2) : zAdd K (.ref p) (.ref q) H Q :=
  .inr (.inr (.inl ⟨p, q, xs, ys, rfl, rfl, h1, h2, small_le hl, newO k⟩))
theorem kSub_I (k : Q (.int (a - b)) H) : zSub (.int a) (.int b) H Q := k_I0 k
theorem kMul_I (c : CMul a b) (k : Q (.int (a * b)) H) : zMul (.int a) (.int b) H Q := .inl (k_I c k)
theorem kMul_L (h1 : H p = some (.lst xs)) (h0 : 0 ≤ b) (h2 : b ≤ 1000) (hl : xs.length * b.toNat ≤ 1000000)
    (k : ∀ r H2, H r = none → L2.Same H H2 → H2 r = some (.lst (List.replicate b.toNat xs).flatten) → H2 = upd H r (.lst (List.replicate b.toNat xs).flatten) → Q (.ref r) H2) : zMul (.ref p) (.int b) H Q := by
  refine .inr ⟨p, b, xs, rfl, rfl, h1, by omega, by omega, small_le hl, ?_⟩
  exact newO k
theorem kMod_I (c : 0 < b) (k : Q (.int (a % b)) H) : zMod (.int a) (.int b) H Q := k_I c k
theorem kDiv_I (c : 0 < b) (c2 : b < 1073741824) (k : Q (.int (a / b)) H) : zDiv (.int a) (.int b) H Q := by
  refine k_I ⟨by omega, by omega⟩ ?_
  rw [Int.fdiv_eq_ediv_of_nonneg a (by omega)]
  exact k
theorem kPow_I (c : 0 ≤ b) (c2 : b ≤ 1000) (c3 : -(2 ^ 60) < a) (c4 : a < 2 ^ 60) (k : Q (.int (a ^ b.toNat)) H) : zPow (.int a) (.int b) H Q := k_I ⟨c, by omega, by omega⟩ k
theorem kEq_I (k : Q (.bl (decide (a = b))) H) : zEq K (.int a) (.int b) H Q := .inl (k_eqI k)
theorem kEq_S (k : Q (.bl (decide (s = t))) H) : zEq K (.str s) (.str t) H Q := .inl (k_eqS k)
theorem kEq_X (h : scal x y = true) (k : Q (.bl (decide (x = y))) H) : zEq K x y H Q := .inl (k_eqX h k)
theorem kEq_D {d e : PyData} (h1 : Rp K H x d) (h2 : Rp K H y e) (h3 : SeqAt.shaped d = true) (h4 : SeqAt.shaped e = true) (k : Q (.bl (PyData.eqv d e)) H) : zEq K x y H Q := .inr (.inl ⟨d, e, h1, h2, h3, h4, by rw [if_neg Bool.false_ne_true]; exact k⟩)
theorem kEq_T0 (h1 : SqT K H p xs) (h2 : SqT K H q []) (k : Q (.bl xs.isEmpty) H) : zEq K (.ref p) (.ref q) H Q := .inr (.inr ⟨p, q, xs, rfl, rfl, h1, h2, k⟩)
theorem kNe_I (k : Q (.bl (!decide (a = b))) H) : zNe K (.int a) (.int b) H Q := .inl (k_neI k)
theorem kNe_S (k : Q (.bl (!decide (s = t))) H) : zNe K (.str s) (.str t) H Q := .inl (k_neS k)
theorem kNe_X (h : scal x y = true) (k : Q (.bl (!decide (x = y))) H) : zNe K x y H Q := .inl (k_neX h k)
theorem kNe_D {d e : PyData} (h1 : Rp K H x d) (h2 : Rp K H y e) (h3 : SeqAt.shaped d = true) (h4 : SeqAt.shaped e = true) (k : Q (.bl (!PyData.eqv d e)) H) : zNe K x y H Q := .inr ⟨d, e, h1, h2, h3, h4, by rw [if_pos rfl]; exact k⟩
theorem kLt_I (k : Q (.bl (decide (a < b))) H) : zLt (.int a) (.int b) H Q := .inl (k_I0 k)
theorem kLt_S (k : Q (.bl (decide (s.cps.toList < t.cps.toList))) H) : zLt (.str s) (.str t) H Q := .inr ⟨s, t, rfl, rfl, k⟩
theorem kLe_I (k : Q (.bl (decide (a ≤ b))) H) : zLe (.int a) (.int b) H Q := .inl (k_I0 k)
theorem kLe_S (k : Q (.bl (!decide (t.cps.toList < s.cps.toList))) H) : zLe (.str s) (.str t) H Q := .inr ⟨s, t, rfl, rfl, k⟩
theorem kGt_I (k : Q (.bl (decide (b < a))) H) : zGt (.int a) (.int b) H Q := .inl (k_I0 k)
theorem kGt_S (k : Q (.bl (decide (t.cps.toList < s.cps.toList))) H) : zGt (.str s) (.str t) H Q := .inr ⟨s, t, rfl, rfl, k⟩
theorem kGe_I (k : Q (.bl (decide (b ≤ a))) H) : zGe (.int a) (.int b) H Q := .inl (k_I0 k)
theorem kGe_S (k : Q (.bl (!decide (s.cps.toList < t.cps.toList))) H) : zGe (.str s) (.str t) H Q := .inr ⟨s, t, rfl, rfl, k⟩
/-- x in a list of flat things -/
theorem kIn_L (h : SqL K H q ys) (h1 : flatV x = true) (h2 : ys.all flatV = true) (k : Q (.bl (inV x ys)) H) : zIn K w false x (.ref q) H Q := .inl ⟨q, ys, rfl, .inl h, h1, h2, k⟩
theorem kIn_T (h : SqT K H q ys) (h1 : flatV x = true) (h2 : ys.all flatV = true) (k : Q (.bl (inV x ys)) H) : zIn K w false x (.ref q) H Q := .inl ⟨q, ys, rfl, .inr h, h1, h2, k⟩
theorem kNin_L (h : SqL K H q ys) (h1 : flatV x = true) (h2 : ys.all flatV = true) (k : Q (.bl (!inV x ys)) H) : zIn K w true x (.ref q) H Q := .inl ⟨q, ys, rfl, .inl h, h1, h2, k⟩
theorem kNin_T (h : SqT K H q ys) (h1 : flatV x = true) (h2 : ys.all flatV = true) (k : Q (.bl (!inV x ys)) H) : zIn K w true x (.ref q) H Q := .inl ⟨q, ys, rfl, .inr h, h1, h2, k⟩
theorem kIn_C {c : Nat} (k : Q (.bl (decide (c ∈ s.cps.toList))) H) : zIn K w false (.str ⟨#[c]⟩) (.str s) H Q := .inr (.inl ⟨c, s, rfl, rfl, k⟩)
theorem kNin_C {c : Nat} (k : Q (.bl (!decide (c ∈ s.cps.toList))) H) : zIn K w true (.str ⟨#[c]⟩) (.str s) H Q := .inr (.inl ⟨c, s, rfl, rfl, k⟩)
theorem kIn_D {kvs : List (Key × V)} {z : Key} (h : H q = some (.dK kvs)) (k : Q (.bl (valV kvs z).isSome) H) : zIn K w false (kV z) (.ref q) H Q := .inr (.inr (.inl ⟨q, _, rfl, DGet.k h, k⟩))
theorem kNin_D {kvs : List (Key × V)} {z : Key} (h : H q = some (.dK kvs)) (k : Q (.bl (!(valV kvs z).isSome)) H) : zIn K w true (kV z) (.ref q) H Q := .inr (.inr (.inl ⟨q, _, rfl, DGet.k h, k⟩))
theorem kIn_K {f : Str → Option V} (h : KD K w q f) (k : Q (.bl (f s).isSome) H) : zIn K w false (.str s) (.ref q) H Q := .inr (.inr (.inr ⟨q, f, s, rfl, rfl, h, k⟩))
theorem kNin_K {f : Str → Option V} (h : KD K w q f) (k : Q (.bl (!(f s).isSome)) H) : zIn K w true (.str s) (.ref q) H Q := .inr (.inr (.inr ⟨q, f, s, rfl, rfl, h, k⟩))
theorem kIs_N (k : Q (.bl (decide (x = .non))) H) : zIs false x .non H Q := ⟨rfl, k⟩
theorem kNis_N (k : Q (.bl (!decide (x = .non))) H) : zIs true x .non H Q := ⟨rfl, k⟩
theorem kIx_L (h : SqL K H p xs) (h0 : 0 ≤ a) (h1 : a < (xs.length : Int)) (k : ∀ v, xs[a.toNat]? = some v → Q v H) : zIx K w (.ref p) (.int a) H Q := .inl (.inl (k_ixL h h0 h1 k))
theorem kIx_T (h : SqT K H p xs) (h0 : 0 ≤ a) (h1 : a < (xs.length : Int)) (k : ∀ v, xs[a.toNat]? = some v → Q v H) : zIx K w (.ref p) (.int a) H Q := .inl (.inr (.inl (k_ixT h h0 h1 k)))
theorem kIx_S (hl : s.length ≤ 100000) (h0 : 0 ≤ a) (h1 : a < (s.length : Int)) (k : ∀ c, s.cps.toList[a.toNat]? = some c → Q (.str ⟨#[c]⟩) H) : zIx K w (.str s) (.int a) H Q := .inl (.inr (.inr (k_ixS hl h0 h1 k)))
theorem kIx_D {kvs : List (Key × V)} {z : Key} {v : V} (h : H q = some (.dK kvs)) (e : valV kvs z = some v) (k : Q v H) : zIx K w (.ref q) (kV z) H Q := .inr (.inl ⟨q, v, rfl, by rw [← e]; exact DGet.k h, k⟩)
theorem kIx_K {f : Str → Option V} {v : V} (h : KD K w q f) (e : f s = some v) (k : Q v H) : zIx K w (.ref q) (.str s) H Q := .inr (.inr ⟨q, f, s, v, rfl, rfl, h, e, k⟩)
theorem kLen_S (h : s.length ≤ 1000000) (k : Q (.int s.length) H) : zLen K [.str s] H Q := .inl ⟨_, _, rfl, ⟨small_le h, rfl⟩, k⟩
theorem kLen_L (h : SqL K H p xs) (k : Q (.int xs.length) H) : zLen K [.ref p] H Q := .inl ⟨_, _, rfl, .inl ⟨xs, h, rfl⟩, k⟩
theorem kLen_T (h : SqT K H p xs) (k : Q (.int xs.length) H) : zLen K [.ref p] H Q := .inl ⟨_, _, rfl, .inr ⟨xs, h, rfl⟩, k⟩
theorem kLen_D {kvs : List (Key × V)} (h : H p = some (.dK kvs)) (k : Q (.int kvs.length) H) : zLen K [.ref p] H Q := .inr ⟨p, kvs, rfl, h, k⟩
/-- a part of a list, of a tuple but its first item, of a text -/
theorem kSl_L {lo hi : Option Int} (h : SqL K H p xs) (k : ∀ r H2, H r = none → L2.Same H H2 → H2 r = some (.lst (cutV xs lo hi)) → H2 = upd H r (.lst (cutV xs lo hi)) → Q (.ref r) H2) : zSl K (.ref p) lo hi H Q := .inl ⟨p, xs, rfl, h, newO k⟩
theorem kSl_T1 (h : SqT K H p (x :: xs)) (k : ∀ r H2, H r = none → L2.Same H H2 → H2 r = some (.tup xs) → Q (.ref r) H2) : zSl K (.ref p) (some 1) none H Q := by
  refine .inr (.inl ⟨p, x :: xs, rfl, h, ?_, ?_⟩)
  · rintro ⟨h1, _⟩
    simp [HT.sIx] at h1
  · intro _ r hr
    have e : cutV (x :: xs) (some 1) none = xs := by simp [cutV, HT.sIx]
    rw [e]
    exact k r _ hr (Same.new hr) upd_same
theorem kSl_S {lo hi : Option Int} (hl : s.length ≤ 1000000) (k : Q (.str (cutS s lo hi)) H) : zSl K (.str s) lo hi H Q := .inr (.inr ⟨s, rfl, small_le hl, k⟩)
end
end Z

/-! Z6: match over texts; comprehensions over zip and over texts. -/
namespace Z
open PySem PySem.Spec PyProof.Rows L2 RZ

/-! ### match, the subject a text -/
structure PM (X : Cx) (cs : List MatchCase) (t : Str → TS) : Prop where
  run : ∀ (first : Bool) (pins : List (Addr × Obj)) (s : Shared) (σ : L2.St) (H : Hp) (D : Ends) (z : Str) (tk : Tok), Inv X pins σ H s → t z D σ H →
    wpAny (model X.prog X.w) X.A (matchCases cs X.env (.str z tk) first) (SP X pins D) X.xe s
def tMatch (te : TE) (tm : Str → TS) : TS := fun D σ H => te σ H fun v H1 => ∃ z, v = .str z ∧ tm z D σ H1
def tmNil : Str → TS := fun _ D σ H => D.nx σ H
def tmVal (c : Str) (t : TS) (r : Str → TS) : Str → TS := fun z D σ H => if decide (z = c) = true then t D σ H else r z D σ H
def tmAny (t : TS) : Str → TS := fun _ => t
section
variable {X : Cx}
theorem pm_nil : PM X [] tmNil := ⟨fun _ _ _ σ H _ _ _ I h => wpAny_matchCases_nil ⟨σ, H, I, h⟩⟩
theorem pm_val {c : Str} {j : Nat} {p1 p2 : Pos} {b : List Stmt} {r : List MatchCase} {t : TS} {tr : Str → TS} (hb : PSs X b t) (hr : PM X r tr) :
    PM X (⟨.MatchValue (.Constant (.str c) j p1) p2, none, b⟩ :: r) (tmVal c t tr) := by
  constructor
  intro first pins s σ H D z tk I h
  refine wpAny_matchCases_cons (wpAny_matchPattern_Value ?_)
  refine thn (pe_str.run pins s σ H (fun v H' => v = .str c ∧ H' = H) I ⟨rfl, rfl⟩) ?_
  rintro u s1 ⟨v, H1, I1, r1, rfl, rfl⟩
  refine thn (op_eq pins s1 σ H1 (.str z) (.str c) (.str z tk) u (fun v H' => v = .bl (decide (V.str z = V.str c)) ∧ H' = H1) I1 ⟨tk, rfl⟩ r1 ⟨rfl, rfl, rfl⟩) ?_
  rintro w s2 ⟨v, H2, I2, r2, rfl, rfl⟩
  have e : decide (V.str z = V.str c) = decide (z = c) := by by_cases h : z = c <;> simp [h]
  rw [e] at r2
  cases r2
  refine wpAny_truthy_bool ?_
  change if decide (z = c) = true then t D σ H2 else tr z D σ H2 at h
  cases hd : decide (z = c) with
  | true =>
    rw [hd, if_pos rfl] at h
    rw [if_pos rfl]
    exact assignInOrder_nil (hb.run pins s2 σ H2 D I2 h)
  | false =>
    rw [hd, if_neg Bool.false_ne_true] at h
    rw [if_neg Bool.false_ne_true]
    exact hr.run false pins s2 σ H2 D z tk I2 h
theorem pm_any {p2 : Pos} {b : List Stmt} {r : List MatchCase} {t : TS} (hb : PSs X b t) : PM X (⟨.MatchAs none none p2, none, b⟩ :: r) (tmAny t) := by
  constructor
  intro first pins s σ H D z tk I h
  refine wpAny_matchCases_cons (wpAny_matchPattern_Capture ?_)
  exact assignInOrder_nil (hb.run pins s σ H D I h)
theorem ps_match {e : Expr} {te : TE} {cs : List MatchCase} {tm : Str → TS} {pos : Pos} (he : PE X e te) (hc : PM X cs tm) : PS X (.Match e cs pos) (tMatch te tm) := by
  constructor
  intro pins s σ H D I h
  refine wpAny_Match (thn (he.run pins s σ H _ I h) ?_)
  rintro u s1 ⟨v, H1, I1, r1, z, rfl, q⟩
  obtain ⟨tk, rfl⟩ := r1
  exact hc.run true pins s1 σ H1 D z tk I1 q
end
section
variable {σ : L2.St} {H : Hp} {n b c : L2.St → Hp → Prop} {r : VK} {te : TE} {t : TS} {tm tr : Str → TS} {z c0 : Str}
theorem g_match (k : te σ H fun v H1 => ∃ z, v = .str z ∧ tm z ⟨n, r, b, c⟩ σ H1) : tMatch te tm ⟨n, r, b, c⟩ σ H := k
theorem k_str {R : Str → Prop} (k : R z) : ∃ y, V.str z = .str y ∧ R y := ⟨z, rfl, k⟩
theorem g_mval (k : if decide (z = c0) = true then t ⟨n, r, b, c⟩ σ H else tr z ⟨n, r, b, c⟩ σ H) : tmVal c0 t tr z ⟨n, r, b, c⟩ σ H := k
theorem g_many (k : t ⟨n, r, b, c⟩ σ H) : tmAny t z ⟨n, r, b, c⟩ σ H := k
theorem g_mnil (k : n σ H) : tmNil z ⟨n, r, b, c⟩ σ H := k
end

/-! ### tests hidden from the list -/
theorem pts_fr {X : Cx} {ifs : List Expr} {t : TT} (h : PTs X ifs t) : PTs X ifs (tFrT t) := by
  constructor
  intro pins s σ H Q I q
  obtain ⟨D, o, e1, hd, q⟩ := q
  obtain ⟨ob, J, back⟩ := hide I e1 hd
  refine thn (h.run _ s σ _ _ J q) ?_
  rintro u s' ⟨H', J', k⟩
  obtain ⟨n, I'⟩ := back _ _ _ J'
  exact ⟨_, I', k n⟩

section
variable {te : TE} {tt : TT} {σ : L2.St} {H1 : Hp} {Q : VK} {j l : Nat}
theorem lcF_str {z : Str} (Pv : Nat → List V → Hp → Prop) (h0 : Pv 0 [] H1) (hn : z.cps.size ≤ 1000000)
    (hs : ∀ i c acc H, z.cps.toList[i]? = some c → acc.length ≤ i → Pv i acc H → Turn tt te σ j (.str ⟨#[c]⟩) acc H (Pv (i + 1)))
    (hd : ∀ acc H D, acc.length ≤ z.cps.size → Pv z.cps.size acc H → H D = none → Q (.ref D) (upd H D (.lst acc))) :
    ∀ D, H1 D = none → ∃ W : Nat → Nat → Hp → Prop, (∃ m, W 0 m (upd H1 D (.lst []))) ∧ ∀ i m H, W i m H →
      ((Its z).stop i H ∧ Q (.ref D) H) ∨ ((Its z).go i H ∧ ∃ Nx : Hp → Prop, (∀ H', Nx H' → ∃ m', m' < m ∧ W (i + 1) m' H') ∧
        ∀ x H', (Its z).yld i H x H' → gName j x (wipe σ [j]) H' fun σ2 H2 => wipe σ2 [j] = wipe σ [j] ∧ tFrT tt σ2 H2 fun b H3 =>
          if b = true then tFr te σ2 H3 fun y H4 => ∃ acc, H4 D = some (.lst acc) ∧ acc.length < sizeLine ∧ Nx (upd H4 D (.lst (acc ++ [y]))) else Nx H3) := by
  intro D hD
  refine ⟨fun i m H => m = z.cps.size - i ∧ i ≤ z.cps.size ∧ ∃ acc G, H = upd G D (.lst acc) ∧ G D = none ∧ acc.length ≤ i ∧ Pv i acc G, ⟨_, rfl, Nat.zero_le _, [], H1, rfl, hD, Nat.le_refl _, h0⟩, ?_⟩
  rintro i m H ⟨rfl, hi, acc, G, rfl, hG, hl, p⟩
  by_cases h : i < z.cps.size
  · refine .inr ⟨h, fun H' => i + 1 ≤ z.cps.size ∧ ∃ acc G, H' = upd G D (.lst acc) ∧ G D = none ∧ acc.length ≤ i + 1 ∧ Pv (i + 1) acc G, ?_, ?_⟩
    · rintro H' ⟨hi', q⟩
      exact ⟨z.cps.size - (i + 1), by omega, rfl, hi', q⟩
    · rintro x H' ⟨rfl, c, hc, rfl⟩
      have hc' : z.cps.toList[i]? = some c := by rw [Array.getElem?_toList]; exact hc
      exact turn_core hG (small_lt (by omega)) (hs i c acc G hc' hl p) fun acc' G' p' hl' hD' => ⟨by omega, acc', G', rfl, hD', by omega, p'⟩
  · have e : i = z.cps.size := by omega
    subst e
    exact .inl ⟨Nat.le_refl _, hd acc G D hl p hG⟩

/-- one turn with x, y at the comprehension's two names -/
def Turn2 (tt : TT) (te : TE) (σ : L2.St) (j l : Nat) (x y : V) (acc : List V) (G : Hp) (N : List V → Hp → Prop) : Prop :=
  ∀ R : Bool → Hp → Prop, (∀ b G3, (if b = true then ∀ R2 : VK, (∀ y G4, N (acc ++ [y]) G4 → R2 y G4) → te ((σ.set j (some x)).set l (some y)) G3 R2 else N acc G3) → R b G3) →
    tt ((σ.set j (some x)).set l (some y)) G R
theorem turn2_yes {te : TE} {σ : L2.St} {x y : V} {acc : List V} {G : Hp} {N : List V → Hp → Prop}
    (h : ∀ R2 : VK, (∀ y G4, N (acc ++ [y]) G4 → R2 y G4) → te ((σ.set j (some x)).set l (some y)) G R2) : Turn2 tYes te σ j l x y acc G N := by
  intro R hR
  refine hR true G ?_
  rw [if_pos rfl]
  exact h
theorem wipe_two (σ : L2.St) (hjl : j ≠ l) (x y : Option V) : ((wipe σ [j, l]).set j x).set l y = (σ.set j x).set l y := by
  show (((σ.set l none).set j none).set j x).set l y = _
  rw [List.set_set, List.set_comm _ _ hjl.symm, List.set_set]
theorem wipe_two' (σ : L2.St) (hjl : j ≠ l) (x y : Option V) : wipe ((σ.set j x).set l y) [j, l] = wipe σ [j, l] := by
  show ((((σ.set j x).set l y).set l none).set j none) = (σ.set l none).set j none
  rw [List.set_set, List.set_comm _ _ hjl, List.set_set]
theorem turn_core2 {K : PySem.W.Frag} {D T : Addr} {G : Hp} {acc : List V} {x y : V} {N : List V → Hp → Prop} {Nx : Hp → Prop} (hjl : j ≠ l) (hD : G D = none) (hT : upd G D (.lst acc) T = none) (hl : acc.length < sizeLine)
    (h : Turn2 tt te σ j l x y acc (upd G T (.tup [x, y])) N) (k : ∀ acc' G', N acc' G' → acc'.length ≤ acc.length + 1 → G' D = none → Nx (upd G' D (.lst acc'))) :
    gTup K 2 (gCons (gName j) (gCons (gName l) gNil)) (.ref T) (wipe σ [j, l]) (upd (upd G D (.lst acc)) T (.tup [x, y])) fun σ2 H2 => wipe σ2 [j, l] = wipe σ [j, l] ∧ tFrT tt σ2 H2 fun b H3 =>
      if b = true then tFr te σ2 H3 fun y H4 => ∃ acc, H4 D = some (.lst acc) ∧ acc.length < sizeLine ∧ Nx (upd H4 D (.lst (acc ++ [y]))) else Nx H3 := by
  have ne : D ≠ T := by rintro rfl; rw [upd_same] at hT; cases hT
  have e : upd (upd G D (.lst acc)) T (.tup [x, y]) = upd (upd G T (.tup [x, y])) D (.lst acc) := by
    funext b
    unfold upd
    by_cases h1 : b = D
    · rw [if_neg (by rw [h1]; exact ne), if_pos h1, if_pos h1]
    · rw [if_neg h1, if_neg h1]
  refine ⟨T, [x, y], rfl, .inl (.inl upd_same), rfl, x, [y], rfl, y, [], rfl, rfl, ?_⟩
  rw [wipe_two σ hjl, e]
  have hD' : upd G T (.tup [x, y]) D = none := by rw [upd_ne ne]; exact hD
  refine ⟨wipe_two' σ hjl _ _, D, _, upd_same, trivial, ?_⟩
  rw [del_upd hD']
  refine h _ ?_
  intro b G3 hb n3
  cases b with
  | false =>
    rw [if_neg Bool.false_ne_true] at hb ⊢
    exact k _ _ hb (Nat.le_succ _) n3
  | true =>
    rw [if_pos rfl] at hb ⊢
    refine ⟨D, _, upd_same, trivial, ?_⟩
    rw [del_upd n3]
    refine hb _ ?_
    intro y G4 hN n4
    refine ⟨acc, upd_same, hl, ?_⟩
    rw [upd_upd]
    exact k _ _ hN (by rw [List.length_append]; exact Nat.le_refl _) n4
theorem liftT {K : PySem.W.Frag} {G : Hp} {D a : Addr} {acc xs : List V} (hG : G D = none) (h : SqT K G a xs) : SqT K (upd G D (.lst acc)) a xs := Same.seqT (Same.new hG) h
theorem liftL {K : PySem.W.Frag} {G : Hp} {D a : Addr} {acc xs : List V} (hG : G D = none) (h : SqL K G a xs) : SqL K (upd G D (.lst acc)) a xs := L2.Same.seq (Same.new hG) h
/-- [.. for x, y in zip(t, u)], t and u tuples -/
theorem lcF_zipT {K : PySem.W.Frag} {a b : Addr} {xs ys : List V} (hjl : j ≠ l) (Pv : Nat → List V → Hp → Prop) (h0 : Pv 0 [] H1) (hlen : xs.length = ys.length) (hn : xs.length ≤ 1000000)
    (hl : ∀ i acc H, Pv i acc H → SqT K H a xs ∧ SqT K H b ys)
    (hs : ∀ i x y acc H H', xs[i]? = some x → ys[i]? = some y → acc.length ≤ i → Pv i acc H → L2.Same H H' → Turn2 tt te σ j l x y acc H' (Pv (i + 1)))
    (hd : ∀ acc H D, acc.length ≤ xs.length → Pv xs.length acc H → H D = none → Q (.ref D) (upd H D (.lst acc))) :
    ∀ D, H1 D = none → ∃ W : Nat → Nat → Hp → Prop, (∃ m, W 0 m (upd H1 D (.lst []))) ∧ ∀ i m H, W i m H →
      ((ItzT K a b).stop i H ∧ Q (.ref D) H) ∨ ((ItzT K a b).go i H ∧ ∃ Nx : Hp → Prop, (∀ H', Nx H' → ∃ m', m' < m ∧ W (i + 1) m' H') ∧
        ∀ x H', (ItzT K a b).yld i H x H' → gTup K 2 (gCons (gName j) (gCons (gName l) gNil)) x (wipe σ [j, l]) H' fun σ2 H2 => wipe σ2 [j, l] = wipe σ [j, l] ∧ tFrT tt σ2 H2 fun b H3 =>
          if b = true then tFr te σ2 H3 fun y H4 => ∃ acc, H4 D = some (.lst acc) ∧ acc.length < sizeLine ∧ Nx (upd H4 D (.lst (acc ++ [y]))) else Nx H3) := by
  intro D hD
  refine ⟨fun i m H => m = xs.length - i ∧ i ≤ xs.length ∧ ∃ acc G, H = upd G D (.lst acc) ∧ G D = none ∧ acc.length ≤ i ∧ Pv i acc G, ⟨_, rfl, Nat.zero_le _, [], H1, rfl, hD, Nat.le_refl _, h0⟩, ?_⟩
  rintro i m H ⟨rfl, hi, acc, G, rfl, hG, hac, p⟩
  obtain ⟨ha, hb⟩ := hl i acc G p
  have ha' := liftT (acc := acc) hG ha
  have hb' := liftT (acc := acc) hG hb
  by_cases h : i < xs.length
  · have hy : i < ys.length := by omega
    refine .inr ⟨⟨xs, ys, xs[i], ys[i], ha', hb', List.getElem?_eq_getElem h, List.getElem?_eq_getElem hy⟩, fun H' => i + 1 ≤ xs.length ∧ ∃ acc G, H' = upd G D (.lst acc) ∧ G D = none ∧ acc.length ≤ i + 1 ∧ Pv (i + 1) acc G, ?_, ?_⟩
    · rintro H' ⟨hi', q⟩
      exact ⟨xs.length - (i + 1), by omega, rfl, hi', q⟩
    · rintro v H' ⟨T, x, y, rfl, hT, rfl, hx, hyy⟩
      have hGT : G T = none := by
        by_cases e : T = D
        · rw [e, upd_same] at hT; cases hT
        · rw [upd_ne e] at hT; exact hT
      exact turn_core2 hjl hG hT (small_lt (by omega)) (hs i x y acc G _ (hx xs ha') (hyy ys hb') hac p (Same.new hGT)) fun acc' G' p' hl' hD' => ⟨by omega, acc', G', rfl, hD', by omega, p'⟩
  · have e : i = xs.length := by omega
    subst e
    exact .inl ⟨⟨xs, ys, ha', hb', .inl (Nat.le_refl _)⟩, hd acc G D hac p hG⟩
end
end Z

/-! Z7: displays, built-ins by name. -/
namespace Z
open PySem PySem.Spec PyProof.Rows L2 RZ

theorem bt_len : bootBuiltins "len" = some (.builtin "len") := by decide +kernel
theorem bt_isinstance : bootBuiltins "isinstance" = some (.builtin "isinstance") := by decide +kernel
theorem bt_repr : bootBuiltins "repr" = some (.builtin "repr") := by decide +kernel
theorem bt_all : bootBuiltins "all" = some (.builtin "all") := by decide +kernel
theorem bt_any : bootBuiltins "any" = some (.builtin "any") := by decide +kernel
theorem bt_abs : bootBuiltins "abs" = some (.builtin "abs") := by decide +kernel
theorem bt_divmod : bootBuiltins "divmod" = some (.builtin "divmod") := by decide +kernel
theorem bt_sum : bootBuiltins "sum" = some (.builtin "sum") := by decide +kernel
theorem bt_max : bootBuiltins "max" = some (.builtin "max") := by decide +kernel
theorem bt_min : bootBuiltins "min" = some (.builtin "min") := by decide +kernel
theorem bt_sorted : bootBuiltins "sorted" = some (.builtin "sorted") := by decide +kernel
theorem bt_list : bootBuiltins "list" = some (.type "list") := by decide +kernel
theorem bt_tuple : bootBuiltins "tuple" = some (.type "tuple") := by decide +kernel
theorem bt_str : bootBuiltins "str" = some (.type "str") := by decide +kernel
theorem bt_int : bootBuiltins "int" = some (.type "int") := by decide +kernel
theorem bt_bool : bootBuiltins "bool" = some (.type "bool") := by decide +kernel
theorem bt_dict : bootBuiltins "dict" = some (.type "dict") := by decide +kernel
theorem bt_set : bootBuiltins "set" = some (.type "set") := by decide +kernel

section
variable {X : Cx}
theorem pe_ls {es : List Expr} {t : TA} {pos : Pos} (h : PA X es t) : PE X (.List es pos) (tLs t) := by
  have b := pe_lst (pos := pos) h
  constructor
  intro pins s σ H Q I q
  refine wpAny_List_spliced (thn (h.run pos pins s σ H _ I q) ?_)
  rintro us s1 ⟨xs, H1, I1, r, z, q⟩
  refine ⟨by rw [← r.length]; exact z, ?_⟩
  have hf : H1 s1.heap.objs.size = none := I1.hok.fresh (Nat.le_refl _)
  have J : Inv X pins σ (upd H1 s1.heap.objs.size (.lst xs)) { s1 with heap := s1.heap.push { cls := .type "list", data := .seq us.toArray } } :=
    I1.laid (t' := s1.toks) (fun b u e => Heap.get?_push_of_some _ e) (Nat.le_refl _) ⟨z, us, 0, r, Heap.get?_push_size _ rfl⟩
  exact ⟨.ref s1.heap.objs.size, _, J, rfl, newO q _ hf⟩
theorem pe_tp {es : List Expr} {t : TA} {k : Nat} {pos : Pos} (h : PA X es t) : PE X (.Tuple es k pos) (tTp t) := by
  constructor
  intro pins s σ H Q I q
  refine wpAny_Tuple_spliced (thn (h.run pos pins s σ H _ I q) ?_)
  rintro us s1 ⟨xs, H1, I1, r, z, q⟩
  refine ⟨by rw [← r.length]; exact z, ?_⟩
  have hf : H1 s1.heap.objs.size = none := I1.hok.fresh (Nat.le_refl _)
  refine ⟨.ref s1.heap.objs.size, upd H1 s1.heap.objs.size (.tup xs), I1.laid (t' := s1.toks) (fun b u e => Heap.get?_push_of_some _ e) (Nat.le_refl _) ?_, rfl, newO q _ hf⟩
  exact ⟨z, us, r, ⟨_, Heap.get?_push_size _ rfl, rfl, _, rfl⟩⟩
def zList (K : PySem.W.Frag) : List V → Hp → VK → Prop := fun xs H Q => ∃ p ys, xs = [.ref p] ∧ (SqL K H p ys ∨ SqT K H p ys) ∧ ∀ l, H l = none → Q (.ref l) (upd H l (.lst ys))
def zTuple (K : PySem.W.Frag) : List V → Hp → VK → Prop := fun xs H Q => ∃ p ys, xs = [.ref p] ∧ ((SqL K H p ys ∧ ∀ l, H l = none → Q (.ref l) (upd H l (.tup ys))) ∨ (SqT K H p ys ∧ Q (.ref p) H))
theorem o_list : CallR X (.type "list") (zList X.K) := call_list_of
theorem o_tuple : CallR X (.type "tuple") (zTuple X.K) := call_tuple_of
end
section
variable {K : PySem.W.Frag} {w : World} {σ : L2.St} {H : Hp} {Q : VK} {x y : V} {a b : Int} {s t : Str} {p q : Addr} {xs ys : List V}
theorem kList_L (h : SqL K H p xs) (k : ∀ r H2, H r = none → L2.Same H H2 → H2 r = some (.lst xs) → H2 = upd H r (.lst xs) → Q (.ref r) H2) : zList K [.ref p] H Q := ⟨p, xs, rfl, .inl h, newO k⟩
theorem kList_T (h : SqT K H p xs) (k : ∀ r H2, H r = none → L2.Same H H2 → H2 r = some (.lst xs) → H2 = upd H r (.lst xs) → Q (.ref r) H2) : zList K [.ref p] H Q := ⟨p, xs, rfl, .inr h, newO k⟩
theorem kTuple_L (h : SqL K H p xs) (k : ∀ r H2, H r = none → L2.Same H H2 → H2 r = some (.tup xs) → H2 = upd H r (.tup xs) → Q (.ref r) H2) : zTuple K [.ref p] H Q := ⟨p, xs, rfl, .inl ⟨h, newO k⟩⟩
theorem kTuple_T (h : SqT K H p xs) (k : Q (.ref p) H) : zTuple K [.ref p] H Q := ⟨p, xs, rfl, .inr ⟨h, k⟩⟩
/-! isinstance -/
theorem kIsi {T : String} {b : Bool} {n : String} (ty : TyX K H x (.type n)) (h : kitB n T = some b) (k : Q (.bl b) H) : rIsi K [x, .ty T] H Q :=
  ⟨x, .ty T, .type n, .type T, b, rfl, .ty T, ty, kit_ty h, k⟩
theorem kIsi_non {T : String} {b : Bool} (h : kitB "NoneType" T = some b) (k : Q (.bl b) H) : rIsi K [.non, .ty T] H Q := kIsi (.base .non) h k
theorem kIsi_bl {T : String} {b c : Bool} (h : kitB "bool" T = some b) (k : Q (.bl b) H) : rIsi K [.bl c, .ty T] H Q := kIsi (.base (.bl c)) h k
theorem kIsi_int {T : String} {b : Bool} (h : kitB "int" T = some b) (k : Q (.bl b) H) : rIsi K [.int a, .ty T] H Q := kIsi (.base (.int a)) h k
theorem kIsi_str {T : String} {b : Bool} (h : kitB "str" T = some b) (k : Q (.bl b) H) : rIsi K [.str s, .ty T] H Q := kIsi (.base (.str s)) h k
theorem tyx_lst (h : SqL K H p xs) : TyX K H (.ref p) (.type "list") := by
  rcases h with (h | ⟨o, h⟩) | ⟨o, its, n, h, c, _⟩
  · exact .base (.lst h)
  · exact .base (.frz h)
  · exact .kList h c
theorem tyx_tup (h : SqT K H p xs) : TyX K H (.ref p) (.type "tuple") := by
  rcases h with (h | ⟨o, h⟩) | ⟨o, its, n, h, c, _⟩
  · exact .base (.tup h)
  · exact .fTuple h
  · exact .kTuple h c
theorem kIsi_lst {T : String} {b : Bool} (hp : SqL K H p xs) (h : kitB "list" T = some b) (k : Q (.bl b) H) : rIsi K [.ref p, .ty T] H Q := kIsi (tyx_lst hp) h k
theorem kIsi_tup {T : String} {b : Bool} (hp : SqT K H p xs) (h : kitB "tuple" T = some b) (k : Q (.bl b) H) : rIsi K [.ref p, .ty T] H Q := kIsi (tyx_tup hp) h k
theorem kIsi_dct {T : String} {b : Bool} {kvs : List (Key × V)} (hp : H p = some (.dK kvs)) (h : kitB "dict" T = some b) (k : Q (.bl b) H) : rIsi K [.ref p, .ty T] H Q := kIsi (.base (.dK hp)) h k
/-! other built-ins -/
theorem kAll {bs : List Bool} (h : SqL K H p (bs.map V.bl)) (k : Q (.bl (bs.all id)) H) : rAll K [.ref p] H Q := ⟨p, bs, rfl, h, k⟩
theorem kRepr {d : PyData} {n m : Nat} (h : Rp K H x d) (sm : Sm n m d) (h1 : n ≤ 40) (h2 : m ≤ 1000000) (k : Q (.str d.shown) H) : rRepr K [x] H Q :=
  ⟨x, d, rfl, h, sm.sh, small_le (Nat.le_trans sm.ln h2), Nat.le_trans sm.dp h1, k⟩
end
/-! targets -/
section
variable {K : PySem.W.Frag} {σ : L2.St} {H : Hp} {N : L2.St → Hp → Prop} {to ti : TE} {ts : TSet} {v w : V} {vs xs : List V} {g : TG} {gs : TGs} {n i : Nat} {p : Addr} {a : Int}
theorem g_tup (h : SqT K H p xs) (hl : xs.length = n) (k : gs xs σ H N) : gTup K n gs (.ref p) σ H N := ⟨p, xs, rfl, h, hl, k⟩
theorem g_gnil (k : N σ H) : gNil [] σ H N := ⟨rfl, k⟩
theorem g_gcons (k : g v σ H fun σ' H' => gs vs σ' H' N) : gCons g gs (v :: vs) σ H N := ⟨v, vs, rfl, k⟩
theorem g_sub (k : to σ H fun o H1 => ti σ H1 fun i H2 => ts o i v H2 fun H3 => N σ H3) : gSub to ti ts v σ H N := k
theorem kSetL (h : H p = some (.lst xs)) (h0 : 0 ≤ a) (h1 : a < (xs.length : Int)) {R : Hp → Prop} (k : R (upd H p (.lst (xs.set a.toNat v)))) : rSetL (.ref p) (.int a) v H R := by
  refine ⟨p, xs, a, a.toNat, rfl, rfl, h, ?_, k⟩
  unfold ixN
  rw [if_pos h0, if_pos h1]
end
/-! named readings of some rules -/
section
variable {X : Cx}
def zAbs : List V → Hp → VK → Prop := fun xs H Q => ∃ i, xs = [.int i] ∧ Q (.int (if i < 0 then -i else i)) H
def zMax : List V → Hp → VK → Prop := fun xs H Q => ∃ i j, xs = [.int i, .int j] ∧ Q (.int (if j > i then j else i)) H
def zMin : List V → Hp → VK → Prop := fun xs H Q => ∃ i j, xs = [.int i, .int j] ∧ Q (.int (if j < i then j else i)) H
def zDivmod : List V → Hp → VK → Prop := fun xs H Q => ∃ i j, xs = [.int i, .int j] ∧ CDivP i j ∧ ∀ p, H p = none → Q (.ref p) (upd H p (.tup [.int (i / j), .int (i % j)]))
theorem o_abs : CallR X (.builtin "abs") zAbs := call_abs
theorem o_max (hc : X.calm = true) : CallR X (.builtin "max") zMax := call_max2 hc
theorem o_min (hc : X.calm = true) : CallR X (.builtin "min") zMin := call_min2 hc
theorem o_divmod : CallR X (.builtin "divmod") zDivmod := call_divmodW
def zNeg : V → Hp → VK → Prop := rU fun i => .int (-i)
theorem o_neg : UnR X (unaryOp .USub) zNeg := un_neg
def zTru (K : PySem.W.Frag) (te : TE) : TT := fun σ H Q => te σ H fun x H' => ∃ k, TruV K x H' k ∧ Q k H'
theorem pt_tru {a : Expr} {ta : TE} (ha : PE X a ta) (he : ∀ whole, isTrue a X.env whole = (do let v ← whole; standAt a.pos; holding [v] (truthy v)) := by intro _; rfl) : PT X a (zTru X.K ta) := pt_truth ha he
def zInsert : V → List V → Hp → VK → Prop := fun x vs H Q => ∃ (l : Addr) (xs : List V) (i : Int) (y : V), x = .ref l ∧ vs = [.int i, y] ∧ H l = some (.lst xs) ∧ xs.length < sizeLine ∧ 0 ≤ i ∧ i < 2 ^ 63 ∧
  Q .non (upd H l (.lst (xs.take i.toNat ++ [y] ++ xs.drop i.toNat)))
theorem m_insert : MtR X "list.insert" zInsert := mt_insert
theorem m_append : MtR X "list.append" rAppend := mt_append
theorem m_popAt : MtR X "list.pop" rPopAt := mt_popAt
theorem m_pop0 : MtR X "list.pop" rPop := mt_pop
def zJoin (K : PySem.W.Frag) : V → List V → Hp → VK → Prop := fun x xs H Q => ∃ a p, ∃ ys : List Str, x = .str a ∧ xs = [.ref p] ∧ (SqL K H p (ys.map V.str) ∨ SqT K H p (ys.map V.str)) ∧
  (ys.map (·.length)).sum + ys.length * a.length ≤ 16777216 ∧ Q (.str (Txt.join a ys)) H
theorem pe_joinZ {o e : Expr} {to te : TE} {apos pos : Pos} (ho : PE X o to) (he : PE X e te) (hs : starEach [e] X.env = [(false, eval e X.env)] := by rfl) (hbase : attributeBase o "join" X.env (eval o X.env) = eval o X.env := by rfl) (hline : (apos.endLine == pos.line) = true := by rfl) :
    PE X (.Call (.Attribute o "join" apos) [e] [] pos) (tM1 (zJoin X.K) to te) := pe_join ho he hs hbase hline
end
section
variable {K : PySem.W.Frag} {w : World} {σ : L2.St} {H : Hp} {Q : VK} {x y : V} {a b : Int} {s t : Str} {p q : Addr} {xs ys : List V} {te to : TE} {tA : TA}
theorem kAbs (k : Q (.int (if a < 0 then -a else a)) H) : zAbs [.int a] H Q := ⟨a, rfl, k⟩
theorem kMax (k : Q (.int (if b > a then b else a)) H) : zMax [.int a, .int b] H Q := ⟨a, b, rfl, k⟩
theorem kMin (k : Q (.int (if b < a then b else a)) H) : zMin [.int a, .int b] H Q := ⟨a, b, rfl, k⟩
theorem kDivmod {a b : Int} {H : Hp} {Q : VK} (c : 0 < b) (c2 : b < 10 ^ 40) (k : ∀ r H2, H r = none → L2.Same H H2 → H2 r = some (.tup [.int (a / b), .int (a % b)]) → H2 = upd H r (.tup [.int (a / b), .int (a % b)]) → Q (.ref r) H2) :
    zDivmod [V.int a, V.int b] H Q := by
  refine ⟨a, b, rfl, ⟨c, PyProof.noPylong_of_log2 ?_⟩, newO k⟩
  have h1 : b.natAbs ≠ 0 := by omega
  have h2 : b.natAbs < 10 ^ 40 := by omega
  exact (Nat.log2_lt h1).mpr (Nat.lt_of_lt_of_le h2 (by decide +kernel))
theorem kNeg (k : Q (.int (-a)) H) : zNeg (.int a) H Q := ⟨a, rfl, k⟩
theorem g_tru {R : Bool → Hp → Prop} (k : te σ H fun x H' => ∃ k, TruV K x H' k ∧ R k H') : zTru K te σ H R := k
theorem g_m1 {r : V → List V → Hp → VK → Prop} (k : to σ H fun x H1 => (∃ a, x = .str a) ∧ te σ H1 fun y H2 => r x [y] H2 Q) : tM1 r to te σ H Q := k
theorem g_m0 {r : V → List V → Hp → VK → Prop} (k : to σ H fun x H1 => (∃ a, x = .str a) ∧ r x [] H1 Q) : tM0 r to σ H Q := k
theorem k_isS {A : Prop} (k : A) : (∃ a, V.str s = .str a) ∧ A := ⟨⟨s, rfl⟩, k⟩
theorem g_bm {T : String} {r : V → List V → Hp → VK → Prop} (k : to σ H fun x H1 => tyV K T x H1 ∧ tA σ H1 fun xs H2 => r x xs H2 Q) : tBM K T r to tA σ H Q := k
theorem g_bm0 {T : String} {r : V → List V → Hp → VK → Prop} (k : to σ H fun x H1 => tyV K T x H1 ∧ r x [] H1 Q) : tBM0 K T r to σ H Q := k
theorem k_tyL {A : Prop} (h : H p = some (.lst xs)) (k : A) : tyV K "list" (.ref p) H ∧ A := ⟨.inl ⟨rfl, _, SqL.of h⟩, k⟩
theorem kAppend (h : H p = some (.lst xs)) (hl : xs.length ≤ 100000) (k : Q .non (upd H p (.lst (xs ++ [x])))) : rAppend (.ref p) [x] H Q := ⟨p, xs, x, rfl, rfl, h, szlt hl, k⟩
theorem kInsert (h : H p = some (.lst xs)) (hl : xs.length ≤ 100000) (h0 : 0 ≤ a) (h1 : a ≤ 100000) (k : Q .non (upd H p (.lst (xs.take a.toNat ++ [x] ++ xs.drop a.toNat)))) : zInsert (.ref p) [.int a, x] H Q :=
  ⟨p, xs, a, x, rfl, rfl, h, szlt hl, h0, by omega, k⟩
theorem kPopAt (h : H p = some (.lst xs)) (h0 : 0 ≤ a) (h1 : a < (xs.length : Int)) (h2 : xs.length ≤ 100000) (k : ∀ y, xs[a.toNat]? = some y → Q y (upd H p (.lst (xs.eraseIdx a.toNat)))) : rPopAt (.ref p) [.int a] H Q := by
  have hlt : a.toNat < xs.length := by omega
  refine ⟨p, xs, a, a.toNat, xs[a.toNat], rfl, rfl, h, by omega, by omega, ?_, List.getElem?_eq_getElem hlt, k _ (List.getElem?_eq_getElem hlt)⟩
  unfold seqIndex?
  first
    | (simp [h0, h1]; done)
    | (simp [h0, h1]; omega)
theorem kJoin {ys : List Str} (h : SqL K H p (ys.map V.str)) (hl : (ys.map (·.length)).sum + ys.length * s.length ≤ 1000000) (k : Q (.str (Txt.join s ys)) H) : zJoin K (.str s) [.ref p] H Q :=
  ⟨s, p, ys, rfl, rfl, .inl h, Nat.le_trans hl (by decide), k⟩
theorem g_sl {r : V → Option Int → Option Int → Hp → VK → Prop} {tl th : TO} (k : te σ H fun x H1 => tl σ H1 fun l H2 => th σ H2 fun u H3 => r x l u H3 Q) : tSl r te tl th σ H Q := k
theorem g_part {R : Option Int → Hp → Prop} (k : te σ H fun x H1 => ∃ i, x = .int i ∧ R (some i) H1) : tPart te σ H R := k
theorem g_nopart {R : Option Int → Hp → Prop} (k : R none H) : tNoPart σ H R := k
theorem k_int {R : Int → Prop} (k : R a) : ∃ i, V.int a = .int i ∧ R i := ⟨a, rfl, k⟩
theorem g_par3 {n b c : L2.St → Hp → Prop} {r : VK} {i j l : Nat} (k : tA σ H fun vs H1 => ∃ u v w, vs = [u, v, w] ∧ gName i u σ H1 fun σ1 H2 => gName j v σ1 H2 fun σ2 H3 => gName l w σ2 H3 n) : tPar3 i j l tA ⟨n, r, b, c⟩ σ H := k
theorem k_par3 {u v w : V} {R : V → V → V → Prop} (k : R u v w) : ∃ a b c, [u, v, w] = [a, b, c] ∧ R a b c := ⟨u, v, w, rfl, k⟩
end
end Z

/-! Z8: comprehensions whose items are told one by one; small data; other words. -/
namespace Z
open PySem PySem.Spec PyProof.Rows L2 RZ

theorem ints_at {ns : List Int} {i : Nat} {v : V} (h : (ns.map V.int)[i]? = some v) : ∃ z, v = .int z ∧ ns[i]? = some z := by
  rw [List.getElem?_map] at h
  cases e : ns[i]? with
  | none => rw [e] at h; cases h
  | some z => rw [e] at h; exact ⟨z, (Option.some.inj h).symm, rfl⟩
theorem strs_at {ns : List Str} {i : Nat} {v : V} (h : (ns.map V.str)[i]? = some v) : ∃ z, v = .str z ∧ ns[i]? = some z := by
  rw [List.getElem?_map] at h
  cases e : ns[i]? with
  | none => rw [e] at h; cases h
  | some z => rw [e] at h; exact ⟨z, (Option.some.inj h).symm, rfl⟩
theorem take_snoc {α : Type} {l : List α} {i : Nat} {x : α} (h : l[i]? = some x) : l.take (i + 1) = l.take i ++ [x] := by
  rw [List.take_add_one, h]
  rfl

section
variable {te : TE} {tt : TT} {σ : L2.St} {H1 : Hp} {Q : VK} {j l : Nat}
theorem sel_end {acc : List V} {H : Hp} {D : Addr} (h : L2.Same H1 H) (hD : H D = none) (k : ∀ D H', L2.Same H1 H' → H' D = some (.lst acc) → H1 D = none → H' = upd H D (.lst acc) → Q (.ref D) H') : Q (.ref D) (upd H D (.lst acc)) :=
  k D _ (L2.Same.trans h (Same.new hD)) upd_same (L2.Same.free h hD) rfl
theorem selRange {lo : Int} {n : Nat} (sel : Nat → List V) (hn : n ≤ 1000000)
    (hs : ∀ (i : Nat) acc G, i < n → L2.Same H1 G → Turn tt te σ j (.int (lo + i)) acc G fun acc' G' => L2.Same G G' ∧ acc' = acc ++ sel i)
    (hd : ∀ D H', L2.Same H1 H' → H' D = some (.lst ((List.range n).flatMap sel)) → H1 D = none → Q (.ref D) H') :
    ∀ D, H1 D = none → ∃ W : Nat → Nat → Hp → Prop, (∃ m, W 0 m (upd H1 D (.lst []))) ∧ ∀ i m H, W i m H →
      ((Itr lo n).stop i H ∧ Q (.ref D) H) ∨ ((Itr lo n).go i H ∧ ∃ Nx : Hp → Prop, (∀ H', Nx H' → ∃ m', m' < m ∧ W (i + 1) m' H') ∧
        ∀ x H', (Itr lo n).yld i H x H' → gName j x (wipe σ [j]) H' fun σ2 H2 => wipe σ2 [j] = wipe σ [j] ∧ tFrT tt σ2 H2 fun b H3 =>
          if b = true then tFr te σ2 H3 fun y H4 => ∃ acc, H4 D = some (.lst acc) ∧ acc.length < sizeLine ∧ Nx (upd H4 D (.lst (acc ++ [y]))) else Nx H3) := by
  refine lcF_range (fun i acc H => L2.Same H1 H ∧ acc = (List.range i).flatMap sel) ⟨L2.Same.refl _, rfl⟩ hn ?_ ?_
  · rintro i acc H hi _ ⟨he, rfl⟩ R hR
    refine hs i ((List.range i).flatMap sel) H hi he R ?_
    intro b G3 hb
    refine hR b G3 ?_
    cases b with
    | false =>
      rw [if_neg Bool.false_ne_true] at hb ⊢
      exact ⟨L2.Same.trans he hb.1, by rw [hb.2, List.range_succ, List.flatMap_append]; simp⟩
    | true =>
      rw [if_pos rfl] at hb ⊢
      intro R2 hR2
      refine hb R2 ?_
      rintro y G4 ⟨e4, e5⟩
      exact hR2 y G4 ⟨L2.Same.trans he e4, by rw [e5, List.range_succ, List.flatMap_append]; simp⟩
  · rintro acc H D _ ⟨he, rfl⟩ hD
    exact sel_end he hD fun D H' a b c _ => hd D H' a b c
theorem selList {K : PySem.W.Frag} {a : Addr} {xs : List V} (sel : V → List V) (hl : SqL K H1 a xs) (hn : xs.length ≤ 1000000)
    (hs : ∀ (i : Nat) (x : V) acc G, xs[i]? = some x → L2.Same H1 G → Turn tt te σ j x acc G fun acc' G' => L2.Same G G' ∧ acc' = acc ++ sel x)
    (hd : ∀ D H', L2.Same H1 H' → H' D = some (.lst (xs.flatMap sel)) → H1 D = none → Q (.ref D) H') :
    ∀ D, H1 D = none → ∃ W : Nat → Nat → Hp → Prop, (∃ m, W 0 m (upd H1 D (.lst []))) ∧ ∀ i m H, W i m H →
      ((Itl K a).stop i H ∧ Q (.ref D) H) ∨ ((Itl K a).go i H ∧ ∃ Nx : Hp → Prop, (∀ H', Nx H' → ∃ m', m' < m ∧ W (i + 1) m' H') ∧
        ∀ x H', (Itl K a).yld i H x H' → gName j x (wipe σ [j]) H' fun σ2 H2 => wipe σ2 [j] = wipe σ [j] ∧ tFrT tt σ2 H2 fun b H3 =>
          if b = true then tFr te σ2 H3 fun y H4 => ∃ acc, H4 D = some (.lst acc) ∧ acc.length < sizeLine ∧ Nx (upd H4 D (.lst (acc ++ [y]))) else Nx H3) := by
  refine lcF_list (K := K) (a := a) (xs := xs) (fun i acc H => L2.Same H1 H ∧ acc = (xs.take i).flatMap sel) ⟨L2.Same.refl _, by simp⟩ hn (fun i acc H h => h.1.seq hl) ?_ ?_
  · rintro i x acc H hi _ ⟨he, rfl⟩ R hR
    refine hs i x ((xs.take i).flatMap sel) H hi he R ?_
    intro b G3 hb
    refine hR b G3 ?_
    cases b with
    | false =>
      rw [if_neg Bool.false_ne_true] at hb ⊢
      exact ⟨L2.Same.trans he hb.1, by rw [hb.2, take_snoc hi, List.flatMap_append]; simp⟩
    | true =>
      rw [if_pos rfl] at hb ⊢
      intro R2 hR2
      refine hb R2 ?_
      rintro y G4 ⟨e4, e5⟩
      exact hR2 y G4 ⟨L2.Same.trans he e4, by rw [e5, take_snoc hi, List.flatMap_append]; simp⟩
  · rintro acc H D _ ⟨he, rfl⟩ hD
    rw [List.take_length]
    exact sel_end he hD fun D H' a b c _ => hd D H' a b c
theorem selTup {K : PySem.W.Frag} {a : Addr} {xs : List V} (sel : V → List V) (hl : SqT K H1 a xs) (hn : xs.length ≤ 1000000)
    (hs : ∀ (i : Nat) (x : V) acc G, xs[i]? = some x → L2.Same H1 G → Turn tt te σ j x acc G fun acc' G' => L2.Same G G' ∧ acc' = acc ++ sel x)
    (hd : ∀ D H', L2.Same H1 H' → H' D = some (.lst (xs.flatMap sel)) → H1 D = none → Q (.ref D) H') :
    ∀ D, H1 D = none → ∃ W : Nat → Nat → Hp → Prop, (∃ m, W 0 m (upd H1 D (.lst []))) ∧ ∀ i m H, W i m H →
      ((Itt K a).stop i H ∧ Q (.ref D) H) ∨ ((Itt K a).go i H ∧ ∃ Nx : Hp → Prop, (∀ H', Nx H' → ∃ m', m' < m ∧ W (i + 1) m' H') ∧
        ∀ x H', (Itt K a).yld i H x H' → gName j x (wipe σ [j]) H' fun σ2 H2 => wipe σ2 [j] = wipe σ [j] ∧ tFrT tt σ2 H2 fun b H3 =>
          if b = true then tFr te σ2 H3 fun y H4 => ∃ acc, H4 D = some (.lst acc) ∧ acc.length < sizeLine ∧ Nx (upd H4 D (.lst (acc ++ [y]))) else Nx H3) := by
  refine lcF_tup (K := K) (a := a) (xs := xs) (fun i acc H => L2.Same H1 H ∧ acc = (xs.take i).flatMap sel) ⟨L2.Same.refl _, by simp⟩ hn (fun i acc H h => Same.seqT h.1 hl) ?_ ?_
  · rintro i x acc H hi _ ⟨he, rfl⟩ R hR
    refine hs i x ((xs.take i).flatMap sel) H hi he R ?_
    intro b G3 hb
    refine hR b G3 ?_
    cases b with
    | false =>
      rw [if_neg Bool.false_ne_true] at hb ⊢
      exact ⟨L2.Same.trans he hb.1, by rw [hb.2, take_snoc hi, List.flatMap_append]; simp⟩
    | true =>
      rw [if_pos rfl] at hb ⊢
      intro R2 hR2
      refine hb R2 ?_
      rintro y G4 ⟨e4, e5⟩
      exact hR2 y G4 ⟨L2.Same.trans he e4, by rw [e5, take_snoc hi, List.flatMap_append]; simp⟩
  · rintro acc H D _ ⟨he, rfl⟩ hD
    rw [List.take_length]
    exact sel_end he hD fun D H' a b c _ => hd D H' a b c
theorem selStr {z : Str} (sel : Nat → List V) (hn : z.length ≤ 1000000)
    (hs : ∀ (i c : Nat) acc G, z.cps.toList[i]? = some c → L2.Same H1 G → Turn tt te σ j (.str ⟨#[c]⟩) acc G fun acc' G' => L2.Same G G' ∧ acc' = acc ++ sel c)
    (hd : ∀ D H', L2.Same H1 H' → H' D = some (.lst (z.cps.toList.flatMap sel)) → H1 D = none → Q (.ref D) H') :
    ∀ D, H1 D = none → ∃ W : Nat → Nat → Hp → Prop, (∃ m, W 0 m (upd H1 D (.lst []))) ∧ ∀ i m H, W i m H →
      ((Its z).stop i H ∧ Q (.ref D) H) ∨ ((Its z).go i H ∧ ∃ Nx : Hp → Prop, (∀ H', Nx H' → ∃ m', m' < m ∧ W (i + 1) m' H') ∧
        ∀ x H', (Its z).yld i H x H' → gName j x (wipe σ [j]) H' fun σ2 H2 => wipe σ2 [j] = wipe σ [j] ∧ tFrT tt σ2 H2 fun b H3 =>
          if b = true then tFr te σ2 H3 fun y H4 => ∃ acc, H4 D = some (.lst acc) ∧ acc.length < sizeLine ∧ Nx (upd H4 D (.lst (acc ++ [y]))) else Nx H3) := by
  have hz : z.cps.size = z.cps.toList.length := by simp
  refine lcF_str (z := z) (fun i acc H => L2.Same H1 H ∧ acc = (z.cps.toList.take i).flatMap sel) ⟨L2.Same.refl _, by simp⟩ hn ?_ ?_
  · rintro i x acc H hi _ ⟨he, rfl⟩ R hR
    refine hs i x ((z.cps.toList.take i).flatMap sel) H hi he R ?_
    intro b G3 hb
    refine hR b G3 ?_
    cases b with
    | false =>
      rw [if_neg Bool.false_ne_true] at hb ⊢
      exact ⟨L2.Same.trans he hb.1, by rw [hb.2, take_snoc hi, List.flatMap_append]; simp⟩
    | true =>
      rw [if_pos rfl] at hb ⊢
      intro R2 hR2
      refine hb R2 ?_
      rintro y G4 ⟨e4, e5⟩
      exact hR2 y G4 ⟨L2.Same.trans he e4, by rw [e5, take_snoc hi, List.flatMap_append]; simp⟩
  · rintro acc H D _ ⟨he, rfl⟩ hD
    rw [hz, List.take_length]
    exact sel_end he hD fun D H' a b c _ => hd D H' a b c
def zipSel (sel : V → V → List V) (xs ys : List V) : List V := (xs.zip ys).flatMap fun p => sel p.1 p.2
theorem selZipT {K : PySem.W.Frag} {a b : Addr} {xs ys : List V} (hjl : j ≠ l) (sel : V → V → List V) (h1 : SqT K H1 a xs) (h2 : SqT K H1 b ys) (hlen : xs.length = ys.length) (hn : xs.length ≤ 1000000)
    (hs : ∀ (i : Nat) (x y : V) acc G, xs[i]? = some x → ys[i]? = some y → L2.Same H1 G → Turn2 tt te σ j l x y acc G fun acc' G' => L2.Same G G' ∧ acc' = acc ++ sel x y)
    (hd : ∀ D H', L2.Same H1 H' → H' D = some (.lst (zipSel sel xs ys)) → H1 D = none → Q (.ref D) H') :
    ∀ D, H1 D = none → ∃ W : Nat → Nat → Hp → Prop, (∃ m, W 0 m (upd H1 D (.lst []))) ∧ ∀ i m H, W i m H →
      ((ItzT K a b).stop i H ∧ Q (.ref D) H) ∨ ((ItzT K a b).go i H ∧ ∃ Nx : Hp → Prop, (∀ H', Nx H' → ∃ m', m' < m ∧ W (i + 1) m' H') ∧
        ∀ x H', (ItzT K a b).yld i H x H' → gTup K 2 (gCons (gName j) (gCons (gName l) gNil)) x (wipe σ [j, l]) H' fun σ2 H2 => wipe σ2 [j, l] = wipe σ [j, l] ∧ tFrT tt σ2 H2 fun b H3 =>
          if b = true then tFr te σ2 H3 fun y H4 => ∃ acc, H4 D = some (.lst acc) ∧ acc.length < sizeLine ∧ Nx (upd H4 D (.lst (acc ++ [y]))) else Nx H3) := by
  have step : ∀ {i x y}, xs[i]? = some x → ys[i]? = some y → ((xs.zip ys).take (i + 1)) = (xs.zip ys).take i ++ [(x, y)] := fun {i x y} hx hy => take_snoc (by rw [List.getElem?_zip_eq_some]; exact ⟨hx, hy⟩)
  refine lcF_zipT (K := K) (a := a) (b := b) (xs := xs) (ys := ys) hjl (fun i acc H => L2.Same H1 H ∧ acc = ((xs.zip ys).take i).flatMap fun p => sel p.1 p.2) ⟨L2.Same.refl _, by simp⟩ hlen hn (fun i acc H h => ⟨Same.seqT h.1 h1, Same.seqT h.1 h2⟩) ?_ ?_
  · rintro i x y acc H H' hx hy _ ⟨he, rfl⟩ he' R hR
    refine hs i x y (((xs.zip ys).take i).flatMap fun p => sel p.1 p.2) H' hx hy (L2.Same.trans he he') R ?_
    intro b G3 hb
    refine hR b G3 ?_
    cases b with
    | false =>
      rw [if_neg Bool.false_ne_true] at hb ⊢
      exact ⟨L2.Same.trans (L2.Same.trans he he') hb.1, by rw [hb.2, step hx hy, List.flatMap_append]; simp⟩
    | true =>
      rw [if_pos rfl] at hb ⊢
      intro R2 hR2
      refine hb R2 ?_
      rintro y G4 ⟨e4, e5⟩
      exact hR2 y G4 ⟨L2.Same.trans (L2.Same.trans he he') e4, by rw [e5, step hx hy, List.flatMap_append]; simp⟩
  · rintro acc H D _ ⟨he, rfl⟩ hD
    have hz : (xs.zip ys).length = xs.length := by rw [List.length_zip]; omega
    rw [← hz, List.take_length]
    exact sel_end he hD fun D H' a b c _ => hd D H' a b c
end
/-! the comprehension itself: what it goes over -/
section
variable {te ti : TE} {tt : TT} {σ : L2.St} {H : Hp} {Q : VK} {j : Nat} {g : TG} {vs : List Nat} {tA : TA} {K : PySem.W.Frag} {wi : TI}
theorem g_lc (k : wi σ H fun J H1 => ∀ D, H1 D = none → ∃ W : Nat → Nat → Hp → Prop, (∃ m, W 0 m (upd H1 D (.lst []))) ∧ ∀ i m H, W i m H →
    (J.stop i H ∧ Q (.ref D) H) ∨ (J.go i H ∧ ∃ Nx : Hp → Prop, (∀ H', Nx H' → ∃ m', m' < m ∧ W (i + 1) m' H') ∧ ∀ x H', J.yld i H x H' → g x (wipe σ vs) H' fun σ2 H2 => wipe σ2 vs = wipe σ vs ∧ tt σ2 H2 fun b H3 =>
      if b = true then te σ2 H3 fun y H4 => ∃ acc, H4 D = some (.lst acc) ∧ acc.length < sizeLine ∧ Nx (upd H4 D (.lst (acc ++ [y]))) else Nx H3)) : tLc wi g tt te vs σ H Q := k
variable {R : It → Hp → Prop}
theorem g_iRng1 (k : tA σ H fun vs H1 => ∃ j : Int, vs = [.int j] ∧ -(2 ^ 62) ≤ j ∧ j < 2 ^ 62 ∧ R (Itr 0 j.toNat) H1) : iRng1 tA σ H R := k
theorem k_rng1 {a : Int} (h0 : -1000000 ≤ a) (h1 : a ≤ 1000000) (k : R (Itr 0 a.toNat) H) : ∃ j : Int, [V.int a] = [.int j] ∧ -(2 ^ 62) ≤ j ∧ j < 2 ^ 62 ∧ R (Itr 0 j.toNat) H := ⟨a, rfl, by omega, by omega, k⟩
theorem g_iList (k : ti σ H fun x H1 => ∃ a, x = .ref a ∧ (∃ xs, SqL K H1 a xs) ∧ R (Itl K a) H1) : iList K ti σ H R := k
theorem k_iList {a : Addr} {xs : List V} (h : SqL K H a xs) (k : R (Itl K a) H) : ∃ b, V.ref a = .ref b ∧ (∃ xs, SqL K H b xs) ∧ R (Itl K b) H := ⟨a, rfl, ⟨xs, h⟩, k⟩
theorem g_iTup (k : ti σ H fun x H1 => ∃ a, x = .ref a ∧ (∃ xs, SqT K H1 a xs) ∧ R (Itt K a) H1) : iTup K ti σ H R := k
theorem k_iTup {a : Addr} {xs : List V} (h : SqT K H a xs) (k : R (Itt K a) H) : ∃ b, V.ref a = .ref b ∧ (∃ xs, SqT K H b xs) ∧ R (Itt K b) H := ⟨a, rfl, ⟨xs, h⟩, k⟩
theorem g_iStr (k : ti σ H fun v H1 => ∃ x, v = .str x ∧ R (Its x) H1) : iStr ti σ H R := k
theorem k_iStr {z : Str} (k : R (Its z) H) : ∃ x, V.str z = .str x ∧ R (Its x) H := ⟨z, rfl, k⟩
theorem g_iZipA (k : tA σ H fun vs H1 => ∃ a b xs ys, vs = [.ref a, .ref b] ∧ ((SqL K H1 a xs ∧ SqL K H1 b ys ∧ R (Itz K a b) H1) ∨ (SqT K H1 a xs ∧ SqT K H1 b ys ∧ R (ItzT K a b) H1))) : iZipA K tA σ H R := k
theorem k_zipT {a b : Addr} {xs ys : List V} (h1 : SqT K H a xs) (h2 : SqT K H b ys) (k : R (ItzT K a b) H) : ∃ a' b' xs ys, [V.ref a, V.ref b] = [.ref a', .ref b'] ∧ ((SqL K H a' xs ∧ SqL K H b' ys ∧ R (Itz K a' b') H) ∨ (SqT K H a' xs ∧ SqT K H b' ys ∧ R (ItzT K a' b') H)) :=
  ⟨a, b, xs, ys, rfl, .inr ⟨h1, h2, k⟩⟩
end
/-! the whole comprehension, told by sel: what each item adds -/
def tMo (t : TE) : TE := fun σ H Q => ∃ P : VK, t σ H P ∧ ∀ v H', P v H' → Q v H'
def tMoA (t : TA) : TA := fun σ H Q => ∃ P : List V → Hp → Prop, t σ H P ∧ ∀ v H', P v H' → Q v H'
theorem pe_mo {X : Cx} {e : Expr} {t : TE} (h : PE X e t) : PE X e (tMo t) := by
  constructor
  rintro pins s σ H Q I ⟨P, hp, k⟩
  refine thn (h.run pins s σ H P I hp) ?_
  rintro u s' ⟨v, H', I', r, p⟩
  exact ⟨v, H', I', r, k _ _ p⟩
theorem pa_mo {X : Cx} {e : List Expr} {t : TA} (h : PA X e t) : PA X e (tMoA t) := by
  constructor
  rintro pos pins s σ H Q I ⟨P, hp, k⟩
  refine thn (h.run pos pins s σ H P I hp) ?_
  rintro u s' ⟨v, H', I', r, p⟩
  exact ⟨v, H', I', r, k _ _ p⟩
section
variable {te ti : TE} {tt : TT} {σ : L2.St} {H H1 : Hp} {Q : VK} {j l : Nat} {tA : TA} {K : PySem.W.Frag}
def SelS (tt : TT) (te : TE) (σ : L2.St) (j : Nat) (Q : VK) (v : V) (H1 : Hp) : Prop := ∃ (z : Str) (sel : Nat → List V), v = .str z ∧ z.length ≤ 1000000 ∧
  (∀ (i c : Nat) acc G, z.cps.toList[i]? = some c → L2.Same H1 G → Turn tt te σ j (.str ⟨#[c]⟩) acc G fun acc' G' => L2.Same G G' ∧ acc' = acc ++ sel c) ∧
  ∀ D H', L2.Same H1 H' → H' D = some (.lst (z.cps.toList.flatMap sel)) → H1 D = none → Q (.ref D) H'
theorem cStr (k : ti σ H (SelS tt te σ j Q)) : tLc (iStr (tMo ti)) (gName j) (tFrT tt) (tFr te) [j] σ H Q := by
  refine ⟨_, k, ?_⟩
  rintro v H' ⟨z, sel, rfl, h1, h2, h3⟩
  exact ⟨z, rfl, selStr sel h1 h2 h3⟩
def SelL (K : PySem.W.Frag) (tt : TT) (te : TE) (σ : L2.St) (j : Nat) (Q : VK) (v : V) (H1 : Hp) : Prop := ∃ (a : Addr) (xs : List V) (sel : V → List V), v = .ref a ∧ SqL K H1 a xs ∧ xs.length ≤ 1000000 ∧
  (∀ (i : Nat) (x : V) acc G, xs[i]? = some x → L2.Same H1 G → Turn tt te σ j x acc G fun acc' G' => L2.Same G G' ∧ acc' = acc ++ sel x) ∧
  ∀ D H', L2.Same H1 H' → H' D = some (.lst (xs.flatMap sel)) → H1 D = none → Q (.ref D) H'
theorem cList (k : ti σ H (SelL K tt te σ j Q)) : tLc (iList K (tMo ti)) (gName j) (tFrT tt) (tFr te) [j] σ H Q := by
  refine ⟨_, k, ?_⟩
  rintro v H' ⟨a, xs, sel, rfl, h0, h1, h2, h3⟩
  exact ⟨a, rfl, ⟨xs, h0⟩, selList sel h0 h1 h2 h3⟩
def SelT (K : PySem.W.Frag) (tt : TT) (te : TE) (σ : L2.St) (j : Nat) (Q : VK) (v : V) (H1 : Hp) : Prop := ∃ (a : Addr) (xs : List V) (sel : V → List V), v = .ref a ∧ SqT K H1 a xs ∧ xs.length ≤ 1000000 ∧
  (∀ (i : Nat) (x : V) acc G, xs[i]? = some x → L2.Same H1 G → Turn tt te σ j x acc G fun acc' G' => L2.Same G G' ∧ acc' = acc ++ sel x) ∧
  ∀ D H', L2.Same H1 H' → H' D = some (.lst (xs.flatMap sel)) → H1 D = none → Q (.ref D) H'
theorem cTup (k : ti σ H (SelT K tt te σ j Q)) : tLc (iTup K (tMo ti)) (gName j) (tFrT tt) (tFr te) [j] σ H Q := by
  refine ⟨_, k, ?_⟩
  rintro v H' ⟨a, xs, sel, rfl, h0, h1, h2, h3⟩
  exact ⟨a, rfl, ⟨xs, h0⟩, selTup sel h0 h1 h2 h3⟩
def SelR (tt : TT) (te : TE) (σ : L2.St) (j : Nat) (Q : VK) (vs : List V) (H1 : Hp) : Prop := ∃ (n : Int) (sel : Nat → List V), vs = [.int n] ∧ -1000000 ≤ n ∧ n ≤ 1000000 ∧
  (∀ (i : Nat) acc G, i < n.toNat → L2.Same H1 G → Turn tt te σ j (.int (i : Int)) acc G fun acc' G' => L2.Same G G' ∧ acc' = acc ++ sel i) ∧
  ∀ D H', L2.Same H1 H' → H' D = some (.lst ((List.range n.toNat).flatMap sel)) → H1 D = none → Q (.ref D) H'
theorem cRng (k : tA σ H (SelR tt te σ j Q)) : tLc (iRng1 (tMoA tA)) (gName j) (tFrT tt) (tFr te) [j] σ H Q := by
  refine ⟨_, k, ?_⟩
  rintro v H' ⟨n, sel, rfl, h0, h1, h2, h3⟩
  refine ⟨n, rfl, by omega, by omega, selRange sel (by omega) (fun i acc G hi he => ?_) h3⟩
  have := h2 i acc G hi he
  rw [Int.zero_add]
  exact this
/-- the same by a word of one's own: W of the turn, the list so far, the heap -/
def WordR (tt : TT) (te : TE) (σ : L2.St) (j : Nat) (Q : VK) (vs : List V) (H1 : Hp) : Prop := ∃ (n : Int) (Pv : Nat → List V → Hp → Prop), vs = [.int n] ∧ -1000000 ≤ n ∧ n ≤ 1000000 ∧ Pv 0 [] H1 ∧
  (∀ (i : Nat) acc G, i < n.toNat → acc.length ≤ i → Pv i acc G → Turn tt te σ j (.int (i : Int)) acc G (Pv (i + 1))) ∧
  ∀ acc G D, acc.length ≤ n.toNat → Pv n.toNat acc G → G D = none → Q (.ref D) (upd G D (.lst acc))
theorem cRngW (k : tA σ H (WordR tt te σ j Q)) : tLc (iRng1 (tMoA tA)) (gName j) (tFrT tt) (tFr te) [j] σ H Q := by
  refine ⟨_, k, ?_⟩
  rintro v H' ⟨n, Pv, rfl, h0, h1, h2, h3, h4⟩
  refine ⟨n, rfl, by omega, by omega, lcF_range Pv h2 (by omega) (fun i acc G hi hl p => ?_) h4⟩
  have := h3 i acc G hi hl p
  rw [Int.zero_add]
  exact this
def WordL (K : PySem.W.Frag) (tt : TT) (te : TE) (σ : L2.St) (j : Nat) (Q : VK) (v : V) (H1 : Hp) : Prop := ∃ (a : Addr) (xs : List V) (Pv : Nat → List V → Hp → Prop), v = .ref a ∧ SqL K H1 a xs ∧ xs.length ≤ 1000000 ∧ Pv 0 [] H1 ∧
  (∀ i acc G, Pv i acc G → SqL K G a xs) ∧ (∀ (i : Nat) (x : V) acc G, xs[i]? = some x → acc.length ≤ i → Pv i acc G → Turn tt te σ j x acc G (Pv (i + 1))) ∧
  ∀ acc G D, acc.length ≤ xs.length → Pv xs.length acc G → G D = none → Q (.ref D) (upd G D (.lst acc))
theorem cListW (k : ti σ H (WordL K tt te σ j Q)) : tLc (iList K (tMo ti)) (gName j) (tFrT tt) (tFr te) [j] σ H Q := by
  refine ⟨_, k, ?_⟩
  rintro v H' ⟨a, xs, Pv, rfl, h0, h1, h2, h3, h4, h5⟩
  exact ⟨a, rfl, ⟨xs, h0⟩, lcF_list (K := K) (a := a) (xs := xs) Pv h2 h1 h3 h4 h5⟩
def SelZ (K : PySem.W.Frag) (tt : TT) (te : TE) (σ : L2.St) (j l : Nat) (Q : VK) (vs : List V) (H1 : Hp) : Prop := ∃ (a b : Addr) (xs ys : List V) (sel : V → V → List V), vs = [.ref a, .ref b] ∧ j ≠ l ∧ SqT K H1 a xs ∧ SqT K H1 b ys ∧ xs.length = ys.length ∧ xs.length ≤ 1000000 ∧
  (∀ (i : Nat) (x y : V) acc G, xs[i]? = some x → ys[i]? = some y → L2.Same H1 G → Turn2 tt te σ j l x y acc G fun acc' G' => L2.Same G G' ∧ acc' = acc ++ sel x y) ∧
  ∀ D H', L2.Same H1 H' → H' D = some (.lst (zipSel sel xs ys)) → H1 D = none → Q (.ref D) H'
theorem cZipT (k : tA σ H (SelZ K tt te σ j l Q)) : tLc (iZipA K (tMoA tA)) (gTup K 2 (gCons (gName j) (gCons (gName l) gNil))) (tFrT tt) (tFr te) [j, l] σ H Q := by
  refine ⟨_, k, ?_⟩
  rintro v H' ⟨a, b, xs, ys, sel, rfl, hjl, h0, h0', hlen, h1, h2, h3⟩
  exact ⟨a, b, xs, ys, rfl, .inr ⟨h0, h0', selZipT hjl sel h0 h0' hlen h1 h2 h3⟩⟩
end
theorem flat_bl {α : Type} (f : α → Bool) (xs : List α) : xs.flatMap (fun x => [V.bl (f x)]) = (xs.map f).map V.bl := by
  induction xs with
  | nil => rfl
  | cons a r ih => rw [List.flatMap_cons, ih]; rfl
section
variable {K : PySem.W.Frag} {H : Hp} {Q : VK} {D : Addr}
theorem kAllF {α : Type} {f : α → Bool} {xs : List α} (h : H D = some (.lst (xs.flatMap fun x => [V.bl (f x)]))) (k : Q (.bl (xs.all f)) H) : rAll K [.ref D] H Q := by
  refine kAll (bs := xs.map f) (SqL.of (by rw [← flat_bl]; exact h)) ?_
  have e : (xs.map f).all id = xs.all f := by rw [List.all_map]; rfl
  rw [e]; exact k
theorem kAllZ {f : V → V → Bool} {xs ys : List V} (h : H D = some (.lst (zipSel (fun x y => [V.bl (f x y)]) xs ys))) (k : Q (.bl ((xs.zip ys).all fun p => f p.1 p.2)) H) : rAll K [.ref D] H Q := by
  refine kAllF (f := fun p : V × V => f p.1 p.2) (xs := xs.zip ys) h k
theorem flat_str {α : Type} (f : α → Str) (p : α → Bool) (xs : List α) : xs.flatMap (fun x => if p x = true then [V.str (f x)] else []) = ((xs.filter p).map f).map V.str := by
  induction xs with
  | nil => rfl
  | cons a r ih =>
    rw [List.flatMap_cons, ih]
    by_cases h : p a = true
    · rw [if_pos h, List.filter_cons_of_pos h]; rfl
    · rw [if_neg h, List.filter_cons_of_neg h]; rfl
end
/-! small data by its shape -/
inductive Gd (m : Nat) : Nat → PyData → Prop
  | none (k : Nat) : Gd m k .none
  | bool (k : Nat) (b : Bool) : Gd m k (.bool b)
  | int (k : Nat) {i : Int} (h : i.natAbs < 10 ^ 60) : Gd m k (.int i)
  | str (k : Nat) {x : Str} (h : x.length ≤ 30) (hc : ∀ c ∈ x.cps.toList, c < 16 ^ 8) : Gd m k (.str x)
  | list {k : Nat} {ds : List PyData} (h : ∀ d ∈ ds, Gd m k d) (hl : ds.length ≤ m) : Gd m (k + 1) (.list ds)
  | tuple {k : Nat} {ds : List PyData} (h : ∀ d ∈ ds, Gd m k d) (hl : ds.length ≤ m) : Gd m (k + 1) (.tuple ds)
  | dict0 (k : Nat) : Gd m (k + 1) (.dict [])
  | dict1 {k : Nat} {a b : PyData} (h1 : Gd m k a) (h2 : Gd m k b) : Gd m (k + 1) (.dict [(a, b)])
def gdN (m : Nat) : Nat → Nat
  | 0 => 302
  | k + 1 => (m + 2) * (gdN m k + 4) + 4
theorem gdN_ge (m : Nat) : ∀ k, 302 ≤ gdN m k
  | 0 => Nat.le_refl _
  | k + 1 => by
    have := gdN_ge m k
    show 302 ≤ (m + 2) * (gdN m k + 4) + 4
    have : 2 * (gdN m k + 4) ≤ (m + 2) * (gdN m k + 4) := Nat.mul_le_mul_right _ (by omega)
    omega
theorem Gd.sm {m : Nat} : ∀ {k : Nat} {d : PyData}, Gd m k d → Sm k (gdN m k) d
  | k, _, .none _ => Sm.none.mono (Nat.zero_le _) (by have := gdN_ge m k; omega)
  | k, _, .bool _ b => (Sm.bool b).mono (Nat.zero_le _) (by have := gdN_ge m k; omega)
  | k, _, .int _ h => (Sm.int h).mono (Nat.zero_le _) (by have := gdN_ge m k; omega)
  | k, _, .str _ h hc => (Sm.str h hc).mono (Nat.zero_le _) (by have := gdN_ge m k; omega)
  | k + 1, _, .list h hl => (Sm.list (fun d hd => (h d hd).sm) hl).mono (Nat.le_refl _) (by
      show m * (gdN m k + 2) + 2 ≤ (m + 2) * (gdN m k + 4) + 4
      have : m * (gdN m k + 2) ≤ (m + 2) * (gdN m k + 4) := Nat.mul_le_mul (by omega) (by omega)
      omega)
  | k + 1, _, .tuple h hl => (Sm.tuple (fun d hd => (h d hd).sm) hl).mono (Nat.le_refl _) (by
      show m * (gdN m k + 2) + 3 ≤ (m + 2) * (gdN m k + 4) + 4
      have : m * (gdN m k + 2) ≤ (m + 2) * (gdN m k + 4) := Nat.mul_le_mul (by omega) (by omega)
      omega)
  | k + 1, _, .dict0 _ => ⟨rfl, by have := gdN_ge m (k + 1); have e : (PyData.dict []).shown.length ≤ 2 := by decide +kernel
                                   omega, by show PyData.depthKv [] + 1 ≤ k + 1; exact Nat.succ_le_succ (Nat.zero_le _)⟩
  | k + 1, _, .dict1 (a := a) (b := b) h1 h2 => by
    have s1 := h1.sm
    have s2 := h2.sm
    refine ⟨?_, ?_, ?_⟩
    · show (a.showable && b.showable && true) = true
      rw [s1.sh, s2.sh] <;> rfl
    · refine Nat.le_trans (dictText_le _) ?_
      show piled [a.shown ++ ": " ++ b.shown] + 2 ≤ (m + 2) * (gdN m k + 4) + 4
      rw [piled_cons, strLen_append, strLen_append, piled_nil]
      have e : (Str.ofString ": ").length = 2 := by decide +kernel
      have := s1.ln
      have := s2.ln
      have : 2 * (gdN m k + 4) ≤ (m + 2) * (gdN m k + 4) := Nat.mul_le_mul_right _ (by omega)
      omega
    · show max (max a.depth b.depth) 0 + 1 ≤ k + 1
      have := s1.dp
      have := s2.dp
      omega
theorem Gd.up {m : Nat} : ∀ {k k' : Nat} {d : PyData}, Gd m k d → k ≤ k' → Gd m k' d
  | _, k', _, .none _, _ => .none k'
  | _, k', _, .bool _ b, _ => .bool k' b
  | _, k', _, .int _ h, _ => .int k' h
  | _, k', _, .str _ h hc, _ => .str k' h hc
  | k + 1, k' + 1, _, .list h hl, e => .list (fun d hd => (h d hd).up (Nat.le_of_succ_le_succ e)) hl
  | k + 1, k' + 1, _, .tuple h hl, e => .tuple (fun d hd => (h d hd).up (Nat.le_of_succ_le_succ e)) hl
  | k + 1, k' + 1, _, .dict0 _, _ => .dict0 k'
  | k + 1, k' + 1, _, .dict1 h1 h2, e => .dict1 (h1.up (Nat.le_of_succ_le_succ e)) (h2.up (Nat.le_of_succ_le_succ e))
section
variable {σ : L2.St} {H : Hp} {Q : VK} {r r' : R2} {ta tb tc : TE}
theorem g_chain (k : ta σ H fun x H1 => tb σ H1 fun y H2 => r x y H2 fun z H3 => ∃ k, z = .bl k ∧ if k = true then tc σ H3 fun v H4 => r' y v H4 Q else Q (.bl false) H3) : tChain r r' ta tb tc σ H Q := k
end
/-! isinstance, kind by kind -/
section
variable {K : PySem.W.Frag} {H : Hp} {Q : VK} {a : Int} {c : Bool} {s : Str} {p : Addr} {xs : List V} {kvs : List (Key × V)}
theorem kI_non_str (k : Q (.bl false) H) : rIsi K [.non, .ty "str"] H Q := kIsi_non (by decide +kernel) k
theorem kI_non_int (k : Q (.bl false) H) : rIsi K [.non, .ty "int"] H Q := kIsi_non (by decide +kernel) k
theorem kI_non_bool (k : Q (.bl false) H) : rIsi K [.non, .ty "bool"] H Q := kIsi_non (by decide +kernel) k
theorem kI_non_tuple (k : Q (.bl false) H) : rIsi K [.non, .ty "tuple"] H Q := kIsi_non (by decide +kernel) k
theorem kI_non_list (k : Q (.bl false) H) : rIsi K [.non, .ty "list"] H Q := kIsi_non (by decide +kernel) k
theorem kI_non_dict (k : Q (.bl false) H) : rIsi K [.non, .ty "dict"] H Q := kIsi_non (by decide +kernel) k
theorem kI_bl_str (k : Q (.bl false) H) : rIsi K [(.bl c), .ty "str"] H Q := kIsi_bl (by decide +kernel) k
theorem kI_bl_int (k : Q (.bl true) H) : rIsi K [(.bl c), .ty "int"] H Q := kIsi_bl (by decide +kernel) k
theorem kI_bl_bool (k : Q (.bl true) H) : rIsi K [(.bl c), .ty "bool"] H Q := kIsi_bl (by decide +kernel) k
theorem kI_bl_tuple (k : Q (.bl false) H) : rIsi K [(.bl c), .ty "tuple"] H Q := kIsi_bl (by decide +kernel) k
theorem kI_bl_list (k : Q (.bl false) H) : rIsi K [(.bl c), .ty "list"] H Q := kIsi_bl (by decide +kernel) k
theorem kI_bl_dict (k : Q (.bl false) H) : rIsi K [(.bl c), .ty "dict"] H Q := kIsi_bl (by decide +kernel) k
theorem kI_int_str (k : Q (.bl false) H) : rIsi K [(.int a), .ty "str"] H Q := kIsi_int (by decide +kernel) k
theorem kI_int_int (k : Q (.bl true) H) : rIsi K [(.int a), .ty "int"] H Q := kIsi_int (by decide +kernel) k
theorem kI_int_bool (k : Q (.bl false) H) : rIsi K [(.int a), .ty "bool"] H Q := kIsi_int (by decide +kernel) k
theorem kI_int_tuple (k : Q (.bl false) H) : rIsi K [(.int a), .ty "tuple"] H Q := kIsi_int (by decide +kernel) k
theorem kI_int_list (k : Q (.bl false) H) : rIsi K [(.int a), .ty "list"] H Q := kIsi_int (by decide +kernel) k
theorem kI_int_dict (k : Q (.bl false) H) : rIsi K [(.int a), .ty "dict"] H Q := kIsi_int (by decide +kernel) k
theorem kI_str_str (k : Q (.bl true) H) : rIsi K [(.str s), .ty "str"] H Q := kIsi_str (by decide +kernel) k
theorem kI_str_int (k : Q (.bl false) H) : rIsi K [(.str s), .ty "int"] H Q := kIsi_str (by decide +kernel) k
theorem kI_str_bool (k : Q (.bl false) H) : rIsi K [(.str s), .ty "bool"] H Q := kIsi_str (by decide +kernel) k
theorem kI_str_tuple (k : Q (.bl false) H) : rIsi K [(.str s), .ty "tuple"] H Q := kIsi_str (by decide +kernel) k
theorem kI_str_list (k : Q (.bl false) H) : rIsi K [(.str s), .ty "list"] H Q := kIsi_str (by decide +kernel) k
theorem kI_str_dict (k : Q (.bl false) H) : rIsi K [(.str s), .ty "dict"] H Q := kIsi_str (by decide +kernel) k
theorem kI_lst_str (hp : SqL K H p xs) (k : Q (.bl false) H) : rIsi K [(.ref p), .ty "str"] H Q := kIsi_lst hp (by decide +kernel) k
theorem kI_lst_int (hp : SqL K H p xs) (k : Q (.bl false) H) : rIsi K [(.ref p), .ty "int"] H Q := kIsi_lst hp (by decide +kernel) k
theorem kI_lst_bool (hp : SqL K H p xs) (k : Q (.bl false) H) : rIsi K [(.ref p), .ty "bool"] H Q := kIsi_lst hp (by decide +kernel) k
theorem kI_lst_tuple (hp : SqL K H p xs) (k : Q (.bl false) H) : rIsi K [(.ref p), .ty "tuple"] H Q := kIsi_lst hp (by decide +kernel) k
theorem kI_lst_list (hp : SqL K H p xs) (k : Q (.bl true) H) : rIsi K [(.ref p), .ty "list"] H Q := kIsi_lst hp (by decide +kernel) k
theorem kI_lst_dict (hp : SqL K H p xs) (k : Q (.bl false) H) : rIsi K [(.ref p), .ty "dict"] H Q := kIsi_lst hp (by decide +kernel) k
theorem kI_tup_str (hp : SqT K H p xs) (k : Q (.bl false) H) : rIsi K [(.ref p), .ty "str"] H Q := kIsi_tup hp (by decide +kernel) k
theorem kI_tup_int (hp : SqT K H p xs) (k : Q (.bl false) H) : rIsi K [(.ref p), .ty "int"] H Q := kIsi_tup hp (by decide +kernel) k
theorem kI_tup_bool (hp : SqT K H p xs) (k : Q (.bl false) H) : rIsi K [(.ref p), .ty "bool"] H Q := kIsi_tup hp (by decide +kernel) k
theorem kI_tup_tuple (hp : SqT K H p xs) (k : Q (.bl true) H) : rIsi K [(.ref p), .ty "tuple"] H Q := kIsi_tup hp (by decide +kernel) k
theorem kI_tup_list (hp : SqT K H p xs) (k : Q (.bl false) H) : rIsi K [(.ref p), .ty "list"] H Q := kIsi_tup hp (by decide +kernel) k
theorem kI_tup_dict (hp : SqT K H p xs) (k : Q (.bl false) H) : rIsi K [(.ref p), .ty "dict"] H Q := kIsi_tup hp (by decide +kernel) k
theorem kI_dct_str (hp : H p = some (.dK kvs)) (k : Q (.bl false) H) : rIsi K [(.ref p), .ty "str"] H Q := kIsi_dct hp (by decide +kernel) k
theorem kI_dct_int (hp : H p = some (.dK kvs)) (k : Q (.bl false) H) : rIsi K [(.ref p), .ty "int"] H Q := kIsi_dct hp (by decide +kernel) k
theorem kI_dct_bool (hp : H p = some (.dK kvs)) (k : Q (.bl false) H) : rIsi K [(.ref p), .ty "bool"] H Q := kIsi_dct hp (by decide +kernel) k
theorem kI_dct_tuple (hp : H p = some (.dK kvs)) (k : Q (.bl false) H) : rIsi K [(.ref p), .ty "tuple"] H Q := kIsi_dct hp (by decide +kernel) k
theorem kI_dct_list (hp : H p = some (.dK kvs)) (k : Q (.bl false) H) : rIsi K [(.ref p), .ty "list"] H Q := kIsi_dct hp (by decide +kernel) k
theorem kI_dct_dict (hp : H p = some (.dK kvs)) (k : Q (.bl true) H) : rIsi K [(.ref p), .ty "dict"] H Q := kIsi_dct hp (by decide +kernel) k
end
end Z

/-! Z9: loops with a word of the turn; is with a truth. -/
namespace Z
open PySem PySem.Spec PyProof.Rows L2 RZ

def ForR (tu : TS) (σ : L2.St) (j : Nat) (n b c : L2.St → Hp → Prop) (r : VK) (vs : List V) (H1 : Hp) : Prop := ∃ (m : Int) (Pv : Nat → L2.St → Hp → Prop), vs = [.int m] ∧ 0 ≤ m ∧ m ≤ 100000 ∧ Pv 0 σ H1 ∧
  (∀ (i : Nat) σ' H', (i : Int) < m → Pv i σ' H' → tu ⟨Pv (i + 1), r, n, Pv (i + 1)⟩ (σ'.set j (some (.int (i : Int)))) H') ∧ ∀ σ' H', Pv m.toNat σ' H' → n σ' H'
theorem fRng {tA : TA} {tu : TS} {σ : L2.St} {H : Hp} {j : Nat} {n b c : L2.St → Hp → Prop} {r : VK} (k : tA σ H (ForR tu σ j n b c r)) : tFor (iRng1 (tMoA tA)) (gName j) tu ⟨n, r, b, c⟩ σ H := by
  refine ⟨_, k, ?_⟩
  rintro v H' ⟨m, Pv, rfl, h0, h1, h2, h3, h4⟩
  refine ⟨m, rfl, by omega, by omega, ?_⟩
  refine for_range (lo := 0) (n := m.toNat) Pv h2 (fun i σ' H' hi p => ?_) h4
  have e0 : (0 : Int) + (i : Int) = (i : Int) := Int.zero_add _
  show tu _ (σ'.set j (some (.int ((0 : Int) + (i : Int))))) H'
  rw [e0]
  exact h3 i σ' H' (by omega) p
def ForL (K : PySem.W.Frag) (g : TG) (tu : TS) (σ : L2.St) (n b c : L2.St → Hp → Prop) (r : VK) (v : V) (H1 : Hp) : Prop := ∃ (a : Addr) (xs : List V) (Pv : Nat → L2.St → Hp → Prop), v = .ref a ∧ SqL K H1 a xs ∧ Pv 0 σ H1 ∧
  (∀ i σ' H', i ≤ xs.length → Pv i σ' H' → SqL K H' a xs) ∧
  (∀ (i : Nat) x σ' H', xs[i]? = some x → Pv i σ' H' → g x σ' H' fun σ2 H2 => tu ⟨Pv (i + 1), r, n, Pv (i + 1)⟩ σ2 H2) ∧ ∀ σ' H', Pv xs.length σ' H' → n σ' H'
theorem fList {K : PySem.W.Frag} {te : TE} {g : TG} {tu : TS} {σ : L2.St} {H : Hp} {n b c : L2.St → Hp → Prop} {r : VK} (k : te σ H (ForL K g tu σ n b c r)) : tFor (iList K (tMo te)) g tu ⟨n, r, b, c⟩ σ H := by
  refine ⟨_, k, ?_⟩
  rintro v H' ⟨a, xs, Pv, rfl, h0, h2, h1, h3, h4⟩
  exact ⟨a, rfl, ⟨xs, h0⟩, for_list Pv h2 h1 h3 h4⟩
def ForT (K : PySem.W.Frag) (g : TG) (tu : TS) (σ : L2.St) (n b c : L2.St → Hp → Prop) (r : VK) (v : V) (H1 : Hp) : Prop := ∃ (a : Addr) (xs : List V) (Pv : Nat → L2.St → Hp → Prop), v = .ref a ∧ SqT K H1 a xs ∧ Pv 0 σ H1 ∧
  (∀ i σ' H', i ≤ xs.length → Pv i σ' H' → SqT K H' a xs) ∧
  (∀ (i : Nat) x σ' H', xs[i]? = some x → Pv i σ' H' → g x σ' H' fun σ2 H2 => tu ⟨Pv (i + 1), r, n, Pv (i + 1)⟩ σ2 H2) ∧ ∀ σ' H', Pv xs.length σ' H' → n σ' H'
theorem fTup {K : PySem.W.Frag} {te : TE} {g : TG} {tu : TS} {σ : L2.St} {H : Hp} {n b c : L2.St → Hp → Prop} {r : VK} (k : te σ H (ForT K g tu σ n b c r)) : tFor (iTup K (tMo te)) g tu ⟨n, r, b, c⟩ σ H := by
  refine ⟨_, k, ?_⟩
  rintro v H' ⟨a, xs, Pv, rfl, h0, h2, h1, h3, h4⟩
  exact ⟨a, rfl, ⟨xs, h0⟩, for_tup Pv h2 h1 h3 h4⟩
def zIsB : R2 := fun x y H Q => ∃ a b, x = .bl a ∧ y = .bl b ∧ Q (.bl (decide (a = b))) H
def zNotB : R2 := fun x y H Q => ∃ a b, x = .bl a ∧ y = .bl b ∧ Q (.bl (!decide (a = b))) H
theorem o_isB {X : Cx} : OpR X (compareOp .Is) zIsB := op_is_bl
theorem o_notB {X : Cx} : OpR X (compareOp .IsNot) zNotB := op_isnot_bl
theorem kIs_B {H : Hp} {Q : VK} {a b : Bool} (k : Q (.bl (decide (a = b))) H) : zIsB (.bl a) (.bl b) H Q := ⟨a, b, rfl, rfl, k⟩
theorem kNot_B {H : Hp} {Q : VK} {a b : Bool} (k : Q (.bl (!decide (a = b))) H) : zNotB (.bl a) (.bl b) H Q := ⟨a, b, rfl, rfl, k⟩
theorem kNot_T {H : Hp} {Q : VK} {a : Bool} (k : Q (.bl (!a)) H) : zNotB (.bl a) (.bl true) H Q := kNot_B (by cases a <;> exact k)
/-- a pot told again -/
theorem pot_same {H H2 : Hp} {p : Addr} {o : HO} (hp : H p = some (pot p)) (e : L2.Same (upd H p o) H2) : L2.Same H (upd H2 p (pot p)) := by
  intro b u hb
  by_cases q : b = p
  · rw [q, upd_same, ← hp, ← q]; exact hb
  · rw [upd_ne q]; exact e b u (by rw [upd_ne q]; exact hb)
/-- a list changed where an older heap knows nothing of it -/
theorem same_upd {H H2 : Hp} {p : Addr} {o : HO} (hp : H p = none) (e : L2.Same H H2) : L2.Same H (upd H2 p o) := by
  intro b u hb
  by_cases q : b = p
  · rw [q] at hb; rw [hp] at hb; cases hb
  · rw [upd_ne q]; exact e b u hb
theorem all_of_len {α : Type} [DecidableEq α] {ys : List α} : ∀ {xs : List α}, xs.Nodup → (∀ x ∈ xs, x ∈ ys) → xs.length ≤ ys.length := by
  intro xs
  induction xs generalizing ys with
  | nil => intro _ _; exact Nat.zero_le _
  | cons a r ih =>
    intro hn h
    have ha : a ∈ ys := h a List.mem_cons_self
    have hn' := List.nodup_cons.mp hn
    have := ih (ys := ys.erase a) hn'.2 fun x hx => (List.mem_erase_of_ne (show x ≠ a from fun e => hn'.1 (by rw [← e]; exact hx))).mpr (h x (List.mem_cons_of_mem _ hx))
    rw [List.length_erase_of_mem ha] at this
    have : 0 < ys.length := List.length_pos_of_mem ha
    simp only [List.length_cons]
    omega
/-! texts glued without a word between -/
theorem joinL_nil : ∀ ps : List (List Nat), TL.joinL [] ps = ps.flatten
  | [] => rfl
  | [p] => by show p = p ++ []; rw [List.append_nil]
  | p :: q :: r => by
    show p ++ ([] ++ TL.joinL [] (q :: r)) = p ++ (q :: r).flatten
    rw [joinL_nil (q :: r), List.nil_append]
theorem join0 (ps : List Str) : (Txt.join "" ps).cps.toList = (ps.map fun z => z.cps.toList).flatten := by
  rw [TL.join_eq]
  have e := TL.tl_join "" ps
  have e2 : TL.tl "" = [] := by decide +kernel
  rw [e2, joinL_nil] at e
  exact e
/-- signs, one by one -/
def one (c : Nat) : Str := ⟨#[c]⟩
theorem flat_one (cs : List Nat) : ((cs.map one).map fun z => z.cps.toList).flatten = cs := by
  induction cs with
  | nil => rfl
  | cons c r ih =>
    show [c] ++ _ = _
    rw [List.map_map] at ih ⊢
    show [c] ++ (r.map _).flatten = c :: r
    rw [ih]; rfl
theorem join_ones (cs : List Nat) : Txt.join "" (cs.map one) = ⟨cs.toArray⟩ := by
  have e := join0 (cs.map one)
  rw [flat_one] at e
  exact TL.ext_tl e
theorem sum_ones (cs : List Nat) : ((cs.map one).map (·.length)).sum = cs.length := by
  induction cs with
  | nil => rfl
  | cons c r ih => simp only [List.map_cons, List.sum_cons, List.length_cons, ih]; show 1 + _ = _; omega
theorem kJoin1 {K : PySem.W.Frag} {H : Hp} {Q : VK} {p : Addr} {cs : List Nat} (h : SqL K H p (cs.map fun c => V.str (one c))) (hl : cs.length ≤ 1000000) (k : Q (.str ⟨cs.toArray⟩) H) : zJoin K (.str "") [.ref p] H Q := by
  refine kJoin (ys := cs.map one) (by rw [List.map_map]; exact h) ?_ (by rw [join_ones]; exact k)
  rw [sum_ones]
  show cs.length + (cs.map one).length * 0 ≤ 1000000
  omega
theorem inV_str {z : Str} {us : List Str} : inV (.str z) (us.map V.str) = decide (z ∈ us) := by
  induction us with
  | nil => rfl
  | cons a r ih =>
    show (eqV (.str a) (.str z) || inV (.str z) (r.map V.str)) = _
    rw [ih]
    have e : eqV (.str a) (.str z) = decide (a = z) := by
      show (a == z) = _
      by_cases h : a = z <;> simp [h]
    rw [e]
    by_cases h : a = z
    · simp [h]
    · simp [h, show ¬ z = a from fun e => h e.symm]
theorem flat_strs {us : List Str} : (us.map V.str).all flatV = true := by
  rw [List.all_eq_true]
  intro v hv
  obtain ⟨z, _, rfl⟩ := List.mem_map.mp hv
  rfl
theorem kNin_LS {K : PySem.W.Frag} {w : World} {H : Hp} {Q : VK} {q : Addr} {z : Str} {us : List Str} (h : SqL K H q (us.map V.str)) (k : Q (.bl (!decide (z ∈ us))) H) : zIn K w true (.str z) (.ref q) H Q :=
  kNin_L h rfl flat_strs (by rw [inV_str]; exact k)
theorem kIn_LS {K : PySem.W.Frag} {w : World} {H : Hp} {Q : VK} {q : Addr} {z : Str} {us : List Str} (h : SqL K H q (us.map V.str)) (k : Q (.bl (decide (z ∈ us))) H) : zIn K w false (.str z) (.ref q) H Q :=
  kIn_L h rfl flat_strs (by rw [inV_str]; exact k)
/-! displays of dicts -/
theorem g_dnew {σ : L2.St} {H : Hp} {Q : VK} (k : ∀ p H2, H p = none → L2.Same H H2 → H2 p = some (.dK []) → H2 = upd H p (.dK []) → Q (.ref p) H2) : tDNewK σ H Q := newO k
def tDispC (kvs : List (Str × V)) : TE := tDisp (kvs.map fun kv => (tC (.str kv.1), tC kv.2))
def keyed (kvs : List (Str × V)) : List (Key × V) := kvs.map fun kv => (.inr kv.1, kv.2)
theorem pairsC {σ : L2.St} {G : Hp} {R : List (V × V) → Hp → Prop} : ∀ kvs : List (Str × V), R (kvs.map fun kv => (V.str kv.1, kv.2)) G → tPairs (kvs.map fun kv => (tC (.str kv.1), tC kv.2)) σ G R := by
  intro kvs
  induction kvs generalizing R with
  | nil => intro h; exact h
  | cons a r ih => intro h; exact ih h
theorem g_dispC {σ : L2.St} {H : Hp} {Q : VK} {kvs : List (Str × V)} {o : List (Key × V)} (hl : Nat.ble kvs.length 15 = true) (e : mergeK [] (keyed kvs) = o)
    (k : ∀ p H2, H p = none → L2.Same H H2 → H2 p = some (.dK o) → H2 = upd H p (.dK o) → Q (.ref p) H2) : tDispC kvs σ H Q := by
  subst e
  intro p hp
  refine pairsC kvs ⟨upd_same, keyed kvs, ?_, ?_, ?_⟩
  · unfold keyed; rw [List.map_map]; rfl
  · unfold keyed; rw [List.length_map]; exact Nat.le_of_ble_eq_true hl
  · rw [upd_upd]; exact k p _ hp (Same.new hp) upd_same rfl
theorem g_dput {σ : L2.St} {H : Hp} {td ty tv : TE} {n b c : L2.St → Hp → Prop} {r : VK} (k : tv σ H fun v H1 => td σ H1 fun x H2 => ty σ H2 fun y H3 => ∃ a H4, x = .ref a ∧ DPut H3 a y v H4 ∧ n σ H4) : sDPut td ty tv ⟨n, r, b, c⟩ σ H := k
theorem kPut_S {σ : L2.St} {H : Hp} {n : L2.St → Hp → Prop} {p : Addr} {kvs : List (Key × V)} {z : Str} {v : V} (h : H p = some (.dK kvs)) (hl : kvs.length ≤ 100000) (k : n σ (upd H p (.dK (putK kvs (.inr z) v)))) :
    ∃ a H4, V.ref p = .ref a ∧ DPut H a (.str z) v H4 ∧ n σ H4 := ⟨p, _, rfl, DPut.k (k := .inr z) h (szlt hl), k⟩
theorem kNin_DS {K : PySem.W.Frag} {w : World} {H : Hp} {Q : VK} {q : Addr} {kvs : List (Key × V)} {z : Str} (h : H q = some (.dK kvs)) (k : Q (.bl (!(valV kvs (.inr z)).isSome)) H) : zIn K w true (.str z) (.ref q) H Q := kNin_D (z := .inr z) h k
theorem kIx_DS {K : PySem.W.Frag} {w : World} {H : Hp} {Q : VK} {q : Addr} {kvs : List (Key × V)} {z : Str} {v : V} (h : H q = some (.dK kvs)) (e : valV kvs (.inr z) = some v) (k : Q v H) : zIx K w (.ref q) (.str z) H Q := kIx_D (z := .inr z) h e k
/-! small data, made -/
def GdA (m k : Nat) (ds : List PyData) : Prop := ∀ d ∈ ds, Gd m k d
theorem gA_nil {m k : Nat} : GdA m k [] := fun d h => nomatch h
theorem gA_cons {m k : Nat} {d : PyData} {ds : List PyData} (h : Gd m k d) (r : GdA m k ds) : GdA m k (d :: ds) := fun x hx => by
  rcases List.mem_cons.mp hx with e | e
  · rw [e]; exact h
  · exact r x e
theorem gA_tup {m k : Nat} {ds : List PyData} (h : GdA m k ds) (hl : Nat.ble ds.length m = true) : Gd m (k + 1) (.tuple ds) := .tuple h (Nat.le_of_ble_eq_true hl)
theorem gA_lst {m k : Nat} {ds : List PyData} (h : GdA m k ds) (hl : Nat.ble ds.length m = true) : Gd m (k + 1) (.list ds) := .list h (Nat.le_of_ble_eq_true hl)
theorem gA_app {m k : Nat} {ds es : List PyData} (h : GdA m k ds) (g : GdA m k es) : GdA m k (ds ++ es) := fun x hx => by
  rcases List.mem_append.mp hx with e | e
  · exact h x e
  · exact g x e
end Z

/-! Z10: zip of whatever can be drawn from: two iterators told by Draws; then a text and a tuple. -/
namespace Z
open PySem PySem.Spec PyProof.Rows L2 RZ

/-- the five records of a zip stand apart, and apart from what its two iterators lean on -/
structure Ap (z TI TO i j : Addr) (U V : List Addr) : Prop where
  a1 : TI ≠ z
  a2 : TO ≠ z
  a3 : i ≠ z
  a4 : j ≠ z
  a5 : TI ≠ TO
  a6 : TI ≠ i
  a7 : TI ≠ j
  a8 : TO ≠ i
  a9 : TO ≠ j
  b1 : i ≠ j
  f1 : ∀ c ∈ U, c ≠ z ∧ c ≠ TO ∧ c ≠ j
  f2 : ∀ c ∈ V, c ≠ z ∧ c ≠ TO ∧ c ≠ i
section
variable {prog : Program} {w : World} {A : Around} {E : Value → Shared → Prop}
theorem zn_item {z TI TO i j : Addr} {U V : List Addr} {n m p q : Nat} {PX PY : Nat → Value → Prop} {SX SY : Nat → Heap → Prop} {a b : Value} {Q : Value → Shared → Prop}
    (X : Draws prog w A i U n PX SX) (Y : Draws prog w A j V m PY SY) (D : Ap z TI TO i j U V) {s : Shared}
    (zz : IsZip s.heap z TI TO .none) (ti : IsPair s.heap TI (.ref i) (.ref j)) (to : IsPair s.heap TO a b) (x0 : SX p s.heap) (y0 : SY q s.heap) (lx : p < n) (ly : q < m)
    (hQ : ∀ x y h' tk, PX p x → PY q y → IsZip h' z TI TO (rawInt s.heap.objs.size) → IsPair h' TO x y → SX (p + 1) h' → SY (q + 1) h' → IsPair h' s.heap.objs.size x y → h'.objs.size = s.heap.objs.size + 1 →
      (∀ c o, c ≠ z → c ≠ TO → c ≠ i → c ≠ j → s.heap.get? c = some o → h'.get? c = some o) → Q (.ref s.heap.objs.size) { s with heap := h', toks := tk }) :
    wpAny (model prog w) A (Builtin.«zip.__next__» ⟨[.ref z], []⟩) (fun fin s' => ∃ v, fin = .done (.ret v) ∧ Q v s') E s := by
  show wpAny (model prog w) A (field (.ref z) 2 >>= _) _ E s
  refine wpAny_bind (wpAny_field (x := .bool false) zz rfl rfl ?_)
  show wpAny (model prog w) A (field (.ref z) 3 >>= _) _ E s
  refine wpAny_bind (wpAny_field (x := .ref TI) zz rfl rfl ?_)
  refine wpAny_bind (wpAny_seqItems ti rfl ?_)
  show wpAny (model prog w) A (Builtin.SmallTypes.ownedTupleIsFree (.ref z) >>= _) _ E s
  unfold Builtin.SmallTypes.ownedTupleIsFree
  refine wpAny_bind (wpAny_bind (wpAny_field (x := .none) zz rfl rfl (wpAny_pure ?_)))
  simp only [if_true]
  refine wpAny_bind (wpAny_rule ?_)
  refine wpAny_bind (wpAny_field (x := .ref TO) zz rfl rfl ?_)
  refine wpAny_bind (wpAny_setField_rec zz (by simp) fun g1 z1 u1 => ?_)
  replace z1 : IsZip g1 z TI TO .ellipsis := z1
  refine wpAny_bind ?_
  simp only [List.zipIdx_cons, List.zipIdx_nil, List.forIn_cons, List.forIn_nil]
  have x1 : SX p g1 := X.frame p _ g1 x0 fun c hc o e => u1.extBut _ _ (D.f1 c hc).1 e
  have y1 : SY q g1 := Y.frame q _ g1 y0 fun c hc o e => u1.extBut _ _ (D.f2 c hc).1 e
  have to1 : IsPair g1 TO a b := u1.extBut _ _ D.a2 to
  refine wpAny_bind (wpAny_bind (wpAny_onRaise ?_))
  show wpAny (model prog w) A (Builtin.SmallTypes.nextOf (.ref i) >>= _) _ _ _
  refine wpAny_bind (X.item p _ _ _ lx x1 fun x g2 tk2 px x2 u2 => wpAny_pure ?_)
  replace u2 : Heap.SameBut i g1 g2 := u2
  have to2 : IsPair g2 TO a b := u2.extBut _ _ D.a8 to1
  have y2 : SY q g2 := Y.frame q _ g2 y1 fun c hc o e => u2.extBut _ _ (D.f2 c hc).2.2 e
  have z2 : IsZip g2 z TI TO .ellipsis := u2.extBut _ _ D.a3.symm z1
  refine wpAny_bind (wpAny_seqItems to2 rfl ?_)
  refine wpAny_bind (wpAny_updateSeq_pair to2 fun g3 to3 u3 => ?_)
  replace to3 : IsPair g3 TO x b := to3
  replace u3 : Heap.SameBut TO g2 g3 := u3
  have y3 : SY q g3 := Y.frame q _ g3 y2 fun c hc o e => u3.extBut _ _ (D.f2 c hc).2.1 e
  have x3 : SX (p + 1) g3 := X.frame _ _ g3 x2 fun c hc o e => u3.extBut _ _ (D.f1 c hc).2.1 e
  have z3 : IsZip g3 z TI TO .ellipsis := u3.extBut _ _ D.a2.symm z2
  refine wpAny_bind (wpAny_letGo (wpAny_pure ?_))
  refine wpAny_bind (wpAny_bind (wpAny_onRaise ?_))
  show wpAny (model prog w) A (Builtin.SmallTypes.nextOf (.ref j) >>= _) _ _ _
  refine wpAny_bind (Y.item q _ _ _ ly y3 fun y g4 tk4 py y4 u4 => wpAny_pure ?_)
  replace u4 : Heap.SameBut j g3 g4 := u4
  have to4 : IsPair g4 TO x b := u4.extBut _ _ D.a9 to3
  have x4 : SX (p + 1) g4 := X.frame _ _ g4 x3 fun c hc o e => u4.extBut _ _ (D.f1 c hc).2.2 e
  have z4 : IsZip g4 z TI TO .ellipsis := u4.extBut _ _ D.a4.symm z3
  refine wpAny_bind (wpAny_seqItems to4 rfl ?_)
  refine wpAny_bind (wpAny_updateSeq_pair to4 fun g5 to5 u5 => ?_)
  replace to5 : IsPair g5 TO x y := to5
  replace u5 : Heap.SameBut TO g4 g5 := u5
  have x5 : SX (p + 1) g5 := X.frame _ _ g5 x4 fun c hc o e => u5.extBut _ _ (D.f1 c hc).2.1 e
  have y5 : SY (q + 1) g5 := Y.frame _ _ g5 y4 fun c hc o e => u5.extBut _ _ (D.f2 c hc).2.1 e
  have z5 : IsZip g5 z TI TO .ellipsis := u5.extBut _ _ D.a2.symm z4
  refine wpAny_bind (wpAny_letGo (wpAny_pure (wpAny_pure ?_)))
  refine wpAny_bind (wpAny_seqItems to5 rfl ?_)
  refine wpAny_bind (wpAny_newTuple ?_)
  have sz : g5.objs.size = s.heap.objs.size := by rw [u5.1, u4.1, u3.1, u2.1, u1.1]
  have k5 : ∀ c o, c ≠ z → c ≠ TO → c ≠ i → c ≠ j → s.heap.get? c = some o → g5.get? c = some o := fun c o c1 c2 c3 c4 e =>
    u5.extBut _ _ c2 (u4.extBut _ _ c4 (u3.extBut _ _ c2 (u2.extBut _ _ c3 (u1.extBut _ _ c1 e))))
  have ltz : z < g5.objs.size := Heap.lt_size z5
  show wpAny (model prog w) A (Builtin.SmallTypes.ownedTupleHandOut (.ref z) (.ref g5.objs.size) >>= _) _ E _
  unfold Builtin.SmallTypes.ownedTupleHandOut
  refine wpAny_bind ?_
  have z6 : IsZip (g5.push { cls := .type "tuple", data := .seq #[x, y] }) z TI TO .ellipsis := Heap.get?_push_of_some _ z5
  refine wpAny_bind (wpAny_setField_rec z6 (by simp) fun g7 z7 u7 => ?_)
  replace z7 : IsZip g7 z TI TO (rawInt g5.objs.size) := z7
  refine wpAny_setField_rec z7 (by simp) fun g8 z8 u8 => ?_
  replace z8 : IsZip g8 z TI TO (rawInt g5.objs.size) := z8
  have up : ∀ c o, c ≠ z → g5.get? c = some o → g8.get? c = some o := fun c o c1 e => u8.extBut _ _ c1 (u7.extBut _ _ c1 (Heap.get?_push_of_some _ e))
  have nw : IsPair g8 g5.objs.size x y := u8.extBut _ _ (Nat.ne_of_gt ltz) (u7.extBut _ _ (Nat.ne_of_gt ltz) (Heap.get?_push_size _ rfl))
  have s8 : g8.objs.size = g5.objs.size + 1 := by rw [u8.1, u7.1, Heap.size_push]
  rw [sz] at z8 nw s8
  refine wpAny_pure ⟨_, rfl, ?_⟩
  show Q (.ref g5.objs.size) _
  rw [sz]
  exact hQ x y g8 _ px py z8 (up _ _ D.a2 to5) (X.frame _ _ g8 x5 fun c hc o e => up c o (D.f1 c hc).1 e) (Y.frame _ _ g8 y5 fun c hc o e => up c o (D.f2 c hc).1 e) nw s8 fun c o c1 c2 c3 c4 e => up c o c1 (k5 c o c1 c2 c3 c4 e)
theorem zn_end {z TI TO i j : Addr} {U V : List Addr} {n m p q : Nat} {PX PY : Nat → Value → Prop} {SX SY : Nat → Heap → Prop} {a b : Value} {Q : Fin → Shared → Prop}
    (X : Draws prog w A i U n PX SX) (Y : Draws prog w A j V m PY SY) (D : Ap z TI TO i j U V) {s : Shared}
    (zz : IsZip s.heap z TI TO .none) (ti : IsPair s.heap TI (.ref i) (.ref j)) (to : IsPair s.heap TO a b) (x0 : SX p s.heap) (y0 : SY q s.heap) (l : p = n ∨ (p < n ∧ q = m))
    (hE : ∀ h' tk e, (∀ c o, c ≠ z → c ≠ TO → c ≠ i → c ≠ j → s.heap.get? c = some o → h'.get? c = some o) → (∃ o, h'.get? e = some o ∧ o.cls = .type "StopIteration") → E (.ref e) { s with heap := h', toks := tk }) :
    wpAny (model prog w) A (Builtin.«zip.__next__» ⟨[.ref z], []⟩) Q E s := by
  show wpAny (model prog w) A (field (.ref z) 2 >>= _) _ E s
  refine wpAny_bind (wpAny_field (x := .bool false) zz rfl rfl ?_)
  show wpAny (model prog w) A (field (.ref z) 3 >>= _) _ E s
  refine wpAny_bind (wpAny_field (x := .ref TI) zz rfl rfl ?_)
  refine wpAny_bind (wpAny_seqItems ti rfl ?_)
  show wpAny (model prog w) A (Builtin.SmallTypes.ownedTupleIsFree (.ref z) >>= _) _ E s
  unfold Builtin.SmallTypes.ownedTupleIsFree
  refine wpAny_bind (wpAny_bind (wpAny_field (x := .none) zz rfl rfl (wpAny_pure ?_)))
  simp only [if_true]
  refine wpAny_bind (wpAny_rule ?_)
  refine wpAny_bind (wpAny_field (x := .ref TO) zz rfl rfl ?_)
  refine wpAny_bind (wpAny_setField_rec zz (by simp) fun g1 z1 u1 => ?_)
  replace z1 : IsZip g1 z TI TO .ellipsis := z1
  refine wpAny_bind ?_
  simp only [List.zipIdx_cons, List.zipIdx_nil, List.forIn_cons, List.forIn_nil]
  have x1 : SX p g1 := X.frame p _ g1 x0 fun c hc o e => u1.extBut _ _ (D.f1 c hc).1 e
  have y1 : SY q g1 := Y.frame q _ g1 y0 fun c hc o e => u1.extBut _ _ (D.f2 c hc).1 e
  have to1 : IsPair g1 TO a b := u1.extBut _ _ D.a2 to
  refine wpAny_bind (wpAny_bind (wpAny_onRaise ?_))
  show wpAny (model prog w) A (Builtin.SmallTypes.nextOf (.ref i) >>= _) _ _ _
  rcases l with l | ⟨lx, ly⟩
  · subst l
    refine wpAny_bind (X.done _ _ _ x1 fun g2 e u2 he => ?_)
    obtain ⟨oe, hoe, hce⟩ := he
    replace u2 : Heap.ExtBut i g1 g2 := u2
    have z2 : IsZip g2 z TI TO .ellipsis := u2 _ _ D.a3.symm z1
    have ez : e ≠ z := fun h => by subst h; rw [z2] at hoe; cases hoe; simp at hce
    refine wpAny_setField_rec z2 (by simp) fun g3 _ u3 => hE g3 _ e (fun c o c1 _ c3 _ h => u3.extBut _ _ c1 (u2 _ _ c3 (u1.extBut _ _ c1 h))) ⟨oe, u3.extBut _ _ ez hoe, hce⟩
  · subst ly
    refine wpAny_bind (X.item p _ _ _ lx x1 fun x g2 tk2 px x2 u2 => wpAny_pure ?_)
    replace u2 : Heap.SameBut i g1 g2 := u2
    have to2 : IsPair g2 TO a b := u2.extBut _ _ D.a8 to1
    have y2 : SY q g2 := Y.frame q _ g2 y1 fun c hc o e => u2.extBut _ _ (D.f2 c hc).2.2 e
    have z2 : IsZip g2 z TI TO .ellipsis := u2.extBut _ _ D.a3.symm z1
    refine wpAny_bind (wpAny_seqItems to2 rfl ?_)
    refine wpAny_bind (wpAny_updateSeq_pair to2 fun g3 to3 u3 => ?_)
    replace u3 : Heap.SameBut TO g2 g3 := u3
    have y3 : SY q g3 := Y.frame q _ g3 y2 fun c hc o e => u3.extBut _ _ (D.f2 c hc).2.1 e
    have z3 : IsZip g3 z TI TO .ellipsis := u3.extBut _ _ D.a2.symm z2
    refine wpAny_bind (wpAny_letGo (wpAny_pure ?_))
    refine wpAny_bind (wpAny_bind (wpAny_onRaise ?_))
    show wpAny (model prog w) A (Builtin.SmallTypes.nextOf (.ref j) >>= _) _ _ _
    refine wpAny_bind (Y.done _ _ _ y3 fun g4 e u4 he => ?_)
    obtain ⟨oe, hoe, hce⟩ := he
    replace u4 : Heap.ExtBut j g3 g4 := u4
    have z4 : IsZip g4 z TI TO .ellipsis := u4 _ _ D.a4.symm z3
    have ez : e ≠ z := fun h => by subst h; rw [z4] at hoe; cases hoe; simp at hce
    refine wpAny_setField_rec z4 (by simp) fun g5 _ u5 => hE g5 _ e (fun c o c1 c2 c3 c4 h => u5.extBut _ _ c1 (u4 _ _ c4 (u3.extBut _ _ c2 (u2.extBut _ _ c3 (u1.extBut _ _ c1 h))))) ⟨oe, u5.extBut _ _ ez hoe, hce⟩
theorem pz_item {z TI TO i j : Addr} {U V : List Addr} {n m p q : Nat} {PX PY : Nat → Value → Prop} {SX SY : Nat → Heap → Prop} {a b : Value} {Q : Option Value → Shared → Prop}
    (X : Draws prog w A.in1 i U n PX SX) (Y : Draws prog w A.in1 j V m PY SY) (D : Ap z TI TO i j U V) {s : Shared}
    (zz : IsZip s.heap z TI TO .none) (ti : IsPair s.heap TI (.ref i) (.ref j)) (to : IsPair s.heap TO a b) (x0 : SX p s.heap) (y0 : SY q s.heap) (lx : p < n) (ly : q < m)
    (hQ : ∀ x y h' tk, PX p x → PY q y → IsZip h' z TI TO (rawInt s.heap.objs.size) → IsPair h' TO x y → SX (p + 1) h' → SY (q + 1) h' → IsPair h' s.heap.objs.size x y → h'.objs.size = s.heap.objs.size + 1 →
      (∀ c o, c ≠ z → c ≠ TO → c ≠ i → c ≠ j → s.heap.get? c = some o → h'.get? c = some o) → Q (some (.ref s.heap.objs.size)) { s with heap := h', toks := tk }) :
    wpAny (model prog w) A (pyNext (.ref z)) Q E s := by
  have ty : s.TypeIs (.ref z) "zip" := ⟨_, zz, rfl⟩
  unfold pyNext
  refine wpAny_bind (wpAny_attempt (wpAny_callSpecial?_slot (name := Str.ofString "__next__") ty F.slot_zip_next (wpAny_call_entry F.slot_zip_next ty F.entry_zip_next ?_ (F.args_zip_next_1 _))))
  exact zn_item X Y D zz ti to x0 y0 lx ly fun x y h' tk c1 c2 c3 c4 c5 c6 c7 c8 c9 => wpAny_pure (hQ x y h' tk c1 c2 c3 c4 c5 c6 c7 c8 c9)
theorem pz_end {z TI TO i j : Addr} {U V : List Addr} {n m p q : Nat} {PX PY : Nat → Value → Prop} {SX SY : Nat → Heap → Prop} {a b : Value} {Q : Option Value → Shared → Prop}
    (X : Draws prog w A.in1 i U n PX SX) (Y : Draws prog w A.in1 j V m PY SY) (D : Ap z TI TO i j U V) {s : Shared}
    (zz : IsZip s.heap z TI TO .none) (ti : IsPair s.heap TI (.ref i) (.ref j)) (to : IsPair s.heap TO a b) (x0 : SX p s.heap) (y0 : SY q s.heap) (l : p = n ∨ (p < n ∧ q = m))
    (hQ : ∀ h' tk, (∀ c o, c ≠ z → c ≠ TO → c ≠ i → c ≠ j → s.heap.get? c = some o → h'.get? c = some o) → Q none { s with heap := h', toks := tk }) :
    wpAny (model prog w) A (pyNext (.ref z)) Q E s := by
  have ty : s.TypeIs (.ref z) "zip" := ⟨_, zz, rfl⟩
  unfold pyNext
  refine wpAny_bind (wpAny_attempt (wpAny_callSpecial?_slot (name := Str.ofString "__next__") ty F.slot_zip_next (wpAny_call_entry F.slot_zip_next ty F.entry_zip_next ?_ (F.args_zip_next_1 _))))
  refine zn_end X Y D zz ti to x0 y0 l fun h' tk e hk he => ?_
  obtain ⟨o, ho, hc⟩ := he
  exact wpAny_bind (wpAny_isInstance (T := "StopIteration") (b := true) ⟨o, ho, hc⟩ isSubtype_stop (wpAny_pure (hQ _ _ hk)))
theorem draws_tup {A : Around} (hh : A.handled = none) (it l : Addr) (hne : l ≠ it) (items : Array Value) :
    Draws prog w A it [it, l] items.size (fun i v => items[i]? = some v) (fun i h => h.IsTupleIter it l i ∧ h.IsTuple l items) where
  live := fun _ _ st => let ⟨o, ho, _⟩ := st.1; ⟨o, ho⟩
  frame := fun _ _ _ st hk => ⟨st.1.at fun o e => hk it (by simp) o e, let ⟨o, ho, r⟩ := st.2; ⟨o, hk l (by simp) o ho, r⟩⟩
  item := fun i s Q E hi st hQ => nextOf_tuple_item st.1 st.2 (x := items[i]) (by simp [hi]) fun h' hit' u => hQ _ h' s.toks (by simp [hi]) ⟨hit', st.2.extBut u.extBut hne⟩ u
  done := fun s Q E st hE => nextOf_tuple_end hh st.1 st.2 (by simp) hE
/-- the heap behind zip(text, tuple) -/
abbrev zh1 (h : Heap) (x : Str) (t : Tok) : Heap := h.push { cls := .type "str_ascii_iterator", data := .fields #[.str x t, .int 0 0] }
abbrev zh2 (h : Heap) (x : Str) (t : Tok) (l : Addr) : Heap := (zh1 h x t).push { cls := .type "tuple_iterator", data := .fields #[.ref l, .int 0 0] }
abbrev zh3 (h : Heap) (x : Str) (t : Tok) (l : Addr) : Heap := (zh2 h x t l).push { cls := .type "tuple", data := .seq #[.ref h.objs.size, .ref (zh1 h x t).objs.size] }
abbrev zh4 (h : Heap) (x : Str) (t : Tok) (l : Addr) : Heap := (zh3 h x t l).push { cls := .type "tuple", data := .seq #[.none, .none] }
abbrev zh5 (h : Heap) (x : Str) (t : Tok) (l : Addr) : Heap := (zh4 h x t l).push { cls := .type "zip", data := .fields #[.none, .bool false, .bool false, .ref (zh2 h x t l).objs.size, .ref (zh3 h x t l).objs.size] }
theorem zip_made (x : Str) (t : Tok) (l : Addr) (ys : Array Value) :
    Meets (Builtin.«zip.__new__» ⟨[.type "zip", .str x t, .ref l], []⟩) (fun _ R s => x.cps.all (· < 128) = true ∧ s.heap.IsTuple l ys ∧
      R (.ok (.ret (.ref (zh4 s.heap x t l).objs.size))) { s with heap := zh5 s.heap x t l }) :=
  .of_wp fun prog w A R s h => by
    obtain ⟨hp, g, d, tk, os⟩ := s
    obtain ⟨ha, hl, h⟩ := h
    have hsub := sub_zip
    have hL : Heap.IsTuple (Shared.heap ⟨zh1 hp x t, g, d, tk, os⟩) l ys := Heap.IsTuple.push hl _
    wp_walk using wpAny_pyIter_ascii ha, wpAny_pyIter_tuple hL
    exact ⟨_, rfl, h⟩
theorem zip_call {x : Str} {t : Tok} {l : Addr} {ys : Array Value} {Q : Value → Shared → Prop} {s : Shared} (ha : x.cps.all (· < 128) = true) (hl : s.heap.IsTuple l ys)
    (h : ∀ h', IsZip h' (s.heap.objs.size + 4) (s.heap.objs.size + 2) (s.heap.objs.size + 3) .none → IsPair h' (s.heap.objs.size + 2) (.ref s.heap.objs.size) (.ref (s.heap.objs.size + 1)) →
      IsPair h' (s.heap.objs.size + 3) .none .none → h'.IsStrIter s.heap.objs.size "str_ascii_iterator" x t 0 → h'.IsTupleIter (s.heap.objs.size + 1) l 0 →
      (∀ c o, s.heap.get? c = some o → h'.get? c = some o) → Q (.ref (s.heap.objs.size + 4)) { s with heap := h' }) :
    wpAny (model prog w) A (call (.type "zip") [.str x t, .ref l]) Q E s := by
  refine callType_new F.called_zip (by decide) (F.typeCall_zip_2 _ _) (F.newCall_zip_2 _ _) (fun obj => F.args_object_init_3 obj _ _) F.entry_zip_new (zip_made x t l ys) ⟨ha, hl, ?_⟩
  have e1 : (zh1 s.heap x t).objs.size = s.heap.objs.size + 1 := Heap.size_push ..
  have e2 : (zh2 s.heap x t l).objs.size = s.heap.objs.size + 2 := by rw [Heap.size_push, e1]
  have e3 : (zh3 s.heap x t l).objs.size = s.heap.objs.size + 3 := by rw [Heap.size_push, e2]
  have e4 : (zh4 s.heap x t l).objs.size = s.heap.objs.size + 4 := by rw [Heap.size_push, e3]
  have q5 : (zh5 s.heap x t l).get? (zh4 s.heap x t l).objs.size = some _ := Heap.get?_push_size _ rfl
  have q4 : (zh5 s.heap x t l).get? (zh3 s.heap x t l).objs.size = some _ := Heap.get?_push_of_some _ (Heap.get?_push_size _ rfl)
  have q3 : (zh5 s.heap x t l).get? (zh2 s.heap x t l).objs.size = some _ := Heap.get?_push_of_some _ (Heap.get?_push_of_some _ (Heap.get?_push_size _ rfl))
  have q2 : (zh5 s.heap x t l).get? (zh1 s.heap x t).objs.size = some _ := Heap.get?_push_of_some _ (Heap.get?_push_of_some _ (Heap.get?_push_of_some _ (Heap.get?_push_size _ rfl)))
  have q1 : (zh5 s.heap x t l).get? s.heap.objs.size = some _ := Heap.get?_push_of_some _ (Heap.get?_push_of_some _ (Heap.get?_push_of_some _ (Heap.get?_push_of_some _ (Heap.get?_push_size _ rfl))))
  show _ ∧ _
  rw [e2, e3, e4] at q5
  rw [e1, e2] at q3
  rw [e3] at q4
  rw [e1] at q2
  rw [e4]
  exact ⟨⟨_, q5, rfl⟩, h _ q5 q3 q4 ⟨_, q1, rfl, rfl⟩ ⟨_, q2, rfl, rfl⟩ fun c o v =>
    Heap.get?_push_of_some _ (Heap.get?_push_of_some _ (Heap.get?_push_of_some _ (Heap.get?_push_of_some _ (Heap.get?_push_of_some _ v))))⟩
end
end Z

/-! Z11: [.. for c, y in zip(text, tuple)]. -/
namespace Z
open PySem PySem.Spec PyProof.Rows L2 RZ

def ItzS (K : PySem.W.Frag) (x : Str) (b : Addr) : It :=
  ⟨fun i H => ∃ (ys : List V) (y : V), SqT K H b ys ∧ i < x.cps.size ∧ ys[i]? = some y,
    fun i H v H' => ∃ T c y, v = .ref T ∧ H T = none ∧ H' = upd H T (.tup [.str (one c), y]) ∧ x.cps[i]? = some c ∧ ∀ ys, SqT K H b ys → ys[i]? = some y,
    fun i H => ∃ ys : List V, SqT K H b ys ∧ (i = x.cps.size ∨ (i < x.cps.size ∧ i = ys.length))⟩
theorem ap_of {z TI TO i j b : Addr} (D : ZipApart z TI TO i j b b) : Ap z TI TO i j [i] [j, b] where
  a1 := D.TIz
  a2 := D.TOz
  a3 := D.i1z
  a4 := D.i2z
  a5 := D.TITO
  a6 := D.TIi1
  a7 := D.TIi2
  a8 := D.TOi1
  a9 := D.TOi2
  b1 := D.i12
  f1 := fun c hc => by rw [List.mem_singleton.mp hc]; exact ⟨D.i1z, D.TOi1.symm, D.i12⟩
  f2 := fun c hc => by
    rcases List.mem_cons.mp hc with e | e
    · rw [e]; exact ⟨D.i2z, D.TOi2.symm, D.i12.symm⟩
    · rw [List.mem_singleton.mp e]; exact ⟨D.l2z, D.l2TO, D.l2i1⟩
theorem turn_zipS {P : Program} {w : World} {K : PySem.W.Frag} {elts : List Expr} {kk : Nat} {tpos : Pos} {x : Str} {t : Tok} {b z TI TO i1 i2 : Addr} (D : ZipApart z TI TO i1 i2 b b) :
    L2.Turn P w K (.Tuple elts kk tpos) (ItzS K x b) [z, TI, TO, i1, i2] z (fun i h => IsZip h z TI TO .none ∧ IsPair h TI (.ref i1) (.ref i2) ∧ (∃ u v, IsPair h TO u v) ∧ h.IsStrIter i1 "str_ascii_iterator" x t i ∧ h.IsTupleIter i2 b i) where
  mem := by simp
  obj := fun i h st c hc => by
    obtain ⟨zz, ti, ⟨u, v, to⟩, ⟨o1, e1, _, d1⟩, ⟨o2, e2, _, d2⟩⟩ := st
    have e' : c = z ∨ c = TI ∨ c = TO ∨ c = i1 ∨ c = i2 := by simpa using hc
    rcases e' with rfl | rfl | rfl | rfl | rfl
    · exact ⟨_, zz, fun v q => nomatch q⟩
    · exact ⟨_, ti, fun v q => nomatch q⟩
    · exact ⟨_, to, fun v q => nomatch q⟩
    · exact ⟨o1, e1, fun v q => by rw [d1] at q; cases q⟩
    · exact ⟨o2, e2, fun v q => by rw [d2] at q; cases q⟩
  keep := fun i h h' st k => by
    obtain ⟨zz, ti, ⟨u, v, to⟩, ⟨o1, e1, r1⟩, s2⟩ := st
    exact ⟨k z (by simp) _ zz, k TI (by simp) _ ti, ⟨u, v, k TO (by simp) _ to⟩, ⟨o1, k i1 (by simp) o1 e1, r1⟩, s2.at fun o q => k i2 (by simp) o q⟩
  item := by
    intro X hP hw hK hc i pins s σ H E I hf st hg
    subst hP hw hK
    obtain ⟨zz, ti, ⟨u0, v0, to⟩, s1, s2⟩ := st
    obtain ⟨ys, y, hqy, hi, hy⟩ := hg
    obtain ⟨its, rv, p2, _⟩ := I.tuple hqy
    obtain ⟨u2, hu2, ru2⟩ := rv.get hy
    have hh : X.A.in1.handled = none := I.ok.hd hc
    have hm : i < its.toArray.size := by
      have := List.getElem?_eq_some_iff.mp hu2
      obtain ⟨h, _⟩ := this
      simpa using h
    have ltz : z < s.heap.objs.size := Heap.lt_size zz
    refine pz_item (Draws.strAscii hh i1 x t) (draws_tup hh i2 b D.l2i2 its.toArray) (ap_of D) zz ti to s1 ⟨s2, p2⟩ hi hm fun a c h' tk pa pc z' to' s1' s2' nw sz hk => ?_
    obtain ⟨cc, ut, hcc, rfl⟩ := pa
    have hcu : c = u2 := by
      have e : its.toArray[i]? = some u2 := by simpa using hu2
      rw [e] at pc; cases pc; rfl
    subst hcu
    refine ⟨_, rfl, wpAny_letOwnedTupleGo_zip (s := { s with heap := h', toks := tk }) z' fun h2 z2 sb => ?_⟩
    have nw2 : h2.get? s.heap.objs.size = some { cls := .type "tuple", data := .seq #[.str ⟨#[cc]⟩ ut, c] } := (sb.2 _ (Nat.ne_of_gt ltz)).trans nw
    have new : ObjOk X.prog X.w (upd H s.heap.objs.size (.tup [.str (one cc), y])) h2 s.heap.objs.size (.tup [.str (one cc), y]) :=
      ⟨by show 2 ≤ sizeLine; decide, [.str ⟨#[cc]⟩ ut, c], .cons ⟨ut, rfl⟩ (.cons ru2 .nil), ⟨_, nw2, rfl, _, rfl⟩⟩
    have I1 : Inv X pins σ (upd H s.heap.objs.size (.tup [.str (one cc), y])) { s with heap := h2, toks := tk } :=
      I.turnedNew (t' := tk) (ch := [z, TI, TO, i1, i2]) (fun v o hb q => (sb.2 v (fun e => hb (by simp [e]))).trans (hk v o (fun e => hb (by simp [e])) (fun e => hb (by simp [e])) (fun e => hb (by simp [e])) (fun e => hb (by simp [e])) q)) hf (Nat.le_refl _) new
    refine ⟨.ref s.heap.objs.size, _, I1, rfl, ⟨_, cc, y, rfl, I.hok.fresh (Nat.le_refl _), rfl, hcc, fun l hl => by rw [I.tuple_inj hl hqy]; exact hy⟩, ⟨z2, ?_, ⟨.str ⟨#[cc]⟩ ut, c, ?_⟩, ?_, ?_⟩, fun v hv => ?_⟩
    · exact (sb.2 _ D.TIz).trans (hk _ _ D.TIz D.TITO D.TIi1 D.TIi2 ti)
    · exact (sb.2 _ D.TOz).trans to'
    · obtain ⟨o, ho, r⟩ := s1'
      exact ⟨o, (sb.2 _ D.i1z).trans ho, r⟩
    · exact s2'.1.at fun o q => (sb.2 _ D.i2z).trans q
    · obtain ⟨_, f2, _⟩ := hf v hv
      have hlt : v < s.heap.objs.size := by
        have e' : v = z ∨ v = TI ∨ v = TO ∨ v = i1 ∨ v = i2 := by simpa using hv
        rcases e' with rfl | rfl | rfl | rfl | rfl
        · exact ltz
        · exact Heap.lt_size ti
        · exact Heap.lt_size to
        · obtain ⟨_, e1, _⟩ := s1; exact Heap.lt_size e1
        · obtain ⟨_, e1, _⟩ := s2; exact Heap.lt_size e1
      rw [upd_ne (Nat.ne_of_lt hlt)]
      exact (hf v hv).1
  done := by
    intro X hP hw hK hc i pins s σ H E I hf st hg
    subst hP hw hK
    obtain ⟨zz, ti, ⟨u0, v0, to⟩, s1, s2⟩ := st
    obtain ⟨ys, hqy, hend⟩ := hg
    obtain ⟨its, rv, p2, _⟩ := I.tuple hqy
    have lv := rv.length
    have hh : X.A.in1.handled = none := I.ok.hd hc
    refine pz_end (Draws.strAscii hh i1 x t) (draws_tup hh i2 b D.l2i2 its.toArray) (ap_of D) zz ti to s1 ⟨s2, p2⟩ ?_ fun h' tk hk => ⟨rfl, ?_⟩
    · rcases hend with e | ⟨e, e2⟩
      · exact .inl e
      · exact .inr ⟨e, by simp; omega⟩
    · exact I.turnedL (t' := tk) (ch := [z, TI, TO, i1, i2]) (fun c o hb q => hk c o (fun e => hb (by simp [e])) (fun e => hb (by simp [e])) (fun e => hb (by simp [e])) (fun e => hb (by simp [e])) q) hf
  self := fun A i s Q E st h => wpAny_pyIter_zip st.1 h
def iZipS (K : PySem.W.Frag) (ta : TA) : TI := fun σ H R => ta σ H fun vs H1 => ∃ x b ys, vs = [.str x, .ref b] ∧ x.cps.all (· < 128) = true ∧ SqT K H1 b ys ∧ R (ItzS K x b) H1
theorem pi_zipS {X : Cx} {e e2 : Expr} {ta : TA} {p pos tpos : Pos} {elts : List Expr} {kk : Nat} (hg : Gl X "zip") (hm : X.mg "zip" = none) (ha : PA X [e, e2] ta)
    (hs : starEach [e, e2] X.env = (false, eval e X.env) :: starEach [e2] X.env := by rfl) (hpl : (backTo pos (starEach [e2] X.env)).any (·.1) = false := by rfl) :
    PI X (.Tuple elts kk tpos) (.Call (.Name "zip" p) [e, e2] [] pos) (iZipS X.K ta) := by
  constructor
  intro pins s σ H R I h
  refine Call_ (ld_blt I hg hm PyProof.Rows.boot_zip (PyProof.Rows.callWith_type1 (thn (ha.run pos pins s σ H _ I h) fun us s1 q0 => ?_) hs hpl))
  obtain ⟨vs, H1, I1, r1, x, b, ys, ex, hx, hqy, q⟩ := q0
  subst ex
  cases r1 with
  | cons r rr =>
    cases rr with
    | cons r' rr =>
      cases rr
      obtain ⟨t, rfl⟩ := r
      cases r'
      obtain ⟨its, rv, p2, _⟩ := I1.tuple hqy
      obtain ⟨o2, ho2, _⟩ := id p2
      refine zip_call hx (show s1.heap.IsTuple b its.toArray from p2) fun h' zz ti to s1' s2' hk => wpAny_pyIter_zip zz ?_
      have I2 : Inv X pins σ H1 { s1 with heap := h' } := I1.kept (t' := s1.toks) hk
      refine ⟨s1.heap.objs.size + 4, [s1.heap.objs.size + 4, s1.heap.objs.size + 2, s1.heap.objs.size + 3, s1.heap.objs.size, s1.heap.objs.size + 1], _, _, H1, rfl, I2,
        turn_zipS (x := x) (t := t) (PySem.W.ktu_apart s1.heap.objs.size b b (Heap.lt_size ho2) (Heap.lt_size ho2)), ⟨zz, ti, ⟨_, _, to⟩, s1', s2'⟩, fun c hc => ?_, q⟩
      have hle : s1.heap.objs.size ≤ c := by
        simp only [List.mem_cons, List.not_mem_nil, or_false] at hc
        rcases hc with rfl | rfl | rfl | rfl | rfl
        · exact Nat.le_add_right _ _
        · exact Nat.le_add_right _ _
        · exact Nat.le_add_right _ _
        · exact Nat.le_refl _
        · exact Nat.le_add_right _ _
      exact I1.fpOk hle (I1.hok.fresh hle)
/-- the signs of a text, as values -/
def sgs (x : Str) : List V := x.cps.toList.map fun c => V.str (one c)
theorem sgs_at {x : Str} {i c : Nat} (h : x.cps[i]? = some c) : (sgs x)[i]? = some (V.str (one c)) := by
  unfold sgs
  rw [List.getElem?_map, Array.getElem?_toList, h]; rfl
theorem sgs_len {x : Str} : (sgs x).length = x.length := by
  unfold sgs
  rw [List.length_map]; simp [Str.length]
section
variable {tt : TT} {te : TE} {σ : L2.St} {j l : Nat} {Q : VK} {H1 : Hp}
theorem selZipS {K : PySem.W.Frag} {x : Str} {b : Addr} {ys : List V} (hjl : j ≠ l) (sel : V → V → List V) (h2 : SqT K H1 b ys) (hlen : x.length = ys.length) (hn : ys.length ≤ 1000000)
    (hs : ∀ (i c : Nat) (y : V) acc G, x.cps[i]? = some c → ys[i]? = some y → L2.Same H1 G → Turn2 tt te σ j l (.str (one c)) y acc G fun acc' G' => L2.Same G G' ∧ acc' = acc ++ sel (.str (one c)) y)
    (hd : ∀ D H', L2.Same H1 H' → H' D = some (.lst (zipSel sel (sgs x) ys)) → H1 D = none → Q (.ref D) H') :
    ∀ D, H1 D = none → ∃ W : Nat → Nat → Hp → Prop, (∃ m, W 0 m (upd H1 D (.lst []))) ∧ ∀ i m H, W i m H →
      ((ItzS K x b).stop i H ∧ Q (.ref D) H) ∨ ((ItzS K x b).go i H ∧ ∃ Nx : Hp → Prop, (∀ H', Nx H' → ∃ m', m' < m ∧ W (i + 1) m' H') ∧
        ∀ v H', (ItzS K x b).yld i H v H' → gTup K 2 (gCons (gName j) (gCons (gName l) gNil)) v (wipe σ [j, l]) H' fun σ2 H2 => wipe σ2 [j, l] = wipe σ [j, l] ∧ tFrT tt σ2 H2 fun b H3 =>
          if b = true then tFr te σ2 H3 fun y H4 => ∃ acc, H4 D = some (.lst acc) ∧ acc.length < sizeLine ∧ Nx (upd H4 D (.lst (acc ++ [y]))) else Nx H3) := by
  have hsz : x.cps.size = ys.length := hlen
  have zl : ((sgs x).zip ys).length = ys.length := by rw [List.length_zip, sgs_len]; omega
  have step : ∀ {i : Nat} {c : Nat} {y : V}, x.cps[i]? = some c → ys[i]? = some y → ((sgs x).zip ys).take (i + 1) = ((sgs x).zip ys).take i ++ [(.str (one c), y)] := fun {i c y} hx hy => take_snoc (by rw [List.getElem?_zip_eq_some]; exact ⟨sgs_at hx, hy⟩)
  intro D hD
  refine ⟨fun i m H => m = ys.length - i ∧ i ≤ ys.length ∧ ∃ acc G, H = upd G D (.lst acc) ∧ G D = none ∧ acc.length ≤ i ∧ L2.Same H1 G ∧ acc = (((sgs x).zip ys).take i).flatMap fun p => sel p.1 p.2, ⟨_, rfl, Nat.zero_le _, [], H1, rfl, hD, Nat.le_refl _, L2.Same.refl _, by simp⟩, ?_⟩
  rintro i m H ⟨rfl, hi, acc, G, rfl, hG, hac, he, hacc⟩
  have hb' := liftT (acc := acc) hG (Same.seqT he h2)
  by_cases h : i < ys.length
  · refine .inr ⟨⟨ys, ys[i], hb', by omega, List.getElem?_eq_getElem h⟩, fun H' => i + 1 ≤ ys.length ∧ ∃ acc G, H' = upd G D (.lst acc) ∧ G D = none ∧ acc.length ≤ i + 1 ∧ L2.Same H1 G ∧ acc = (((sgs x).zip ys).take (i + 1)).flatMap fun p => sel p.1 p.2, ?_, ?_⟩
    · rintro H' ⟨hi', q⟩
      exact ⟨ys.length - (i + 1), by omega, rfl, hi', q⟩
    · rintro v H' ⟨T, c, y, rfl, hT, rfl, hx, hyy⟩
      have hy := hyy ys hb'
      have hGT : G T = none := by
        by_cases e : T = D
        · rw [e, upd_same] at hT; cases hT
        · rw [upd_ne e] at hT; exact hT
      refine turn_core2 hjl hG hT (small_lt (by omega)) (hs i c y acc _ hx hy (he.trans (Same.new hGT))) fun acc' G' p' hl' hD' => ⟨by omega, acc', G', rfl, hD', by omega, (he.trans (Same.new hGT)).trans p'.1, ?_⟩
      rw [p'.2, step hx hy, List.flatMap_append, hacc]; simp
  · have e : i = ys.length := by omega
    subst e
    refine .inl ⟨⟨ys, hb', .inl hsz.symm⟩, ?_⟩
    rw [hacc, ← zl, List.take_length]
    exact sel_end he hG fun D H' a b c _ => hd D H' a b c
end
def SelZS (K : PySem.W.Frag) (tt : TT) (te : TE) (σ : L2.St) (j l : Nat) (Q : VK) (vs : List V) (H1 : Hp) : Prop := ∃ (x : Str) (b : Addr) (ys : List V) (sel : V → V → List V), vs = [.str x, .ref b] ∧ j ≠ l ∧ x.cps.all (· < 128) = true ∧ SqT K H1 b ys ∧ x.length = ys.length ∧ ys.length ≤ 1000000 ∧
  (∀ (i c : Nat) (y : V) acc G, x.cps[i]? = some c → ys[i]? = some y → L2.Same H1 G → Turn2 tt te σ j l (.str (one c)) y acc G fun acc' G' => L2.Same G G' ∧ acc' = acc ++ sel (.str (one c)) y) ∧
  ∀ D H', L2.Same H1 H' → H' D = some (.lst (zipSel sel (sgs x) ys)) → H1 D = none → Q (.ref D) H'
theorem cZipS {K : PySem.W.Frag} {tA : TA} {tt : TT} {te : TE} {σ : L2.St} {j l : Nat} {Q : VK} {H : Hp} (k : tA σ H (SelZS K tt te σ j l Q)) : tLc (iZipS K (tMoA tA)) (gTup K 2 (gCons (gName j) (gCons (gName l) gNil))) (tFrT tt) (tFr te) [j, l] σ H Q := by
  refine ⟨_, k, ?_⟩
  rintro v H' ⟨x, b, ys, sel, rfl, hjl, hx, h0, hlen, h1, h2, h3⟩
  exact ⟨x, b, ys, rfl, hx, h0, selZipS hjl sel h0 hlen h1 h2 h3⟩
end Z

/-! Z12: the law's own call, for contracts that tell the guards; what is told of the script and of the table of modules. -/
namespace Z
open PySem PySem.Spec PyProof.Rows L2 RZ

theorem law_callG {P : Program} {w : World} {K : PySem.W.Frag} {mg mb : Str → Option Value} {k : Nat} {fa a : Addr} {fd : FuncData} {x : Str} {sp : Sp} {s : Shared} {vs : List Value} {ns : List Int}
    (KX : K.In s.heap) (hns : s.heap.Ns mainGlobals mg) (hb : s.heap.Ns builtinsNs mb) (hbb : ∀ x : Str, x ≠ "__name__" → mb x = bootBuiltins x) (hlim : s.heap.NoLimit) (hg : s.gens = #[]) (hsb : SysB s.heap)
    (ha : s.heap.get? a = some { cls := .type "list", data := .seq vs.toArray }) (hi : IntsAre vs ns) (hl : ns.length ≤ sizeLine) (hr : Room k callerA)
    (F : ∀ base : Heap, K.In base → base.Ns mainGlobals mg → SysB base → FnG P w K mg base CX0 k fa fd [x] sp) (hbind : ∀ (s : Shared) (u : Value), BindsTo s fd ⟨[u], []⟩ [(x, u)])
    (hsp : ∀ H : Hp, SqL K H a (ns.map V.int) → sp [.ref a] H (fun v _ => v = .bl true) fun _ _ _ => False) :
    codeAny (model P w) callerA (.call (.ref fa) ⟨[.ref a], []⟩) (fun r s' => r = .ok (.ret (.bool true)) ∧ OldK s.heap s'.heap ∧ s'.os = s.os ∧ AllBare s'.gens) s := by
  have rv := vals_ints hi
  have lenV := hi.length
  have core : ∀ H : Hp, Only H → SqL K H a (ns.map V.int) → HOk P w H s.heap → (∀ b, H b ≠ none → b = a) → (H a ≠ none → K.lookup a = none) →
      codeAny (model P w) callerA (.call (.ref fa) ⟨[.ref a], []⟩) (fun r s' => r = .ok (.ret (.bool true)) ∧ OldK s.heap s'.heap ∧ s'.os = s.os ∧ AllBare s'.gens) s := by
    intro H only sq ok hA hK
    have free : ∀ {b : Addr} {o : Obj} {es : Array DictEntry} {n : Nat}, s.heap.get? b = some o → o.data = .dict es n → H b = none := by
      intro b o es n e d
      refine Classical.byContradiction fun q => ?_
      rw [hA b q, ha] at e
      cases e
      have d' : Data.seq vs.toArray _ = Data.dict es n := d
      cases d'
    have nsK : ∀ {b : Addr} {m : Str → Option Value}, s.heap.Ns b m → (hidT s.heap H).Ns b m := by
      rintro b m ⟨o, es, n, e, d, r⟩
      exact ⟨o, es, n, hidT_get e (free e d), d, r⟩
    have inb : K.In (hidT s.heap H) := by
      intro b o e
      refine hidT_get (KX b o e) (Classical.byContradiction fun q => ?_)
      have e' := hA b q
      subst e'
      rw [hK q] at e; cases e
    have sb : SysB (hidT s.heap H) := by
      obtain ⟨o, es, n, e, d⟩ := hsb
      exact ⟨o, es, n, hidT_get e (free e d), d⟩
    obtain ⟨mc, c1, c2⟩ := id hlim
    have md : Mod K mg (hidT s.heap H) := ⟨inb, nsK hns, ⟨mb, nsK hb, hbb⟩, ⟨mc, nsK c1, c2⟩⟩
    have e0 : Env0 P w K mg (hidT s.heap H) callerA [] s H := ⟨rfl, md, fun b o e => of_hidT e, Nat.le_of_eq (hidT_size _ _), trivial, fun b hb => absurd (show b ∈ ([] : List Addr) from hb) (by simp), ok, .of_eq hg⟩
    refine codeAny_mono ((F _ inb (nsK hns) sb).run callerA [] s H ⟨[.ref a], []⟩ [.ref a] [.ref a] _ _ rfl hr e0 (hbind s (.ref a)) (.cons rfl .nil) (hsp H sq)) ?_
    rintro (e | fl) s' h
    · exact (show False from h).elim
    cases fl with
    | ret u =>
      obtain ⟨v, H', os, bare, un, ok', rel, q⟩ := h
      obtain rfl : v = .bl true := q
      obtain rfl : u = Value.bool true := rel
      refine ⟨rfl, OldK.of_keep ?_, os, bare⟩
      intro b o e
      cases q : H b with
      | none => exact un.keep b o e q (by intro z; exact absurd (show b ∈ ([] : List Addr) from z) (by simp)) (by simp)
      | some u =>
        rcases only b with z | ⟨ob, xs, z⟩
        · rw [q] at z; cases z
        · obtain ⟨e1, _⟩ := ok b _ z
          obtain ⟨e2, _⟩ := ok' b _ (un.frzs b ob _ z)
          rw [e] at e1; cases e1
          exact e2
    | next | brk | cont => exact (show False from h).elim
  cases hk : K.lookup a with
  | some o =>
    have e := KX a o hk
    rw [ha] at e
    cases e
    exact core (fun _ => none) (fun _ => .inl rfl) (.inr ⟨_, vs.toArray, _, hk, rfl, rfl, rfl, by rw [List.size_toArray, lenV]; exact hl, by simpa using rv⟩) (fun b u z => by cases (show (none : Option HO) = some u from z)) (fun b z => absurd rfl z) fun z => absurd rfl z
  | none =>
    refine core (fun b => if b = a then some (.frz { cls := .type "list", data := .seq vs.toArray } (.lst (ns.map V.int))) else none) ?_ (.inl (.inr ⟨{ cls := .type "list", data := .seq vs.toArray }, if_pos rfl⟩)) ?_ ?_ fun _ => hk
    · intro b
      by_cases hb : b = a
      · exact .inr ⟨_, _, if_pos hb⟩
      · exact .inl (if_neg hb)
    · intro b u z
      by_cases hb : b = a
      · cases (if_pos hb).symm.trans z
        subst hb
        exact ⟨ha, by rw [List.length_map]; exact hl, vs, _, rv, ha⟩
      · cases (if_neg hb).symm.trans z
    · intro b z
      exact Classical.byContradiction fun hb => z (if_neg hb)
theorem walkG {l : PySem.W.OpenLaw} {n k : Nat} {q : Program} {loose : List Str} {XP : (Str → Option Value) → Heap → Prop} {YP : World → Heap → Prop} {d : DefRec} {K : Params → PySem.W.Frag} {sp : PySem.W.Frag → World → Sp} {x : Str}
    (hn : l.most = some n) (hn2 : n ≤ sizeLine) (hdf : d.params.defaults = []) (hr : Room k callerA) (himp : importsNone q = true)
    (hY : ∀ (w : World) (h : Heap), YP w h → (K w.params).In h)
    (F : ∀ (w : World) (mg : Str → Option Value) (fa : Addr) (h : Heap), (K w.params).In h → h.Ns mainGlobals mg → mg d.name = some (.ref fa) →
      ∃ fd : FuncData, (∀ (s : Shared) (u : Value), BindsTo s fd ⟨[u], []⟩ [(x, u)]) ∧
        ∀ base : Heap, (K w.params).In base → base.Ns mainGlobals mg → SysB base → FnG l.prog w (K w.params) mg base CX0 k fa fd [x] (sp (K w.params) w))
    (hsp : ∀ (w : World) (H : Hp) (a : Addr) (ns : List Int), ns.length ≤ n → SqL (K w.params) H a (ns.map V.int) → sp (K w.params) w [.ref a] H (fun v _ => v = .bl true) fun _ _ _ => False) :
    PySem.W.WalkO q loose XP YP l.row.toRowW d [] (fun f vs => PySem.call f vs) := by
  refine Att.attach_call hn hdf fun w s₀ s₁ mg mb fa o pm cd doc a vs ns G Y ho hd hcd hmg hobj hints hlen hg => ?_
  obtain ⟨fd, hb, hF⟩ := F w mg fa _ (hY w _ Y) G.T.g hmg
  have sb : SysB s₁.heap := by
    obtain ⟨mm, ⟨o, es, n, e, d, _⟩, _⟩ := (G.T.seer himp).mods
    exact ⟨o, es, n, e, d⟩
  exact law_callG (hY w _ Y) G.T.g G.T.b G.T.builtins G.T.nolimit hg sb hobj hints (Nat.le_trans hlen hn2) hr hF hb fun H hS => hsp w H a ns hlen hS
end Z

/-! Z13: a written dict of texts to objects. -/
namespace Z
open PySem PySem.Spec PyProof.Rows L2 RZ

def foL : List (Str × Addr) → Str → Option Addr
  | [], _ => none
  | (x, a) :: r, z => if x = z then some a else foL r z
def KP : List DictEntry → List (Str × Addr) → Prop
  | [], [] => True
  | e :: r, p :: q => (∃ t, e.key = .str p.1 t) ∧ e.val = .ref p.2 ∧ KP r q
  | _, _ => False
theorem kp_find {z : Str} : ∀ {es : List DictEntry} {ps : List (Str × Addr)}, KP es ps →
    (es.find? (fun e => e.key.isStr z) = none ∧ foL ps z = none) ∨ ∃ e a, es.find? (fun e => e.key.isStr z) = some e ∧ foL ps z = some a ∧ e.val = .ref a
  | [], [], _ => .inl ⟨rfl, rfl⟩
  | e :: r, (x, a) :: q, ⟨⟨t, hk⟩, hv, h⟩ => by
    have e1 : e.key.isStr z = (x == z) := by rw [hk]; rfl
    by_cases hx : x = z
    · refine .inr ⟨e, a, ?_, if_pos hx, hv⟩
      rw [List.find?_cons_of_pos]
      rw [e1]; simpa using hx
    · rw [List.find?_cons_of_neg (by rw [e1]; simpa using hx)]
      have : foL ((x, a) :: q) z = foL q z := if_neg hx
      rw [this]
      exact kp_find h
  | [], _ :: _, h => h.elim
  | _ :: _, [], h => h.elim
theorem kp_ref : ∀ {es : List DictEntry} {ps : List (Str × Addr)}, KP es ps → es.any (fun e => e.refKey) = false
  | [], [], _ => rfl
  | e :: r, (x, a) :: q, ⟨⟨t, hk⟩, hv, h⟩ => by
    have e1 : e.refKey = false := by unfold DictEntry.refKey; rw [hk]
    rw [List.any_cons, e1, Bool.false_or]
    exact kp_ref h
  | [], _ :: _, h => h.elim
  | _ :: _, [], h => h.elim
theorem kd_mk {K : PySem.W.Frag} {w : World} {a : Addr} {es : Array DictEntry} {n : Nat} {ps : List (Str × Addr)} (hl : K.lookup a = some ⟨.type "dict", none, .dict es n, #[]⟩) (hk : PySem.W.KeysLit w.params es.toList) (low : (a == sysModules) = false) (hp : KP es.toList ps) :
    KD K w a (fun z => (foL ps z).map V.ref) where
  ex := ⟨es, n, hl, hk⟩
  low := low
  has := fun z v h => by
    rcases kp_find (z := z) hp with ⟨_, e2⟩ | ⟨e, b, e1, e2, e3⟩
    · rw [e2] at h; cases h
    · rw [e2] at h
      cases h
      refine ⟨.ref b, ?_, rfl⟩
      unfold PySem.W.nsIn
      rw [hl]
      simp only []
      rw [e1]
      simp only [e3]
  no := fun z h => by
    rcases kp_find (z := z) hp with ⟨e1, e2⟩ | ⟨e, b, e1, e2, e3⟩
    · unfold PySem.W.nsIn
      rw [hl]
      simp only []
      rw [e1]
      simp only []
      rw [kp_ref hp]; rfl
    · rw [e2] at h; cases h
/-- a written tuple of texts -/
theorem tupK {K : PySem.W.Frag} {a : Addr} {od : Option Addr} {its : Array Value} {n : Nat} {sl : Array (Option Value)} {xs : List V} (hl : K.lookup a = some ⟨.type "tuple", od, .seq its n, sl⟩) (hs : its.size ≤ 1000) (hv : Vals xs its.toList) : ∀ H, SqT K H a xs := fun H =>
  .inr ⟨_, its, n, hl, rfl, rfl, Nat.le_trans hs (by decide), hv⟩
end Z

namespace My
open PySem PySem.Spec PyProof.Rows L2 RZ Z
def topS (i : Nat) : Stmt := PySem.Challenge.pw_cycleready_k11_words_and_steps.main.body.getD i (.Pass ⟨0, 0, 0, 0⟩)
abbrev s_is_name : Stmt := topS 4
abbrev N_is_name : List Str := ["value", "letter"]
theorem sc_is_name : FnScope N_is_name ["value"] (defScope s_is_name) := ⟨rfl, rfl, rfl, by decide +kernel, rfl, by decide +kernel, by decide +kernel⟩
abbrev s_is_integer : Stmt := topS 5
abbrev N_is_integer : List Str := ["value"]
theorem sc_is_integer : FnScope N_is_integer ["value"] (defScope s_is_integer) := ⟨rfl, rfl, rfl, by decide +kernel, rfl, by decide +kernel, by decide +kernel⟩
abbrev s_is_count : Stmt := topS 6
abbrev N_is_count : List Str := ["value"]
theorem sc_is_count : FnScope N_is_count ["value"] (defScope s_is_count) := ⟨rfl, rfl, rfl, by decide +kernel, rfl, by decide +kernel, by decide +kernel⟩
abbrev s_is_variable : Stmt := topS 7
abbrev N_is_variable : List Str := ["value"]
theorem sc_is_variable : FnScope N_is_variable ["value"] (defScope s_is_variable) := ⟨rfl, rfl, rfl, by decide +kernel, rfl, by decide +kernel, by decide +kernel⟩
abbrev s_is_item : Stmt := topS 11
abbrev N_is_item : List Str := ["kind", "value"]
theorem sc_is_item : FnScope N_is_item ["kind", "value"] (defScope s_is_item) := ⟨rfl, rfl, rfl, by decide +kernel, rfl, by decide +kernel, by decide +kernel⟩
abbrev s_is_step : Stmt := topS 12
abbrev N_is_step : List Str := ["value", "kinds", "kind", "item"]
theorem sc_is_step : FnScope N_is_step ["value"] (defScope s_is_step) := ⟨rfl, rfl, rfl, by decide +kernel, rfl, by decide +kernel, by decide +kernel⟩
abbrev s_is_plain : Stmt := topS 13
abbrev N_is_plain : List Str := ["step"]
theorem sc_is_plain : FnScope N_is_plain ["step"] (defScope s_is_plain) := ⟨rfl, rfl, rfl, by decide +kernel, rfl, by decide +kernel, by decide +kernel⟩
abbrev s_law_pot : Stmt := topS 15
abbrev N_law_pot : List Str := ["_law_script", "_law_index", "_law_cell"]
theorem sc_law_pot : FnScope N_law_pot ["_law_script", "_law_index"] (defScope s_law_pot) := ⟨rfl, rfl, rfl, by decide +kernel, rfl, by decide +kernel, by decide +kernel⟩
abbrev s_law_draw : Stmt := topS 16
abbrev N_law_draw : List Str := ["_law_pot_here", "_law_most", "_law_digit"]
theorem sc_law_draw : FnScope N_law_draw ["_law_pot_here", "_law_most"] (defScope s_law_draw) := ⟨rfl, rfl, rfl, by decide +kernel, rfl, by decide +kernel, by decide +kernel⟩
abbrev s_law_choice : Stmt := topS 17
abbrev N_law_choice : List Str := ["_law_pot_here", "_law_options"]
theorem sc_law_choice : FnScope N_law_choice ["_law_pot_here", "_law_options"] (defScope s_law_choice) := ⟨rfl, rfl, rfl, by decide +kernel, rfl, by decide +kernel, by decide +kernel⟩
abbrev s_law_name : Stmt := topS 18
abbrev N_law_name : List Str := ["_law_pot_here", "_law_used", "_law_letters", "_law_size", "_law_word", "_law_spare", "_law_at", "_law_turn", "_law_one"]
theorem sc_law_name : FnScope N_law_name ["_law_pot_here", "_law_used"] (defScope s_law_name) := ⟨rfl, rfl, rfl, by decide +kernel, rfl, by decide +kernel, by decide +kernel⟩
abbrev s_law_names : Stmt := topS 19
abbrev N_law_names : List Str := ["_law_pot_here", "_law_number", "_law_found", "_law_turn"]
theorem sc_law_names : FnScope N_law_names ["_law_pot_here", "_law_number"] (defScope s_law_names) := ⟨rfl, rfl, rfl, by decide +kernel, rfl, by decide +kernel, by decide +kernel⟩
abbrev s_law_integer : Stmt := topS 20
abbrev N_law_integer : List Str := ["_law_pot_here"]
theorem sc_law_integer : FnScope N_law_integer ["_law_pot_here"] (defScope s_law_integer) := ⟨rfl, rfl, rfl, by decide +kernel, rfl, by decide +kernel, by decide +kernel⟩
abbrev s_law_step : Stmt := topS 21
abbrev N_law_step : List Str := ["_law_pot_here", "_law_modules", "_law_names_here", "_law_after", "_law_word", "_law_x", "_law_y", "_law_module", "_law_name_here", "_law_steps"]
theorem sc_law_step : FnScope N_law_step ["_law_pot_here", "_law_modules", "_law_names_here", "_law_after"] (defScope s_law_step) := ⟨rfl, rfl, rfl, by decide +kernel, rfl, by decide +kernel, by decide +kernel⟩
abbrev s_law_is_whole : Stmt := topS 22
abbrev N_law_is_whole : List Str := ["_law_value"]
theorem sc_law_is_whole : FnScope N_law_is_whole ["_law_value"] (defScope s_law_is_whole) := ⟨rfl, rfl, rfl, by decide +kernel, rfl, by decide +kernel, by decide +kernel⟩
abbrev s_law_is_word : Stmt := topS 23
abbrev N_law_is_word : List Str := ["_law_value", "_law_letter"]
theorem sc_law_is_word : FnScope N_law_is_word ["_law_value"] (defScope s_law_is_word) := ⟨rfl, rfl, rfl, by decide +kernel, rfl, by decide +kernel, by decide +kernel⟩
abbrev s_law_fits : Stmt := topS 24
abbrev N_law_fits : List Str := ["_law_sort", "_law_value"]
theorem sc_law_fits : FnScope N_law_fits ["_law_sort", "_law_value"] (defScope s_law_fits) := ⟨rfl, rfl, rfl, by decide +kernel, rfl, by decide +kernel, by decide +kernel⟩
abbrev s_law_is_right_step : Stmt := topS 25
abbrev N_law_is_right_step : List Str := ["_law_value", "_law_forms", "_law_sorts", "_law_sort", "_law_one"]
theorem sc_law_is_right_step : FnScope N_law_is_right_step ["_law_value"] (defScope s_law_is_right_step) := ⟨rfl, rfl, rfl, by decide +kernel, rfl, by decide +kernel, by decide +kernel⟩
abbrev s_law_odd : Stmt := topS 26
abbrev N_law_odd : List Str := ["_law_pot_here", "_law_odd_here"]
theorem sc_law_odd : FnScope N_law_odd ["_law_pot_here"] (defScope s_law_odd) := ⟨rfl, rfl, rfl, by decide +kernel, rfl, by decide +kernel, by decide +kernel⟩
abbrev s_law_changed : Stmt := topS 27
abbrev N_law_changed : List Str := ["_law_pot_here", "_law_step_here", "_law_way", "_law_found", "_law_at"]
theorem sc_law_changed : FnScope N_law_changed ["_law_pot_here", "_law_step_here"] (defScope s_law_changed) := ⟨rfl, rfl, rfl, by decide +kernel, rfl, by decide +kernel, by decide +kernel⟩
abbrev s_law_judged : Stmt := topS 28
abbrev N_law_judged : List Str := ["_law_value", "_law_kept", "_law_due", "_law_told", "_law_whole", "_law_wanted"]
theorem sc_law_judged : FnScope N_law_judged ["_law_value"] (defScope s_law_judged) := ⟨rfl, rfl, rfl, by decide +kernel, rfl, by decide +kernel, by decide +kernel⟩
abbrev s_law_right : Stmt := topS 29
abbrev N_law_right : List Str := ["_law_pot_here", "_law_modules", "_law_names_here", "_law_turn", "_law_step_here", "_law_some", "_law_value"]
theorem sc_law_right : FnScope N_law_right ["_law_pot_here"] (defScope s_law_right) := ⟨rfl, rfl, rfl, by decide +kernel, rfl, by decide +kernel, by decide +kernel⟩
abbrev s_law_truths_right : Stmt := topS 30
abbrev N_law_truths_right : List Str := ["_law_word", "_law_number", "_law_step_here", "_law_odd_here", "_law_told"]
theorem sc_law_truths_right : FnScope N_law_truths_right [] (defScope s_law_truths_right) := ⟨rfl, rfl, rfl, by decide +kernel, rfl, by decide +kernel, by decide +kernel⟩
abbrev s_law : Stmt := topS 31
abbrev N_law : List Str := ["_law_script", "_law_index"]
theorem sc_law : FnScope N_law ["_law_script"] (defScope s_law) := ⟨rfl, rfl, rfl, by decide +kernel, rfl, by decide +kernel, by decide +kernel⟩
/-! ### what a step is -/
def lett : Str := "abcdefghijklmnopqrstuvwxyz"
def vars : List V := [.str "a", .str "b", .str "c", .str "d"]
def isNameD : PyData → Bool
  | .str z => (decide (1 ≤ (z.length : Int)) && decide ((z.length : Int) ≤ 8)) && z.cps.toList.all fun c => decide (c ∈ lett.cps.toList)
  | _ => false
def isIntD : PyData → Bool
  | .int _ => true
  | _ => false
def isCountD : PyData → Bool
  | .int i => decide (0 ≤ i)
  | _ => false
def isVarD : PyData → Bool
  | .str z => inV (.str z) vars
  | _ => false
def isAmountD : PyData → Bool
  | .int i => decide (1 ≤ i)
  | _ => false
def isItemD (kind : Str) (d : PyData) : Bool :=
  if kind = "variable" then isVarD d else if kind = "integer" then isIntD d else if kind = "amount" then isAmountD d else isNameD d
def formOf (z : Str) : Option (List Str) :=
  if z = "set" then some ["variable", "integer"] else if z = "add" then some ["variable", "variable"] else if z = "skip" then some ["variable", "amount"]
  else if z = "export" then some ["name", "variable"] else if z = "read" then some ["variable", "module", "name"] else if z = "need" then some ["module"]
  else if z = "try" then some ["module", "variable"] else if z = "fail" then some [] else none
def isStepD : PyData → Bool
  | .tuple (.str z :: items) => match formOf z with
    | some ks => decide (ks.length = items.length) && (ks.zip items).all fun p => isItemD p.1 p.2
    | none => false
  | _ => false
def isPlainD : PyData → Bool
  | .tuple (.str z :: items) => isStepD (.tuple (.str z :: items)) && inV (.str z) [.str "set", .str "add", .str "skip"]
  | _ => false
structure Tx (K : PySem.W.Frag) (w : World) (mg : Str → Option Value) where
  f_is_name : Addr
  d_is_name : FuncData
  F_is_name : Fun K "is_name" "is_name" s_is_name f_is_name d_is_name
  m_is_name : mg "is_name" = some (.ref f_is_name)
  b_is_name : Binds K d_is_name ["value"] []
  f_is_integer : Addr
  d_is_integer : FuncData
  F_is_integer : Fun K "is_integer" "is_integer" s_is_integer f_is_integer d_is_integer
  m_is_integer : mg "is_integer" = some (.ref f_is_integer)
  b_is_integer : Binds K d_is_integer ["value"] []
  f_is_count : Addr
  d_is_count : FuncData
  F_is_count : Fun K "is_count" "is_count" s_is_count f_is_count d_is_count
  m_is_count : mg "is_count" = some (.ref f_is_count)
  b_is_count : Binds K d_is_count ["value"] []
  f_is_variable : Addr
  d_is_variable : FuncData
  F_is_variable : Fun K "is_variable" "is_variable" s_is_variable f_is_variable d_is_variable
  m_is_variable : mg "is_variable" = some (.ref f_is_variable)
  b_is_variable : Binds K d_is_variable ["value"] []
  f_is_item : Addr
  d_is_item : FuncData
  F_is_item : Fun K "is_item" "is_item" s_is_item f_is_item d_is_item
  m_is_item : mg "is_item" = some (.ref f_is_item)
  b_is_item : Binds K d_is_item ["kind", "value"] []
  f_is_step : Addr
  d_is_step : FuncData
  F_is_step : Fun K "is_step" "is_step" s_is_step f_is_step d_is_step
  m_is_step : mg "is_step" = some (.ref f_is_step)
  b_is_step : Binds K d_is_step ["value"] []
  f_is_plain : Addr
  d_is_plain : FuncData
  F_is_plain : Fun K "is_plain" "is_plain" s_is_plain f_is_plain d_is_plain
  m_is_plain : mg "is_plain" = some (.ref f_is_plain)
  b_is_plain : Binds K d_is_plain ["step"] []
  f_law_pot : Addr
  d_law_pot : FuncData
  F_law_pot : Fun K "_law_pot" "_law_pot" s_law_pot f_law_pot d_law_pot
  m_law_pot : mg "_law_pot" = some (.ref f_law_pot)
  b_law_pot : Binds K d_law_pot ["_law_script", "_law_index"] []
  f_law_draw : Addr
  d_law_draw : FuncData
  F_law_draw : Fun K "_law_draw" "_law_draw" s_law_draw f_law_draw d_law_draw
  m_law_draw : mg "_law_draw" = some (.ref f_law_draw)
  b_law_draw : Binds K d_law_draw ["_law_pot_here", "_law_most"] []
  f_law_choice : Addr
  d_law_choice : FuncData
  F_law_choice : Fun K "_law_choice" "_law_choice" s_law_choice f_law_choice d_law_choice
  m_law_choice : mg "_law_choice" = some (.ref f_law_choice)
  b_law_choice : Binds K d_law_choice ["_law_pot_here", "_law_options"] []
  f_law_name : Addr
  d_law_name : FuncData
  F_law_name : Fun K "_law_name" "_law_name" s_law_name f_law_name d_law_name
  m_law_name : mg "_law_name" = some (.ref f_law_name)
  b_law_name : Binds K d_law_name ["_law_pot_here", "_law_used"] []
  f_law_names : Addr
  d_law_names : FuncData
  F_law_names : Fun K "_law_names" "_law_names" s_law_names f_law_names d_law_names
  m_law_names : mg "_law_names" = some (.ref f_law_names)
  b_law_names : Binds K d_law_names ["_law_pot_here", "_law_number"] []
  f_law_integer : Addr
  d_law_integer : FuncData
  F_law_integer : Fun K "_law_integer" "_law_integer" s_law_integer f_law_integer d_law_integer
  m_law_integer : mg "_law_integer" = some (.ref f_law_integer)
  b_law_integer : Binds K d_law_integer ["_law_pot_here"] []
  f_law_step : Addr
  d_law_step : FuncData
  F_law_step : Fun K "_law_step" "_law_step" s_law_step f_law_step d_law_step
  m_law_step : mg "_law_step" = some (.ref f_law_step)
  b_law_step : Binds K d_law_step ["_law_pot_here", "_law_modules", "_law_names_here", "_law_after"] []
  f_law_is_whole : Addr
  d_law_is_whole : FuncData
  F_law_is_whole : Fun K "_law_is_whole" "_law_is_whole" s_law_is_whole f_law_is_whole d_law_is_whole
  m_law_is_whole : mg "_law_is_whole" = some (.ref f_law_is_whole)
  b_law_is_whole : Binds K d_law_is_whole ["_law_value"] []
  f_law_is_word : Addr
  d_law_is_word : FuncData
  F_law_is_word : Fun K "_law_is_word" "_law_is_word" s_law_is_word f_law_is_word d_law_is_word
  m_law_is_word : mg "_law_is_word" = some (.ref f_law_is_word)
  b_law_is_word : Binds K d_law_is_word ["_law_value"] []
  f_law_fits : Addr
  d_law_fits : FuncData
  F_law_fits : Fun K "_law_fits" "_law_fits" s_law_fits f_law_fits d_law_fits
  m_law_fits : mg "_law_fits" = some (.ref f_law_fits)
  b_law_fits : Binds K d_law_fits ["_law_sort", "_law_value"] []
  f_law_is_right_step : Addr
  d_law_is_right_step : FuncData
  F_law_is_right_step : Fun K "_law_is_right_step" "_law_is_right_step" s_law_is_right_step f_law_is_right_step d_law_is_right_step
  m_law_is_right_step : mg "_law_is_right_step" = some (.ref f_law_is_right_step)
  b_law_is_right_step : Binds K d_law_is_right_step ["_law_value"] []
  f_law_odd : Addr
  d_law_odd : FuncData
  F_law_odd : Fun K "_law_odd" "_law_odd" s_law_odd f_law_odd d_law_odd
  m_law_odd : mg "_law_odd" = some (.ref f_law_odd)
  b_law_odd : Binds K d_law_odd ["_law_pot_here"] []
  f_law_changed : Addr
  d_law_changed : FuncData
  F_law_changed : Fun K "_law_changed" "_law_changed" s_law_changed f_law_changed d_law_changed
  m_law_changed : mg "_law_changed" = some (.ref f_law_changed)
  b_law_changed : Binds K d_law_changed ["_law_pot_here", "_law_step_here"] []
  f_law_judged : Addr
  d_law_judged : FuncData
  F_law_judged : Fun K "_law_judged" "_law_judged" s_law_judged f_law_judged d_law_judged
  m_law_judged : mg "_law_judged" = some (.ref f_law_judged)
  b_law_judged : Binds K d_law_judged ["_law_value"] []
  f_law_right : Addr
  d_law_right : FuncData
  F_law_right : Fun K "_law_right" "_law_right" s_law_right f_law_right d_law_right
  m_law_right : mg "_law_right" = some (.ref f_law_right)
  b_law_right : Binds K d_law_right ["_law_pot_here"] []
  f_law_truths_right : Addr
  d_law_truths_right : FuncData
  F_law_truths_right : Fun K "_law_truths_right" "_law_truths_right" s_law_truths_right f_law_truths_right d_law_truths_right
  m_law_truths_right : mg "_law_truths_right" = some (.ref f_law_truths_right)
  b_law_truths_right : Binds K d_law_truths_right [] []
  f_law : Addr
  d_law : FuncData
  F_law : Fun K "law" "law" s_law f_law d_law
  m_law : mg "law" = some (.ref f_law)
  b_law : Binds K d_law ["_law_script"] []
  n_abs : mg "abs" = none
  n_all : mg "all" = none
  n_bool : mg "bool" = none
  n_divmod : mg "divmod" = none
  n_int : mg "int" = none
  n_isinstance : mg "isinstance" = none
  n_len : mg "len" = none
  n_list : mg "list" = none
  n_max : mg "max" = none
  n_min : mg "min" = none
  n_range : mg "range" = none
  n_repr : mg "repr" = none
  n_str : mg "str" = none
  n_tuple : mg "tuple" = none
  n_zip : mg "zip" = none
  a_VARIABLES : Addr
  g_VARIABLES : mg "VARIABLES" = some (.ref a_VARIABLES)
  s_VARIABLES : ∀ H, SqT K H a_VARIABLES [.str "a", .str "b", .str "c", .str "d"]
  k_MOST_LETTERS : Tok
  g_MOST_LETTERS : mg "MOST_LETTERS" = some (.int 8 k_MOST_LETTERS)
  k_LETTERS : Tok
  g_LETTERS : mg "LETTERS" = some (.str "abcdefghijklmnopqrstuvwxyz" k_LETTERS)
  a_PLAIN : Addr
  g_PLAIN : mg "PLAIN" = some (.ref a_PLAIN)
  s_PLAIN : ∀ H, SqT K H a_PLAIN [.str "set", .str "add", .str "skip"]
  a_FORMS : Addr
  g_FORMS : mg "FORMS" = some (.ref a_FORMS)
  fo_FORMS : Str → Option Addr
  kd_FORMS : KD K w a_FORMS (fun z => (fo_FORMS z).map V.ref)
  ks_FORMS : ∀ z a, fo_FORMS z = some a → ∃ ks, formOf z = some ks ∧ ∀ H, SqT K H a (ks.map V.str)
  kn_FORMS : ∀ z, fo_FORMS z = none → formOf z = none
/-! the way through a reading: one step by the head of what is asked -/
theorem same_at {H H' : Hp} {p : Addr} {o : HO} (e : L2.Same H H') (h : H p = some o) : H' p = some o := e _ _ h
theorem kIx_Lc {K : PySem.W.Frag} {w : World} {H : Hp} {Q : VK} {p : Addr} {xs : List V} {a : Int} {v : V} (h : SqL K H p xs) (e : atI xs a = some v) (k : Q v H) : zIx K w (.ref p) (.int a) H Q := .inl (.inl ⟨p, xs, a, v, rfl, rfl, h, e, k⟩)
theorem kIx_Tc {K : PySem.W.Frag} {w : World} {H : Hp} {Q : VK} {p : Addr} {xs : List V} {a : Int} {v : V} (h : SqT K H p xs) (e : atI xs a = some v) (k : Q v H) : zIx K w (.ref p) (.int a) H Q := .inl (.inr (.inl ⟨p, xs, a, v, rfl, rfl, h, e, k⟩))
theorem kIx_T0 {K : PySem.W.Frag} {w : World} {H : Hp} {Q : VK} {p : Addr} {x : V} {xs : List V} (h : SqT K H p (x :: xs)) (k : Q x H) : zIx K w (.ref p) (.int 0) H Q := kIx_T h (by decide) (by simp only [List.length_cons]; omega) (fun v e => by
  have e2 : (x :: xs)[0]? = some v := e
  simp only [List.getElem?_cons_zero, Option.some.injEq] at e2
  subst e2; exact k)
theorem k_noF {α : Type} {f : α → V} {A B : Prop} (k : A) : if (!(Option.map f none).isSome) = true then A else B := iteT k
theorem k_soF {α : Type} {f : α → V} {x : α} {A B : Prop} (k : B) : if (!(Option.map f (some x)).isSome) = true then A else B := iteF k
theorem kEq_T00 {K : PySem.W.Frag} {H : Hp} {Q : VK} {p q : Addr} (h1 : SqT K H p []) (h2 : SqT K H q []) (k : Q (.bl true) H) : zEq K (.ref p) (.ref q) H Q := kEq_T0 h1 h2 k
theorem kEq_T0c {K : PySem.W.Frag} {H : Hp} {Q : VK} {p q : Addr} {x : V} {xs : List V} (h1 : SqT K H p (x :: xs)) (h2 : SqT K H q []) (k : Q (.bl false) H) : zEq K (.ref p) (.ref q) H Q := kEq_T0 h1 h2 k
local macro_rules | `(tactic| walk_at "hp") => `(tactic| first | assumption | exact upd_same | ((refine' same_at ?e1 ?e2); (case e1 => assumption); (case e2 => walk_at "hp")) | fail)
local macro_rules | `(tactic| walk_at "sq") => `(tactic| first | assumption | exact SqL.of (by assumption) | exact SqL.of upd_same | exact SqT.of (by assumption) | ((refine' L2.Same.seq ?e1 ?e2); (case e1 => assumption); (case e2 => walk_at "sq")) | ((refine' Z.Same.seqT ?e1 ?e2); (case e1 => assumption); (case e2 => walk_at "sq")) | fail)
local macro_rules | `(tactic| walk_at "sm") => `(tactic| first | exact L2.Same.refl _ | assumption | (refine L2.Same.trans ?_ (by assumption); walk_at "sm") | fail)
local macro_rules | `(tactic| walk_at "rp") => `(tactic| first | assumption | exact Rp.int _ | exact Rp.str _ | exact Rp.bl _ | exact Rp.non | (refine' Rp.tup ?e1 ?e2; (case e1 => walk_at "sq"); (case e2 => walk_at "rps")) | (refine' Rp.lst ?e1 ?e2; (case e1 => walk_at "sq"); (case e2 => walk_at "rps")) | (refine' Rp.dct ?e1 ?e2; (case e1 => walk_at "hp"); (case e2 => walk_at "rpk")) | ((refine' Rp.mono ?e1 ?e2); (case e1 => assumption); (case e2 => walk_at "rp")) | fail)
local macro_rules | `(tactic| walk_at "rps") => `(tactic| first | assumption | exact RpAll.nil | (refine' RpAll.cons ?e1 ?e2; (case e1 => walk_at "rp"); (case e2 => walk_at "rps")) | ((refine' RpAll.mono ?e1 ?e2); (case e1 => assumption); (case e2 => walk_at "rps")) | fail)
local macro_rules | `(tactic| walk_at "rpk") => `(tactic| first | assumption | exact RpKv.nil | (refine' RpKv.cons ?e1 ?e2; (case e1 => walk_at "rp"); (case e2 => walk_at "rpk")) | fail)
local macro_rules | `(tactic| walk_at "ar") => `(tactic| first | omega | assumption | rfl | decide | exact Nat.le_of_ble_eq_true rfl | (simp only [List.length_cons, List.length_nil, List.length_append, List.length_map, List.length_replicate]; omega) | exact .inl (by constructor <;> omega) | exact .inr (by constructor <;> omega) | fail)
local macro_rules | `(tactic| walk_at "gd") => `(tactic| first | assumption | exact Gd.none _ | exact Gd.bool _ _ | exact Gd.int _ (by omega) | exact Gd.dict0 _ | exact Gd.str _ (by decide +kernel) (by decide +kernel) | (refine gA_tup ?_ rfl; walk_at "gds") | (refine gA_lst ?_ rfl; walk_at "gds") | (refine Gd.dict1 ?_ ?_ <;> walk_at "gd") | exact Gd.up (by assumption) (by decide) | fail)
local macro_rules | `(tactic| walk_at "gds") => `(tactic| first | assumption | exact gA_nil | (refine' gA_cons ?e1 ?e2; (case e1 => walk_at "gd"); (case e2 => walk_at "gds")) | fail)
set_option hygiene false in
local macro_rules | `(tactic| walk_at "inN") => `(tactic| intro p H2 hn he hp hu)
set_option hygiene false in
local macro_rules | `(tactic| walk_at "inM") => `(tactic| intro p H2 hn he hp)
set_option hygiene false in
local macro_rules | `(tactic| walk_at "inV") => `(tactic| intro v hv)
set_option hygiene false in
local macro_rules | `(tactic| walk_at "inI") => `(tactic| intro hif)
local macro_rules | `(tactic| walk_at "isi") => `(tactic| first
  | with_reducible refine kI_non_str ?_
  | with_reducible refine kI_non_int ?_
  | with_reducible refine kI_non_bool ?_
  | with_reducible refine kI_non_tuple ?_
  | with_reducible refine kI_non_list ?_
  | with_reducible refine kI_non_dict ?_
  | with_reducible refine kI_bl_str ?_
  | with_reducible refine kI_bl_int ?_
  | with_reducible refine kI_bl_bool ?_
  | with_reducible refine kI_bl_tuple ?_
  | with_reducible refine kI_bl_list ?_
  | with_reducible refine kI_bl_dict ?_
  | with_reducible refine kI_int_str ?_
  | with_reducible refine kI_int_int ?_
  | with_reducible refine kI_int_bool ?_
  | with_reducible refine kI_int_tuple ?_
  | with_reducible refine kI_int_list ?_
  | with_reducible refine kI_int_dict ?_
  | with_reducible refine kI_str_str ?_
  | with_reducible refine kI_str_int ?_
  | with_reducible refine kI_str_bool ?_
  | with_reducible refine kI_str_tuple ?_
  | with_reducible refine kI_str_list ?_
  | with_reducible refine kI_str_dict ?_
  | ((with_reducible refine' kI_lst_str ?h1 ?k1); (case h1 => walk_at "sq"))
  | ((with_reducible refine' kI_lst_int ?h1 ?k1); (case h1 => walk_at "sq"))
  | ((with_reducible refine' kI_lst_bool ?h1 ?k1); (case h1 => walk_at "sq"))
  | ((with_reducible refine' kI_lst_tuple ?h1 ?k1); (case h1 => walk_at "sq"))
  | ((with_reducible refine' kI_lst_list ?h1 ?k1); (case h1 => walk_at "sq"))
  | ((with_reducible refine' kI_lst_dict ?h1 ?k1); (case h1 => walk_at "sq"))
  | ((with_reducible refine' kI_tup_str ?h1 ?k1); (case h1 => walk_at "sq"))
  | ((with_reducible refine' kI_tup_int ?h1 ?k1); (case h1 => walk_at "sq"))
  | ((with_reducible refine' kI_tup_bool ?h1 ?k1); (case h1 => walk_at "sq"))
  | ((with_reducible refine' kI_tup_tuple ?h1 ?k1); (case h1 => walk_at "sq"))
  | ((with_reducible refine' kI_tup_list ?h1 ?k1); (case h1 => walk_at "sq"))
  | ((with_reducible refine' kI_tup_dict ?h1 ?k1); (case h1 => walk_at "sq"))
  | ((with_reducible refine' kI_dct_str ?h1 ?k1); (case h1 => walk_at "hp"))
  | ((with_reducible refine' kI_dct_int ?h1 ?k1); (case h1 => walk_at "hp"))
  | ((with_reducible refine' kI_dct_bool ?h1 ?k1); (case h1 => walk_at "hp"))
  | ((with_reducible refine' kI_dct_tuple ?h1 ?k1); (case h1 => walk_at "hp"))
  | ((with_reducible refine' kI_dct_list ?h1 ?k1); (case h1 => walk_at "hp"))
  | ((with_reducible refine' kI_dct_dict ?h1 ?k1); (case h1 => walk_at "hp")) | fail)
local macro_rules | `(tactic| walk_at "go1") => `(tactic| first
  | with_reducible refine g_var0 ?_
  | with_reducible refine g_varS ?_
  | with_reducible refine g_c ?_
  | with_reducible refine g_op ?_
  | with_reducible refine g_cons ?_
  | with_reducible refine g_nil ?_
  | with_reducible refine g_cl ?_
  | with_reducible refine g_cb ?_
  | with_reducible refine g_seq ?_
  | with_reducible refine g_asg ?_
  | with_reducible refine g_set0 ?_
  | with_reducible refine g_setS ?_
  | with_reducible refine g_ifS ?_
  | with_reducible refine g_test ?_
  | with_reducible refine g_B ?_
  | with_reducible refine g_ret ?_
  | with_reducible refine k_bl ?_
  | with_reducible refine k_blI ?_
  | with_reducible refine k_blp ?_
  | with_reducible refine k_ifT ?_
  | with_reducible refine k_ifF ?_
  | with_reducible refine k_noF ?_
  | with_reducible refine k_soF ?_
  | with_reducible refine k_ifNT ?_
  | with_reducible refine k_ifNF ?_
  | ((with_reducible refine' k_ifDy ?h1 ?k1); (case h1 => (first | assumption | with_reducible rfl | omega)))
  | ((with_reducible refine' k_ifDn ?h1 ?k1); (case h1 => (first | assumption | omega)))
  | ((with_reducible refine' k_ifNDy ?h1 ?k1); (case h1 => (first | assumption | omega)))
  | ((with_reducible refine' k_ifNDn ?h1 ?k1); (case h1 => (first | assumption | with_reducible rfl | omega)))
  | ((with_reducible refine' k_ifBy ?h1 ?k1); (case h1 => with_reducible assumption))
  | ((with_reducible refine' k_ifBn ?h1 ?k1); (case h1 => with_reducible assumption))
  | with_reducible refine g_next ?_
  | with_reducible refine g_retN ?_
  | with_reducible refine g_drop ?_
  | with_reducible refine g_and ?_
  | with_reducible refine g_or ?_
  | with_reducible refine g_not ?_
  | with_reducible refine g_andV ?_
  | with_reducible refine g_orV ?_
  | with_reducible refine g_notV ?_
  | with_reducible refine g_if ?_
  | with_reducible refine g_ls ?_
  | with_reducible refine g_tp ?_
  | ((with_reducible refine k_newL rfl ?_); walk_at "inN")
  | ((with_reducible refine k_newT rfl ?_); walk_at "inN")
  | with_reducible refine g_par ?_
  | with_reducible refine k_par ?_
  | with_reducible refine g_un ?_
  | with_reducible refine kNeg ?_
  | with_reducible refine kAbs ?_
  | with_reducible refine kMax ?_
  | with_reducible refine kMin ?_
  | with_reducible refine g_par3 ?_
  | with_reducible refine k_par3 ?_
  | with_reducible refine g_m1 ?_
  | with_reducible refine g_m0 ?_
  | with_reducible refine k_isS ?_
  | with_reducible refine g_bm ?_
  | with_reducible refine g_bm0 ?_
  | ((with_reducible refine' k_tyL ?h1 ?k1); (case h1 => walk_at "hp"))
  | with_reducible refine g_sl ?_
  | with_reducible refine g_part ?_
  | with_reducible refine g_nopart ?_
  | with_reducible refine k_int ?_
  | with_reducible refine g_tru ?_
  | with_reducible refine k_U ?_
  | with_reducible refine kAdd_I ?_
  | ((with_reducible refine' kAdd_L ?h1 ?h2 ?h3 ?k1); (case h1 => walk_at "hp"); (case h2 => walk_at "hp"); (case h3 => walk_at "ar"); walk_at "inN")
  | ((with_reducible refine' kAdd_S ?h1 ?k1); (case h1 => walk_at "ar"))
  | with_reducible refine kSub_I ?_
  | ((with_reducible refine' kMul_I ?h1 ?k1); (case h1 => walk_at "ar"))
  | ((with_reducible refine' kMod_I ?h1 ?k1); (case h1 => walk_at "ar"))
  | ((with_reducible refine' kDiv_I ?h1 ?h2 ?k1); (case h1 => walk_at "ar"); (case h2 => walk_at "ar"))
  | ((with_reducible refine' kPow_I ?h1 ?h2 ?h3 ?h4 ?k1); (case h1 => walk_at "ar"); (case h2 => walk_at "ar"); (case h3 => walk_at "ar"); (case h4 => walk_at "ar"))
  | with_reducible refine kEq_I ?_
  | with_reducible refine kEq_S ?_
  | ((with_reducible refine' kEq_T00 ?h1 ?h2 ?k1); (case h1 => walk_at "sq"); (case h2 => walk_at "sq"))
  | ((with_reducible refine' kEq_T0c ?h1 ?h2 ?k1); (case h1 => walk_at "sq"); (case h2 => walk_at "sq"))
  | ((with_reducible refine' kEq_T0 ?h1 ?h2 ?k1); (case h1 => walk_at "sq"); (case h2 => walk_at "sq"))
  | with_reducible refine kNe_I ?_
  | with_reducible refine kNe_S ?_
  | with_reducible refine kNot_T ?_
  | with_reducible refine kIs_B ?_
  | with_reducible refine kLt_I ?_
  | with_reducible refine kLe_I ?_
  | with_reducible refine kGt_I ?_
  | with_reducible refine kGe_I ?_
  | with_reducible refine kIs_N ?_
  | with_reducible refine kNis_N ?_
  | with_reducible refine kIn_C ?_
  | with_reducible refine kNin_C ?_
  | ((with_reducible refine' kIx_T0 ?h1 ?k1); (case h1 => walk_at "sq"))
  | ((with_reducible refine' kIx_Lc ?h1 ?h2 ?k1); (case h1 => walk_at "sq"); (case h2 => rfl))
  | ((with_reducible refine' kIx_Tc ?h1 ?h2 ?k1); (case h1 => walk_at "sq"); (case h2 => rfl))
  | ((with_reducible refine' kIx_L ?h1 ?h2 ?h3 ?k1); (case h1 => walk_at "sq"); (case h2 => walk_at "ar"); (case h3 => walk_at "ar"); walk_at "inV")
  | ((with_reducible refine' kIx_T ?h1 ?h2 ?h3 ?k1); (case h1 => walk_at "sq"); (case h2 => walk_at "ar"); (case h3 => walk_at "ar"); walk_at "inV")
  | ((with_reducible refine' kIx_S ?h1 ?h2 ?h3 ?k1); (case h1 => walk_at "ar"); (case h2 => walk_at "ar"); (case h3 => walk_at "ar"); walk_at "inV")
  | ((with_reducible refine' kLen_L ?h1 ?k1); (case h1 => walk_at "sq"))
  | ((with_reducible refine' kLen_T ?h1 ?k1); (case h1 => walk_at "sq"))
  | ((with_reducible refine' kList_L ?h1 ?k1); (case h1 => walk_at "sq"); walk_at "inN")
  | ((with_reducible refine' kList_T ?h1 ?k1); (case h1 => walk_at "sq"); walk_at "inN")
  | ((with_reducible refine' kTuple_L ?h1 ?k1); (case h1 => walk_at "sq"); walk_at "inN")
  | ((with_reducible refine' kTuple_T ?h1 ?k1); (case h1 => walk_at "sq"))
  | ((with_reducible refine' kDivmod ?h1 ?h2 ?k1); (case h1 => walk_at "ar"); (case h2 => walk_at "ar"); walk_at "inN")
  | ((with_reducible refine' g_tup ?h1 ?h2 ?k1); (case h1 => walk_at "sq"); (case h2 => rfl))
  | with_reducible refine g_gcons ?_
  | with_reducible refine g_gnil ?_
  | with_reducible refine g_sub ?_
  | ((with_reducible refine' kSetL ?h1 ?h2 ?h3 ?k1); (case h1 => walk_at "hp"); (case h2 => walk_at "ar"); (case h3 => walk_at "ar"))
  | ((with_reducible refine' kSl_T1 ?h1 ?k1); (case h1 => walk_at "sq"); walk_at "inM")
  | with_reducible refine g_match ?_
  | with_reducible refine k_str ?_
  | with_reducible refine g_mval ?_
  | with_reducible refine g_many ?_
  | with_reducible refine g_mnil ?_
  | with_reducible refine g_chain ?_
  | (with_reducible refine g_dnew ?_; walk_at "inN")
  | (with_reducible refine g_dispC rfl rfl ?_; walk_at "inN")
  | with_reducible refine g_dput ?_
  | ((with_reducible refine' kPut_S ?h1 ?h2 ?k1); (case h1 => walk_at "hp"); (case h2 => walk_at "ar"))
  | ((with_reducible refine' kJoin1 ?h1 ?h2 ?k1); (case h1 => walk_at "sq"); (case h2 => walk_at "ar"))
  | with_reducible refine fRng ?_
  | with_reducible refine fList ?_
  | with_reducible refine fTup ?_
  | with_reducible refine cStr ?_
  | with_reducible refine cTup ?_
  | with_reducible refine cZipT ?_
  | with_reducible refine cZipS ?_
  | ((with_reducible refine' kLen_S ?h1 ?k1); (case h1 => walk_at "ar"))
  | walk_at "isi"
  | rw [upd_upd]
  | ((with_reducible refine k_ifD ?_ ?_) <;> walk_at "inI")
  | ((with_reducible refine k_ifND ?_ ?_) <;> walk_at "inI")
  | ((with_reducible refine k_ifB ?_ ?_) <;> walk_at "inI")
  | ((with_reducible refine k_ifNB ?_ ?_) <;> walk_at "inI") | fail)
local macro_rules | `(tactic| walk_at "go") => `(tactic| repeat' (walk_at "go1"))

/-! ### promises -/
/-- a question about any small data, answered by f -/
def spB (f : PyData → Bool) (K : PySem.W.Frag) : Sp := fun vs H Q _ => ∃ x d, vs = [x] ∧ Rp K H x d ∧ Gd 12 3 d ∧ ∀ H', L2.Same H H' → Q (.bl (f d)) H'
theorem u_B {f : PyData → Bool} {K : PySem.W.Frag} {x : V} {d : PyData} {H : Hp} {Q : VK} {E : XK} (h : Rp K H x d) (g : Gd 12 3 d) (k : ∀ H', L2.Same H H' → Q (.bl (f d)) H') : spB f K [x] H Q E := ⟨x, d, rfl, h, g, k⟩
set_option hygiene false in
local macro_rules | `(tactic| walk_at "inB") => `(tactic| intro H2 he)
local macro_rules | `(tactic| walk_at "go1") => `(tactic| first | (((with_reducible refine' u_B ?h1 ?h2 ?k1); (case h1 => walk_at "rp"); (case h2 => walk_at "gd"); walk_at "inB")) | fail)
abbrev sp_is_name (K : PySem.W.Frag) (w : World) : Sp := spB isNameD K
abbrev sp_is_integer (K : PySem.W.Frag) (w : World) : Sp := spB isIntD K
abbrev sp_is_count (K : PySem.W.Frag) (w : World) : Sp := spB isCountD K
abbrev sp_is_variable (K : PySem.W.Frag) (w : World) : Sp := spB isVarD K
abbrev sp_is_step (K : PySem.W.Frag) (w : World) : Sp := spB isStepD K
abbrev sp_is_plain (K : PySem.W.Frag) (w : World) : Sp := spB isPlainD K
abbrev E4 (Q : VK) : Ends := ⟨fun _ H' => Q .non H', Q, fun _ _ => False, fun _ _ => False⟩
section
variable {P : Program} {w : World} {K : PySem.W.Frag} {mg : Str → Option Value} {base : Heap}
theorem closeB {f : PyData → Bool} {d : PyData} {b : Bool} {H H' : Hp} {Q : VK} (k : ∀ H', L2.Same H H' → Q (.bl (f d)) H') (e : L2.Same H H') (h : f d = b) : Q (.bl b) H' := by
  rw [← h]; exact k _ e
theorem lenB {f : PyData → Bool} {K : PySem.W.Frag} {a : Str} (vs : List V) (H : Hp) (Q : VK) (E : XK) (h : spB f K vs H Q E) : vs.length = ([a] : List Str).length := by
  obtain ⟨x, d, rfl, _⟩ := h
  rfl
def t_is_name (T : Tx K w mg) : TS :=
  (tSeq (tIfS (tOr (tNot (tB (tCB (rIsi K) (tCons (tVar 0) (tCons (tC (.ty "str")) tNil))))) (tNot (tTest (tChain zLe zLe (tC (.int 1)) (tCB (zLen K) (tCons (tVar 0) tNil)) (tC (.int 8)))))) (tRet (tC (.bl false))) tNext)
    (tRet (tCB (rAll K) (tCons (tLc (iStr (tMo (tVar 0))) (gName 1) (tFrT tYes) (tFr (tOp (zIn K w false) (tVar 1) (tC (.str "abcdefghijklmnopqrstuvwxyz")))) [1]) tNil))))
theorem pr_is_name (T : Tx K w mg) (vs : List V) (H : Hp) (Q : VK) (E : XK) (h : sp_is_name K w vs H Q E) : t_is_name T (E4 Q) (start N_is_name vs) H := by
  obtain ⟨x, d, rfl, hd, gd, k⟩ := h
  show t_is_name T (E4 Q) [some x, none] _
  unfold t_is_name
  cases hd with
  | str z =>
    cases gd
    rename_i hz hc
    walk_at "go"
    · exact closeB k (L2.Same.refl _) (by simp only [isNameD]; rw [decide_eq_false hif, Bool.and_false, Bool.false_and])
    · rename_i h1
      refine ⟨z, fun c => [V.bl (decide (c ∈ lett.cps.toList))], rfl, by omega, ?_, ?_⟩
      · intro i c acc G hi he
        refine turn_yes ?_
        intro R2 hR
        show tOp _ _ _ [some (V.str z), some (V.str ⟨#[c]⟩)] _ _
        walk_at "go"
        exact hR _ _ ⟨L2.Same.refl _, rfl⟩
      · intro D H' he hD _
        walk_at "go"
        refine kAllF hD ?_
        exact closeB k he (by simp only [isNameD]; rw [decide_eq_true h1, decide_eq_true hif]; rfl)
    · exact closeB k (L2.Same.refl _) (by simp only [isNameD]; rw [decide_eq_false hif, Bool.false_and, Bool.false_and])
  | _ => walk_at "go"; exact closeB k (L2.Same.refl _) rfl
theorem ok_is_name (T : Tx K w mg) (hS : SysB base) : FnG P w K mg base CX0 1 T.f_is_name T.d_is_name ["value"] (sp_is_name K w) := okG T.F_is_name sc_is_name lenB (fun cdv A outer s H vs Q E hG hr h => ⟨t_is_name T, (pss_cons (ps_if (PW.pt (pw_or (pt_not (pt_val (pe_callB call_isi rfl T.n_isinstance bt_isinstance (pa_cons (pv 0) (pa_cons (pe_bltn (v := .ty "str") rfl T.n_str bt_str rfl) pa_nil))))) (pw_or1 (pt_not (pt_chain o_le o_le pe_int (pe_callB o_len rfl T.n_len bt_len (pa_cons (pv 0) pa_nil)) (pe_glob rfl T.g_MOST_LETTERS ⟨_, rfl⟩)))))) (pss_one (ps_ret pe_bl)) pss_nil)
    (pss_one (ps_ret (pe_callB (cr_all rfl) rfl T.n_all bt_all (pa_cons (pe_lc (own := [("letter", 1)]) (g := (gName 1)) rfl sc_is_name.nd (pi_str (pe_mo (pv 0))) (blkOk_by (own := [("letter", 1)]) (N := N_is_name) (sc := defScope s_is_name) (by decide +kernel)) (fun _ _ _ _ _ => pg_name (i := 1) sc_is_name.nd rfl (Or.inl rfl)) (fun _ _ _ _ _ => pts_fr pts_nil)
      (fun _ _ _ _ _ => pe_fr (pe_cmpR (o_in hr) (pv 1) (pe_glob rfl T.g_LETTERS ⟨_, rfl⟩) (by rfl)))) pa_nil))))), pr_is_name T vs H Q E h⟩)
def t_is_integer (T : Tx K w mg) : TS :=
  (tRet (tAndV (tCB (rIsi K) (tCons (tVar 0) (tCons (tC (.ty "int")) tNil))) (tNotV (tCB (rIsi K) (tCons (tVar 0) (tCons (tC (.ty "bool")) tNil))))))
theorem pr_is_integer (T : Tx K w mg) (vs : List V) (H : Hp) (Q : VK) (E : XK) (h : sp_is_integer K w vs H Q E) : t_is_integer T (E4 Q) (start N_is_integer vs) H := by
  obtain ⟨x, d, rfl, hd, gd, k⟩ := h
  show t_is_integer T (E4 Q) [some x] _
  unfold t_is_integer
  cases hd with
  | _ => walk_at "go"; exact closeB k (L2.Same.refl _) rfl
theorem ok_is_integer (T : Tx K w mg) (hS : SysB base) : FnG P w K mg base CX0 1 T.f_is_integer T.d_is_integer ["value"] (sp_is_integer K w) := okG T.F_is_integer sc_is_integer lenB (fun cdv A outer s H vs Q E hG hr h => ⟨t_is_integer T, (pss_one (ps_ret (pe_and (pe_callB call_isi rfl T.n_isinstance bt_isinstance (pa_cons (pv 0) (pa_cons (pe_bltn (v := .ty "int") rfl T.n_int bt_int rfl) pa_nil))) (pe_one (pe_not (pe_callB call_isi rfl T.n_isinstance bt_isinstance (pa_cons (pv 0) (pa_cons (pe_bltn (v := .ty "bool") rfl T.n_bool bt_bool rfl) pa_nil)))))))), pr_is_integer T vs H Q E h⟩)
theorem isInt_of {H : Hp} {x : V} {d : PyData} (h : isIntD d = true) (hd : Rp K H x d) : ∃ i, x = .int i ∧ d = .int i := by
  cases hd with
  | int i => exact ⟨i, rfl, rfl⟩
  | _ => cases h
def t_is_count (T : Tx K w mg) : TS :=
  (tRet (tAndV (tCl (sp_is_integer K w) E0 (tCons (tVar 0) tNil)) (tOp zGe (tVar 0) (tC (.int 0)))))
theorem pr_is_count (T : Tx K w mg) (vs : List V) (H : Hp) (Q : VK) (E : XK) (h : sp_is_count K w vs H Q E) : t_is_count T (E4 Q) (start N_is_count vs) H := by
  obtain ⟨x, d, rfl, hd, gd, k⟩ := h
  show t_is_count T (E4 Q) [some x] _
  unfold t_is_count
  walk_at "go"
  · obtain ⟨i, rfl, rfl⟩ := isInt_of hif hd
    walk_at "go"
    exact closeB k (by walk_at "sm") rfl
  · refine closeB k (by walk_at "sm") ?_
    cases d with
    | int i => cases hif
    | _ => rfl
theorem ok_is_count (T : Tx K w mg) (hS : SysB base) : FnG P w K mg base CX0 2 T.f_is_count T.d_is_count ["value"] (sp_is_count K w) := okG T.F_is_count sc_is_count lenB (fun cdv A outer s H vs Q E hG hr h => ⟨t_is_count T, (pss_one (ps_ret (pe_and (pe_callG hG (ok_is_integer T hS) (hr.mono (by decide)) T.m_is_integer T.F_is_integer.kp T.b_is_integer pass0 (by exact (pa_cons (pv 0) pa_nil))) (pe_one (pe_cmpR o_ge (pv 0) pe_int (nomark _)))))), pr_is_count T vs H Q E h⟩)
def t_is_variable (T : Tx K w mg) : TS :=
  (tRet (tAndV (tCB (rIsi K) (tCons (tVar 0) (tCons (tC (.ty "str")) tNil))) (tOp (zIn K w false) (tVar 0) (tC (.ref T.a_VARIABLES)))))
theorem pr_is_variable (T : Tx K w mg) (vs : List V) (H : Hp) (Q : VK) (E : XK) (h : sp_is_variable K w vs H Q E) : t_is_variable T (E4 Q) (start N_is_variable vs) H := by
  obtain ⟨x, d, rfl, hd, gd, k⟩ := h
  show t_is_variable T (E4 Q) [some x] _
  unfold t_is_variable
  cases hd with
  | str z =>
    walk_at "go"
    refine kIn_T (T.s_VARIABLES _) rfl rfl ?_
    exact closeB k (L2.Same.refl _) rfl
  | _ => walk_at "go"; exact closeB k (L2.Same.refl _) rfl
theorem ok_is_variable (T : Tx K w mg) (hS : SysB base) : FnG P w K mg base CX0 1 T.f_is_variable T.d_is_variable ["value"] (sp_is_variable K w) := okG T.F_is_variable sc_is_variable lenB (fun cdv A outer s H vs Q E hG hr h => ⟨t_is_variable T, (pss_one (ps_ret (pe_and (pe_callB call_isi rfl T.n_isinstance bt_isinstance (pa_cons (pv 0) (pa_cons (pe_bltn (v := .ty "str") rfl T.n_str bt_str rfl) pa_nil))) (pe_one (pe_cmpR (o_in hr) (pv 0) (pe_glob rfl T.g_VARIABLES rfl) (by rfl)))))), pr_is_variable T vs H Q E h⟩)
def sp_is_item (K : PySem.W.Frag) (w : World) : Sp := fun vs H Q _ => ∃ z x d, vs = [.str z, x] ∧ Rp K H x d ∧ Gd 12 3 d ∧ ∀ H', L2.Same H H' → Q (.bl (isItemD z d)) H'
def t_is_item (T : Tx K w mg) : TS :=
  (tMatch (tVar 0) (tmVal "variable" (tRet (tCl (sp_is_variable K w) E0 (tCons (tVar 1) tNil))) (tmVal "integer" (tRet (tCl (sp_is_integer K w) E0 (tCons (tVar 1) tNil))) (tmVal "amount" (tRet (tAndV (tCl (sp_is_integer K w) E0 (tCons (tVar 1) tNil)) (tOp zGe (tVar 1) (tC (.int 1))))) (tmAny (tRet (tCl (sp_is_name K w) E0 (tCons (tVar 1) tNil))))))))
theorem pr_is_item (T : Tx K w mg) (vs : List V) (H : Hp) (Q : VK) (E : XK) (h : sp_is_item K w vs H Q E) : t_is_item T (E4 Q) (start N_is_item vs) H := by
  obtain ⟨z, x, d, rfl, hd, gd, k⟩ := h
  show t_is_item T (E4 Q) [some (.str z), some x] _
  unfold t_is_item
  unfold isItemD at k
  walk_at "go"
  · rw [if_pos hif] at k
    exact k _ (by walk_at "sm")
  · rename_i h1
    rw [if_neg h1, if_pos hif] at k
    exact k _ (by walk_at "sm")
  · rename_i h1 h2 h3
    rw [if_neg h1, if_neg h2, if_pos h3] at k
    obtain ⟨i, rfl, rfl⟩ := isInt_of hif hd
    walk_at "go"
    exact k _ (by walk_at "sm")
  · rename_i h1 h2 h3
    rw [if_neg h1, if_neg h2, if_pos h3] at k
    have e : isAmountD d = false := by
      cases d with
      | int i => cases hif
      | _ => rfl
    rw [e] at k
    exact k _ (by walk_at "sm")
  · rename_i h1 h2
    rw [if_neg h1, if_neg h2, if_neg hif] at k
    exact k _ (by walk_at "sm")
theorem ok_is_item (T : Tx K w mg) (hS : SysB base) : FnG P w K mg base CX0 2 T.f_is_item T.d_is_item ["kind", "value"] (sp_is_item K w) := by
  refine okG T.F_is_item sc_is_item (fun vs H Q E h => ?_) (fun cdv A outer s H vs Q E hG hr h => ⟨t_is_item T, (pss_one (ps_match (pv 0) (pm_val (pss_one (ps_ret (pe_callG hG (ok_is_variable T hS) (hr.mono (by decide)) T.m_is_variable T.F_is_variable.kp T.b_is_variable pass0 (by exact (pa_cons (pv 1) pa_nil)))))
    (pm_val (pss_one (ps_ret (pe_callG hG (ok_is_integer T hS) (hr.mono (by decide)) T.m_is_integer T.F_is_integer.kp T.b_is_integer pass0 (by exact (pa_cons (pv 1) pa_nil)))))
    (pm_val (pss_one (ps_ret (pe_and (pe_callG hG (ok_is_integer T hS) (hr.mono (by decide)) T.m_is_integer T.F_is_integer.kp T.b_is_integer pass0 (by exact (pa_cons (pv 1) pa_nil))) (pe_one (pe_cmpR o_ge (pv 1) pe_int (nomark _))))))
    (pm_any (pss_one (ps_ret (pe_callG hG (ok_is_name T hS) (hr.mono (by decide)) T.m_is_name T.F_is_name.kp T.b_is_name pass0 (by exact (pa_cons (pv 1) pa_nil))))))))))), pr_is_item T vs H Q E h⟩)
  obtain ⟨z, x, d, rfl, _⟩ := h
  rfl
def isItemB (z : Str) : V → Bool
  | .str x => isItemD z (.str x)
  | .int i => isItemD z (.int i)
  | .bl b => isItemD z (.bool b)
  | _ => isItemD z (.list [])
def isItemC (k v : V) : Bool := match k with
  | .str z => isItemB z v
  | _ => false
def isItemV (k v : V) : List V := [V.bl (isItemC k v)]
theorem isItem_eq {K : PySem.W.Frag} {H : Hp} {v : V} {d : PyData} (h : Rp K H v d) (z : Str) : isItemB z v = isItemD z d := by
  cases h <;> rfl
theorem isItemV_of {K : PySem.W.Frag} {H : Hp} {v : V} {d : PyData} (h : Rp K H v d) {z : Str} : isItemV (.str z) v = [V.bl (isItemD z d)] := by
  show [V.bl (isItemB z v)] = _
  rw [isItem_eq h]
theorem form_le {z : Str} {ks : List Str} (h : formOf z = some ks) : ks.length ≤ 3 := by
  unfold formOf at h
  repeat' split at h
  all_goals (cases h; try decide)
theorem gd_at {m k : Nat} {ds : List PyData} {d0 d : PyData} {i : Nat} (g : Gd m (k + 1) (.tuple (d0 :: ds))) (h : ds[i]? = some d) : Gd m (k + 1) d := by
  cases g with
  | tuple h1 h2 => exact (h1 d (List.mem_cons_of_mem _ (List.mem_of_getElem? h))).up (by omega)
theorem all_items {K : PySem.W.Frag} {H : Hp} : ∀ {vs : List V} {ds : List PyData}, RpAll K H vs ds → ∀ ks : List Str, ((ks.map V.str).zip vs).all (fun p => isItemC p.1 p.2) = (ks.zip ds).all fun p => isItemD p.1 p.2
  | _, _, .nil, ks => by cases ks <;> rfl
  | _, _, .cons hv h, ks => by
    cases ks with
    | nil => rfl
    | cons z r =>
      simp only [List.map_cons, List.zip_cons_cons, List.all_cons]
      rw [all_items h r]
      show (isItemB z _ && _) = _
      rw [isItem_eq hv]
def t_is_step (T : Tx K w mg) : TS :=
  (tSeq (tIfS (tOr (tNot (tB (tCB (rIsi K) (tCons (tVar 0) (tCons (tC (.ty "tuple")) tNil))))) (tOr (tTest (tOp (zEq K) (tVar 0) (tTp tNil))) (tOr (tNot (tB (tCB (rIsi K) (tCons (tOp (zIx K w) (tVar 0) (tC (.int 0))) (tCons (tC (.ty "str")) tNil))))) (tTest (tOp (zIn K w true) (tOp (zIx K w) (tVar 0) (tC (.int 0))) (tC (.ref T.a_FORMS))))))) (tRet (tC (.bl false))) tNext)
    (tSeq (tAsg (tOp (zIx K w) (tC (.ref T.a_FORMS)) (tOp (zIx K w) (tVar 0) (tC (.int 0)))) (gName 1))
    (tSeq (tIfS (tTest (tOp (zNe K) (tCB (zLen K) (tCons (tVar 0) tNil)) (tOp (zAdd K) (tCB (zLen K) (tCons (tVar 1) tNil)) (tC (.int 1))))) (tRet (tC (.bl false))) tNext)
    (tRet (tCB (rAll K) (tCons (tLc (iZipA K (tMoA (tCons (tVar 1) (tCons (tSl (zSl K) (tVar 0) (tPart (tC (.int 1))) tNoPart) tNil)))) (gTup K 2 (gCons (gName 2) (gCons (gName 3) gNil))) (tFrT tYes) (tFr (tCl (sp_is_item K w) E0 (tCons (tVar 2) (tCons (tVar 3) tNil)))) [2, 3]) tNil))))))
theorem pr_is_step (T : Tx K w mg) (vs : List V) (H : Hp) (Q : VK) (E : XK) (h : sp_is_step K w vs H Q E) : t_is_step T (E4 Q) (start N_is_step vs) H := by
  obtain ⟨x, d, rfl, hd, gd, k⟩ := h
  show t_is_step T (E4 Q) [some x, none, none, none] _
  unfold t_is_step
  cases hd with
  | tup hq ha =>
    cases ha with
    | nil => 
      walk_at "go"
      exact closeB k (by walk_at "sm") rfl
    | cons h1 hr =>
      rename_i v0 vs d0 ds
      cases h1 with
      | str z =>
        walk_at "go"
        refine kNin_K T.kd_FORMS ?_
        cases hf : T.fo_FORMS z with
        | none =>
          walk_at "go"
          exact closeB k (by walk_at "sm") (by simp only [isStepD]; rw [T.kn_FORMS z hf])
        | some fa =>
          obtain ⟨ks, hk, hs⟩ := T.ks_FORMS z fa hf
          walk_at "go"
          refine kIx_K T.kd_FORMS (by rw [hf]; rfl) ?_
          have hs' := hs H2
          walk_at "go"
          · refine closeB k (by walk_at "sm") ?_
            have e : ks.length ≠ ds.length := by
              intro e
              have := hr.len
              simp only [List.length_cons, List.length_map] at hif
              omega
            simp only [isStepD]; rw [hk]; simp only [decide_eq_false e, Bool.false_and]
          · have l1 := hr.len
            have l2 := form_le hk
            simp only [List.length_cons, List.length_map] at hif
            refine ⟨fa, p, ks.map V.str, vs, isItemV, rfl, by decide, hs _, by walk_at "sq", by rw [List.length_map]; omega, by rw [List.length_map]; omega, ?_, ?_⟩
            · intro i x y acc G hx hy hG
              obtain ⟨kd, rfl, hkd⟩ := strs_at hx
              obtain ⟨d, hd, hy⟩ := hr.at hy
              refine turn2_yes ?_
              intro R2 hR
              show tCl _ _ _ [_, _, some (V.str kd), some y] _ _
              walk_at "go"
              refine ⟨kd, y, d, rfl, by walk_at "rp", gd_at gd hd, ?_⟩
              intro H' he'
              refine hR _ _ ⟨he', ?_⟩
              rw [isItemV_of hy]
            · intro D H' he' hD _
              walk_at "go"
              refine kAllZ hD ?_
              refine closeB k (by walk_at "sm") ?_
              simp only [isStepD]; rw [hk]; simp only []
              rw [decide_eq_true (by omega), Bool.true_and, all_items hr]
      | _ =>
        walk_at "go"
        exact closeB k (by walk_at "sm") rfl
  | _ => walk_at "go"; exact closeB k (L2.Same.refl _) rfl
theorem ok_is_step (T : Tx K w mg) (hS : SysB base) : FnG P w K mg base CX0 3 T.f_is_step T.d_is_step ["value"] (sp_is_step K w) := okG T.F_is_step sc_is_step lenB (fun cdv A outer s H vs Q E hG hr h => ⟨t_is_step T, (pss_cons (ps_if (PW.pt (pw_or (pt_not (pt_val (pe_callB call_isi rfl T.n_isinstance bt_isinstance (pa_cons (pv 0) (pa_cons (pe_bltn (v := .ty "tuple") rfl T.n_tuple bt_tuple rfl) pa_nil))))) (pw_or (pt_cmpR (o_eq hS hr) (pv 0) (pe_tp pa_nil) (nomark _)) (pw_or (pt_not (pt_val (pe_callB call_isi rfl T.n_isinstance bt_isinstance (pa_cons (pe_ix (o_ix hr) (pv 0) pe_int (fun _ _ => rfl)) (pa_cons (pe_bltn (v := .ty "str") rfl T.n_str bt_str rfl) pa_nil))))) (pw_or1 (pt_cmpR (o_notIn hr) (pe_ix (o_ix hr) (pv 0) pe_int (fun _ _ => rfl)) (pe_glob rfl T.g_FORMS rfl) (by rfl))))))) (pss_one (ps_ret pe_bl)) pss_nil)
    (pss_cons (ps_asg (pe_ix (o_ix hr) (pe_glob rfl T.g_FORMS rfl) (pe_ix (o_ix hr) (pv 0) pe_int (fun _ _ => rfl)) (fun _ _ => rfl)) (pg_name (i := 1) sc_is_step.nd rfl (Or.inl rfl)))
    (pss_cons (ps_if (pt_cmpR (o_ne hS hr) (pe_callB o_len rfl T.n_len bt_len (pa_cons (pv 0) pa_nil)) (pe_op o_add (pe_callB o_len rfl T.n_len bt_len (pa_cons (pv 1) pa_nil)) pe_int) (nomark _)) (pss_one (ps_ret pe_bl)) pss_nil)
    (pss_one (ps_ret (pe_callB (cr_all rfl) rfl T.n_all bt_all (pa_cons (pe_lc (own := [("kind", 2), ("item", 3)]) (g := (gTup _ 2 (gCons (gName 2) (gCons (gName 3) gNil)))) rfl sc_is_step.nd (pi_zipA rfl T.n_zip (pa_mo (pa_cons (pv 1) (pa_cons (pe_slice o_sl (pv 0) (po_some pe_int) po_none) pa_nil)))) (blkOk_by (own := [("kind", 2), ("item", 3)]) (N := N_is_step) (sc := defScope s_is_step) (by decide +kernel)) (fun _ _ _ _ _ => pg_tup rfl (pgs_cons (pg_name (i := 2) sc_is_step.nd rfl (Or.inl rfl)) (pgs_cons (pg_name (i := 3) sc_is_step.nd rfl (Or.inl rfl)) pgs_nil))) (fun _ _ _ _ _ => pts_fr pts_nil)
      (fun _ _ _ _ _ => pe_fr (pe_callG hG (ok_is_item T hS) (hr.mono (by decide)) T.m_is_item T.F_is_item.kp T.b_is_item pass0 (by exact (pa_cons (pv 2) (pa_cons (pv 3) pa_nil)))))) pa_nil))))))), pr_is_step T vs H Q E h⟩)
theorem step_shape {K : PySem.W.Frag} {H : Hp} {x : V} {d : PyData} (h : isStepD d = true) (hd : Rp K H x d) : ∃ z ds v xs a, x = .ref a ∧ d = .tuple (.str z :: ds) ∧ SqT K H a (.str z :: xs) ∧ v = V.str z := by
  cases hd with
  | tup hq ha =>
    cases ha with
    | nil => cases h
    | cons h1 hr =>
      cases h1 with
      | str z => exact ⟨z, _, _, _, _, rfl, rfl, hq, rfl⟩
      | _ => cases h
  | _ => cases h
theorem not_plain {d : PyData} (h : isStepD d = false) : isPlainD d = false := by
  unfold isPlainD
  split
  · rw [h, Bool.false_and]
  · rfl
def t_is_plain (T : Tx K w mg) : TS :=
  (tRet (tAndV (tCl (sp_is_step K w) E0 (tCons (tVar 0) tNil)) (tOp (zIn K w false) (tOp (zIx K w) (tVar 0) (tC (.int 0))) (tC (.ref T.a_PLAIN)))))
theorem pr_is_plain (T : Tx K w mg) (vs : List V) (H : Hp) (Q : VK) (E : XK) (h : sp_is_plain K w vs H Q E) : t_is_plain T (E4 Q) (start N_is_plain vs) H := by
  obtain ⟨x, d, rfl, hd, gd, k⟩ := h
  show t_is_plain T (E4 Q) [some x] _
  unfold t_is_plain
  walk_at "go"
  · obtain ⟨z, ds, v, xs, a, rfl, rfl, hq, hz⟩ := step_shape hif hd
    walk_at "go"
    refine kIn_T (T.s_PLAIN _) rfl rfl ?_
    refine closeB k (by walk_at "sm") ?_
    simp only [isPlainD]; rw [hif, Bool.true_and]
  · refine closeB k (by walk_at "sm") ?_
    exact not_plain hif
theorem ok_is_plain (T : Tx K w mg) (hS : SysB base) : FnG P w K mg base CX0 4 T.f_is_plain T.d_is_plain ["step"] (sp_is_plain K w) := okG T.F_is_plain sc_is_plain lenB (fun cdv A outer s H vs Q E hG hr h => ⟨t_is_plain T, (pss_one (ps_ret (pe_and (pe_callG hG (ok_is_step T hS) (hr.mono (by decide)) T.m_is_step T.F_is_step.kp T.b_is_step pass0 (by exact (pa_cons (pv 0) pa_nil))) (pe_one (pe_cmpR (o_in hr) (pe_ix (o_ix hr) (pv 0) pe_int (fun _ _ => rfl)) (pe_glob rfl T.g_PLAIN rfl) (by rfl)))))), pr_is_plain T vs H Q E h⟩)
/-! ### the law's own draws -/
def sp_law_draw (K : PySem.W.Frag) (w : World) : Sp := fun vs H Q _ => ∃ p n, vs = [.ref p, .int n] ∧ H p = some (pot p) ∧ 0 < n ∧ n < 10 ^ 40 ∧ ∀ d H', L2.Same H H' → 0 ≤ d → d < n → Q (.int d) H'
theorem u_law_draw {K : PySem.W.Frag} {w : World} {p : Addr} {n : Int} {H : Hp} {Q : VK} {E : XK} (hp : H p = some (pot p)) (h0 : 0 < n) (h1 : n < 10 ^ 40) (k : ∀ d H', L2.Same H H' → 0 ≤ d → d < n → Q (.int d) H') : sp_law_draw K w [.ref p, .int n] H Q E := ⟨p, n, rfl, hp, h0, h1, k⟩
set_option hygiene false in
local macro_rules | `(tactic| walk_at "inD") => `(tactic| intro d H2 he hd0 hd1)
local macro_rules | `(tactic| walk_at "go1") => `(tactic| first | (((with_reducible refine' u_law_draw ?h1 ?h2 ?h3 ?k1); (case h1 => walk_at "hp"); (case h2 => walk_at "ar"); (case h3 => walk_at "ar"); walk_at "inD")) | fail)
def sp_law_pot (K : PySem.W.Frag) (w : World) : Sp := fun vs H Q _ => ∃ a i, ∃ ns : List Int, vs = [.ref a, .int i] ∧ SqL K H a (ns.map V.int) ∧ 0 ≤ i ∧ i < 100 ∧ ns.length ≤ 63 ∧ ∀ p H', L2.Same H H' → H p = none → H' p = some (pot p) → Q (.ref p) H'
def sp_law_choice (K : PySem.W.Frag) (w : World) : Sp := fun vs H Q _ => ∃ p o, vs = [.ref p, o] ∧ H p = some (pot p) ∧
  ((∃ a xs, o = .ref a ∧ SqL K H a xs ∧ 0 < xs.length ∧ xs.length ≤ 1000 ∧ ∀ (i : Nat) v H', L2.Same H H' → xs[i]? = some v → Q v H') ∨
   (∃ z, o = .str z ∧ 0 < z.length ∧ z.length ≤ 1000 ∧ ∀ (i c : Nat) H', L2.Same H H' → z.cps.toList[i]? = some c → Q (.str ⟨#[c]⟩) H'))
theorem u_choiceL {K : PySem.W.Frag} {w : World} {p a : Addr} {xs : List V} {H : Hp} {Q : VK} {E : XK} (hp : H p = some (pot p)) (h : SqL K H a xs) (h0 : 0 < xs.length) (h1 : xs.length ≤ 1000) (k : ∀ (i : Nat) v H', L2.Same H H' → xs[i]? = some v → Q v H') : sp_law_choice K w [.ref p, .ref a] H Q E := ⟨p, _, rfl, hp, .inl ⟨a, xs, rfl, h, h0, h1, k⟩⟩
theorem u_choiceS {K : PySem.W.Frag} {w : World} {p : Addr} {z : Str} {H : Hp} {Q : VK} {E : XK} (hp : H p = some (pot p)) (h0 : 0 < z.length) (h1 : z.length ≤ 1000) (k : ∀ (i c : Nat) H', L2.Same H H' → z.cps.toList[i]? = some c → Q (.str ⟨#[c]⟩) H') : sp_law_choice K w [.ref p, .str z] H Q E := ⟨p, _, rfl, hp, .inr ⟨z, rfl, h0, h1, k⟩⟩
set_option hygiene false in
local macro_rules | `(tactic| walk_at "inC") => `(tactic| intro i v H2 he hv)
local macro_rules | `(tactic| walk_at "go1") => `(tactic| first
  | ((with_reducible refine' u_choiceL ?h1 ?h2 ?h3 ?h4 ?k1); (case h1 => walk_at "hp"); (case h2 => walk_at "sq"); (case h3 => walk_at "ar"); (case h4 => walk_at "ar"); walk_at "inC")
  | ((with_reducible refine' u_choiceS ?h1 ?h3 ?h4 ?k1); (case h1 => walk_at "hp"); (case h3 => walk_at "ar"); (case h4 => walk_at "ar"); walk_at "inC")
  | fail)
def sp_law_name (K : PySem.W.Frag) (w : World) : Sp := fun vs H Q _ => ∃ p u, ∃ us : List Str, vs = [.ref p, .ref u] ∧ H p = some (pot p) ∧ SqL K H u (us.map V.str) ∧ us.length ≤ 10 ∧ ∀ z H', L2.Same H H' → isNameD (.str z) = true → Q (.str z) H'
def t_law_draw (T : Tx K w mg) : TS :=
  (tSeq (tIfS (tTest (tOp zGt (tOp (zIx K w) (tVar 0) (tC (.int 0))) (tC (.int 0)))) (tSeq (tAsg (tCB zDivmod (tCons (tOp (zIx K w) (tVar 0) (tC (.int 0))) (tCons (tVar 1) tNil))) (gTup K 2 (gCons (gSub (tVar 0) (tC (.int 0)) rSetL) (gCons (gName 2) gNil))))
    (tRet (tVar 2))) tNext)
    (tSeq (tAsg (tOp zMod (tOp (zAdd K) (tOp zMul (tOp (zIx K w) (tVar 0) (tC (.int 1))) (tC (.int 48271))) (tC (.int 10037))) (tC (.int 2147483587))) (gSub (tVar 0) (tC (.int 1)) rSetL))
    (tRet (tOp zMod (tOp zDiv (tOp zMod (tOp zMul (tOp (zIx K w) (tVar 0) (tC (.int 1))) (tOp (zIx K w) (tVar 0) (tC (.int 1)))) (tC (.int 2147483563))) (tC (.int 7))) (tVar 1)))))
theorem pr_law_draw (T : Tx K w mg) (vs : List V) (H : Hp) (Q : VK) (E : XK) (h : sp_law_draw K w vs H Q E) : tPot (t_law_draw T) (E4 Q) (start N_law_draw vs) H := by
  obtain ⟨p, n, rfl, hp, h0, h1, k⟩ := h
  refine ⟨p, hp, fun i j ok => ?_⟩
  obtain ⟨o1, o2, o3⟩ := ok
  show t_law_draw T _ [some (.ref p), some (.int n), none] _
  unfold t_law_draw
  walk_at "go"
  · refine ⟨i / n, j, ⟨Int.ediv_nonneg o1 (by omega), o2, o3⟩, upd_same, k _ _ ?_ (Int.emod_nonneg _ (by omega)) (Int.emod_lt_of_pos _ h0)⟩
    exact pot_same (by assumption) (by assumption)
  · refine ⟨i, (j * 48271 + 10037) % 2147483587, ⟨o1, Int.emod_nonneg _ (by omega), by omega⟩, upd_same, k _ _ ?_ (Int.emod_nonneg _ (by omega)) (Int.emod_lt_of_pos _ h0)⟩
    rw [upd_self hp]
    exact L2.Same.refl H
theorem ok_law_draw (T : Tx K w mg) (hS : SysB base) : FnG P w K mg base CX0 1 T.f_law_draw T.d_law_draw ["_law_pot_here", "_law_most"] (sp_law_draw K w) := by
  refine okG T.F_law_draw sc_law_draw (fun vs H Q E h => ?_) (fun cdv A outer s H vs Q E hG hr h => ⟨tPot (t_law_draw T), pss_pot (pss_cons (ps_if (pt_cmpR o_gt (pe_ix (o_ix hr) (pv 0) pe_int (fun _ _ => rfl)) pe_int (nomark _)) (pss_cons (ps_asg (pe_callB o_divmod rfl T.n_divmod bt_divmod (pa_cons (pe_ix (o_ix hr) (pv 0) pe_int (fun _ _ => rfl)) (pa_cons (pv 1) pa_nil))) (pg_tup rfl (pgs_cons (pg_sub (pv 0) pe_int set_list (fun _ => rfl)) (pgs_cons (pg_name (i := 2) sc_law_draw.nd rfl (Or.inl rfl)) pgs_nil))))
    (pss_one (ps_ret (pv 2)))) pss_nil)
    (pss_cons (ps_asg (pe_op o_mod (pe_op o_add (pe_op o_mul (pe_ix (o_ix hr) (pv 0) pe_int (fun _ _ => rfl)) pe_int) pe_int) pe_int) (pg_sub (pv 0) pe_int set_list (fun _ => rfl)))
    (pss_one (ps_ret (pe_op o_mod (pe_op o_div (pe_op o_mod (pe_op o_mul (pe_ix (o_ix hr) (pv 0) pe_int (fun _ _ => rfl)) (pe_ix (o_ix hr) (pv 0) pe_int (fun _ _ => rfl))) pe_int) pe_int) (pv 1)))))), pr_law_draw T vs H Q E h⟩)
  obtain ⟨p, n, rfl, _⟩ := h
  rfl
theorem pot_new {H H2 : Hp} {Q : VK} {p : Addr} {c x y : Int} (k : ∀ (p : Addr) (H' : Hp), L2.Same H H' → H p = none → H' p = some (pot p) → Q (V.ref p) H') (hn : H p = none) (he : L2.Same H H2)
    (hp : H2 p = some (HO.lst [V.int (if c - x > 0 then c - x else 0), V.int (y % 2147483587 + 1)])) :
    ∃ a i j, V.ref p = V.ref a ∧ PotOk i j ∧ H2 a = some (HO.lst [V.int i, V.int j]) ∧ (E4 Q).rt (V.ref a) (upd H2 a (pot a)) := by
  refine ⟨p, _, _, rfl, ⟨by split <;> omega, by omega, by omega⟩, hp, k p _ (same_upd hn he) hn upd_same⟩
def t_law_pot (T : Tx K w mg) : TS :=
  (tSeq (tAsg (tC (.int 0)) (gName 2))
    (tSeq (tIfS (tTest (tOp zLt (tVar 1) (tCB (zLen K) (tCons (tVar 0) tNil)))) (tAsg (tCB zAbs (tCons (tOp (zIx K w) (tVar 0) (tVar 1)) tNil)) (gName 2)) tNext)
    (tRet (tLs (tCons (tCB zMax (tCons (tC (.int 0)) (tCons (tOp zSub (tVar 2) (tOp zPow (tC (.int 10)) (tC (.int 18)))) tNil))) (tCons (tOp (zAdd K) (tOp zMod (tOp zPow (tOp (zAdd K) (tOp (zAdd K) (tOp zMod (tVar 2) (tC (.int 2147483629))) (tOp zMul (tC (.int 1013)) (tVar 1))) (tC (.int 7))) (tC (.int 3))) (tC (.int 2147483587))) (tC (.int 1))) tNil))))))
theorem pr_law_pot (T : Tx K w mg) (vs : List V) (H : Hp) (Q : VK) (E : XK) (h : sp_law_pot K w vs H Q E) : tPotRet (t_law_pot T) (E4 Q) (start N_law_pot vs) H := by
  obtain ⟨a, i, ns, rfl, hl, h0, h1, h2, k⟩ := h
  show t_law_pot T _ [some (.ref a), some (.int i), none] _
  unfold t_law_pot
  walk_at "go"
  · obtain ⟨z, rfl, hz⟩ := ints_at hv
    walk_at "go"
    exact pot_new k (by assumption) (by assumption) (by assumption)
  · exact pot_new k (by assumption) (by assumption) (by assumption)
theorem ok_law_pot (T : Tx K w mg) (hS : SysB base) : FnG P w K mg base CX0 1 T.f_law_pot T.d_law_pot ["_law_script", "_law_index"] (sp_law_pot K w) := by
  refine okG T.F_law_pot sc_law_pot (fun vs H Q E h => ?_) (fun cdv A outer s H vs Q E hG hr h => ⟨tPotRet (t_law_pot T), pss_potRet (pss_cons (ps_asg pe_int (pg_name (i := 2) sc_law_pot.nd rfl (Or.inl rfl)))
    (pss_cons (ps_if (pt_cmpR o_lt (pv 1) (pe_callB o_len rfl T.n_len bt_len (pa_cons (pv 0) pa_nil)) (nomark _)) (pss_one (ps_asg (pe_callB o_abs rfl T.n_abs bt_abs (pa_cons (pe_ix (o_ix hr) (pv 0) (pv 1) (fun _ _ => rfl)) pa_nil)) (pg_name (i := 2) sc_law_pot.nd rfl (Or.inl rfl)))) pss_nil)
    (pss_one (ps_ret (pe_ls (pa_cons (pe_callB (o_max rfl) rfl T.n_max bt_max (pa_cons pe_int (pa_cons (pe_op o_sub (pv 2) (pe_op o_pow pe_int pe_int)) pa_nil))) (pa_cons (pe_op o_add (pe_op o_mod (pe_op o_pow (pe_op o_add (pe_op o_add (pe_op o_mod (pv 2) pe_int) (pe_op o_mul pe_int (pv 1))) pe_int) pe_int) pe_int) pe_int) pa_nil))))))), pr_law_pot T vs H Q E h⟩)
  obtain ⟨a, i, ns, rfl, _⟩ := h
  rfl
def t_law_choice (T : Tx K w mg) : TS :=
  (tRet (tOp (zIx K w) (tVar 1) (tCl (sp_law_draw K w) E0 (tCons (tVar 0) (tCons (tCB (zLen K) (tCons (tVar 1) tNil)) tNil)))))
theorem pr_law_choice (T : Tx K w mg) (vs : List V) (H : Hp) (Q : VK) (E : XK) (h : sp_law_choice K w vs H Q E) : t_law_choice T (E4 Q) (start N_law_choice vs) H := by
  obtain ⟨p, o, rfl, hp, h⟩ := h
  show t_law_choice T _ [some (.ref p), some o] _
  unfold t_law_choice
  rcases h with ⟨a, xs, rfl, hl, h0, h1, k⟩ | ⟨z, rfl, h0, h1, k⟩
  · walk_at "go"
    exact k _ _ _ (by walk_at "sm") hv
  · walk_at "go"
    exact k _ _ _ (by walk_at "sm") hv
theorem ok_law_choice (T : Tx K w mg) (hS : SysB base) : FnG P w K mg base CX0 2 T.f_law_choice T.d_law_choice ["_law_pot_here", "_law_options"] (sp_law_choice K w) := by
  refine okG T.F_law_choice sc_law_choice (fun vs H Q E h => ?_) (fun cdv A outer s H vs Q E hG hr h => ⟨t_law_choice T, (pss_one (ps_ret (pe_ix (o_ix hr) (pv 1) (pe_callG hG (ok_law_draw T hS) (hr.mono (by decide)) T.m_law_draw T.F_law_draw.kp T.b_law_draw pass0 (by exact (pa_cons (pv 0) (pa_cons (pe_callB o_len rfl T.n_len bt_len (pa_cons (pv 1) pa_nil)) pa_nil)))) (fun _ _ => rfl)))), pr_law_choice T vs H Q E h⟩)
  obtain ⟨p, o, rfl, _⟩ := h
  rfl
theorem name_of {z : Str} (h0 : 1 ≤ z.length) (h1 : z.length ≤ 8) (h : ∀ c ∈ z.cps.toList, c ∈ lett.cps.toList) : isNameD (.str z) = true := by
  simp only [isNameD]
  rw [decide_eq_true (by omega), decide_eq_true (by omega), List.all_eq_true.mpr fun c hc => decide_eq_true (h c hc)]; rfl
theorem size_of {d : Int} {i : Nat} {v : V} (h0 : 0 ≤ d) (h1 : d < 8) (hv : [V.int 1, V.int 1, V.int 2, V.int 8, V.int (1 + d)][i]? = some v) : ∃ m, v = .int m ∧ 1 ≤ m ∧ m ≤ 8 := by
  have h := List.mem_of_getElem? hv
  simp only [List.mem_cons, List.not_mem_nil, or_false] at h
  rcases h with e | e | e | e | e <;> exact ⟨_, e, by omega, by omega⟩
theorem words_of {i : Nat} {v : V} (hv : [V.str "module", V.str "need", V.str "try", V.str "set", V.str "a", V.str "b", V.str "fail", V.str "thread"][i]? = some v) : ∃ z, v = .str z ∧ isNameD (.str z) = true := by
  have h := List.mem_of_getElem? hv
  simp only [List.mem_cons, List.not_mem_nil, or_false] at h
  rcases h with e | e | e | e | e | e | e | e <;> exact ⟨_, e, by decide +kernel⟩
def spare (i : Nat) : Str := one (lett.cps.toList.getD (i / 26) 0) ++ one (lett.cps.toList.getD (i % 26) 0) ++ "q"
theorem spare_len : ((List.range 676).flatMap fun i => [V.str (spare i)]).length = 676 := by
  rw [List.length_flatMap]; decide +kernel
theorem spare_at {x : V} {i : Nat} (h : ((List.range 676).flatMap fun i => [V.str (spare i)])[i]? = some x) : ∃ j, j < 676 ∧ x = .str (spare j) := by
  obtain ⟨j, hj, hx⟩ := List.mem_flatMap.mp (List.mem_of_getElem? h)
  exact ⟨j, List.mem_range.mp hj, List.mem_singleton.mp hx⟩
theorem spare_is {i a b : Nat} (ha : lett.cps.toList[((i : Int) / 26).toNat]? = some a) (hb : lett.cps.toList[((i : Int) % 26).toNat]? = some b) : (⟨#[a]⟩ ++ ⟨#[b]⟩ ++ "q" : Str) = spare i := by
  unfold spare
  have e1 : ((i : Int) / 26).toNat = i / 26 := by omega
  have e2 : ((i : Int) % 26).toNat = i % 26 := by omega
  rw [e1] at ha; rw [e2] at hb
  rw [List.getD_eq_getElem?_getD, List.getD_eq_getElem?_getD, ha, hb]; rfl
theorem spare_name {j : Nat} (h : j < 676) : isNameD (.str (spare j)) = true := by
  have a : ∀ j : Fin 676, isNameD (.str (spare j.val)) = true := by decide +kernel
  exact a ⟨j, h⟩
theorem spare_free {us : List Str} (h : us.length ≤ 10) : ∃ j, j < 676 ∧ spare j ∉ us := by
  refine Classical.byContradiction fun hn => ?_
  have := all_of_len (ys := us) (xs := (List.range 11).map spare) (by decide +kernel) (fun x hx => by
    obtain ⟨j, hj, rfl⟩ := List.mem_map.mp hx
    exact Classical.byContradiction fun h2 => hn ⟨j, by have := List.mem_range.mp hj; omega, h2⟩)
  rw [List.length_map, List.length_range] at this
  omega
def t_law_name (T : Tx K w mg) : TS :=
  (tSeq (tAsg (tC (.str "abcdefghijklmnopqrstuvwxyz")) (gName 2))
    (tSeq (tAsg (tOp (zIx K w) (tLs (tCons (tC (.int 1)) (tCons (tC (.int 1)) (tCons (tC (.int 2)) (tCons (tC (.int 8)) (tCons (tOp (zAdd K) (tC (.int 1)) (tCl (sp_law_draw K w) E0 (tCons (tVar 0) (tCons (tC (.int 8)) tNil)))) tNil)))))) (tCl (sp_law_draw K w) E0 (tCons (tVar 0) (tCons (tC (.int 5)) tNil)))) (gName 3))
    (tSeq (tAsg (tM1 (zJoin K) (tC (.str "")) (tLc (iRng1 (tMoA (tCons (tVar 3) tNil))) (gName 7) (tFrT tYes) (tFr (tOp (zIx K w) (tVar 2) (tCl (sp_law_draw K w) E0 (tCons (tVar 0) (tCons (tC (.int 26)) tNil))))) [7])) (gName 4))
    (tMid (tIfS (tTest (tOp (zEq K) (tCl (sp_law_draw K w) E0 (tCons (tVar 0) (tCons (tC (.int 12)) tNil))) (tC (.int 0)))) (tAsg (tOp (zIx K w) (tLs (tCons (tC (.str "module")) (tCons (tC (.str "need")) (tCons (tC (.str "try")) (tCons (tC (.str "set")) (tCons (tC (.str "a")) (tCons (tC (.str "b")) (tCons (tC (.str "fail")) (tCons (tC (.str "thread")) tNil))))))))) (tCl (sp_law_draw K w) E0 (tCons (tVar 0) (tCons (tC (.int 8)) tNil)))) (gName 4)) tNext)
    (tSeq (tIfS (tTest (tOp (zIn K w true) (tVar 4) (tVar 1))) (tRet (tVar 4)) tNext)
    (tSeq (tAsg (tLc (iRng1 (tMoA (tCons (tC (.int 676)) tNil))) (gName 6) (tFrT tYes) (tFr (tOp (zAdd K) (tOp (zAdd K) (tOp (zIx K w) (tVar 2) (tOp zDiv (tVar 6) (tC (.int 26)))) (tOp (zIx K w) (tVar 2) (tOp zMod (tVar 6) (tC (.int 26))))) (tC (.str "q")))) [6]) (gName 5))
    (tRet (tOp (zIx K w) (tLc (iList K (tMo (tVar 5))) (gName 8) (tFrT (tTest (tOp (zIn K w true) (tVar 8) (tVar 1)))) (tFr (tVar 8)) [8]) (tC (.int 0))))))))))
theorem pr_law_name (T : Tx K w mg) (vs : List V) (H : Hp) (Q : VK) (E : XK) (h : sp_law_name K w vs H Q E) : t_law_name T (E4 Q) (start N_law_name vs) H := by
  obtain ⟨pp, u, us, rfl, hpp, huu, h0, k⟩ := h
  show t_law_name T (E4 Q) [some (.ref pp), some (.ref u), none, none, none, none, none, none, none] _
  unfold t_law_name
  walk_at "go"
  obtain ⟨m, rfl, m0, m1⟩ := size_of (by assumption) (by assumption) hv
  refine cRngW ?_
  walk_at "go"
  refine ⟨m, fun i acc G => L2.Same H2 G ∧ ∃ cs : List Nat, acc = cs.map (fun c => V.str (one c)) ∧ cs.length = i ∧ ∀ c ∈ cs, c ∈ lett.cps.toList, rfl, by omega, by omega, ⟨L2.Same.refl _, [], rfl, rfl, fun c hc => nomatch hc⟩, ?_, ?_⟩
  · intro i acc G hi hl hG
    obtain ⟨hG, cs, rfl, hcs, hall⟩ := hG
    refine turn_yes ?_
    intro R2 hR
    show tOp _ _ _ [some (.ref pp), some (.ref u), some (V.str lett), some _, none, none, none, some _, none] _ _
    walk_at "go"
    refine hR _ _ ⟨L2.Same.trans hG (by assumption), cs ++ [v], by rw [List.map_append]; rfl, by rw [List.length_append, hcs]; rfl, ?_⟩
    intro x hx
    rcases List.mem_append.mp hx with h | h
    · exact hall x h
    · rw [List.mem_singleton.mp h]; exact List.mem_of_getElem? hv
  · intro acc G D hl hG hD
    obtain ⟨hG, cs, rfl, hcs, hall⟩ := hG
    have e2 : L2.Same G (upd G D (.lst (cs.map (fun c => V.str (one c))))) := Same.new hD
    have e3 : upd G D (.lst (cs.map (fun c => V.str (one c)))) D = some (.lst (cs.map (fun c => V.str (one c)))) := upd_same
    generalize hGG : upd G D (.lst (cs.map (fun c => V.str (one c)))) = G2 at e2 e3 ⊢
    walk_at "go"
    have hn : isNameD (.str ⟨cs.toArray⟩) = true := name_of (by show 1 ≤ cs.toArray.size; simp; omega) (by show cs.toArray.size ≤ 8; simp; omega) (by simpa using hall)
    refine g_cut (fun σ' H' => ∃ z, isNameD (.str z) = true ∧ L2.Same H H' ∧ σ' = [some (.ref pp), some (.ref u), some (V.str lett), some (.int m), some (.str z), none, none, none, none]) ?_ ?_
    · walk_at "go"
      · have hz := words_of hv
        obtain ⟨z, rfl, hz⟩ := hz
        exact ⟨z, hz, by walk_at "sm", rfl⟩
      · exact ⟨_, hn, by walk_at "sm", rfl⟩
    · rintro σ' H' ⟨z, hz, hs, rfl⟩
      walk_at "go"
      refine kNin_LS (us := us) (by walk_at "sq") ?_
      walk_at "go"
      · exact k _ _ (by walk_at "sm") hz
      · refine cRng ?_
        walk_at "go"
        refine ⟨676, fun i => [V.str (spare i)], rfl, by omega, by omega, ?_, ?_⟩
        · intro i acc G hi hG
          refine turn_yes ?_
          intro R2 hR
          show tOp _ _ _ [some (.ref pp), some (.ref u), some (V.str lett), some _, _, none, some (V.int (i : Int)), none, none] _ _
          have i0 : (0 : Int) ≤ (i : Int) / 26 := by omega
          have i1 : (i : Int) / 26 < 26 := by omega
          have i2 : (0 : Int) ≤ (i : Int) % 26 := by omega
          have i3 : (i : Int) % 26 < 26 := by omega
          walk_at "go"
          rename_i va ha
          refine hR _ _ ⟨L2.Same.refl _, ?_⟩
          rw [spare_is ha hv]
        · intro D H' he hD _
          walk_at "go"
          refine cList ?_
          walk_at "go"
          refine ⟨D, _, fun v => match v with | .str z => if z ∈ us then [] else [.str z] | _ => [], rfl, by walk_at "sq", Nat.le_trans (Nat.le_of_eq spare_len) (by decide), ?_, ?_⟩
          · intro i x acc G hx hG
            intro R hR
            show tTest _ [some (.ref pp), some (.ref u), some (V.str lett), some _, _, some (.ref D), none, none, some x] _ _
            obtain ⟨j, hj, rfl⟩ := spare_at hx
            walk_at "go"
            refine kNin_LS (us := us) (by walk_at "sq") ?_
            walk_at "go"
            refine hR _ _ ?_
            by_cases hj2 : spare j ∈ us
            · rw [decide_eq_true hj2]
              refine iteF ⟨L2.Same.refl _, ?_⟩
              show acc = acc ++ (if spare j ∈ us then [] else [.str (spare j)])
              rw [if_pos hj2, List.append_nil]
            · rw [decide_eq_false hj2]
              refine iteT ?_
              intro R2 hR2
              show tVar 8 [some (.ref pp), some (.ref u), some (V.str lett), some _, _, some (.ref D), none, none, some (V.str (spare j))] _ _
              walk_at "go"
              refine hR2 _ _ ⟨L2.Same.refl _, ?_⟩
              show _ = acc ++ (if spare j ∈ us then [] else [.str (spare j)])
              rw [if_neg hj2]
          · intro D H' he hD _
            walk_at "go"
            refine kIx_L (SqL.of hD) (by omega) ?_ ?_
            · obtain ⟨j, hj, hfree⟩ := spare_free h0
              have hm : V.str (spare j) ∈ (((List.range 676).flatMap fun i => [V.str (spare i)]).flatMap fun v => match v with | .str z => if z ∈ us then [] else [V.str z] | _ => []) :=
                List.mem_flatMap.mpr ⟨_, List.mem_flatMap.mpr ⟨j, List.mem_range.mpr hj, List.mem_singleton.mpr rfl⟩, by show _ ∈ (if spare j ∈ us then [] else [V.str (spare j)]); rw [if_neg hfree]; exact List.mem_singleton.mpr rfl⟩
              have := List.length_pos_of_mem hm
              exact Int.ofNat_lt.mpr this
            · intro v hv
              obtain ⟨x, hx, hv2⟩ := List.mem_flatMap.mp (List.mem_of_getElem? hv)
              obtain ⟨n, hn⟩ := List.getElem?_of_mem hx
              obtain ⟨j, hj, rfl⟩ := spare_at hn
              have e : v ∈ (if spare j ∈ us then [] else [V.str (spare j)]) := hv2
              by_cases hj2 : spare j ∈ us
              · rw [if_pos hj2] at e; cases e
              · rw [if_neg hj2] at e
                rw [List.mem_singleton.mp e]
                exact k _ _ (by walk_at "sm") (spare_name hj)
theorem ok_law_name (T : Tx K w mg) (hS : SysB base) : FnG P w K mg base CX0 2 T.f_law_name T.d_law_name ["_law_pot_here", "_law_used"] (sp_law_name K w) := by
  refine okG T.F_law_name sc_law_name (fun vs H Q E h => ?_) (fun cdv A outer s H vs Q E hG hr h => ⟨t_law_name T, (pss_cons (ps_asg pe_str (pg_name (i := 2) sc_law_name.nd rfl (Or.inr rfl)))
    (pss_cons (ps_asg (pe_ix (o_ix hr) (pe_ls (pa_cons pe_int (pa_cons pe_int (pa_cons pe_int (pa_cons pe_int (pa_cons (pe_op o_add pe_int (pe_callG hG (ok_law_draw T hS) (hr.mono (by decide)) T.m_law_draw T.F_law_draw.kp T.b_law_draw pass0 (by exact (pa_cons (pv 0) (pa_cons pe_int pa_nil))))) pa_nil)))))) (pe_callG hG (ok_law_draw T hS) (hr.mono (by decide)) T.m_law_draw T.F_law_draw.kp T.b_law_draw pass0 (by exact (pa_cons (pv 0) (pa_cons pe_int pa_nil)))) (fun _ _ => rfl)) (pg_name (i := 3) sc_law_name.nd rfl (Or.inl rfl)))
    (pss_cons (ps_asg (pe_joinZ pe_str (pe_lc (own := [("_law_turn", 7)]) (g := (gName 7)) rfl sc_law_name.nd (pi_range1 rfl T.n_range (pa_mo (pa_cons (pv 3) pa_nil))) (blkOk_by (own := [("_law_turn", 7)]) (N := N_law_name) (sc := defScope s_law_name) (by decide +kernel)) (fun _ _ _ _ _ => pg_name (i := 7) sc_law_name.nd rfl (Or.inl rfl)) (fun _ _ _ _ _ => pts_fr pts_nil)
      (fun _ _ _ _ _ => pe_fr (pe_ix (o_ix hr) (pv 2) (pe_callG hG (ok_law_draw T hS) (hr.mono (by decide)) T.m_law_draw T.F_law_draw.kp T.b_law_draw pass0 (by exact (pa_cons (pv 0) (pa_cons pe_int pa_nil)))) (fun _ _ => rfl))))) (pg_name (i := 4) sc_law_name.nd rfl (Or.inl rfl)))
    (pss_mid (ps_if (pt_cmpR (o_eq hS hr) (pe_callG hG (ok_law_draw T hS) (hr.mono (by decide)) T.m_law_draw T.F_law_draw.kp T.b_law_draw pass0 (by exact (pa_cons (pv 0) (pa_cons pe_int pa_nil)))) pe_int (nomark _)) (pss_one (ps_asg (pe_ix (o_ix hr) (pe_ls (pa_cons pe_str (pa_cons pe_str (pa_cons pe_str (pa_cons pe_str (pa_cons pe_str (pa_cons pe_str (pa_cons pe_str (pa_cons pe_str pa_nil))))))))) (pe_callG hG (ok_law_draw T hS) (hr.mono (by decide)) T.m_law_draw T.F_law_draw.kp T.b_law_draw pass0 (by exact (pa_cons (pv 0) (pa_cons pe_int pa_nil)))) (fun _ _ => rfl)) (pg_name (i := 4) sc_law_name.nd rfl (Or.inl rfl)))) pss_nil)
    (pss_cons (ps_if (pt_cmpR (o_notIn hr) (pv 4) (pv 1) (by rfl)) (pss_one (ps_ret (pv 4))) pss_nil)
    (pss_cons (ps_setLc (i := 5) (own := [("_law_at", 6)]) (g := (gName 6)) rfl sc_law_name.nd rfl rfl (sw_true rfl rfl rfl (by decide +kernel)) (pi_range1 rfl T.n_range (pa_mo (pa_cons pe_int pa_nil))) (blkOk_by (own := [("_law_at", 6)]) (N := N_law_name) (sc := defScope s_law_name) (by decide +kernel)) (fun _ _ _ _ _ => pg_name (i := 6) sc_law_name.nd rfl (Or.inl rfl)) (fun _ _ _ _ _ => pts_fr pts_nil)
      (fun _ _ _ _ _ => pe_fr (pe_op o_add (pe_op o_add (pe_ix (o_ix hr) (pv 2) (pe_op o_div (pv 6) pe_int) (fun _ _ => rfl)) (pe_ix (o_ix hr) (pv 2) (pe_op o_mod (pv 6) pe_int) (fun _ _ => rfl))) pe_str)))
    (pss_one (ps_ret (pe_ix (o_ix hr) (pe_lc (own := [("_law_one", 8)]) (g := (gName 8)) rfl sc_law_name.nd (pi_list (pe_mo (pv 5))) (blkOk_by (own := [("_law_one", 8)]) (N := N_law_name) (sc := defScope s_law_name) (by decide +kernel)) (fun _ _ _ _ _ => pg_name (i := 8) sc_law_name.nd rfl (Or.inl rfl)) (fun _ _ _ _ _ => pts_fr (pts_one (pt_cmpR (o_notIn hr) (pv 8) (pv 1) (by rfl))))
      (fun _ _ _ _ _ => pe_fr (pv 8))) pe_int (fun _ _ => rfl)))))))))), pr_law_name T vs H Q E h⟩)
  obtain ⟨pp, u, us, rfl, _⟩ := h
  rfl
def sp_law_names (K : PySem.W.Frag) (w : World) : Sp := fun vs H Q _ => ∃ p n, vs = [.ref p, .int n] ∧ H p = some (pot p) ∧ 0 ≤ n ∧ n ≤ 10 ∧ ∀ l (zs : List Str) H', L2.Same H H' → H' l = some (.lst (zs.map V.str)) → zs.length = n.toNat → (∀ z ∈ zs, isNameD (.str z) = true) → Q (.ref l) H'
theorem u_name {K : PySem.W.Frag} {w : World} {p u : Addr} {us : List Str} {H : Hp} {Q : VK} {E : XK} (hp : H p = some (pot p)) (hu : SqL K H u (us.map V.str)) (h0 : us.length ≤ 10) (k : ∀ z H', L2.Same H H' → isNameD (.str z) = true → Q (.str z) H') : sp_law_name K w [.ref p, .ref u] H Q E := ⟨p, u, us, rfl, hp, hu, h0, k⟩
theorem u_names {K : PySem.W.Frag} {w : World} {p : Addr} {n : Int} {H : Hp} {Q : VK} {E : XK} (hp : H p = some (pot p)) (h0 : 0 ≤ n) (h1 : n ≤ 10) (k : ∀ l (zs : List Str) H', L2.Same H H' → H' l = some (.lst (zs.map V.str)) → zs.length = n.toNat → (∀ z ∈ zs, isNameD (.str z) = true) → Q (.ref l) H') : sp_law_names K w [.ref p, .int n] H Q E := ⟨p, n, rfl, hp, h0, h1, k⟩
set_option hygiene false in
local macro_rules | `(tactic| walk_at "inNs") => `(tactic| intro l zs H2 he hl hzl hzs)
local macro_rules | `(tactic| walk_at "go1") => `(tactic| first | (((with_reducible refine' u_names ?h1 ?h2 ?h3 ?k1); (case h1 => walk_at "hp"); (case h2 => walk_at "ar"); (case h3 => walk_at "ar"); walk_at "inNs")) | fail)
def t_law_names (T : Tx K w mg) : TS :=
  (tSeq (tAsg (tLs tNil) (gName 2))
    (tSeq (tFor (iRng1 (tMoA (tCons (tVar 1) tNil))) (gName 3) (tDrop (tBM K "list" rAppend (tVar 2) (tCons (tCl (sp_law_name K w) E0 (tCons (tVar 0) (tCons (tVar 2) tNil))) tNil))))
    (tRet (tVar 2))))
theorem pr_law_names (T : Tx K w mg) (vs : List V) (H : Hp) (Q : VK) (E : XK) (h : sp_law_names K w vs H Q E) : t_law_names T (E4 Q) (start N_law_names vs) H := by
  obtain ⟨pp, n, rfl, hpp, h0, h1, k⟩ := h
  show t_law_names T (E4 Q) [some (.ref pp), some (.int n), none, none] _
  unfold t_law_names
  walk_at "go"
  refine ⟨n, fun i σ' H' => ∃ (zs : List Str) (o : Option V), σ' = [some (.ref pp), some (.int n), some (.ref p), o] ∧ L2.Same H H' ∧ H' p = some (.lst (zs.map V.str)) ∧ zs.length = i ∧ ∀ z ∈ zs, isNameD (.str z) = true, rfl, h0, by omega, ⟨[], none, rfl, by walk_at "sm", hp, rfl, fun z hz => nomatch hz⟩, ?_, ?_⟩
  · rintro i σ' H' hi ⟨zs, o, rfl, hs, hl, hzl, hzs⟩
    show tDrop _ _ [some (.ref pp), some (.int n), some (.ref p), some (V.int (i : Int))] _
    walk_at "go"
    refine u_name (us := zs) (by walk_at "hp") (by walk_at "sq") (by omega) ?_
    intro z H2 he hz
    walk_at "go"
    refine kAppend (by walk_at "hp") (by rw [List.length_map]; omega) ?_
    walk_at "go"
    refine ⟨zs ++ [z], _, rfl, ?_, by rw [upd_same, List.map_append]; rfl, by rw [List.length_append, hzl]; rfl, ?_⟩
    · exact same_upd (by assumption) (by walk_at "sm")
    · intro x hx
      rcases List.mem_append.mp hx with h | h
      · exact hzs x h
      · rw [List.mem_singleton.mp h]; exact hz
  · rintro σ' H' ⟨zs, o, rfl, hs, hl, hzl, hzs⟩
    walk_at "go"
    exact k _ _ _ hs hl hzl hzs
theorem ok_law_names (T : Tx K w mg) (hS : SysB base) : FnG P w K mg base CX0 3 T.f_law_names T.d_law_names ["_law_pot_here", "_law_number"] (sp_law_names K w) := by
  refine okG T.F_law_names sc_law_names (fun vs H Q E h => ?_) (fun cdv A outer s H vs Q E hG hr h => ⟨t_law_names T, (pss_cons (ps_asg (pe_ls pa_nil) (pg_name (i := 2) sc_law_names.nd rfl (Or.inl rfl)))
    (pss_cons (ps_for PassesOwn.never rfl (pi_range1 rfl T.n_range (pa_mo (pa_cons (pv 1) pa_nil))) (pg_name (i := 3) sc_law_names.nd rfl (Or.inl rfl))
    (pss_one (ps_expr (pe_bm PySem.F.plainAttrs_list PySem.F.slot_list_append PySem.F.type_list_append m_append (pv 2) (pa_cons (pe_callG hG (ok_law_name T hS) (hr.mono (by decide)) T.m_law_name T.F_law_name.kp T.b_law_name pass0 (by exact (pa_cons (pv 0) (pa_cons (pv 2) pa_nil)))) pa_nil)))))
    (pss_one (ps_ret (pv 2))))), pr_law_names T vs H Q E h⟩)
  obtain ⟨pp, u, rfl, _⟩ := h
  rfl
def sp_law_integer (K : PySem.W.Frag) (w : World) : Sp := fun vs H Q _ => ∃ p, vs = [.ref p] ∧ H p = some (pot p) ∧ ∀ i H', L2.Same H H' → i.natAbs < 10 ^ 60 → Q (.int i) H'
theorem u_integer {K : PySem.W.Frag} {w : World} {p : Addr} {H : Hp} {Q : VK} {E : XK} (hp : H p = some (pot p)) (k : ∀ i H', L2.Same H H' → i.natAbs < 10 ^ 60 → Q (.int i) H') : sp_law_integer K w [.ref p] H Q E := ⟨p, rfl, hp, k⟩
set_option hygiene false in
local macro_rules | `(tactic| walk_at "inZ") => `(tactic| intro i H2 he hi)
local macro_rules | `(tactic| walk_at "go1") => `(tactic| first | (((with_reducible refine' u_integer ?h1 ?k1); (case h1 => walk_at "hp"); walk_at "inZ")) | fail)
def t_law_integer (T : Tx K w mg) : TS :=
  (tRet (tCl (sp_law_choice K w) E0 (tCons (tVar 0) (tCons (tLs (tCons (tC (.int 0)) (tCons (tC (.int 1)) (tCons (tUn zNeg (tC (.int 1))) (tCons (tOp zSub (tCl (sp_law_draw K w) E0 (tCons (tVar 0) (tCons (tC (.int 9)) tNil))) (tC (.int 4))) (tCons (tCl (sp_law_draw K w) E0 (tCons (tVar 0) (tCons (tOp zPow (tC (.int 10)) (tC (.int 30))) tNil))) (tCons (tOp zSub (tC (.int 0)) (tCl (sp_law_draw K w) E0 (tCons (tVar 0) (tCons (tOp zPow (tC (.int 10)) (tC (.int 30))) tNil)))) tNil))))))) tNil))))
theorem pr_law_integer (T : Tx K w mg) (vs : List V) (H : Hp) (Q : VK) (E : XK) (h : sp_law_integer K w vs H Q E) : t_law_integer T (E4 Q) (start N_law_integer vs) H := by
  obtain ⟨pp, rfl, hpp, k⟩ := h
  show t_law_integer T (E4 Q) [some (.ref pp)] _
  unfold t_law_integer
  walk_at "go"
  have hm := List.mem_of_getElem? hv
  simp only [List.mem_cons, List.not_mem_nil, or_false] at hm
  have e30 : (10 : Int) ^ Int.toNat 30 = 1000000000000000000000000000000 := by decide +kernel
  rcases hm with e | e | e | e | e | e <;> (subst e; exact k _ _ (by walk_at "sm") (by omega))
theorem ok_law_integer (T : Tx K w mg) (hS : SysB base) : FnG P w K mg base CX0 3 T.f_law_integer T.d_law_integer ["_law_pot_here"] (sp_law_integer K w) := by
  refine okG T.F_law_integer sc_law_integer (fun vs H Q E h => ?_) (fun cdv A outer s H vs Q E hG hr h => ⟨t_law_integer T, (pss_one (ps_ret (pe_callG hG (ok_law_choice T hS) (hr.mono (by decide)) T.m_law_choice T.F_law_choice.kp T.b_law_choice pass0 (by exact (pa_cons (pv 0) (pa_cons (pe_ls (pa_cons pe_int (pa_cons pe_int (pa_cons (pe_un o_neg pe_int) (pa_cons (pe_op o_sub (pe_callG hG (ok_law_draw T hS) (hr.mono (by decide)) T.m_law_draw T.F_law_draw.kp T.b_law_draw pass0 (by exact (pa_cons (pv 0) (pa_cons pe_int pa_nil)))) pe_int) (pa_cons (pe_callG hG (ok_law_draw T hS) (hr.mono (by decide)) T.m_law_draw T.F_law_draw.kp T.b_law_draw pass0 (by exact (pa_cons (pv 0) (pa_cons (pe_op o_pow pe_int pe_int) pa_nil)))) (pa_cons (pe_op o_sub pe_int (pe_callG hG (ok_law_draw T hS) (hr.mono (by decide)) T.m_law_draw T.F_law_draw.kp T.b_law_draw pass0 (by exact (pa_cons (pv 0) (pa_cons (pe_op o_pow pe_int pe_int) pa_nil))))) pa_nil))))))) pa_nil)))))), pr_law_integer T vs H Q E h⟩)
  obtain ⟨pp, rfl, _⟩ := h
  rfl
/-! ### steps made -/
theorem it_v (d : PyData) : isItemD "variable" d = isVarD d := if_pos rfl
theorem it_i (d : PyData) : isItemD "integer" d = isIntD d := by unfold isItemD; rw [if_neg (by decide +kernel), if_pos rfl]
theorem it_a (d : PyData) : isItemD "amount" d = isAmountD d := by unfold isItemD; rw [if_neg (by decide +kernel), if_neg (by decide +kernel), if_pos rfl]
theorem it_m (d : PyData) : isItemD "module" d = isNameD d := by unfold isItemD; rw [if_neg (by decide +kernel), if_neg (by decide +kernel), if_neg (by decide +kernel)]
theorem it_n (d : PyData) : isItemD "name" d = isNameD d := by unfold isItemD; rw [if_neg (by decide +kernel), if_neg (by decide +kernel), if_neg (by decide +kernel)]
theorem stepD_of {z : Str} {ks : List Str} {items : List PyData} (h : formOf z = some ks) (h2 : (decide (ks.length = items.length) && (ks.zip items).all fun p => isItemD p.1 p.2) = true) : isStepD (.tuple (.str z :: items)) = true := by
  simp only [isStepD]; rw [h]; exact h2
theorem st_set {x : Str} {i : Int} (h : isVarD (.str x) = true) : isStepD (.tuple [.str "set", .str x, .int i]) = true := stepD_of (ks := ["variable", "integer"]) (by decide +kernel) (by
  show (true && (isItemD "variable" (.str x) && (isItemD "integer" (.int i) && true))) = true
  rw [it_v, it_i, h]; rfl)
theorem st_add {x y : Str} (h : isVarD (.str x) = true) (h2 : isVarD (.str y) = true) : isStepD (.tuple [.str "add", .str x, .str y]) = true := stepD_of (ks := ["variable", "variable"]) (by decide +kernel) (by
  show (true && (isItemD "variable" (.str x) && (isItemD "variable" (.str y) && true))) = true
  rw [it_v, it_v, h, h2]; rfl)
theorem st_skip {x : Str} {i : Int} (h : isVarD (.str x) = true) (h2 : 1 ≤ i) : isStepD (.tuple [.str "skip", .str x, .int i]) = true := stepD_of (ks := ["variable", "amount"]) (by decide +kernel) (by
  show (true && (isItemD "variable" (.str x) && (isItemD "amount" (.int i) && true))) = true
  rw [it_v, it_a, h]
  show (true && (true && (decide (1 ≤ i) && true))) = true
  rw [decide_eq_true h2]; rfl)
theorem st_need {m : Str} (h : isNameD (.str m) = true) : isStepD (.tuple [.str "need", .str m]) = true := stepD_of (ks := ["module"]) (by decide +kernel) (by
  show (true && (isItemD "module" (.str m) && true)) = true
  rw [it_m, h]; rfl)
theorem st_export {n x : Str} (h : isNameD (.str n) = true) (h2 : isVarD (.str x) = true) : isStepD (.tuple [.str "export", .str n, .str x]) = true := stepD_of (ks := ["name", "variable"]) (by decide +kernel) (by
  show (true && (isItemD "name" (.str n) && (isItemD "variable" (.str x) && true))) = true
  rw [it_n, it_v, h, h2]; rfl)
theorem st_read {x m n : Str} (h : isVarD (.str x) = true) (h1 : isNameD (.str m) = true) (h2 : isNameD (.str n) = true) : isStepD (.tuple [.str "read", .str x, .str m, .str n]) = true := stepD_of (ks := ["variable", "module", "name"]) (by decide +kernel) (by
  show (true && (isItemD "variable" (.str x) && (isItemD "module" (.str m) && (isItemD "name" (.str n) && true)))) = true
  rw [it_v, it_m, it_n, h, h1, h2]; rfl)
theorem st_try {m x : Str} (h : isNameD (.str m) = true) (h2 : isVarD (.str x) = true) : isStepD (.tuple [.str "try", .str m, .str x]) = true := stepD_of (ks := ["module", "variable"]) (by decide +kernel) (by
  show (true && (isItemD "module" (.str m) && (isItemD "variable" (.str x) && true))) = true
  rw [it_m, it_v, h, h2]; rfl)
theorem st_fail : isStepD (.tuple [.str "fail"]) = true := stepD_of (ks := []) (by decide +kernel) rfl
theorem gd_name {z : Str} {m k : Nat} (h : isNameD (.str z) = true) : Gd m k (.str z) := by
  simp only [isNameD, Bool.and_eq_true, decide_eq_true_eq, List.all_eq_true] at h
  refine Gd.str _ (by omega) fun c hc => ?_
  have h2 := h.2 c hc
  have a : ∀ c ∈ lett.cps.toList, c < 16 ^ 8 := by decide +kernel
  exact a c h2
theorem var_of {i c : Nat} (h : (Str.ofString "abcd").cps.toList[i]? = some c) : isVarD (.str ⟨#[c]⟩) = true ∧ ∀ m k, Gd m k (.str ⟨#[c]⟩) := by
  have e : (Str.ofString "abcd").cps.toList = [97, 98, 99, 100] := by decide +kernel
  rw [e] at h
  have hm := List.mem_of_getElem? h
  simp only [List.mem_cons, List.not_mem_nil, or_false] at hm
  rcases hm with e | e | e | e <;> (subst e; exact ⟨by decide +kernel, fun m k => Gd.str _ (by decide +kernel) (by decide +kernel)⟩)
def Names (K : PySem.W.Frag) (H : Hp) (a : Addr) : Prop := ∃ zs : List Str, SqL K H a (zs.map V.str) ∧ zs.length = 3 ∧ ∀ z ∈ zs, isNameD (.str z) = true
theorem Names.mono {K : PySem.W.Frag} {H H' : Hp} {a : Addr} (e : L2.Same H H') : Names K H a → Names K H' a := fun ⟨zs, h1, h2, h3⟩ => ⟨zs, L2.Same.seq e h1, h2, h3⟩
theorem u_choiceN {K : PySem.W.Frag} {w : World} {p a : Addr} {H : Hp} {Q : VK} {E : XK} (hp : H p = some (pot p)) (h : Names K H a) (k : ∀ z H', L2.Same H H' → isNameD (.str z) = true → Q (.str z) H') : sp_law_choice K w [.ref p, .ref a] H Q E := by
  obtain ⟨zs, h1, h2, h3⟩ := h
  refine u_choiceL hp h1 (by rw [List.length_map]; omega) (by rw [List.length_map]; omega) ?_
  intro i v H' he hv
  obtain ⟨z, rfl, hz⟩ := strs_at hv
  exact k z _ he (h3 z (List.mem_of_getElem? hz))
local macro_rules | `(tactic| walk_at "nm") => `(tactic| first | assumption | (refine' Names.mono ?e1 ?e2; (case e1 => assumption); (case e2 => walk_at "nm")) | fail)
set_option hygiene false in
local macro_rules | `(tactic| walk_at "inW") => `(tactic| intro z H2 he hz)
local macro_rules | `(tactic| walk_at "go1") => `(tactic| first | (((with_reducible refine' u_choiceN ?h1 ?h2 ?k1); (case h1 => walk_at "hp"); (case h2 => walk_at "nm"); walk_at "inW")) | fail)
def sp_law_step (K : PySem.W.Frag) (w : World) : Sp := fun vs H Q _ => ∃ p m n a, vs = [.ref p, .ref m, .ref n, .int a] ∧ H p = some (pot p) ∧ Names K H m ∧ Names K H n ∧ 0 < a ∧ a ≤ 1000 ∧ ∀ v d H', L2.Same H H' → Rp K H' v d → isStepD d = true → Gd 12 2 d → Q v H'
theorem u_step {K : PySem.W.Frag} {w : World} {p m n : Addr} {a : Int} {H : Hp} {Q : VK} {E : XK} (hp : H p = some (pot p)) (h1 : Names K H m) (h2 : Names K H n) (h3 : 0 < a) (h4 : a ≤ 1000) (k : ∀ v d H', L2.Same H H' → Rp K H' v d → isStepD d = true → Gd 12 2 d → Q v H') :
    sp_law_step K w [.ref p, .ref m, .ref n, .int a] H Q E := ⟨p, m, n, a, rfl, hp, h1, h2, h3, h4, k⟩
local macro_rules | `(tactic| walk_at "pv") => `(tactic| first | assumption | exact (var_of (by assumption)).1 | omega | fail)
local macro_rules | `(tactic| walk_at "gd") => `(tactic| first | exact (var_of (by assumption)).2 _ _ | exact gd_name (by assumption) | fail)
local macro_rules | `(tactic| walk_at "st") => `(tactic| first
  | exact st_fail
  | (refine st_set ?_; walk_at "pv")
  | (refine st_add ?_ ?_ <;> walk_at "pv")
  | (refine st_skip ?_ ?_ <;> walk_at "pv")
  | (refine st_need ?_ <;> walk_at "pv")
  | (refine st_export ?_ ?_ <;> walk_at "pv")
  | (refine st_try ?_ ?_ <;> walk_at "pv")
  | (refine st_read ?_ ?_ ?_ <;> walk_at "pv") | fail)
def t_law_step (T : Tx K w mg) : TS :=
  (tSeq (tPar3 4 5 6 (tCons (tCl (sp_law_draw K w) E0 (tCons (tVar 0) (tCons (tC (.int 8)) tNil))) (tCons (tCl (sp_law_choice K w) E0 (tCons (tVar 0) (tCons (tC (.str "abcd")) tNil))) (tCons (tCl (sp_law_choice K w) E0 (tCons (tVar 0) (tCons (tC (.str "abcd")) tNil))) tNil))))
    (tSeq (tPar 7 8 (tCons (tCl (sp_law_choice K w) E0 (tCons (tVar 0) (tCons (tVar 1) tNil))) (tCons (tCl (sp_law_choice K w) E0 (tCons (tVar 0) (tCons (tVar 2) tNil))) tNil)))
    (tSeq (tIfS (tAnd (tTest (tOp (zEq K) (tVar 4) (tC (.int 2)))) (tTest (tOp zGt (tVar 3) (tC (.int 0))))) (tRet (tTp (tCons (tC (.str "skip")) (tCons (tVar 5) (tCons (tOp (zAdd K) (tC (.int 1)) (tCl (sp_law_draw K w) E0 (tCons (tVar 0) (tCons (tVar 3) tNil)))) tNil))))) tNext)
    (tSeq (tAsg (tLs (tCons (tTp (tCons (tC (.str "set")) (tCons (tVar 5) (tCons (tCl (sp_law_integer K w) E0 (tCons (tVar 0) tNil)) tNil)))) (tCons (tTp (tCons (tC (.str "add")) (tCons (tVar 5) (tCons (tVar 6) tNil)))) (tCons (tTp (tCons (tC (.str "need")) (tCons (tVar 7) tNil))) (tCons (tTp (tCons (tC (.str "export")) (tCons (tVar 8) (tCons (tVar 5) tNil)))) tNil))))) (gName 9))
    (tRet (tOp (zIx K w) (tOp (zAdd K) (tVar 9) (tLs (tCons (tTp (tCons (tC (.str "read")) (tCons (tVar 5) (tCons (tVar 7) (tCons (tVar 8) tNil))))) (tCons (tTp (tCons (tC (.str "need")) (tCons (tVar 7) tNil))) (tCons (tTp (tCons (tC (.str "try")) (tCons (tVar 7) (tCons (tVar 5) tNil)))) (tCons (tTp (tCons (tC (.str "fail")) tNil)) tNil)))))) (tVar 4)))))))
theorem pr_law_step (T : Tx K w mg) (vs : List V) (H : Hp) (Q : VK) (E : XK) (h : sp_law_step K w vs H Q E) : t_law_step T (E4 Q) (start N_law_step vs) H := by
  obtain ⟨pp, m, n, a, rfl, hpp, hm, hn, ha0, ha1, k⟩ := h
  show t_law_step T (E4 Q) [some (.ref pp), some (.ref m), some (.ref n), some (.int a), none, none, none, none, none, none] _
  unfold t_law_step
  walk_at "go"
  · refine' k _ _ _ ?e1 ?e2 ?e3 ?e4
    (case e1 => walk_at "sm")
    (case e2 => walk_at "rp")
    (case e3 => walk_at "st")
    (case e4 => walk_at "gd")
  · have hm := List.mem_of_getElem? hv
    simp only [List.cons_append, List.nil_append, List.mem_cons, List.not_mem_nil, or_false] at hm
    rcases hm with e | e | e | e | e | e | e | e <;> (subst e; clear hv; (refine' k _ _ _ ?e1 ?e2 ?e3 ?e4); (case e1 => walk_at "sm"); (case e2 => walk_at "rp"); (case e3 => walk_at "st"); (case e4 => walk_at "gd"))
theorem ok_law_step (T : Tx K w mg) (hS : SysB base) : FnG P w K mg base CX0 4 T.f_law_step T.d_law_step ["_law_pot_here", "_law_modules", "_law_names_here", "_law_after"] (sp_law_step K w) := by
  refine okG T.F_law_step sc_law_step (fun vs H Q E h => ?_) (fun cdv A outer s H vs Q E hG hr h => ⟨t_law_step T, (pss_cons (ps_par3 (i := 4) (j := 5) (l := 6) rfl sc_law_step.nd rfl rfl rfl (by decide) (by decide) (by decide) rfl rfl rfl (pa_cons (pe_callG hG (ok_law_draw T hS) (hr.mono (by decide)) T.m_law_draw T.F_law_draw.kp T.b_law_draw pass0 (by exact (pa_cons (pv 0) (pa_cons pe_int pa_nil)))) (pa_cons (pe_callG hG (ok_law_choice T hS) (hr.mono (by decide)) T.m_law_choice T.F_law_choice.kp T.b_law_choice pass0 (by exact (pa_cons (pv 0) (pa_cons pe_str pa_nil)))) (pa_cons (pe_callG hG (ok_law_choice T hS) (hr.mono (by decide)) T.m_law_choice T.F_law_choice.kp T.b_law_choice pass0 (by exact (pa_cons (pv 0) (pa_cons pe_str pa_nil)))) pa_nil))) (by rfl))
    (pss_cons (ps_par (i := 7) (j := 8) rfl sc_law_step.nd rfl rfl (by decide) rfl rfl (pa_cons (pe_callG hG (ok_law_choice T hS) (hr.mono (by decide)) T.m_law_choice T.F_law_choice.kp T.b_law_choice pass0 (by exact (pa_cons (pv 0) (pa_cons (pv 1) pa_nil)))) (pa_cons (pe_callG hG (ok_law_choice T hS) (hr.mono (by decide)) T.m_law_choice T.F_law_choice.kp T.b_law_choice pass0 (by exact (pa_cons (pv 0) (pa_cons (pv 2) pa_nil)))) pa_nil)) (by rfl))
    (pss_cons (ps_if (PW.pt (pw_and (pt_cmpR (o_eq hS hr) (pv 4) pe_int (nomark _)) (pw_and1 (pt_cmpR o_gt (pv 3) pe_int (nomark _))))) (pss_one (ps_ret (pe_tp (pa_cons pe_str (pa_cons (pv 5) (pa_cons (pe_op o_add pe_int (pe_callG hG (ok_law_draw T hS) (hr.mono (by decide)) T.m_law_draw T.F_law_draw.kp T.b_law_draw pass0 (by exact (pa_cons (pv 0) (pa_cons (pv 3) pa_nil))))) pa_nil)))))) pss_nil)
    (pss_cons (ps_asg (pe_ls (pa_cons (pe_tp (pa_cons pe_str (pa_cons (pv 5) (pa_cons (pe_callG hG (ok_law_integer T hS) (hr.mono (by decide)) T.m_law_integer T.F_law_integer.kp T.b_law_integer pass0 (by exact (pa_cons (pv 0) pa_nil))) pa_nil)))) (pa_cons (pe_tp (pa_cons pe_str (pa_cons (pv 5) (pa_cons (pv 6) pa_nil)))) (pa_cons (pe_tp (pa_cons pe_str (pa_cons (pv 7) pa_nil))) (pa_cons (pe_tp (pa_cons pe_str (pa_cons (pv 8) (pa_cons (pv 5) pa_nil)))) pa_nil))))) (pg_name (i := 9) sc_law_step.nd rfl (Or.inl rfl)))
    (pss_one (ps_ret (pe_ix (o_ix hr) (pe_op o_add (pv 9) (pe_ls (pa_cons (pe_tp (pa_cons pe_str (pa_cons (pv 5) (pa_cons (pv 7) (pa_cons (pv 8) pa_nil))))) (pa_cons (pe_tp (pa_cons pe_str (pa_cons (pv 7) pa_nil))) (pa_cons (pe_tp (pa_cons pe_str (pa_cons (pv 7) (pa_cons (pv 5) pa_nil)))) (pa_cons (pe_tp (pa_cons pe_str pa_nil)) pa_nil)))))) (pv 4) (fun _ _ => rfl)))))))), pr_law_step T vs H Q E h⟩)
  obtain ⟨pp, m, n, a, rfl, _⟩ := h
  rfl
abbrev sp_law_is_whole (K : PySem.W.Frag) (w : World) : Sp := spB isIntD K
abbrev sp_law_is_word (K : PySem.W.Frag) (w : World) : Sp := spB isNameD K
def t_law_is_whole (T : Tx K w mg) : TS :=
  (tRet (tAndV (tCB (rIsi K) (tCons (tVar 0) (tCons (tC (.ty "int")) tNil))) (tNotV (tCB (rIsi K) (tCons (tVar 0) (tCons (tC (.ty "bool")) tNil))))))
theorem pr_law_is_whole (T : Tx K w mg) (vs : List V) (H : Hp) (Q : VK) (E : XK) (h : sp_law_is_whole K w vs H Q E) : t_law_is_whole T (E4 Q) (start N_law_is_whole vs) H := by
  obtain ⟨x, d, rfl, hd, gd, k⟩ := h
  show t_law_is_whole T (E4 Q) [some x] _
  unfold t_law_is_whole
  cases hd with
  | _ => walk_at "go"; exact closeB k (L2.Same.refl _) rfl
theorem ok_law_is_whole (T : Tx K w mg) (hS : SysB base) : FnG P w K mg base CX0 1 T.f_law_is_whole T.d_law_is_whole ["_law_value"] (sp_law_is_whole K w) := okG T.F_law_is_whole sc_law_is_whole lenB (fun cdv A outer s H vs Q E hG hr h => ⟨t_law_is_whole T, (pss_one (ps_ret (pe_and (pe_callB call_isi rfl T.n_isinstance bt_isinstance (pa_cons (pv 0) (pa_cons (pe_bltn (v := .ty "int") rfl T.n_int bt_int rfl) pa_nil))) (pe_one (pe_not (pe_callB call_isi rfl T.n_isinstance bt_isinstance (pa_cons (pv 0) (pa_cons (pe_bltn (v := .ty "bool") rfl T.n_bool bt_bool rfl) pa_nil)))))))), pr_law_is_whole T vs H Q E h⟩)
theorem flat_if {cs : List Nat} : (cs.flatMap fun c => if c ∈ lett.cps.toList then [V.str (one c)] else []) = (cs.filter fun c => decide (c ∈ lett.cps.toList)).map fun c => V.str (one c) := by
  induction cs with
  | nil => rfl
  | cons a r ih =>
    rw [List.flatMap_cons, ih]
    by_cases h : a ∈ lett.cps.toList
    · rw [if_pos h, List.filter_cons_of_pos (by simpa using h)]; rfl
    · rw [if_neg h, List.filter_cons_of_neg (by simpa using h)]; rfl
theorem word_eq {z : Str} (h1 : 1 ≤ (z.length : Int)) (h2 : (z.length : Int) ≤ 8) : isNameD (.str z) = decide ((⟨(z.cps.toList.filter fun c => decide (c ∈ lett.cps.toList)).toArray⟩ : Str) = z) := by
  simp only [isNameD]
  rw [decide_eq_true h1, decide_eq_true h2, Bool.true_and, Bool.true_and]
  have e : ((⟨(z.cps.toList.filter fun c => decide (c ∈ lett.cps.toList)).toArray⟩ : Str) = z) ↔ (z.cps.toList.all fun c => decide (c ∈ lett.cps.toList)) = true := by
    rw [List.all_eq_true, ← List.filter_eq_self]
    constructor
    · intro h
      have := congrArg (fun z : Str => z.cps.toList) h
      exact this
    · intro h
      exact Str.ext' (by rw [h])
  by_cases h : (z.cps.toList.all fun c => decide (c ∈ lett.cps.toList)) = true
  · rw [h]; exact (decide_eq_true (e.mpr h)).symm
  · rw [Bool.eq_false_iff.mpr h]; exact (decide_eq_false fun q => h (e.mp q)).symm
theorem str0 {z : Str} (h : z ≠ "") : 1 ≤ (z.length : Int) := by
  refine Classical.byContradiction fun hn => h ?_
  have e : z.cps.size = 0 := by have : (z.length : Int) = (z.cps.size : Int) := rfl; omega
  exact Str.ext' (Array.eq_empty_of_size_eq_zero e)
def t_law_is_word (T : Tx K w mg) : TS :=
  (tSeq (tIfS (tOr (tNot (tB (tCB (rIsi K) (tCons (tVar 0) (tCons (tC (.ty "str")) tNil))))) (tOr (tTest (tOp zGt (tCB (zLen K) (tCons (tVar 0) tNil)) (tC (.int 8)))) (tTest (tOp (zEq K) (tVar 0) (tC (.str "")))))) (tRet (tC (.bl false))) tNext)
    (tRet (tOp (zEq K) (tM1 (zJoin K) (tC (.str "")) (tLc (iStr (tMo (tVar 0))) (gName 1) (tFrT (tTest (tOp (zIn K w false) (tVar 1) (tC (.str "abcdefghijklmnopqrstuvwxyz"))))) (tFr (tVar 1)) [1])) (tVar 0))))
theorem pr_law_is_word (T : Tx K w mg) (vs : List V) (H : Hp) (Q : VK) (E : XK) (h : sp_law_is_word K w vs H Q E) : t_law_is_word T (E4 Q) (start N_law_is_word vs) H := by
  obtain ⟨x, d, rfl, hd, gd, k⟩ := h
  show t_law_is_word T (E4 Q) [some x, none] _
  unfold t_law_is_word
  cases hd with
  | str z =>
    cases gd
    rename_i hz hc
    walk_at "go"
    · exact closeB k (L2.Same.refl _) (by simp only [isNameD]; rw [decide_eq_false (show ¬ (z.length : Int) ≤ 8 by omega), Bool.and_false, Bool.false_and])
    · exact closeB k (L2.Same.refl _) (by rw [show z = "" from hif]; rfl)
    · rename_i h1
      have h0 := str0 hif
      refine ⟨z, fun c => if c ∈ lett.cps.toList then [V.str (one c)] else [], rfl, by omega, ?_, ?_⟩
      · intro i c acc G hi he
        intro R hR
        show tTest _ [some (V.str z), some (V.str ⟨#[c]⟩)] _ _
        walk_at "go"
        refine hR _ _ ?_
        by_cases hc2 : c ∈ lett.cps.toList
        · refine if_pos (decide_eq_true hc2) |>.mpr ?_
          intro R2 hR2
          show tVar 1 [some (V.str z), some (V.str ⟨#[c]⟩)] _ _
          walk_at "go"
          refine hR2 _ _ ⟨L2.Same.refl _, ?_⟩
          show _ = acc ++ (if c ∈ lett.cps.toList then [V.str (one c)] else [])
          rw [if_pos hc2]; rfl
        · refine if_neg (fun e => hc2 (of_decide_eq_true e)) |>.mpr ⟨L2.Same.refl _, ?_⟩
          show _ = acc ++ (if c ∈ lett.cps.toList then [V.str (one c)] else [])
          rw [if_neg hc2, List.append_nil]
      · intro D H' he hD _
        walk_at "go"
        rw [flat_if] at hD
        refine kJoin1 (SqL.of hD) (by have := List.length_filter_le (fun c => decide (c ∈ lett.cps.toList)) z.cps.toList; have e2 : z.cps.toList.length = z.length := by simp [Str.length]
                                      omega) ?_
        walk_at "go"
        exact closeB k he (word_eq h0 (by omega))
  | _ => walk_at "go"; exact closeB k (L2.Same.refl _) rfl
theorem ok_law_is_word (T : Tx K w mg) (hS : SysB base) : FnG P w K mg base CX0 1 T.f_law_is_word T.d_law_is_word ["_law_value"] (sp_law_is_word K w) := okG T.F_law_is_word sc_law_is_word lenB (fun cdv A outer s H vs Q E hG hr h => ⟨t_law_is_word T, (pss_cons (ps_if (PW.pt (pw_or (pt_not (pt_val (pe_callB call_isi rfl T.n_isinstance bt_isinstance (pa_cons (pv 0) (pa_cons (pe_bltn (v := .ty "str") rfl T.n_str bt_str rfl) pa_nil))))) (pw_or (pt_cmpR o_gt (pe_callB o_len rfl T.n_len bt_len (pa_cons (pv 0) pa_nil)) pe_int (nomark _)) (pw_or1 (pt_cmpR (o_eq hS hr) (pv 0) pe_str (nomark _)))))) (pss_one (ps_ret pe_bl)) pss_nil)
    (pss_one (ps_ret (pe_cmpR (o_eq hS hr) (pe_joinZ pe_str (pe_lc (own := [("_law_letter", 1)]) (g := (gName 1)) rfl sc_law_is_word.nd (pi_str (pe_mo (pv 0))) (blkOk_by (own := [("_law_letter", 1)]) (N := N_law_is_word) (sc := defScope s_law_is_word) (by decide +kernel)) (fun _ _ _ _ _ => pg_name (i := 1) sc_law_is_word.nd rfl (Or.inl rfl)) (fun _ _ _ _ _ => pts_fr (pts_one (pt_cmpR (o_in hr) (pv 1) pe_str (by rfl))))
      (fun _ _ _ _ _ => pe_fr (pv 1)))) (pv 0) (nomark _))))), pr_law_is_word T vs H Q E h⟩)
def fitD (z : Str) (d : PyData) : Bool := if z = "v" then isVarD d else if z = "i" then isIntD d else if z = "k" then isAmountD d else isNameD d
def sp_law_fits (K : PySem.W.Frag) (w : World) : Sp := fun vs H Q _ => ∃ z x d, vs = [.str z, x] ∧ Rp K H x d ∧ Gd 12 3 d ∧ ∀ H', L2.Same H H' → Q (.bl (fitD z d)) H'
def t_law_fits (T : Tx K w mg) : TS :=
  (tSeq (tIfS (tTest (tOp (zEq K) (tVar 0) (tC (.str "v")))) (tRet (tAndV (tCB (rIsi K) (tCons (tVar 1) (tCons (tC (.ty "str")) tNil))) (tOp (zIn K w false) (tVar 1) (tTp (tCons (tC (.str "a")) (tCons (tC (.str "b")) (tCons (tC (.str "c")) (tCons (tC (.str "d")) tNil)))))))) tNext)
    (tSeq (tIfS (tTest (tOp (zEq K) (tVar 0) (tC (.str "i")))) (tRet (tCl (sp_law_is_whole K w) E0 (tCons (tVar 1) tNil))) tNext)
    (tSeq (tIfS (tTest (tOp (zEq K) (tVar 0) (tC (.str "k")))) (tRet (tAndV (tCl (sp_law_is_whole K w) E0 (tCons (tVar 1) tNil)) (tOp zGt (tVar 1) (tC (.int 0))))) tNext)
    (tRet (tCl (sp_law_is_word K w) E0 (tCons (tVar 1) tNil))))))
theorem isStr_no {H : Hp} {x : V} {d : PyData} (hd : Rp K H x d) : (∃ z, x = .str z ∧ d = .str z) ∨ isVarD d = false := by
  cases hd with
  | str z => exact .inl ⟨z, rfl, rfl⟩
  | _ => exact .inr rfl
theorem am_gt {d : PyData} {i : Int} : isAmountD (.int i) = decide (0 < i) := by
  show decide (1 ≤ i) = decide (0 < i)
  by_cases h : 0 < i
  · rw [decide_eq_true h, decide_eq_true (by omega)]
  · rw [decide_eq_false h, decide_eq_false (by omega)]
theorem pr_law_fits (T : Tx K w mg) (vs : List V) (H : Hp) (Q : VK) (E : XK) (h : sp_law_fits K w vs H Q E) : t_law_fits T (E4 Q) (start N_law_fits vs) H := by
  obtain ⟨z, x, d, rfl, hd, gd, k⟩ := h
  show t_law_fits T (E4 Q) [some (.str z), some x] _
  unfold t_law_fits
  unfold fitD at k
  walk_at "go"
  · rw [if_pos hif] at k
    cases hd with
    | str z2 =>
      walk_at "go"
      refine kIn_T (SqT.of hp) rfl rfl ?_
      exact k _ (by walk_at "sm")
    | _ => walk_at "go"; exact k _ (by walk_at "sm")
  · rename_i h1
    rw [if_neg h1, if_pos hif] at k
    exact k _ (by walk_at "sm")
  · rename_i h1 h2 h3
    rw [if_neg h1, if_neg h2, if_pos h3] at k
    obtain ⟨i, rfl, rfl⟩ := isInt_of hif hd
    walk_at "go"
    rw [am_gt (d := .none)] at k
    exact k _ (by walk_at "sm")
  · rename_i h1 h2 h3
    rw [if_neg h1, if_neg h2, if_pos h3] at k
    have e : isAmountD d = false := by
      cases d with
      | int i => cases hif
      | _ => rfl
    rw [e] at k
    exact k _ (by walk_at "sm")
  · rename_i h1 h2
    rw [if_neg h1, if_neg h2, if_neg hif] at k
    exact k _ (by walk_at "sm")
theorem ok_law_fits (T : Tx K w mg) (hS : SysB base) : FnG P w K mg base CX0 2 T.f_law_fits T.d_law_fits ["_law_sort", "_law_value"] (sp_law_fits K w) := by
  refine okG T.F_law_fits sc_law_fits (fun vs H Q E h => ?_) (fun cdv A outer s H vs Q E hG hr h => ⟨t_law_fits T, (pss_cons (ps_if (pt_cmpR (o_eq hS hr) (pv 0) pe_str (nomark _)) (pss_one (ps_ret (pe_and (pe_callB call_isi rfl T.n_isinstance bt_isinstance (pa_cons (pv 1) (pa_cons (pe_bltn (v := .ty "str") rfl T.n_str bt_str rfl) pa_nil))) (pe_one (pe_cmpR (o_in hr) (pv 1) (pe_tp (pa_cons pe_str (pa_cons pe_str (pa_cons pe_str (pa_cons pe_str pa_nil))))) (by rfl)))))) pss_nil)
    (pss_cons (ps_if (pt_cmpR (o_eq hS hr) (pv 0) pe_str (nomark _)) (pss_one (ps_ret (pe_callG hG (ok_law_is_whole T hS) (hr.mono (by decide)) T.m_law_is_whole T.F_law_is_whole.kp T.b_law_is_whole pass0 (by exact (pa_cons (pv 1) pa_nil))))) pss_nil)
    (pss_cons (ps_if (pt_cmpR (o_eq hS hr) (pv 0) pe_str (nomark _)) (pss_one (ps_ret (pe_and (pe_callG hG (ok_law_is_whole T hS) (hr.mono (by decide)) T.m_law_is_whole T.F_law_is_whole.kp T.b_law_is_whole pass0 (by exact (pa_cons (pv 1) pa_nil))) (pe_one (pe_cmpR o_gt (pv 1) pe_int (nomark _)))))) pss_nil)
    (pss_one (ps_ret (pe_callG hG (ok_law_is_word T hS) (hr.mono (by decide)) T.m_law_is_word T.F_law_is_word.kp T.b_law_is_word pass0 (by exact (pa_cons (pv 1) pa_nil)))))))), pr_law_fits T vs H Q E h⟩)
  obtain ⟨z, x, d, rfl, _⟩ := h
  rfl
theorem none_of {H H' : Hp} {p : Addr} (e : L2.Same H H') (h : H' p = none) : H p = none := by
  cases q : H p with
  | none => rfl
  | some o => rw [e p o q] at h; cases h
def sp_law_odd (K : PySem.W.Frag) (w : World) : Sp := fun vs H Q _ => ∃ p, vs = [.ref p] ∧ H p = some (pot p) ∧ ∀ v d H', L2.Same H H' → Rp K H' v d → Gd 12 1 d → Q v H'
theorem u_odd {K : PySem.W.Frag} {w : World} {p : Addr} {H : Hp} {Q : VK} {E : XK} (hp : H p = some (pot p)) (k : ∀ v d H', L2.Same H H' → Rp K H' v d → Gd 12 1 d → Q v H') : sp_law_odd K w [.ref p] H Q E := ⟨p, rfl, hp, k⟩
set_option hygiene false in
local macro_rules | `(tactic| walk_at "inO") => `(tactic| intro v d H2 he hv gd)
local macro_rules | `(tactic| walk_at "go1") => `(tactic| first | (((with_reducible refine' u_odd ?h1 ?k1); (case h1 => walk_at "hp"); walk_at "inO")) | fail)
def t_law_odd (T : Tx K w mg) : TS :=
  (tSeq (tAsg (tLs (tCons (tC .non) (tCons (tC (.int 0)) (tCons (tC (.int 1)) (tCons (tUn zNeg (tC (.int 1))) (tCons (tC (.bl true)) (tCons (tC (.bl false)) (tCons (tC (.str "")) (tCons (tC (.str "a")) (tCons (tC (.str "A")) (tCons (tC (.str "aB")) (tCons (tC (.str "ninechars")) (tCons (tC (.str "abcdefgh")) (tCons (tC (.str "abcdefghi")) (tCons (tC (.str "a b")) (tCons (tC (.str "z1")) (tCons (tTp tNil) tNil))))))))))))))))) (gName 1))
    (tSeq (tAsg (tOp (zAdd K) (tVar 1) (tLs (tCons (tLs tNil) (tCons tDNewK tNil)))) (gName 1))
    (tRet (tCl (sp_law_choice K w) E0 (tCons (tVar 0) (tCons (tOp (zAdd K) (tVar 1) (tLs (tCons (tTp (tCons (tC (.str "a")) tNil)) (tCons (tLs (tCons (tC (.str "a")) tNil)) (tCons (tDispC [("a", (.int 1))]) (tCons (tOp zPow (tC (.int 10)) (tC (.int 29))) (tCons (tOp zSub (tC (.int 0)) (tOp zPow (tC (.int 10)) (tC (.int 29)))) (tCons (tC (.str "ab")) (tCons (tC (.str "e")) (tCons (tC (.str "set")) (tCons (tTp (tCons (tC (.str "fail")) tNil)) (tCons (tC (.str "-")) tNil)))))))))))) tNil))))))
theorem pr_law_odd (T : Tx K w mg) (vs : List V) (H : Hp) (Q : VK) (E : XK) (h : sp_law_odd K w vs H Q E) : t_law_odd T (E4 Q) (start N_law_odd vs) H := by
  obtain ⟨pp, rfl, hpp, k⟩ := h
  show t_law_odd T (E4 Q) [some (.ref pp), none] _
  unfold t_law_odd
  walk_at "go"
  have e29 : (10 : Int) ^ Int.toNat 29 = 100000000000000000000000000000 := by decide +kernel
  have hm := List.mem_of_getElem? hv
  simp only [List.cons_append, List.nil_append, List.mem_cons, List.not_mem_nil, or_false] at hm
  rcases hm with e | e | e | e | e | e | e | e | e | e | e | e | e | e | e | e | e | e | e | e | e | e | e | e | e | e | e | e
  all_goals (subst e; clear hv; (refine' k _ _ _ ?e1 ?e2 ?e3); (case e1 => walk_at "sm"); (case e2 => walk_at "rp"); (case e3 => walk_at "gd"))
theorem ok_law_odd (T : Tx K w mg) (hS : SysB base) : FnG P w K mg base CX0 3 T.f_law_odd T.d_law_odd ["_law_pot_here"] (sp_law_odd K w) := by
  refine okG T.F_law_odd sc_law_odd (fun vs H Q E h => ?_) (fun cdv A outer s H vs Q E hG hr h => ⟨t_law_odd T, (pss_cons (ps_asg (pe_ls (pa_cons pe_non (pa_cons pe_int (pa_cons pe_int (pa_cons (pe_un o_neg pe_int) (pa_cons pe_bl (pa_cons pe_bl (pa_cons pe_str (pa_cons pe_str (pa_cons pe_str (pa_cons pe_str (pa_cons pe_str (pa_cons pe_str (pa_cons pe_str (pa_cons pe_str (pa_cons pe_str (pa_cons (pe_tp pa_nil) pa_nil))))))))))))))))) (pg_name (i := 1) sc_law_odd.nd rfl (Or.inl rfl)))
    (pss_cons (ps_asg (pe_op o_add (pv 1) (pe_ls (pa_cons (pe_ls pa_nil) (pa_cons pe_dnewK pa_nil)))) (pg_name (i := 1) sc_law_odd.nd rfl (Or.inl rfl)))
    (pss_one (ps_ret (pe_callG hG (ok_law_choice T hS) (hr.mono (by decide)) T.m_law_choice T.F_law_choice.kp T.b_law_choice pass0 (by exact (pa_cons (pv 0) (pa_cons (pe_op o_add (pv 1) (pe_ls (pa_cons (pe_tp (pa_cons pe_str pa_nil)) (pa_cons (pe_ls (pa_cons pe_str pa_nil)) (pa_cons (pe_disp (pps_cons pe_str pe_int pps_nil) (by rfl) (by rfl) (fun z => by cases z) (by decide)) (pa_cons (pe_op o_pow pe_int pe_int) (pa_cons (pe_op o_sub pe_int (pe_op o_pow pe_int pe_int)) (pa_cons pe_str (pa_cons pe_str (pa_cons pe_str (pa_cons (pe_tp (pa_cons pe_str pa_nil)) (pa_cons pe_str pa_nil)))))))))))) pa_nil)))))))), pr_law_odd T vs H Q E h⟩)
  obtain ⟨pp, rfl, _⟩ := h
  rfl
theorem same_del {H H2 : Hp} {f : Addr} (hf : H f = none) (e : L2.Same H H2) : L2.Same H (del H2 f) := by
  intro b u hb
  by_cases q : b = f
  · rw [q] at hb; rw [hf] at hb; cases hb
  · rw [del_ne q]; exact e b u hb
theorem fr_at {te : TE} {σ : L2.St} {H H2 : Hp} {Q : VK} {f : Addr} {xs : List V} (hf : H f = none) (e : L2.Same H H2) (h : H2 f = some (.lst xs)) (k : ∀ G, L2.Same H G → G f = none → te σ G fun v H' => H' f = none → Q v (upd H' f (.lst xs))) : tFr te σ H2 Q :=
  ⟨f, _, h, trivial, k _ (same_del hf e) del_same⟩
theorem step_len {ds : List PyData} (h : isStepD (.tuple ds) = true) : ds.length ≤ 4 := by
  cases ds with
  | nil => decide
  | cons a r =>
    cases a with
    | str z =>
      simp only [isStepD] at h
      cases hf : formOf z with
      | none => rw [hf] at h; cases h
      | some ks =>
        rw [hf] at h
        simp only [Bool.and_eq_true, decide_eq_true_eq] at h
        have := form_le hf
        simp only [List.length_cons]; omega
    | _ => cases h
theorem upd_dl {H : Hp} {p : Addr} {o : HO} : upd H p o = upd (del H p) p o := by
  funext b
  by_cases q : b = p
  · rw [q, upd_same, upd_same]
  · rw [upd_ne q, upd_ne q, del_ne q]
theorem fin_t {K : PySem.W.Frag} {H H2 H3 : Hp} {Q : VK} {p q : Addr} {ys : List V} {es : List PyData} (k : ∀ v d H', L2.Same H H' → Rp K H' v d → Gd 12 3 d → Q v H') (hp : H p = none) (hs : L2.Same H H2) (ha : RpAll K (del H2 p) ys es) (gs : GdA 12 2 es) (hl : ys.length ≤ 12)
    (he : L2.Same (upd H2 p (.lst ys)) H3) (hq : H3 q = some (.tup ys)) : Q (.ref q) H3 := by
  have e0 : L2.Same (del H2 p) (upd H2 p (.lst ys)) := by rw [upd_dl]; exact Same.new del_same
  exact k _ (.tuple es) _ (((same_del hp hs).trans e0).trans he) (Rp.tup (SqT.of hq) (ha.mono (e0.trans he))) (.tuple gs (by have := ha.len; omega))
theorem gA_set {m k : Nat} {ds : List PyData} {d : PyData} (h : GdA m k ds) (g : Gd m k d) (i : Nat) : GdA m k (ds.set i d) := fun x hx => by
  rcases List.mem_or_eq_of_mem_set hx with e | e
  · exact h x e
  · rw [e]; exact g
theorem gA_take {m k : Nat} {ds : List PyData} (h : GdA m k ds) (i : Nat) : GdA m k (ds.take i) := fun x hx => h x (List.mem_of_mem_take hx)
theorem gA_drop {m k : Nat} {ds : List PyData} (h : GdA m k ds) (i : Nat) : GdA m k (ds.drop i) := fun x hx => h x (List.mem_of_mem_drop hx)
theorem gA_erase {m k : Nat} {ds : List PyData} (h : GdA m k ds) (i : Nat) : GdA m k (ds.eraseIdx i) := fun x hx => h x (List.mem_of_mem_eraseIdx hx)
theorem kinds_of {i : Nat} {v : V} (hv : [V.str "set", V.str "add", V.str "skip", V.str "export", V.str "read", V.str "need", V.str "try", V.str "fail"][i]? = some v) : ∃ z, v = .str z ∧ Gd 12 2 (.str z) := by
  have h := List.mem_of_getElem? hv
  simp only [List.mem_cons, List.not_mem_nil, or_false] at h
  rcases h with e | e | e | e | e | e | e | e <;> exact ⟨_, e, Gd.str _ (by decide +kernel) (by decide +kernel)⟩
theorem step_list {K : PySem.W.Frag} {H : Hp} {x : V} {d : PyData} (h : isStepD d = true) (g : Gd 12 2 d) (hd : Rp K H x d) : ∃ a xs ds, x = .ref a ∧ d = .tuple ds ∧ SqT K H a xs ∧ RpAll K H xs ds ∧ 1 ≤ xs.length ∧ xs.length ≤ 11 ∧ GdA 12 2 ds := by
  cases hd with
  | tup hq ha =>
    cases g with
    | tuple g1 g2 =>
      have hl := ha.len
      refine ⟨_, _, _, rfl, rfl, hq, ha, ?_, ?_, fun d hd => (g1 d hd).up (by omega)⟩
      · cases ha with
        | nil => cases h
        | cons h1 hr => simp only [List.length_cons]; omega
      · have := step_len h
        omega
  | _ => cases h
def sp_law_changed (K : PySem.W.Frag) (w : World) : Sp := fun vs H Q _ => ∃ p x d, vs = [.ref p, x] ∧ H p = some (pot p) ∧ Rp K H x d ∧ isStepD d = true ∧ Gd 12 2 d ∧ ∀ v d H', L2.Same H H' → Rp K H' v d → Gd 12 3 d → Q v H'
theorem u_changed {K : PySem.W.Frag} {w : World} {p : Addr} {x : V} {d : PyData} {H : Hp} {Q : VK} {E : XK} (hp : H p = some (pot p)) (h1 : Rp K H x d) (h2 : isStepD d = true) (h3 : Gd 12 2 d) (k : ∀ v d H', L2.Same H H' → Rp K H' v d → Gd 12 3 d → Q v H') : sp_law_changed K w [.ref p, x] H Q E := ⟨p, x, d, rfl, hp, h1, h2, h3, k⟩
local macro_rules | `(tactic| walk_at "nn") => `(tactic| first | assumption | (refine' none_of ?e1 ?e2; (case e2 => assumption); (case e1 => walk_at "sm")) | fail)
def t_law_changed (T : Tx K w mg) : TS :=
  (tSeq (tPar 2 3 (tCons (tCl (sp_law_draw K w) E0 (tCons (tVar 0) (tCons (tC (.int 6)) tNil))) (tCons (tCB (zList K) (tCons (tVar 1) tNil)) tNil)))
    (tSeq (tAsg (tCl (sp_law_draw K w) E0 (tCons (tVar 0) (tCons (tCB (zLen K) (tCons (tVar 3) tNil)) tNil))) (gName 4))
    (tSeq (tIfS (tTest (tOp zLt (tVar 2) (tC (.int 2)))) (tAsg (tFr (tCl (sp_law_odd K w) E0 (tCons (tVar 0) tNil))) (gSub (tVar 3) (tVar 4) rSetL)) tNext)
    (tSeq (tIfS (tTest (tOp (zEq K) (tVar 2) (tC (.int 2)))) (tDrop (tBM K "list" zInsert (tVar 3) (tCons (tVar 4) (tCons (tFr (tCl (sp_law_odd K w) E0 (tCons (tVar 0) tNil))) tNil)))) tNext)
    (tSeq (tIfS (tTest (tOp (zEq K) (tVar 2) (tC (.int 3)))) (tDrop (tBM K "list" rPopAt (tVar 3) (tCons (tVar 4) tNil))) tNext)
    (tSeq (tIfS (tTest (tOp (zEq K) (tVar 2) (tC (.int 4)))) (tAsg (tCl (sp_law_choice K w) E0 (tCons (tVar 0) (tCons (tLs (tCons (tC (.str "set")) (tCons (tC (.str "add")) (tCons (tC (.str "skip")) (tCons (tC (.str "export")) (tCons (tC (.str "read")) (tCons (tC (.str "need")) (tCons (tC (.str "try")) (tCons (tC (.str "fail")) tNil))))))))) tNil))) (gSub (tVar 3) (tC (.int 0)) rSetL)) tNext)
    (tRet (tIf (tTest (tOp (zEq K) (tVar 2) (tC (.int 5)))) (tVar 3) (tCB (zTuple K) (tCons (tVar 3) tNil))))))))))
theorem pr_law_changed (T : Tx K w mg) (vs : List V) (H : Hp) (Q : VK) (E : XK) (h : sp_law_changed K w vs H Q E) : t_law_changed T (E4 Q) (start N_law_changed vs) H := by
  obtain ⟨pp, x, d, rfl, hpp, hd, hst, gd, k⟩ := h
  obtain ⟨sa, xs, ds, rfl, rfl, hq, ha, l1, l2, gs⟩ := step_list hst gd hd
  show t_law_changed T (E4 Q) [some (.ref pp), some (.ref sa), none, none, none] _
  unfold t_law_changed
  walk_at "go"
  · have hHp : H p = none := none_of (by walk_at "sm") hn
    refine fr_at hHp (by walk_at "sm") (by walk_at "hp") ?_
    intro G hG hGp
    walk_at "go"
    have oe := he
    have ogd := gd
    have orp := hv
    have q1 := ha.mono (same_del hHp (hG.trans oe))
    intro hnone
    have q2 := orp.mono (same_del hnone (L2.Same.refl _))
    walk_at "go"
    rw [upd_upd] at he
    exact fin_t k hHp (hG.trans oe) (q1.set q2 _) (gA_set gs (ogd.up (by decide)) _) (by rw [List.length_set]; omega) he hp
  · have hHp : H p = none := none_of (by walk_at "sm") hn
    refine fr_at hHp (by walk_at "sm") (by walk_at "hp") ?_
    intro G hG hGp
    walk_at "go"
    have oe := he
    have ogd := gd
    have orp := hv
    have q1 := ha.mono (same_del hHp (hG.trans oe))
    intro hnone
    have q2 := orp.mono (same_del hnone (L2.Same.refl _))
    walk_at "go"
    refine kInsert upd_same (by omega) (by omega) (by omega) ?_
    walk_at "go"
    rw [upd_upd] at he
    refine fin_t k hHp (hG.trans oe) (((q1.take _).app (.cons q2 .nil)).app (q1.drop _)) (gA_app (gA_app (gA_take gs _) (gA_cons (ogd.up (by decide)) gA_nil)) (gA_drop gs _)) ?_ he hp
    simp only [List.length_append, List.length_take, List.length_drop, List.length_cons, List.length_nil]
    omega
  · have hHp : H p = none := none_of (by walk_at "sm") hn
    refine' kPopAt ?h1 ?h2 ?h3 ?h4 ?k1
    (case h1 => walk_at "hp")
    (case h2 => omega)
    (case h3 => omega)
    (case h4 => omega)
    have e0 : L2.Same H H2 := by walk_at "sm"
    have q1 := ha.mono (same_del hHp e0)
    intro y hy
    walk_at "go"
    refine fin_t k hHp e0 (q1.erase _) (gA_erase gs _) ?_ he hp
    exact Nat.le_trans (List.length_eraseIdx_le _ _) (by omega)
  · obtain ⟨z, rfl, gz⟩ := kinds_of hv
    refine fin_t k ?_ ?_ (ys := xs.set 0 (.str z)) (es := ds.set 0 (.str z)) ?_ (gA_set gs gz _) (by rw [List.length_set]; omega) he hp
    · walk_at "nn"
    · walk_at "sm"
    · refine RpAll.set (.str z) _ (ha.mono (same_del (by walk_at "nn") (by walk_at "sm")))
  · exact k _ _ _ (by walk_at "sm") (Rp.lst (by walk_at "sq") (by walk_at "rps")) (.list gs (by have := ha.len; omega))
theorem ok_law_changed (T : Tx K w mg) (hS : SysB base) : FnG P w K mg base CX0 4 T.f_law_changed T.d_law_changed ["_law_pot_here", "_law_step_here"] (sp_law_changed K w) := by
  refine okG T.F_law_changed sc_law_changed (fun vs H Q E h => ?_) (fun cdv A outer s H vs Q E hG hr h => ⟨t_law_changed T, (pss_cons (ps_par (i := 2) (j := 3) rfl sc_law_changed.nd rfl rfl (by decide) rfl rfl (pa_cons (pe_callG hG (ok_law_draw T hS) (hr.mono (by decide)) T.m_law_draw T.F_law_draw.kp T.b_law_draw pass0 (by exact (pa_cons (pv 0) (pa_cons pe_int pa_nil)))) (pa_cons (pe_callTy o_list rfl T.n_list bt_list (pa_cons (pv 1) pa_nil)) pa_nil)) (by rfl))
    (pss_cons (ps_asg (pe_callG hG (ok_law_draw T hS) (hr.mono (by decide)) T.m_law_draw T.F_law_draw.kp T.b_law_draw pass0 (by exact (pa_cons (pv 0) (pa_cons (pe_callB o_len rfl T.n_len bt_len (pa_cons (pv 3) pa_nil)) pa_nil)))) (pg_name (i := 4) sc_law_changed.nd rfl (Or.inl rfl)))
    (pss_cons (ps_if (pt_cmpR o_lt (pv 2) pe_int (nomark _)) (pss_one (ps_asg (pe_fr (pe_callG hG (ok_law_odd T hS) (hr.mono (by decide)) T.m_law_odd T.F_law_odd.kp T.b_law_odd pass0 (by exact (pa_cons (pv 0) pa_nil)))) (pg_sub (pv 3) (pv 4) set_list (fun _ => rfl)))) pss_nil)
    (pss_cons (ps_if (pt_cmpR (o_eq hS hr) (pv 2) pe_int (nomark _)) (pss_one (ps_expr (pe_bm PySem.F.plainAttrs_list PySem.F.slot_list_insert PySem.F.type_list_insert m_insert (pv 3) (pa_cons (pv 4) (pa_cons (pe_fr (pe_callG hG (ok_law_odd T hS) (hr.mono (by decide)) T.m_law_odd T.F_law_odd.kp T.b_law_odd pass0 (by exact (pa_cons (pv 0) pa_nil)))) pa_nil))))) pss_nil)
    (pss_cons (ps_if (pt_cmpR (o_eq hS hr) (pv 2) pe_int (nomark _)) (pss_one (ps_expr (pe_bm PySem.F.plainAttrs_list PySem.F.slot_list_pop PySem.F.type_list_pop m_popAt (pv 3) (pa_cons (pv 4) pa_nil)))) pss_nil)
    (pss_cons (ps_if (pt_cmpR (o_eq hS hr) (pv 2) pe_int (nomark _)) (pss_one (ps_asg (pe_callG hG (ok_law_choice T hS) (hr.mono (by decide)) T.m_law_choice T.F_law_choice.kp T.b_law_choice pass0 (by exact (pa_cons (pv 0) (pa_cons (pe_ls (pa_cons pe_str (pa_cons pe_str (pa_cons pe_str (pa_cons pe_str (pa_cons pe_str (pa_cons pe_str (pa_cons pe_str (pa_cons pe_str pa_nil))))))))) pa_nil)))) (pg_sub (pv 3) pe_int set_list (fun _ => rfl)))) pss_nil)
    (pss_one (ps_ret (pe_ifExp (pt_cmpR (o_eq hS hr) (pv 2) pe_int (nomark _)) (pv 3) (pe_callTy o_tuple rfl T.n_tuple bt_tuple (pa_cons (pv 3) pa_nil))))))))))), pr_law_changed T vs H Q E h⟩)
  obtain ⟨pp, x, d, rfl, _⟩ := h
  rfl
/-! ### the law's own judge of steps -/
abbrev sp_law_is_right_step (K : PySem.W.Frag) (w : World) : Sp := spB isStepD K
theorem u_fits {K : PySem.W.Frag} {w : World} {z : Str} {x : V} {d : PyData} {H : Hp} {Q : VK} {E : XK} (h : Rp K H x d) (g : Gd 12 3 d) (k : ∀ H', L2.Same H H' → Q (.bl (fitD z d)) H') : sp_law_fits K w [.str z, x] H Q E := ⟨z, x, d, rfl, h, g, k⟩
def sortsK : List (Key × V) := [(.inr "set", .str "vi"), (.inr "add", .str "vv"), (.inr "skip", .str "vk"), (.inr "export", .str "nv"), (.inr "read", .str "vnn"), (.inr "need", .str "n"), (.inr "try", .str "nv"), (.inr "fail", .str "")]
theorem put_is : putK (mergeK [] (keyed [(Str.ofString "set", V.str (Str.ofString "vi")), (Str.ofString "add", V.str (Str.ofString "vv")), (Str.ofString "skip", V.str (Str.ofString "vk")), (Str.ofString "export", V.str (Str.ofString "nv")), (Str.ofString "read", V.str (Str.ofString "vnn")), (Str.ofString "need", V.str (Str.ofString "n")), (Str.ofString "try", V.str (Str.ofString "nv"))])) (Sum.inr (Str.ofString "fail")) (V.str (Str.ofString "")) = sortsK := by decide +kernel
def kindOf (c : Nat) : Str := if one c = "v" then "variable" else if one c = "i" then "integer" else if one c = "k" then "amount" else "name"
def nk (k : Str) : Str := if k = "module" then "name" else k
theorem nk_item (k : Str) (d : PyData) : isItemD (nk k) d = isItemD k d := by
  unfold nk
  by_cases h : k = "module"
  · rw [if_pos h, h, it_m, it_n]
  · rw [if_neg h]
theorem fit_item (c : Nat) (d : PyData) : fitD (one c) d = isItemD (kindOf c) d := by
  unfold fitD kindOf
  by_cases h1 : one c = "v"
  · rw [if_pos h1, if_pos h1, it_v]
  · rw [if_neg h1, if_neg h1]
    by_cases h2 : one c = "i"
    · rw [if_pos h2, if_pos h2, it_i]
    · rw [if_neg h2, if_neg h2]
      by_cases h3 : one c = "k"
      · rw [if_pos h3, if_pos h3, it_a]
      · rw [if_neg h3, if_neg h3, it_n]
theorem sorts_of (z : Str) : (valV sortsK (.inr z) = none ∧ formOf z = none) ∨ ∃ so ks, valV sortsK (.inr z) = some (.str so) ∧ formOf z = some ks ∧ ks.length = so.length ∧ so.cps.all (· < 128) = true ∧ ks.map nk = so.cps.toList.map kindOf ∧ so.length ≤ 3 := by
  by_cases h1 : z = "set"
  · subst h1; exact .inr ⟨"vi", ["variable", "integer"], by decide +kernel, by decide +kernel, by decide +kernel, by decide +kernel, by decide +kernel, by decide +kernel⟩
  by_cases h2 : z = "add"
  · subst h2; exact .inr ⟨"vv", ["variable", "variable"], by decide +kernel, by decide +kernel, by decide +kernel, by decide +kernel, by decide +kernel, by decide +kernel⟩
  by_cases h3 : z = "skip"
  · subst h3; exact .inr ⟨"vk", ["variable", "amount"], by decide +kernel, by decide +kernel, by decide +kernel, by decide +kernel, by decide +kernel, by decide +kernel⟩
  by_cases h4 : z = "export"
  · subst h4; exact .inr ⟨"nv", ["name", "variable"], by decide +kernel, by decide +kernel, by decide +kernel, by decide +kernel, by decide +kernel, by decide +kernel⟩
  by_cases h5 : z = "read"
  · subst h5; exact .inr ⟨"vnn", ["variable", "module", "name"], by decide +kernel, by decide +kernel, by decide +kernel, by decide +kernel, by decide +kernel, by decide +kernel⟩
  by_cases h6 : z = "need"
  · subst h6; exact .inr ⟨"n", ["module"], by decide +kernel, by decide +kernel, by decide +kernel, by decide +kernel, by decide +kernel, by decide +kernel⟩
  by_cases h7 : z = "try"
  · subst h7; exact .inr ⟨"nv", ["module", "variable"], by decide +kernel, by decide +kernel, by decide +kernel, by decide +kernel, by decide +kernel, by decide +kernel⟩
  by_cases h8 : z = "fail"
  · subst h8; exact .inr ⟨"", [], by decide +kernel, by decide +kernel, by decide +kernel, by decide +kernel, by decide +kernel, by decide +kernel⟩
  refine .inl ⟨?_, ?_⟩
  · have ne : ∀ {y : Str} {v : V}, ¬ z = y → ¬ ((Sum.inr y, v) : Key × V).1 = .inr z := fun h e => h (Sum.inr.inj e).symm
    unfold sortsK
    rw [valV_neg (ne h1), valV_neg (ne h2), valV_neg (ne h3), valV_neg (ne h4), valV_neg (ne h5), valV_neg (ne h6), valV_neg (ne h7), valV_neg (ne h8)]; rfl
  · unfold formOf
    rw [if_neg h1, if_neg h2, if_neg h3, if_neg h4, if_neg h5, if_neg h6, if_neg h7, if_neg h8]
def fitB (z : Str) : V → Bool
  | .str x => fitD z (.str x)
  | .int i => fitD z (.int i)
  | .bl b => fitD z (.bool b)
  | _ => fitD z (.list [])
def fitC (k v : V) : Bool := match k with
  | .str z => fitB z v
  | _ => false
theorem fitB_eq {K : PySem.W.Frag} {H : Hp} {v : V} {d : PyData} (h : Rp K H v d) (z : Str) : fitB z v = fitD z d := by
  cases h <;> rfl
theorem all_fits {K : PySem.W.Frag} {H : Hp} : ∀ {vs : List V} {ds : List PyData}, RpAll K H vs ds → ∀ cs : List Nat, ((cs.map fun c => V.str (one c)).zip vs).all (fun p => fitC p.1 p.2) = ((cs.map kindOf).zip ds).all fun p => isItemD p.1 p.2
  | _, _, .nil, cs => by cases cs <;> rfl
  | _, _, .cons hv h, cs => by
    cases cs with
    | nil => rfl
    | cons c r =>
      simp only [List.map_cons, List.zip_cons_cons, List.all_cons]
      rw [all_fits h r]
      show (fitB (one c) _ && _) = _
      rw [fitB_eq hv, fit_item]
theorem all_nk (ds : List PyData) : ∀ ks : List Str, ((ks.map nk).zip ds).all (fun p => isItemD p.1 p.2) = (ks.zip ds).all fun p => isItemD p.1 p.2 := by
  induction ds with
  | nil => intro ks; cases ks <;> rfl
  | cons d r ih =>
    intro ks
    cases ks with
    | nil => rfl
    | cons k ks =>
      simp only [List.map_cons, List.zip_cons_cons, List.all_cons]
      rw [ih, nk_item]
theorem kPut_R {H : Hp} {R : Hp → Prop} {p : Addr} {kvs : List (Key × V)} {z : Str} {v : V} (h : H p = some (.dK kvs)) (hl : kvs.length ≤ 100000) (k : R (upd H p (.dK (putK kvs (.inr z) v)))) :
    ∃ a H4, V.ref p = .ref a ∧ DPut H a (.str z) v H4 ∧ R H4 := ⟨p, _, rfl, DPut.k (k := .inr z) h (szlt hl), k⟩
theorem k_noS {A B : Prop} (k : A) : if (!(none : Option V).isSome) = true then A else B := iteT k
theorem k_soS {x : V} {A B : Prop} (k : B) : if (!(some x).isSome) = true then A else B := iteF k
local macro_rules | `(tactic| walk_at "go1") => `(tactic| first
  | ((with_reducible refine' kPut_R ?h1 ?h2 ?k1); (case h1 => walk_at "hp"); (case h2 => exact Nat.le_of_ble_eq_true rfl))
  | with_reducible refine k_noS ?_
  | with_reducible refine k_soS ?_ | fail)
def t_law_is_right_step (T : Tx K w mg) : TS :=
  (tSeq (tAsg (tDispC [("set", (.str "vi")), ("add", (.str "vv")), ("skip", (.str "vk")), ("export", (.str "nv")), ("read", (.str "vnn")), ("need", (.str "n")), ("try", (.str "nv"))]) (gName 1))
    (tMid (sDPut (tVar 1) (tC (.str "fail")) (tC (.str "")))
    (tSeq (tIfS (tOr (tNot (tB (tCB (rIsi K) (tCons (tVar 0) (tCons (tC (.ty "tuple")) tNil))))) (tOr (tTest (tOp (zEq K) (tVar 0) (tTp tNil))) (tOr (tNot (tB (tCB (rIsi K) (tCons (tOp (zIx K w) (tVar 0) (tC (.int 0))) (tCons (tC (.ty "str")) tNil))))) (tTest (tOp (zIn K w true) (tOp (zIx K w) (tVar 0) (tC (.int 0))) (tVar 1)))))) (tRet (tC (.bl false))) tNext)
    (tSeq (tAsg (tOp (zIx K w) (tVar 1) (tOp (zIx K w) (tVar 0) (tC (.int 0)))) (gName 2))
    (tSeq (tIfS (tTest (tOp (zNe K) (tCB (zLen K) (tCons (tVar 2) tNil)) (tOp zSub (tCB (zLen K) (tCons (tVar 0) tNil)) (tC (.int 1))))) (tRet (tC (.bl false))) tNext)
    (tRet (tCB (rAll K) (tCons (tLc (iZipS K (tMoA (tCons (tVar 2) (tCons (tSl (zSl K) (tVar 0) (tPart (tC (.int 1))) tNoPart) tNil)))) (gTup K 2 (gCons (gName 3) (gCons (gName 4) gNil))) (tFrT tYes) (tFr (tCl (sp_law_fits K w) E0 (tCons (tVar 3) (tCons (tVar 4) tNil)))) [3, 4]) tNil))))))))
theorem pr_law_is_right_step (T : Tx K w mg) (vs : List V) (H : Hp) (Q : VK) (E : XK) (h : sp_law_is_right_step K w vs H Q E) : t_law_is_right_step T (E4 Q) (start N_law_is_right_step vs) H := by
  obtain ⟨x, d, rfl, hd, gd, k⟩ := h
  show t_law_is_right_step T (E4 Q) [some x, none, none, none, none] _
  unfold t_law_is_right_step
  walk_at "go"
  refine g_cut (fun σ' H' => σ' = [some x, some (.ref p), none, none, none] ∧ L2.Same H H' ∧ H' p = some (.dK sortsK)) ?_ ?_
  · walk_at "go"
    exact ⟨rfl, same_upd hn he, by rw [upd_same, put_is]⟩
  clear hp hu he
  rintro σ' G ⟨rfl, hG, hp⟩
  cases hd with
  | tup hq ha =>
    cases ha with
    | nil => 
      walk_at "go"
      exact closeB k (by walk_at "sm") rfl
    | cons h1 hr =>
      rename_i v0 vs d0 ds
      cases h1 with
      | str z =>
        walk_at "go"
        refine kNin_DS (kvs := sortsK) (by walk_at "hp") ?_
        rcases sorts_of z with ⟨hf, hk⟩ | ⟨so, ks, hf, hk, hl, hasc, hkk, hl3⟩
        · rw [hf]
          walk_at "go"
          exact closeB k (by walk_at "sm") (by simp only [isStepD]; rw [hk])
        · rw [hf]
          walk_at "go"
          refine kIx_DS (kvs := sortsK) (by walk_at "hp") hf ?_
          walk_at "go"
          · refine closeB k (by walk_at "sm") ?_
            have e : ks.length ≠ ds.length := by
              intro e
              have := hr.len
              simp only [List.length_cons] at hif
              omega
            simp only [isStepD]; rw [hk]; simp only [decide_eq_false e, Bool.false_and]
          · have l1 := hr.len
            simp only [List.length_cons] at hif
            refine ⟨so, _, vs, fun a b => [V.bl (fitC a b)], rfl, by decide, hasc, by walk_at "sq", by omega, by omega, ?_, ?_⟩
            · intro i c y acc G2 hx hy hG2
              obtain ⟨d, hd, hy⟩ := hr.at hy
              refine turn2_yes ?_
              intro R2 hR
              show tCl _ _ _ [_, _, _, some (V.str (one c)), some y] _ _
              walk_at "go"
              refine u_fits (d := d) (by walk_at "rp") (gd_at gd hd) ?_
              intro H' he'
              refine hR _ _ ⟨he', ?_⟩
              show _ = acc ++ [V.bl (fitB (one c) y)]
              rw [fitB_eq hy]
            · intro D H' he hD _
              walk_at "go"
              refine kAllZ hD ?_
              refine closeB k (by walk_at "sm") ?_
              simp only [isStepD]; rw [hk]; simp only []
              unfold sgs
              rw [decide_eq_true (by omega), Bool.true_and, all_fits hr, ← hkk, all_nk]
      | _ =>
        walk_at "go"
        exact closeB k (by walk_at "sm") rfl
  | _ => walk_at "go"; exact closeB k (by walk_at "sm") rfl
theorem ok_law_is_right_step (T : Tx K w mg) (hS : SysB base) : FnG P w K mg base CX0 3 T.f_law_is_right_step T.d_law_is_right_step ["_law_value"] (sp_law_is_right_step K w) := okG T.F_law_is_right_step sc_law_is_right_step lenB (fun cdv A outer s H vs Q E hG hr h => ⟨t_law_is_right_step T, (pss_cons (ps_asg (pe_disp (pps_cons pe_str pe_str (pps_cons pe_str pe_str (pps_cons pe_str pe_str (pps_cons pe_str pe_str (pps_cons pe_str pe_str (pps_cons pe_str pe_str (pps_cons pe_str pe_str pps_nil))))))) (by rfl) (by rfl) (fun z => by cases z) (by decide)) (pg_name (i := 1) sc_law_is_right_step.nd rfl (Or.inl rfl)))
    (pss_mid (ps_dput (hu_of hr) (pv 1) pe_str pe_str rfl)
    (pss_cons (ps_if (PW.pt (pw_or (pt_not (pt_val (pe_callB call_isi rfl T.n_isinstance bt_isinstance (pa_cons (pv 0) (pa_cons (pe_bltn (v := .ty "tuple") rfl T.n_tuple bt_tuple rfl) pa_nil))))) (pw_or (pt_cmpR (o_eq hS hr) (pv 0) (pe_tp pa_nil) (nomark _)) (pw_or (pt_not (pt_val (pe_callB call_isi rfl T.n_isinstance bt_isinstance (pa_cons (pe_ix (o_ix hr) (pv 0) pe_int (fun _ _ => rfl)) (pa_cons (pe_bltn (v := .ty "str") rfl T.n_str bt_str rfl) pa_nil))))) (pw_or1 (pt_cmpR (o_notIn hr) (pe_ix (o_ix hr) (pv 0) pe_int (fun _ _ => rfl)) (pv 1) (by rfl))))))) (pss_one (ps_ret pe_bl)) pss_nil)
    (pss_cons (ps_asg (pe_ix (o_ix hr) (pv 1) (pe_ix (o_ix hr) (pv 0) pe_int (fun _ _ => rfl)) (fun _ _ => rfl)) (pg_name (i := 2) sc_law_is_right_step.nd rfl (Or.inl rfl)))
    (pss_cons (ps_if (pt_cmpR (o_ne hS hr) (pe_callB o_len rfl T.n_len bt_len (pa_cons (pv 2) pa_nil)) (pe_op o_sub (pe_callB o_len rfl T.n_len bt_len (pa_cons (pv 0) pa_nil)) pe_int) (nomark _)) (pss_one (ps_ret pe_bl)) pss_nil)
    (pss_one (ps_ret (pe_callB (cr_all rfl) rfl T.n_all bt_all (pa_cons (pe_lc (own := [("_law_sort", 3), ("_law_one", 4)]) (g := (gTup _ 2 (gCons (gName 3) (gCons (gName 4) gNil)))) rfl sc_law_is_right_step.nd (pi_zipS rfl T.n_zip (pa_mo (pa_cons (pv 2) (pa_cons (pe_slice o_sl (pv 0) (po_some pe_int) po_none) pa_nil)))) (blkOk_by (own := [("_law_sort", 3), ("_law_one", 4)]) (N := N_law_is_right_step) (sc := defScope s_law_is_right_step) (by decide +kernel)) (fun _ _ _ _ _ => pg_tup rfl (pgs_cons (pg_name (i := 3) sc_law_is_right_step.nd rfl (Or.inl rfl)) (pgs_cons (pg_name (i := 4) sc_law_is_right_step.nd rfl (Or.inl rfl)) pgs_nil))) (fun _ _ _ _ _ => pts_fr pts_nil)
      (fun _ _ _ _ _ => pe_fr (pe_callG hG (ok_law_fits T hS) (hr.mono (by decide)) T.m_law_fits T.F_law_fits.kp T.b_law_fits pass0 (by exact (pa_cons (pv 3) (pa_cons (pv 4) pa_nil)))))) pa_nil))))))))), pr_law_is_right_step T vs H Q E h⟩)
/-! ### judged -/
def sp_law_judged (K : PySem.W.Frag) (w : World) : Sp := fun vs H Q _ => ∃ x d, vs = [x] ∧ Rp K H x d ∧ Gd 12 3 d ∧ ∀ H', L2.Same H H' → Q (.bl true) H'
theorem u_judged {K : PySem.W.Frag} {w : World} {x : V} {d : PyData} {H : Hp} {Q : VK} {E : XK} (h : Rp K H x d) (g : Gd 12 3 d) (k : ∀ H', L2.Same H H' → Q (.bl true) H') : sp_law_judged K w [x] H Q E := ⟨x, d, rfl, h, g, k⟩
theorem kReprG {K : PySem.W.Frag} {x : V} {d : PyData} {H : Hp} {Q : VK} (h : Rp K H x d) (g : Gd 12 3 d) (k : Q (.str d.shown) H) : rRepr K [x] H Q := kRepr h g.sm (by decide) (by decide +kernel) k
local macro_rules | `(tactic| walk_at "go1") => `(tactic| first | (((with_reducible refine' kReprG ?h1 ?h2 ?k1); (case h1 => walk_at "rp"); (case h2 => walk_at "gd"))) | fail)
def t_law_judged (T : Tx K w mg) : TS :=
  (tSeq (tAsg (tCB (rRepr K) (tCons (tVar 0) tNil)) (gName 1))
    (tSeq (tAsg (tCl (sp_law_is_right_step K w) E0 (tCons (tVar 0) tNil)) (gName 2))
    (tSeq (tAsg (tLs (tCons (tCl (sp_is_name K w) E0 (tCons (tVar 0) tNil)) (tCons (tCl (sp_is_integer K w) E0 (tCons (tVar 0) tNil)) (tCons (tCl (sp_is_count K w) E0 (tCons (tVar 0) tNil)) (tCons (tCl (sp_is_step K w) E0 (tCons (tVar 0) tNil)) (tCons (tCl (sp_is_plain K w) E0 (tCons (tVar 0) tNil)) tNil)))))) (gName 3))
    (tSeq (tAsg (tCl (sp_law_is_whole K w) E0 (tCons (tVar 0) tNil)) (gName 4))
    (tSeq (tAsg (tLs (tCons (tCl (sp_law_is_word K w) E0 (tCons (tVar 0) tNil)) (tCons (tVar 4) (tCons (tAndV (tVar 4) (tOp zGe (tVar 0) (tC (.int 0)))) (tCons (tVar 2) (tCons (tAndV (tVar 2) (tOp (zIn K w false) (tOp (zIx K w) (tVar 0) (tC (.int 0))) (tTp (tCons (tC (.str "set")) (tCons (tC (.str "add")) (tCons (tC (.str "skip")) tNil)))))) tNil)))))) (gName 5))
    (tRet (tAndV (tOp (zEq K) (tCB (rRepr K) (tCons (tVar 3) tNil)) (tCB (rRepr K) (tCons (tVar 5) tNil))) (tOp (zEq K) (tCB (rRepr K) (tCons (tVar 0) tNil)) (tVar 1)))))))))
theorem pr_law_judged (T : Tx K w mg) (vs : List V) (H : Hp) (Q : VK) (E : XK) (h : sp_law_judged K w vs H Q E) : t_law_judged T (E4 Q) (start N_law_judged vs) H := by
  obtain ⟨x, d, rfl, hd, gd, k⟩ := h
  show t_law_judged T (E4 Q) [some x, none, none, none, none, none] _
  unfold t_law_judged
  cases hs : isStepD d with
  | true =>
    obtain ⟨z, ds, v, xs, a, rfl, rfl, hq, hz⟩ := step_shape hs hd
    have hi : isIntD (.tuple (.str z :: ds)) = false := rfl
    walk_at "go"
    refine kIn_T (SqT.of (by assumption)) rfl rfl ?_
    walk_at "go"
    · rw [decide_eq_true rfl]
      exact k _ (by walk_at "sm")
    · refine (hif ?_).elim
      have e : isPlainD (.tuple (.str z :: ds)) = inV (.str z) [.str "set", .str "add", .str "skip"] := by simp only [isPlainD]; rw [hs, Bool.true_and]
      rw [e]; rfl
  | false =>
    have hpl := not_plain hs
    cases hi : isIntD d with
    | true =>
      obtain ⟨i, rfl, rfl⟩ := isInt_of hi hd
      walk_at "go"
      · rw [decide_eq_true rfl]
        exact k _ (by walk_at "sm")
      · refine (hif ?_).elim
        rw [hpl]; rfl
    | false =>
      have hc : isCountD d = false := by
        cases d with
        | int i => cases hi
        | _ => rfl
      walk_at "go"
      · rw [decide_eq_true rfl]
        exact k _ (by walk_at "sm")
      · refine (hif ?_).elim
        rw [hpl, hc]
theorem ok_law_judged (T : Tx K w mg) (hS : SysB base) : FnG P w K mg base CX0 5 T.f_law_judged T.d_law_judged ["_law_value"] (sp_law_judged K w) := by
  refine okG T.F_law_judged sc_law_judged (fun vs H Q E h => ?_) (fun cdv A outer s H vs Q E hG hr h => ⟨t_law_judged T, (pss_cons (ps_asg (pe_callB (call_repr hG hr hS) rfl T.n_repr bt_repr (pa_cons (pv 0) pa_nil)) (pg_name (i := 1) sc_law_judged.nd rfl (Or.inl rfl)))
    (pss_cons (ps_asg (pe_callG hG (ok_law_is_right_step T hS) (hr.mono (by decide)) T.m_law_is_right_step T.F_law_is_right_step.kp T.b_law_is_right_step pass0 (by exact (pa_cons (pv 0) pa_nil))) (pg_name (i := 2) sc_law_judged.nd rfl (Or.inl rfl)))
    (pss_cons (ps_asg (pe_ls (pa_cons (pe_callG hG (ok_is_name T hS) (hr.mono (by decide)) T.m_is_name T.F_is_name.kp T.b_is_name pass0 (by exact (pa_cons (pv 0) pa_nil))) (pa_cons (pe_callG hG (ok_is_integer T hS) (hr.mono (by decide)) T.m_is_integer T.F_is_integer.kp T.b_is_integer pass0 (by exact (pa_cons (pv 0) pa_nil))) (pa_cons (pe_callG hG (ok_is_count T hS) (hr.mono (by decide)) T.m_is_count T.F_is_count.kp T.b_is_count pass0 (by exact (pa_cons (pv 0) pa_nil))) (pa_cons (pe_callG hG (ok_is_step T hS) (hr.mono (by decide)) T.m_is_step T.F_is_step.kp T.b_is_step pass0 (by exact (pa_cons (pv 0) pa_nil))) (pa_cons (pe_callG hG (ok_is_plain T hS) (hr.mono (by decide)) T.m_is_plain T.F_is_plain.kp T.b_is_plain pass0 (by exact (pa_cons (pv 0) pa_nil))) pa_nil)))))) (pg_name (i := 3) sc_law_judged.nd rfl (Or.inl rfl)))
    (pss_cons (ps_asg (pe_callG hG (ok_law_is_whole T hS) (hr.mono (by decide)) T.m_law_is_whole T.F_law_is_whole.kp T.b_law_is_whole pass0 (by exact (pa_cons (pv 0) pa_nil))) (pg_name (i := 4) sc_law_judged.nd rfl (Or.inl rfl)))
    (pss_cons (ps_asg (pe_ls (pa_cons (pe_callG hG (ok_law_is_word T hS) (hr.mono (by decide)) T.m_law_is_word T.F_law_is_word.kp T.b_law_is_word pass0 (by exact (pa_cons (pv 0) pa_nil))) (pa_cons (pv 4) (pa_cons (pe_and (pv 4) (pe_one (pe_cmpR o_ge (pv 0) pe_int (nomark _)))) (pa_cons (pv 2) (pa_cons (pe_and (pv 2) (pe_one (pe_cmpR (o_in hr) (pe_ix (o_ix hr) (pv 0) pe_int (fun _ _ => rfl)) (pe_tp (pa_cons pe_str (pa_cons pe_str (pa_cons pe_str pa_nil)))) (by rfl)))) pa_nil)))))) (pg_name (i := 5) sc_law_judged.nd rfl (Or.inl rfl)))
    (pss_one (ps_ret (pe_and (pe_cmpR (o_eq hS hr) (pe_callB (call_repr hG hr hS) rfl T.n_repr bt_repr (pa_cons (pv 3) pa_nil)) (pe_callB (call_repr hG hr hS) rfl T.n_repr bt_repr (pa_cons (pv 5) pa_nil)) (nomark _)) (pe_one (pe_cmpR (o_eq hS hr) (pe_callB (call_repr hG hr hS) rfl T.n_repr bt_repr (pa_cons (pv 0) pa_nil)) (pv 1) (nomark _))))))))))), pr_law_judged T vs H Q E h⟩)
  obtain ⟨x, d, rfl, _⟩ := h
  rfl
def sp_law_right (K : PySem.W.Frag) (w : World) : Sp := fun vs H Q _ => ∃ p, vs = [.ref p] ∧ H p = some (pot p) ∧ ∀ H', L2.Same H H' → Q (.bl true) H'
theorem u_right {K : PySem.W.Frag} {w : World} {p : Addr} {H : Hp} {Q : VK} {E : XK} (hp : H p = some (pot p)) (k : ∀ H', L2.Same H H' → Q (.bl true) H') : sp_law_right K w [.ref p] H Q E := ⟨p, rfl, hp, k⟩
set_option hygiene false in
local macro_rules | `(tactic| walk_at "inT") => `(tactic| intro v d H2 he hrp hst gst)
set_option hygiene false in
local macro_rules | `(tactic| walk_at "inJ") => `(tactic| intro H2 he)
local macro_rules | `(tactic| walk_at "go1") => `(tactic| first
  | ((with_reducible refine' u_step ?h1 ?h2 ?h3 ?h4 ?h5 ?k1); (case h1 => walk_at "hp"); (case h2 => walk_at "nm"); (case h3 => walk_at "nm"); (case h4 => walk_at "ar"); (case h5 => walk_at "ar"); walk_at "inT")
  | ((with_reducible refine' u_changed ?h1 ?h2 ?h3 ?h4 ?k1); (case h1 => walk_at "hp"); (case h2 => walk_at "rp"); (case h3 => assumption); (case h4 => assumption); walk_at "inO")
  | ((with_reducible refine' u_judged ?h1 ?h2 ?k1); (case h1 => walk_at "rp"); (case h2 => walk_at "gd"); walk_at "inJ") | fail)
def t_law_right (T : Tx K w mg) : TS :=
  (tSeq (tPar 1 2 (tCons (tCl (sp_law_names K w) E0 (tCons (tVar 0) (tCons (tC (.int 3)) tNil))) (tCons (tCl (sp_law_names K w) E0 (tCons (tVar 0) (tCons (tC (.int 3)) tNil))) tNil)))
    (tSeq (tFor (iRng1 (tMoA (tCons (tC (.int 8)) tNil))) (gName 3) (tSeq (tAsg (tCl (sp_law_step K w) E0 (tCons (tVar 0) (tCons (tVar 1) (tCons (tVar 2) (tCons (tOp (zAdd K) (tC (.int 1)) (tCl (sp_law_draw K w) E0 (tCons (tVar 0) (tCons (tC (.int 5)) tNil)))) tNil))))) (gName 4))
    (tSeq (tIfS (tOr (tTest (tOp zNotB (tCl (sp_is_step K w) E0 (tCons (tVar 4) tNil)) (tC (.bl true)))) (tNot (tB (tCl (sp_law_judged K w) E0 (tCons (tVar 4) tNil))))) (tRet (tC (.bl false))) tNext)
    (tSeq (tIfS (tOr (tNot (tB (tCl (sp_law_judged K w) E0 (tCons (tCl (sp_law_changed K w) E0 (tCons (tVar 0) (tCons (tVar 4) tNil))) tNil)))) (tNot (tB (tCl (sp_law_judged K w) E0 (tCons (tCl (sp_law_changed K w) E0 (tCons (tVar 0) (tCons (tVar 4) tNil))) tNil))))) (tRet (tC (.bl false))) tNext)
    (tSeq (tAsg (tLs (tCons (tCl (sp_law_odd K w) E0 (tCons (tVar 0) tNil)) (tCons (tCl (sp_law_integer K w) E0 (tCons (tVar 0) tNil)) (tCons (tCl (sp_law_choice K w) E0 (tCons (tVar 0) (tCons (tVar 2) tNil))) tNil)))) (gName 5))
    (tIfS (tNot (tB (tCB (rAll K) (tCons (tLc (iList K (tMo (tVar 5))) (gName 6) (tFrT tYes) (tFr (tCl (sp_law_judged K w) E0 (tCons (tVar 6) tNil))) [6]) tNil)))) (tRet (tC (.bl false))) tNext))))))
    (tRet (tOp (zEq K) (tC (.ref T.a_VARIABLES)) (tTp (tCons (tC (.str "a")) (tCons (tC (.str "b")) (tCons (tC (.str "c")) (tCons (tC (.str "d")) tNil)))))))))
theorem pr_law_right (T : Tx K w mg) (vs : List V) (H : Hp) (Q : VK) (E : XK) (h : sp_law_right K w vs H Q E) : t_law_right T (E4 Q) (start N_law_right vs) H := by
  obtain ⟨pp, rfl, hpp, k⟩ := h
  show t_law_right T (E4 Q) [some (.ref pp), none, none, none, none, none, none] _
  unfold t_law_right
  walk_at "go"
  rename_i l1 zs1 H1 he1 hl1 hzl1 hzs1
  have n1 : Names K H2 l1 := ⟨zs1, L2.Same.seq he (SqL.of hl1), hzl1, hzs1⟩
  have n2 : Names K H2 l := ⟨zs, SqL.of hl, hzl, hzs⟩
  refine ⟨8, fun i σ' H' => ∃ a b c d : Option V, σ' = [some (.ref pp), some (.ref l1), some (.ref l), a, b, c, d] ∧ L2.Same H2 H', rfl, by omega, by omega, ⟨none, none, none, none, rfl, L2.Same.refl _⟩, ?_, ?_⟩
  · rintro i σ' H' hi ⟨a, b, c, d, rfl, hs⟩
    show tSeq _ _ _ [some (.ref pp), some (.ref l1), some (.ref l), some (.int (i : Int)), b, c, d] _
    walk_at "go"
    · rw [hst] at hif; cases hif
    · have hall : ∀ x ∈ [v, V.int i, V.str z], ∃ d, Rp K H2 x d ∧ Gd 12 3 d := by
        intro x hx
        simp only [List.mem_cons, List.not_mem_nil, or_false] at hx
        rcases hx with e | e | e
        · exact ⟨d, by rw [e]; walk_at "rp", gd.up (by decide)⟩
        · exact ⟨.int i, by rw [e]; exact Rp.int _, Gd.int _ (by omega)⟩
        · exact ⟨.str z, by rw [e]; exact Rp.str _, gd_name hz⟩
      refine cList ?_
      walk_at "go"
      refine ⟨p, [v, V.int i, V.str z], fun _ => [.bl true], rfl, SqL.of hp, Nat.le_of_ble_eq_true rfl, ?_, ?_⟩
      · intro j x acc G hx hG
        obtain ⟨dx, hdx, gdx⟩ := hall x (List.mem_of_getElem? hx)
        refine turn_yes ?_
        intro R2 hR
        show tCl _ _ _ [_, _, _, _, _, _, some x] _ _
        walk_at "go"
        exact hR _ _ ⟨by walk_at "sm", rfl⟩
      · intro D H' he hD _
        walk_at "go"
        refine kAllF (f := fun _ => true) (xs := [v, V.int i, V.str z]) hD ?_
        have e : ([v, V.int i, V.str z].all fun _ => true) = true := rfl
        rw [e]
        walk_at "go"
        exact ⟨_, _, _, _, rfl, by walk_at "sm"⟩
  · rintro σ' H' ⟨a, b, c, d, rfl, hs⟩
    walk_at "go"
    refine kEq_D (d := .tuple [.str "a", .str "b", .str "c", .str "d"]) (e := .tuple [.str "a", .str "b", .str "c", .str "d"]) (Rp.tup (T.s_VARIABLES _) (.cons (.str _) (.cons (.str _) (.cons (.str _) (.cons (.str _) .nil))))) (by walk_at "rp") (by decide +kernel) (by decide +kernel) ?_
    have e : PyData.eqv (.tuple [.str "a", .str "b", .str "c", .str "d"]) (.tuple [.str "a", .str "b", .str "c", .str "d"]) = true := by decide +kernel
    rw [e]
    exact k _ (by walk_at "sm")
theorem ok_law_right (T : Tx K w mg) (hS : SysB base) : FnG P w K mg base CX0 6 T.f_law_right T.d_law_right ["_law_pot_here"] (sp_law_right K w) := by
  refine okG T.F_law_right sc_law_right (fun vs H Q E h => ?_) (fun cdv A outer s H vs Q E hG hr h => ⟨t_law_right T, (pss_cons (ps_par (i := 1) (j := 2) rfl sc_law_right.nd rfl rfl (by decide) rfl rfl (pa_cons (pe_callG hG (ok_law_names T hS) (hr.mono (by decide)) T.m_law_names T.F_law_names.kp T.b_law_names pass0 (by exact (pa_cons (pv 0) (pa_cons pe_int pa_nil)))) (pa_cons (pe_callG hG (ok_law_names T hS) (hr.mono (by decide)) T.m_law_names T.F_law_names.kp T.b_law_names pass0 (by exact (pa_cons (pv 0) (pa_cons pe_int pa_nil)))) pa_nil)) (by rfl))
    (pss_cons (ps_for PassesOwn.never rfl (pi_range1 rfl T.n_range (pa_mo (pa_cons pe_int pa_nil))) (pg_name (i := 3) sc_law_right.nd rfl (Or.inl rfl))
    (pss_cons (ps_asg (pe_callG hG (ok_law_step T hS) (hr.mono (by decide)) T.m_law_step T.F_law_step.kp T.b_law_step pass0 (by exact (pa_cons (pv 0) (pa_cons (pv 1) (pa_cons (pv 2) (pa_cons (pe_op o_add pe_int (pe_callG hG (ok_law_draw T hS) (hr.mono (by decide)) T.m_law_draw T.F_law_draw.kp T.b_law_draw pass0 (by exact (pa_cons (pv 0) (pa_cons pe_int pa_nil))))) pa_nil)))))) (pg_name (i := 4) sc_law_right.nd rfl (Or.inl rfl)))
    (pss_cons (ps_if (PW.pt (pw_or (pt_cmpR o_notB (pe_callG hG (ok_is_step T hS) (hr.mono (by decide)) T.m_is_step T.F_is_step.kp T.b_is_step pass0 (by exact (pa_cons (pv 4) pa_nil))) pe_bl (nomark _)) (pw_or1 (pt_not (pt_val (pe_callG hG (ok_law_judged T hS) (hr.mono (by decide)) T.m_law_judged T.F_law_judged.kp T.b_law_judged pass0 (by exact (pa_cons (pv 4) pa_nil)))))))) (pss_one (ps_ret pe_bl)) pss_nil)
    (pss_cons (ps_if (PW.pt (pw_or (pt_not (pt_val (pe_callG hG (ok_law_judged T hS) (hr.mono (by decide)) T.m_law_judged T.F_law_judged.kp T.b_law_judged pass0 (by exact (pa_cons (pe_callG hG (ok_law_changed T hS) (hr.mono (by decide)) T.m_law_changed T.F_law_changed.kp T.b_law_changed pass0 (by exact (pa_cons (pv 0) (pa_cons (pv 4) pa_nil)))) pa_nil))))) (pw_or1 (pt_not (pt_val (pe_callG hG (ok_law_judged T hS) (hr.mono (by decide)) T.m_law_judged T.F_law_judged.kp T.b_law_judged pass0 (by exact (pa_cons (pe_callG hG (ok_law_changed T hS) (hr.mono (by decide)) T.m_law_changed T.F_law_changed.kp T.b_law_changed pass0 (by exact (pa_cons (pv 0) (pa_cons (pv 4) pa_nil)))) pa_nil)))))))) (pss_one (ps_ret pe_bl)) pss_nil)
    (pss_cons (ps_asg (pe_ls (pa_cons (pe_callG hG (ok_law_odd T hS) (hr.mono (by decide)) T.m_law_odd T.F_law_odd.kp T.b_law_odd pass0 (by exact (pa_cons (pv 0) pa_nil))) (pa_cons (pe_callG hG (ok_law_integer T hS) (hr.mono (by decide)) T.m_law_integer T.F_law_integer.kp T.b_law_integer pass0 (by exact (pa_cons (pv 0) pa_nil))) (pa_cons (pe_callG hG (ok_law_choice T hS) (hr.mono (by decide)) T.m_law_choice T.F_law_choice.kp T.b_law_choice pass0 (by exact (pa_cons (pv 0) (pa_cons (pv 2) pa_nil)))) pa_nil)))) (pg_name (i := 5) sc_law_right.nd rfl (Or.inl rfl)))
    (pss_one (ps_if (pt_not (pt_val (pe_callB (cr_all rfl) rfl T.n_all bt_all (pa_cons (pe_lc (own := [("_law_value", 6)]) (g := (gName 6)) rfl sc_law_right.nd (pi_list (pe_mo (pv 5))) (blkOk_by (own := [("_law_value", 6)]) (N := N_law_right) (sc := defScope s_law_right) (by decide +kernel)) (fun _ _ _ _ _ => pg_name (i := 6) sc_law_right.nd rfl (Or.inl rfl)) (fun _ _ _ _ _ => pts_fr pts_nil)
      (fun _ _ _ _ _ => pe_fr (pe_callG hG (ok_law_judged T hS) (hr.mono (by decide)) T.m_law_judged T.F_law_judged.kp T.b_law_judged pass0 (by exact (pa_cons (pv 6) pa_nil))))) pa_nil)))) (pss_one (ps_ret pe_bl)) pss_nil)))))))
    (pss_one (ps_ret (pe_cmpR (o_eq hS hr) (pe_glob rfl T.g_VARIABLES rfl) (pe_tp (pa_cons pe_str (pa_cons pe_str (pa_cons pe_str (pa_cons pe_str pa_nil))))) (nomark _)))))), pr_law_right T vs H Q E h⟩)
  obtain ⟨pp, rfl, _⟩ := h
  rfl
def sp_law_truths_right (K : PySem.W.Frag) (w : World) : Sp := fun vs H Q _ => vs = [] ∧ ∀ H', L2.Same H H' → Q (.bl true) H'
def t_law_truths_right (T : Tx K w mg) : TS :=
  (tSeq (tFor (iList K (tMo (tLs (tCons (tTp (tCons (tC (.str "set")) (tCons (tC (.int 1)) tNil))) (tCons (tTp (tCons (tC (.str "skip")) (tCons (tC (.int 1)) tNil))) (tCons (tTp (tCons (tC (.str "set")) (tCons (tC (.int 0)) tNil))) tNil)))))) (gTup K 2 (gCons (gName 0) (gCons (gName 1) gNil))) (tSeq (tPar 2 3 (tCons (tTp (tCons (tVar 0) (tCons (tC (.str "a")) (tCons (tVar 1) tNil)))) (tCons (tTp (tCons (tVar 0) (tCons (tC (.str "a")) (tCons (tOp (zEq K) (tVar 1) (tC (.int 1))) tNil)))) tNil)))
    (tSeq (tAsg (tLs (tCons (tCl (sp_is_step K w) E0 (tCons (tVar 2) tNil)) (tCons (tCl (sp_is_plain K w) E0 (tCons (tVar 2) tNil)) (tCons (tCl (sp_is_integer K w) E0 (tCons (tVar 1) tNil)) (tCons (tCl (sp_is_count K w) E0 (tCons (tVar 1) tNil)) (tCons (tCl (sp_is_step K w) E0 (tCons (tVar 2) tNil)) tNil)))))) (gName 4))
    (tSeq (tIfS (tTest (tOp (zNe K) (tVar 4) (tOp zMul (tLs (tCons (tC (.bl true)) tNil)) (tC (.int 5))))) (tRet (tC (.bl false))) tNext)
    (tSeq (tAsg (tLs (tCons (tCl (sp_is_step K w) E0 (tCons (tVar 3) tNil)) (tCons (tCl (sp_is_plain K w) E0 (tCons (tVar 3) tNil)) (tCons (tCl (sp_is_integer K w) E0 (tCons (tOp (zEq K) (tVar 1) (tC (.int 1))) tNil)) (tCons (tCl (sp_is_count K w) E0 (tCons (tOp (zEq K) (tVar 1) (tC (.int 1))) tNil)) tNil))))) (gName 4))
    (tIfS (tOr (tTest (tOp (zNe K) (tVar 4) (tOp zMul (tLs (tCons (tC (.bl false)) tNil)) (tC (.int 4))))) (tTest (tOp zNotB (tCl (sp_is_step K w) E0 (tCons (tVar 2) tNil)) (tC (.bl true))))) (tRet (tC (.bl false))) tNext))))))
    (tRet (tC (.bl true))))
def Truth (z : Str) (n : Int) : Prop := (z = "set" ∧ n = 1) ∨ (z = "skip" ∧ n = 1) ∨ (z = "set" ∧ n = 0)
theorem truths {z : Str} {n : Int} (h : Truth z n) : isStepD (.tuple [.str z, .str "a", .int n]) = true ∧ isPlainD (.tuple [.str z, .str "a", .int n]) = true ∧ isCountD (.int n) = true ∧
    isStepD (.tuple [.str z, .str "a", .bool (decide (n = 1))]) = false ∧ isPlainD (.tuple [.str z, .str "a", .bool (decide (n = 1))]) = false := by
  rcases h with ⟨rfl, rfl⟩ | ⟨rfl, rfl⟩ | ⟨rfl, rfl⟩ <;> exact ⟨by decide +kernel, by decide +kernel, by decide +kernel, by decide +kernel, by decide +kernel⟩
theorem pr_law_truths_right (T : Tx K w mg) (vs : List V) (H : Hp) (Q : VK) (E : XK) (h : sp_law_truths_right K w vs H Q E) : t_law_truths_right T (E4 Q) (start N_law_truths_right vs) H := by
  obtain ⟨rfl, k⟩ := h
  show t_law_truths_right T (E4 Q) [none, none, none, none, none] _
  unfold t_law_truths_right
  walk_at "go"
  rename_i p1 G1 hn1 he1 hp1 hu1 p2 G2 hn2 he2 hp2 hu2 p3 G3 hn3 he3 hp3 hu3
  have hsq : ∀ x ∈ [V.ref p1, V.ref p2, V.ref p3], ∃ q z n, x = .ref q ∧ SqT K H2 q [.str z, .int n] ∧ Truth z n := by
    intro x hx
    simp only [List.mem_cons, List.not_mem_nil, or_false] at hx
    rcases hx with e | e | e
    · exact ⟨_, _, _, e, by walk_at "sq", .inl ⟨rfl, rfl⟩⟩
    · exact ⟨_, _, _, e, by walk_at "sq", .inr (.inl ⟨rfl, rfl⟩)⟩
    · exact ⟨_, _, _, e, by walk_at "sq", .inr (.inr ⟨rfl, rfl⟩)⟩
  have hH : L2.Same H H2 := by walk_at "sm"
  clear hn1 he1 hp1 hu1 hn2 he2 hp2 hu2 hn3 he3 hp3 hu3 hu hn
  refine ⟨p, [.ref p1, .ref p2, .ref p3], fun i σ' H' => ∃ a b c d e : Option V, σ' = [a, b, c, d, e] ∧ L2.Same H2 H', rfl, SqL.of hp, ⟨none, none, none, none, none, rfl, L2.Same.refl _⟩, ?_, ?_, ?_⟩
  · rintro i σ' H' hi ⟨a, b, c, d, e, rfl, hs⟩
    exact L2.Same.seq hs (SqL.of hp)
  · rintro i x σ' H' hx ⟨a, b, c, d, e, rfl, hs⟩
    obtain ⟨q, z, n, rfl, hq, ht⟩ := hsq x (List.mem_of_getElem? hx)
    have hz : Gd 12 2 (.str z) ∧ Gd 12 2 (.int n) ∧ Gd 12 3 (.int n) := by
      rcases ht with ⟨rfl, rfl⟩ | ⟨rfl, rfl⟩ | ⟨rfl, rfl⟩ <;> exact ⟨Gd.str _ (by decide +kernel) (by decide +kernel), Gd.int _ (by omega), Gd.int _ (by omega)⟩
    obtain ⟨hz, hn2, hn3⟩ := hz
    obtain ⟨t1, t2, t3, f1, f2⟩ := truths ht
    walk_at "go"
    refine kMul_L (by walk_at "hp") (by decide) (by decide) (Nat.le_of_ble_eq_true rfl) ?_
    intro r4 G4 hr4 he4 hl4 hu4
    refine kNe_D (d := .list [.bool true, .bool true, .bool true, .bool true, .bool true]) (e := .list [.bool true, .bool true, .bool true, .bool true, .bool true]) ?_ (Rp.lst (SqL.of hl4) ?_) (by decide +kernel) (by decide +kernel) ?_
    · refine' Rp.lst ?e1 ?e2
      (case e1 => walk_at "sq")
      (case e2 => rw [t1, t2, t3]; walk_at "rps")
    · show RpAll _ _ [.bl true, .bl true, .bl true, .bl true, .bl true] _
      walk_at "rps"
    have e5 : PyData.eqv (.list [.bool true, .bool true, .bool true, .bool true, .bool true]) (.list [.bool true, .bool true, .bool true, .bool true, .bool true]) = true := by decide +kernel
    rw [e5]
    clear hl4 hu4 hr4
    walk_at "go"
    refine kMul_L (by walk_at "hp") (by decide) (by decide) (Nat.le_of_ble_eq_true rfl) ?_
    intro r5 G5 hr5 he5 hl5 hu5
    refine kNe_D (d := .list [.bool false, .bool false, .bool false, .bool false]) (e := .list [.bool false, .bool false, .bool false, .bool false]) ?_ (Rp.lst (SqL.of hl5) ?_) (by decide +kernel) (by decide +kernel) ?_
    · refine' Rp.lst ?e3 ?e4
      (case e3 => walk_at "sq")
      (case e4 => rw [f1, f2]; walk_at "rps")
    · show RpAll _ _ [.bl false, .bl false, .bl false, .bl false] _
      walk_at "rps"
    have e6 : PyData.eqv (.list [.bool false, .bool false, .bool false, .bool false]) (.list [.bool false, .bool false, .bool false, .bool false]) = true := by decide +kernel
    rw [e6]
    clear hl5 hu5 hr5
    walk_at "go"
    · rw [t1] at hif; cases hif
    · exact ⟨_, _, _, _, _, rfl, by walk_at "sm"⟩
  · rintro σ' H' ⟨a, b, c, d, e, rfl, hs⟩
    walk_at "go"
    exact k _ (by walk_at "sm")
theorem ok_law_truths_right (T : Tx K w mg) (hS : SysB base) : FnG P w K mg base CX0 5 T.f_law_truths_right T.d_law_truths_right [] (sp_law_truths_right K w) := by
  refine okG T.F_law_truths_right sc_law_truths_right (fun vs H Q E h => ?_) (fun cdv A outer s H vs Q E hG hr h => ⟨t_law_truths_right T, (pss_cons (ps_for PassesOwn.never rfl (pi_list (pe_mo (pe_ls (pa_cons (pe_tp (pa_cons pe_str (pa_cons pe_int pa_nil))) (pa_cons (pe_tp (pa_cons pe_str (pa_cons pe_int pa_nil))) (pa_cons (pe_tp (pa_cons pe_str (pa_cons pe_int pa_nil))) pa_nil)))))) (pg_tup rfl (pgs_cons (pg_name (i := 0) sc_law_truths_right.nd rfl (Or.inl rfl)) (pgs_cons (pg_name (i := 1) sc_law_truths_right.nd rfl (Or.inl rfl)) pgs_nil)))
    (pss_cons (ps_par (i := 2) (j := 3) rfl sc_law_truths_right.nd rfl rfl (by decide) rfl rfl (pa_cons (pe_tp (pa_cons (pv 0) (pa_cons pe_str (pa_cons (pv 1) pa_nil)))) (pa_cons (pe_tp (pa_cons (pv 0) (pa_cons pe_str (pa_cons (pe_cmpR (o_eq hS hr) (pv 1) pe_int (nomark _)) pa_nil)))) pa_nil)) (by rfl))
    (pss_cons (ps_asg (pe_ls (pa_cons (pe_callG hG (ok_is_step T hS) (hr.mono (by decide)) T.m_is_step T.F_is_step.kp T.b_is_step pass0 (by exact (pa_cons (pv 2) pa_nil))) (pa_cons (pe_callG hG (ok_is_plain T hS) (hr.mono (by decide)) T.m_is_plain T.F_is_plain.kp T.b_is_plain pass0 (by exact (pa_cons (pv 2) pa_nil))) (pa_cons (pe_callG hG (ok_is_integer T hS) (hr.mono (by decide)) T.m_is_integer T.F_is_integer.kp T.b_is_integer pass0 (by exact (pa_cons (pv 1) pa_nil))) (pa_cons (pe_callG hG (ok_is_count T hS) (hr.mono (by decide)) T.m_is_count T.F_is_count.kp T.b_is_count pass0 (by exact (pa_cons (pv 1) pa_nil))) (pa_cons (pe_callG hG (ok_is_step T hS) (hr.mono (by decide)) T.m_is_step T.F_is_step.kp T.b_is_step pass0 (by exact (pa_cons (pv 2) pa_nil))) pa_nil)))))) (pg_name (i := 4) sc_law_truths_right.nd rfl (Or.inl rfl)))
    (pss_cons (ps_if (pt_cmpR (o_ne hS hr) (pv 4) (pe_op o_mul (pe_ls (pa_cons pe_bl pa_nil)) pe_int) (nomark _)) (pss_one (ps_ret pe_bl)) pss_nil)
    (pss_cons (ps_asg (pe_ls (pa_cons (pe_callG hG (ok_is_step T hS) (hr.mono (by decide)) T.m_is_step T.F_is_step.kp T.b_is_step pass0 (by exact (pa_cons (pv 3) pa_nil))) (pa_cons (pe_callG hG (ok_is_plain T hS) (hr.mono (by decide)) T.m_is_plain T.F_is_plain.kp T.b_is_plain pass0 (by exact (pa_cons (pv 3) pa_nil))) (pa_cons (pe_callG hG (ok_is_integer T hS) (hr.mono (by decide)) T.m_is_integer T.F_is_integer.kp T.b_is_integer pass0 (by exact (pa_cons (pe_cmpR (o_eq hS hr) (pv 1) pe_int (nomark _)) pa_nil))) (pa_cons (pe_callG hG (ok_is_count T hS) (hr.mono (by decide)) T.m_is_count T.F_is_count.kp T.b_is_count pass0 (by exact (pa_cons (pe_cmpR (o_eq hS hr) (pv 1) pe_int (nomark _)) pa_nil))) pa_nil))))) (pg_name (i := 4) sc_law_truths_right.nd rfl (Or.inl rfl)))
    (pss_one (ps_if (PW.pt (pw_or (pt_cmpR (o_ne hS hr) (pv 4) (pe_op o_mul (pe_ls (pa_cons pe_bl pa_nil)) pe_int) (nomark _)) (pw_or1 (pt_cmpR o_notB (pe_callG hG (ok_is_step T hS) (hr.mono (by decide)) T.m_is_step T.F_is_step.kp T.b_is_step pass0 (by exact (pa_cons (pv 2) pa_nil))) pe_bl (nomark _))))) (pss_one (ps_ret pe_bl)) pss_nil)))))))
    (pss_one (ps_ret pe_bl))), pr_law_truths_right T vs H Q E h⟩)
  obtain ⟨rfl, _⟩ := h
  rfl
def sp_law (K : PySem.W.Frag) (w : World) : Sp := fun vs H Q _ => ∃ a, ∃ ns : List Int, vs = [.ref a] ∧ SqL K H a (ns.map V.int) ∧ ns.length ≤ 63 ∧ ∀ H', Q (.bl true) H'
theorem u_pot {K : PySem.W.Frag} {w : World} {a : Addr} {i : Int} {ns : List Int} {H : Hp} {Q : VK} {E : XK} (hl : SqL K H a (ns.map V.int)) (h0 : 0 ≤ i) (h1 : i < 100) (h2 : ns.length ≤ 63) (k : ∀ p H', L2.Same H H' → H p = none → H' p = some (pot p) → Q (.ref p) H') : sp_law_pot K w [.ref a, .int i] H Q E := ⟨a, i, ns, rfl, hl, h0, h1, h2, k⟩
def t_law (T : Tx K w mg) : TS :=
  (tSeq (tIfS (tNot (tB (tCl (sp_law_truths_right K w) E0 tNil))) (tRet (tC (.bl false))) tNext)
    (tRet (tCB (rAll K) (tCons (tLc (iRng1 (tMoA (tCons (tCB zMax (tCons (tC (.int 1)) (tCons (tCB zMin (tCons (tC (.int 5)) (tCons (tCB (zLen K) (tCons (tVar 0) tNil)) tNil))) tNil))) tNil))) (gName 1) (tFrT tYes) (tFr (tCl (sp_law_right K w) E0 (tCons (tCl (sp_law_pot K w) E0 (tCons (tVar 0) (tCons (tVar 1) tNil))) tNil))) [1]) tNil))))
theorem pr_law (T : Tx K w mg) (vs : List V) (H : Hp) (Q : VK) (E : XK) (h : sp_law K w vs H Q E) : t_law T (E4 Q) (start N_law vs) H := by
  obtain ⟨a, ns, rfl, hl, h63, k⟩ := h
  show t_law T (E4 Q) [some (.ref a), none] _
  unfold t_law
  walk_at "go"
  refine ⟨rfl, ?_⟩
  intro H1 h1
  walk_at "go"
  refine cRng ?_
  walk_at "go"
  have hlen : (ns.map V.int).length = ns.length := List.length_map _
  generalize hm : (if (if ((ns.map V.int).length : Int) < 5 then ((ns.map V.int).length : Int) else 5) > 1 then (if ((ns.map V.int).length : Int) < 5 then ((ns.map V.int).length : Int) else 5) else 1) = m
  have m0 : 1 ≤ m ∧ m ≤ 5 := by
    rw [hlen] at hm
    subst hm
    repeat' split
    all_goals omega
  refine ⟨m, fun _ => [.bl true], rfl, by omega, by omega, ?_, ?_⟩
  · intro i acc G hi hG
    refine turn_yes ?_
    intro R2 hR
    show tCl _ _ _ [some (.ref a), some (.int (i : Int))] _ _
    walk_at "go"
    refine u_pot (ns := ns) (by walk_at "sq") (by omega) (by omega) h63 ?_
    intro p H2 he hn hp
    walk_at "go"
    refine u_right hp ?_
    intro H3 he3
    exact hR _ _ ⟨he.trans he3, rfl⟩
  · intro D H' he hD _
    walk_at "go"
    refine kAllF (f := fun _ => true) hD ?_
    rw [show ((List.range m.toNat).all fun _ => true) = true from List.all_eq_true.mpr fun _ _ => rfl]
    exact k _
theorem ok_law (T : Tx K w mg) (hS : SysB base) : FnG P w K mg base CX0 7 T.f_law T.d_law ["_law_script"] (sp_law K w) := by
  refine okG T.F_law sc_law (fun vs H Q E h => ?_) (fun cdv A outer s H vs Q E hG hr h => ⟨t_law T, (pss_cons (ps_if (pt_not (pt_val (pe_callG0 hG (ok_law_truths_right T hS) (hr.mono (by decide)) T.m_law_truths_right T.F_law_truths_right.kp T.b_law_truths_right pass0))) (pss_one (ps_ret pe_bl)) pss_nil)
    (pss_one (ps_ret (pe_callB (cr_all rfl) rfl T.n_all bt_all (pa_cons (pe_lc (own := [("_law_index", 1)]) (g := (gName 1)) rfl sc_law.nd (pi_range1 rfl T.n_range (pa_mo (pa_cons (pe_callB (o_max rfl) rfl T.n_max bt_max (pa_cons pe_int (pa_cons (pe_callB (o_min rfl) rfl T.n_min bt_min (pa_cons pe_int (pa_cons (pe_callB o_len rfl T.n_len bt_len (pa_cons (pv 0) pa_nil)) pa_nil))) pa_nil))) pa_nil))) (blkOk_by (own := [("_law_index", 1)]) (N := N_law) (sc := defScope s_law) (by decide +kernel)) (fun _ _ _ _ _ => pg_name (i := 1) sc_law.nd rfl (Or.inl rfl)) (fun _ _ _ _ _ => pts_fr pts_nil)
      (fun _ _ _ _ _ => pe_fr (pe_callG hG (ok_law_right T hS) (hr.mono (by decide)) T.m_law_right T.F_law_right.kp T.b_law_right pass0 (by exact (pa_cons (pe_callG hG (ok_law_pot T hS) (hr.mono (by decide)) T.m_law_pot T.F_law_pot.kp T.b_law_pot pass0 (by exact (pa_cons (pv 0) (pa_cons (pv 1) pa_nil)))) pa_nil))))) pa_nil))))), pr_law T vs H Q E h⟩)
  obtain ⟨a, ns, rfl, _⟩ := h
  rfl
theorem forms_ks {K : PySem.W.Frag} {a0 a1 a2 a3 a4 a5 a6 a7 : Addr} (h0 : ∀ H, SqT K H a0 [.str "variable", .str "integer"]) (h1 : ∀ H, SqT K H a1 [.str "variable", .str "variable"]) (h2 : ∀ H, SqT K H a2 [.str "variable", .str "amount"]) (h3 : ∀ H, SqT K H a3 [.str "name", .str "variable"]) (h4 : ∀ H, SqT K H a4 [.str "variable", .str "module", .str "name"]) (h5 : ∀ H, SqT K H a5 [.str "module"]) (h6 : ∀ H, SqT K H a6 [.str "module", .str "variable"]) (h7 : ∀ H, SqT K H a7 []) :
    ∀ z a, foL [("set", a0), ("add", a1), ("skip", a2), ("export", a3), ("read", a4), ("need", a5), ("try", a6), ("fail", a7)] z = some a → ∃ ks, formOf z = some ks ∧ ∀ H, SqT K H a (ks.map V.str) := by
  intro z a h
  simp only [foL] at h
  by_cases e0 : (("set" : Str) = z)
  · rw [if_pos e0] at h
    have q := Option.some.inj h
    subst q; subst e0
    exact ⟨["variable", "integer"], by decide +kernel, h0⟩
  by_cases e1 : (("add" : Str) = z)
  · rw [if_neg e0, if_pos e1] at h
    have q := Option.some.inj h
    subst q; subst e1
    exact ⟨["variable", "variable"], by decide +kernel, h1⟩
  by_cases e2 : (("skip" : Str) = z)
  · rw [if_neg e0, if_neg e1, if_pos e2] at h
    have q := Option.some.inj h
    subst q; subst e2
    exact ⟨["variable", "amount"], by decide +kernel, h2⟩
  by_cases e3 : (("export" : Str) = z)
  · rw [if_neg e0, if_neg e1, if_neg e2, if_pos e3] at h
    have q := Option.some.inj h
    subst q; subst e3
    exact ⟨["name", "variable"], by decide +kernel, h3⟩
  by_cases e4 : (("read" : Str) = z)
  · rw [if_neg e0, if_neg e1, if_neg e2, if_neg e3, if_pos e4] at h
    have q := Option.some.inj h
    subst q; subst e4
    exact ⟨["variable", "module", "name"], by decide +kernel, h4⟩
  by_cases e5 : (("need" : Str) = z)
  · rw [if_neg e0, if_neg e1, if_neg e2, if_neg e3, if_neg e4, if_pos e5] at h
    have q := Option.some.inj h
    subst q; subst e5
    exact ⟨["module"], by decide +kernel, h5⟩
  by_cases e6 : (("try" : Str) = z)
  · rw [if_neg e0, if_neg e1, if_neg e2, if_neg e3, if_neg e4, if_neg e5, if_pos e6] at h
    have q := Option.some.inj h
    subst q; subst e6
    exact ⟨["module", "variable"], by decide +kernel, h6⟩
  by_cases e7 : (("fail" : Str) = z)
  · rw [if_neg e0, if_neg e1, if_neg e2, if_neg e3, if_neg e4, if_neg e5, if_neg e6, if_pos e7] at h
    have q := Option.some.inj h
    subst q; subst e7
    exact ⟨[], by decide +kernel, h7⟩
  rw [if_neg e0, if_neg e1, if_neg e2, if_neg e3, if_neg e4, if_neg e5, if_neg e6, if_neg e7] at h
  cases h
theorem forms_kn {a0 a1 a2 a3 a4 a5 a6 a7 : Addr} : ∀ z, foL [("set", a0), ("add", a1), ("skip", a2), ("export", a3), ("read", a4), ("need", a5), ("try", a6), ("fail", a7)] z = none → formOf z = none := by
  intro z h
  simp only [foL] at h
  by_cases e0 : (("set" : Str) = z)
  · rw [if_pos e0] at h; cases h
  by_cases e1 : (("add" : Str) = z)
  · rw [if_neg e0, if_pos e1] at h; cases h
  by_cases e2 : (("skip" : Str) = z)
  · rw [if_neg e0, if_neg e1, if_pos e2] at h; cases h
  by_cases e3 : (("export" : Str) = z)
  · rw [if_neg e0, if_neg e1, if_neg e2, if_pos e3] at h; cases h
  by_cases e4 : (("read" : Str) = z)
  · rw [if_neg e0, if_neg e1, if_neg e2, if_neg e3, if_pos e4] at h; cases h
  by_cases e5 : (("need" : Str) = z)
  · rw [if_neg e0, if_neg e1, if_neg e2, if_neg e3, if_neg e4, if_pos e5] at h; cases h
  by_cases e6 : (("try" : Str) = z)
  · rw [if_neg e0, if_neg e1, if_neg e2, if_neg e3, if_neg e4, if_neg e5, if_pos e6] at h; cases h
  by_cases e7 : (("fail" : Str) = z)
  · rw [if_neg e0, if_neg e1, if_neg e2, if_neg e3, if_neg e4, if_neg e5, if_neg e6, if_pos e7] at h; cases h
  unfold formOf
  rw [if_neg (fun q => e0 q.symm), if_neg (fun q => e1 q.symm), if_neg (fun q => e2 q.symm), if_neg (fun q => e3 q.symm), if_neg (fun q => e4 q.symm), if_neg (fun q => e5 q.symm), if_neg (fun q => e6 q.symm), if_neg (fun q => e7 q.symm)]
end
theorem all_mk {l : PySem.W.OpenLaw} {w : World} {K : PySem.W.Frag} {h : Heap} {mg : Str → Option Value} {fa : Addr} (X : K.In h) (G : h.Ns mainGlobals mg) (hfa : mg "law" = some (.ref fa))
    {f_is_name : Addr} {od_is_name an_is_name : Option Addr} {sl_is_name : Array (Option Value)} {oc_is_name kV_is_name dc_is_name pm_is_name cd_is_name ct_is_name : Value}
    {f_is_integer : Addr} {od_is_integer an_is_integer : Option Addr} {sl_is_integer : Array (Option Value)} {oc_is_integer kV_is_integer dc_is_integer pm_is_integer cd_is_integer ct_is_integer : Value}
    {f_is_count : Addr} {od_is_count an_is_count : Option Addr} {sl_is_count : Array (Option Value)} {oc_is_count kV_is_count dc_is_count pm_is_count cd_is_count ct_is_count : Value}
    {f_is_variable : Addr} {od_is_variable an_is_variable : Option Addr} {sl_is_variable : Array (Option Value)} {oc_is_variable kV_is_variable dc_is_variable pm_is_variable cd_is_variable ct_is_variable : Value}
    {f_is_item : Addr} {od_is_item an_is_item : Option Addr} {sl_is_item : Array (Option Value)} {oc_is_item kV_is_item dc_is_item pm_is_item cd_is_item ct_is_item : Value}
    {f_is_step : Addr} {od_is_step an_is_step : Option Addr} {sl_is_step : Array (Option Value)} {oc_is_step kV_is_step dc_is_step pm_is_step cd_is_step ct_is_step : Value}
    {f_is_plain : Addr} {od_is_plain an_is_plain : Option Addr} {sl_is_plain : Array (Option Value)} {oc_is_plain kV_is_plain dc_is_plain pm_is_plain cd_is_plain ct_is_plain : Value}
    {f_law_pot : Addr} {od_law_pot an_law_pot : Option Addr} {sl_law_pot : Array (Option Value)} {oc_law_pot kV_law_pot dc_law_pot pm_law_pot cd_law_pot ct_law_pot : Value}
    {f_law_draw : Addr} {od_law_draw an_law_draw : Option Addr} {sl_law_draw : Array (Option Value)} {oc_law_draw kV_law_draw dc_law_draw pm_law_draw cd_law_draw ct_law_draw : Value}
    {f_law_choice : Addr} {od_law_choice an_law_choice : Option Addr} {sl_law_choice : Array (Option Value)} {oc_law_choice kV_law_choice dc_law_choice pm_law_choice cd_law_choice ct_law_choice : Value}
    {f_law_name : Addr} {od_law_name an_law_name : Option Addr} {sl_law_name : Array (Option Value)} {oc_law_name kV_law_name dc_law_name pm_law_name cd_law_name ct_law_name : Value}
    {f_law_names : Addr} {od_law_names an_law_names : Option Addr} {sl_law_names : Array (Option Value)} {oc_law_names kV_law_names dc_law_names pm_law_names cd_law_names ct_law_names : Value}
    {f_law_integer : Addr} {od_law_integer an_law_integer : Option Addr} {sl_law_integer : Array (Option Value)} {oc_law_integer kV_law_integer dc_law_integer pm_law_integer cd_law_integer ct_law_integer : Value}
    {f_law_step : Addr} {od_law_step an_law_step : Option Addr} {sl_law_step : Array (Option Value)} {oc_law_step kV_law_step dc_law_step pm_law_step cd_law_step ct_law_step : Value}
    {f_law_is_whole : Addr} {od_law_is_whole an_law_is_whole : Option Addr} {sl_law_is_whole : Array (Option Value)} {oc_law_is_whole kV_law_is_whole dc_law_is_whole pm_law_is_whole cd_law_is_whole ct_law_is_whole : Value}
    {f_law_is_word : Addr} {od_law_is_word an_law_is_word : Option Addr} {sl_law_is_word : Array (Option Value)} {oc_law_is_word kV_law_is_word dc_law_is_word pm_law_is_word cd_law_is_word ct_law_is_word : Value}
    {f_law_fits : Addr} {od_law_fits an_law_fits : Option Addr} {sl_law_fits : Array (Option Value)} {oc_law_fits kV_law_fits dc_law_fits pm_law_fits cd_law_fits ct_law_fits : Value}
    {f_law_is_right_step : Addr} {od_law_is_right_step an_law_is_right_step : Option Addr} {sl_law_is_right_step : Array (Option Value)} {oc_law_is_right_step kV_law_is_right_step dc_law_is_right_step pm_law_is_right_step cd_law_is_right_step ct_law_is_right_step : Value}
    {f_law_odd : Addr} {od_law_odd an_law_odd : Option Addr} {sl_law_odd : Array (Option Value)} {oc_law_odd kV_law_odd dc_law_odd pm_law_odd cd_law_odd ct_law_odd : Value}
    {f_law_changed : Addr} {od_law_changed an_law_changed : Option Addr} {sl_law_changed : Array (Option Value)} {oc_law_changed kV_law_changed dc_law_changed pm_law_changed cd_law_changed ct_law_changed : Value}
    {f_law_judged : Addr} {od_law_judged an_law_judged : Option Addr} {sl_law_judged : Array (Option Value)} {oc_law_judged kV_law_judged dc_law_judged pm_law_judged cd_law_judged ct_law_judged : Value}
    {f_law_right : Addr} {od_law_right an_law_right : Option Addr} {sl_law_right : Array (Option Value)} {oc_law_right kV_law_right dc_law_right pm_law_right cd_law_right ct_law_right : Value}
    {f_law_truths_right : Addr} {od_law_truths_right an_law_truths_right : Option Addr} {sl_law_truths_right : Array (Option Value)} {oc_law_truths_right kV_law_truths_right dc_law_truths_right pm_law_truths_right cd_law_truths_right ct_law_truths_right : Value}
    {f_law : Addr} {od_law an_law : Option Addr} {sl_law : Array (Option Value)} {oc_law kV_law dc_law pm_law cd_law ct_law : Value}
    {a_VARIABLES : Addr} {od_VARIABLES : Option Addr} {sl_VARIABLES : Array (Option Value)} {nn_VARIABLES : Nat} {t_VARIABLES_0 t_VARIABLES_1 t_VARIABLES_2 t_VARIABLES_3 : Tok}
    {t_MOST_LETTERS : Tok}
    {t_LETTERS : Tok}
    {a_PLAIN : Addr} {od_PLAIN : Option Addr} {sl_PLAIN : Array (Option Value)} {nn_PLAIN : Nat} {t_PLAIN_0 t_PLAIN_1 t_PLAIN_2 : Tok}
    {a_FORMS : Addr}
    {es_FORMS : Array DictEntry}
    {nn_FORMS : Nat}
    {a_F0 : Addr}
    {od_F0 : Option Addr}
    {sl_F0 : Array (Option Value)}
    {nn_F0 : Nat}
    {t_F0_0 : Tok}
    {t_F0_1 : Tok}
    {a_F1 : Addr}
    {od_F1 : Option Addr}
    {sl_F1 : Array (Option Value)}
    {nn_F1 : Nat}
    {t_F1_0 : Tok}
    {t_F1_1 : Tok}
    {a_F2 : Addr}
    {od_F2 : Option Addr}
    {sl_F2 : Array (Option Value)}
    {nn_F2 : Nat}
    {t_F2_0 : Tok}
    {t_F2_1 : Tok}
    {a_F3 : Addr}
    {od_F3 : Option Addr}
    {sl_F3 : Array (Option Value)}
    {nn_F3 : Nat}
    {t_F3_0 : Tok}
    {t_F3_1 : Tok}
    {a_F4 : Addr}
    {od_F4 : Option Addr}
    {sl_F4 : Array (Option Value)}
    {nn_F4 : Nat}
    {t_F4_0 : Tok}
    {t_F4_1 : Tok}
    {t_F4_2 : Tok}
    {a_F5 : Addr}
    {od_F5 : Option Addr}
    {sl_F5 : Array (Option Value)}
    {nn_F5 : Nat}
    {t_F5_0 : Tok}
    {a_F6 : Addr}
    {od_F6 : Option Addr}
    {sl_F6 : Array (Option Value)}
    {nn_F6 : Nat}
    {t_F6_0 : Tok}
    {t_F6_1 : Tok}
    {a_F7 : Addr}
    {od_F7 : Option Addr}
    {sl_F7 : Array (Option Value)}
    {nn_F7 : Nat}
    (A_is_name : PySem.W.nsIn K mainGlobals "is_name" = some (some (.ref f_is_name)))
    (L_is_name : K.lookup f_is_name = some ⟨oc_is_name, od_is_name, .func (PySem.W.fnOf "is_name" "is_name" (defArgs s_is_name) (defBody s_is_name) (defScope s_is_name) .none kV_is_name dc_is_name pm_is_name an_is_name cd_is_name ct_is_name), sl_is_name⟩)
    (C_is_name : PySem.W.codeIn K cd_is_name "is_name" = true)
    (K_is_name : PySem.W.keepIn K (.ref f_is_name) = true)
    (A_is_integer : PySem.W.nsIn K mainGlobals "is_integer" = some (some (.ref f_is_integer)))
    (L_is_integer : K.lookup f_is_integer = some ⟨oc_is_integer, od_is_integer, .func (PySem.W.fnOf "is_integer" "is_integer" (defArgs s_is_integer) (defBody s_is_integer) (defScope s_is_integer) .none kV_is_integer dc_is_integer pm_is_integer an_is_integer cd_is_integer ct_is_integer), sl_is_integer⟩)
    (C_is_integer : PySem.W.codeIn K cd_is_integer "is_integer" = true)
    (K_is_integer : PySem.W.keepIn K (.ref f_is_integer) = true)
    (A_is_count : PySem.W.nsIn K mainGlobals "is_count" = some (some (.ref f_is_count)))
    (L_is_count : K.lookup f_is_count = some ⟨oc_is_count, od_is_count, .func (PySem.W.fnOf "is_count" "is_count" (defArgs s_is_count) (defBody s_is_count) (defScope s_is_count) .none kV_is_count dc_is_count pm_is_count an_is_count cd_is_count ct_is_count), sl_is_count⟩)
    (C_is_count : PySem.W.codeIn K cd_is_count "is_count" = true)
    (K_is_count : PySem.W.keepIn K (.ref f_is_count) = true)
    (A_is_variable : PySem.W.nsIn K mainGlobals "is_variable" = some (some (.ref f_is_variable)))
    (L_is_variable : K.lookup f_is_variable = some ⟨oc_is_variable, od_is_variable, .func (PySem.W.fnOf "is_variable" "is_variable" (defArgs s_is_variable) (defBody s_is_variable) (defScope s_is_variable) .none kV_is_variable dc_is_variable pm_is_variable an_is_variable cd_is_variable ct_is_variable), sl_is_variable⟩)
    (C_is_variable : PySem.W.codeIn K cd_is_variable "is_variable" = true)
    (K_is_variable : PySem.W.keepIn K (.ref f_is_variable) = true)
    (A_is_item : PySem.W.nsIn K mainGlobals "is_item" = some (some (.ref f_is_item)))
    (L_is_item : K.lookup f_is_item = some ⟨oc_is_item, od_is_item, .func (PySem.W.fnOf "is_item" "is_item" (defArgs s_is_item) (defBody s_is_item) (defScope s_is_item) .none kV_is_item dc_is_item pm_is_item an_is_item cd_is_item ct_is_item), sl_is_item⟩)
    (C_is_item : PySem.W.codeIn K cd_is_item "is_item" = true)
    (K_is_item : PySem.W.keepIn K (.ref f_is_item) = true)
    (A_is_step : PySem.W.nsIn K mainGlobals "is_step" = some (some (.ref f_is_step)))
    (L_is_step : K.lookup f_is_step = some ⟨oc_is_step, od_is_step, .func (PySem.W.fnOf "is_step" "is_step" (defArgs s_is_step) (defBody s_is_step) (defScope s_is_step) .none kV_is_step dc_is_step pm_is_step an_is_step cd_is_step ct_is_step), sl_is_step⟩)
    (C_is_step : PySem.W.codeIn K cd_is_step "is_step" = true)
    (K_is_step : PySem.W.keepIn K (.ref f_is_step) = true)
    (A_is_plain : PySem.W.nsIn K mainGlobals "is_plain" = some (some (.ref f_is_plain)))
    (L_is_plain : K.lookup f_is_plain = some ⟨oc_is_plain, od_is_plain, .func (PySem.W.fnOf "is_plain" "is_plain" (defArgs s_is_plain) (defBody s_is_plain) (defScope s_is_plain) .none kV_is_plain dc_is_plain pm_is_plain an_is_plain cd_is_plain ct_is_plain), sl_is_plain⟩)
    (C_is_plain : PySem.W.codeIn K cd_is_plain "is_plain" = true)
    (K_is_plain : PySem.W.keepIn K (.ref f_is_plain) = true)
    (A_law_pot : PySem.W.nsIn K mainGlobals "_law_pot" = some (some (.ref f_law_pot)))
    (L_law_pot : K.lookup f_law_pot = some ⟨oc_law_pot, od_law_pot, .func (PySem.W.fnOf "_law_pot" "_law_pot" (defArgs s_law_pot) (defBody s_law_pot) (defScope s_law_pot) .none kV_law_pot dc_law_pot pm_law_pot an_law_pot cd_law_pot ct_law_pot), sl_law_pot⟩)
    (C_law_pot : PySem.W.codeIn K cd_law_pot "_law_pot" = true)
    (K_law_pot : PySem.W.keepIn K (.ref f_law_pot) = true)
    (A_law_draw : PySem.W.nsIn K mainGlobals "_law_draw" = some (some (.ref f_law_draw)))
    (L_law_draw : K.lookup f_law_draw = some ⟨oc_law_draw, od_law_draw, .func (PySem.W.fnOf "_law_draw" "_law_draw" (defArgs s_law_draw) (defBody s_law_draw) (defScope s_law_draw) .none kV_law_draw dc_law_draw pm_law_draw an_law_draw cd_law_draw ct_law_draw), sl_law_draw⟩)
    (C_law_draw : PySem.W.codeIn K cd_law_draw "_law_draw" = true)
    (K_law_draw : PySem.W.keepIn K (.ref f_law_draw) = true)
    (A_law_choice : PySem.W.nsIn K mainGlobals "_law_choice" = some (some (.ref f_law_choice)))
    (L_law_choice : K.lookup f_law_choice = some ⟨oc_law_choice, od_law_choice, .func (PySem.W.fnOf "_law_choice" "_law_choice" (defArgs s_law_choice) (defBody s_law_choice) (defScope s_law_choice) .none kV_law_choice dc_law_choice pm_law_choice an_law_choice cd_law_choice ct_law_choice), sl_law_choice⟩)
    (C_law_choice : PySem.W.codeIn K cd_law_choice "_law_choice" = true)
    (K_law_choice : PySem.W.keepIn K (.ref f_law_choice) = true)
    (A_law_name : PySem.W.nsIn K mainGlobals "_law_name" = some (some (.ref f_law_name)))
    (L_law_name : K.lookup f_law_name = some ⟨oc_law_name, od_law_name, .func (PySem.W.fnOf "_law_name" "_law_name" (defArgs s_law_name) (defBody s_law_name) (defScope s_law_name) .none kV_law_name dc_law_name pm_law_name an_law_name cd_law_name ct_law_name), sl_law_name⟩)
    (C_law_name : PySem.W.codeIn K cd_law_name "_law_name" = true)
    (K_law_name : PySem.W.keepIn K (.ref f_law_name) = true)
    (A_law_names : PySem.W.nsIn K mainGlobals "_law_names" = some (some (.ref f_law_names)))
    (L_law_names : K.lookup f_law_names = some ⟨oc_law_names, od_law_names, .func (PySem.W.fnOf "_law_names" "_law_names" (defArgs s_law_names) (defBody s_law_names) (defScope s_law_names) .none kV_law_names dc_law_names pm_law_names an_law_names cd_law_names ct_law_names), sl_law_names⟩)
    (C_law_names : PySem.W.codeIn K cd_law_names "_law_names" = true)
    (K_law_names : PySem.W.keepIn K (.ref f_law_names) = true)
    (A_law_integer : PySem.W.nsIn K mainGlobals "_law_integer" = some (some (.ref f_law_integer)))
    (L_law_integer : K.lookup f_law_integer = some ⟨oc_law_integer, od_law_integer, .func (PySem.W.fnOf "_law_integer" "_law_integer" (defArgs s_law_integer) (defBody s_law_integer) (defScope s_law_integer) .none kV_law_integer dc_law_integer pm_law_integer an_law_integer cd_law_integer ct_law_integer), sl_law_integer⟩)
    (C_law_integer : PySem.W.codeIn K cd_law_integer "_law_integer" = true)
    (K_law_integer : PySem.W.keepIn K (.ref f_law_integer) = true)
    (A_law_step : PySem.W.nsIn K mainGlobals "_law_step" = some (some (.ref f_law_step)))
    (L_law_step : K.lookup f_law_step = some ⟨oc_law_step, od_law_step, .func (PySem.W.fnOf "_law_step" "_law_step" (defArgs s_law_step) (defBody s_law_step) (defScope s_law_step) .none kV_law_step dc_law_step pm_law_step an_law_step cd_law_step ct_law_step), sl_law_step⟩)
    (C_law_step : PySem.W.codeIn K cd_law_step "_law_step" = true)
    (K_law_step : PySem.W.keepIn K (.ref f_law_step) = true)
    (A_law_is_whole : PySem.W.nsIn K mainGlobals "_law_is_whole" = some (some (.ref f_law_is_whole)))
    (L_law_is_whole : K.lookup f_law_is_whole = some ⟨oc_law_is_whole, od_law_is_whole, .func (PySem.W.fnOf "_law_is_whole" "_law_is_whole" (defArgs s_law_is_whole) (defBody s_law_is_whole) (defScope s_law_is_whole) .none kV_law_is_whole dc_law_is_whole pm_law_is_whole an_law_is_whole cd_law_is_whole ct_law_is_whole), sl_law_is_whole⟩)
    (C_law_is_whole : PySem.W.codeIn K cd_law_is_whole "_law_is_whole" = true)
    (K_law_is_whole : PySem.W.keepIn K (.ref f_law_is_whole) = true)
    (A_law_is_word : PySem.W.nsIn K mainGlobals "_law_is_word" = some (some (.ref f_law_is_word)))
    (L_law_is_word : K.lookup f_law_is_word = some ⟨oc_law_is_word, od_law_is_word, .func (PySem.W.fnOf "_law_is_word" "_law_is_word" (defArgs s_law_is_word) (defBody s_law_is_word) (defScope s_law_is_word) .none kV_law_is_word dc_law_is_word pm_law_is_word an_law_is_word cd_law_is_word ct_law_is_word), sl_law_is_word⟩)
    (C_law_is_word : PySem.W.codeIn K cd_law_is_word "_law_is_word" = true)
    (K_law_is_word : PySem.W.keepIn K (.ref f_law_is_word) = true)
    (A_law_fits : PySem.W.nsIn K mainGlobals "_law_fits" = some (some (.ref f_law_fits)))
    (L_law_fits : K.lookup f_law_fits = some ⟨oc_law_fits, od_law_fits, .func (PySem.W.fnOf "_law_fits" "_law_fits" (defArgs s_law_fits) (defBody s_law_fits) (defScope s_law_fits) .none kV_law_fits dc_law_fits pm_law_fits an_law_fits cd_law_fits ct_law_fits), sl_law_fits⟩)
    (C_law_fits : PySem.W.codeIn K cd_law_fits "_law_fits" = true)
    (K_law_fits : PySem.W.keepIn K (.ref f_law_fits) = true)
    (A_law_is_right_step : PySem.W.nsIn K mainGlobals "_law_is_right_step" = some (some (.ref f_law_is_right_step)))
    (L_law_is_right_step : K.lookup f_law_is_right_step = some ⟨oc_law_is_right_step, od_law_is_right_step, .func (PySem.W.fnOf "_law_is_right_step" "_law_is_right_step" (defArgs s_law_is_right_step) (defBody s_law_is_right_step) (defScope s_law_is_right_step) .none kV_law_is_right_step dc_law_is_right_step pm_law_is_right_step an_law_is_right_step cd_law_is_right_step ct_law_is_right_step), sl_law_is_right_step⟩)
    (C_law_is_right_step : PySem.W.codeIn K cd_law_is_right_step "_law_is_right_step" = true)
    (K_law_is_right_step : PySem.W.keepIn K (.ref f_law_is_right_step) = true)
    (A_law_odd : PySem.W.nsIn K mainGlobals "_law_odd" = some (some (.ref f_law_odd)))
    (L_law_odd : K.lookup f_law_odd = some ⟨oc_law_odd, od_law_odd, .func (PySem.W.fnOf "_law_odd" "_law_odd" (defArgs s_law_odd) (defBody s_law_odd) (defScope s_law_odd) .none kV_law_odd dc_law_odd pm_law_odd an_law_odd cd_law_odd ct_law_odd), sl_law_odd⟩)
    (C_law_odd : PySem.W.codeIn K cd_law_odd "_law_odd" = true)
    (K_law_odd : PySem.W.keepIn K (.ref f_law_odd) = true)
    (A_law_changed : PySem.W.nsIn K mainGlobals "_law_changed" = some (some (.ref f_law_changed)))
    (L_law_changed : K.lookup f_law_changed = some ⟨oc_law_changed, od_law_changed, .func (PySem.W.fnOf "_law_changed" "_law_changed" (defArgs s_law_changed) (defBody s_law_changed) (defScope s_law_changed) .none kV_law_changed dc_law_changed pm_law_changed an_law_changed cd_law_changed ct_law_changed), sl_law_changed⟩)
    (C_law_changed : PySem.W.codeIn K cd_law_changed "_law_changed" = true)
    (K_law_changed : PySem.W.keepIn K (.ref f_law_changed) = true)
    (A_law_judged : PySem.W.nsIn K mainGlobals "_law_judged" = some (some (.ref f_law_judged)))
    (L_law_judged : K.lookup f_law_judged = some ⟨oc_law_judged, od_law_judged, .func (PySem.W.fnOf "_law_judged" "_law_judged" (defArgs s_law_judged) (defBody s_law_judged) (defScope s_law_judged) .none kV_law_judged dc_law_judged pm_law_judged an_law_judged cd_law_judged ct_law_judged), sl_law_judged⟩)
    (C_law_judged : PySem.W.codeIn K cd_law_judged "_law_judged" = true)
    (K_law_judged : PySem.W.keepIn K (.ref f_law_judged) = true)
    (A_law_right : PySem.W.nsIn K mainGlobals "_law_right" = some (some (.ref f_law_right)))
    (L_law_right : K.lookup f_law_right = some ⟨oc_law_right, od_law_right, .func (PySem.W.fnOf "_law_right" "_law_right" (defArgs s_law_right) (defBody s_law_right) (defScope s_law_right) .none kV_law_right dc_law_right pm_law_right an_law_right cd_law_right ct_law_right), sl_law_right⟩)
    (C_law_right : PySem.W.codeIn K cd_law_right "_law_right" = true)
    (K_law_right : PySem.W.keepIn K (.ref f_law_right) = true)
    (A_law_truths_right : PySem.W.nsIn K mainGlobals "_law_truths_right" = some (some (.ref f_law_truths_right)))
    (L_law_truths_right : K.lookup f_law_truths_right = some ⟨oc_law_truths_right, od_law_truths_right, .func (PySem.W.fnOf "_law_truths_right" "_law_truths_right" (defArgs s_law_truths_right) (defBody s_law_truths_right) (defScope s_law_truths_right) .none kV_law_truths_right dc_law_truths_right pm_law_truths_right an_law_truths_right cd_law_truths_right ct_law_truths_right), sl_law_truths_right⟩)
    (C_law_truths_right : PySem.W.codeIn K cd_law_truths_right "_law_truths_right" = true)
    (K_law_truths_right : PySem.W.keepIn K (.ref f_law_truths_right) = true)
    (A_law : PySem.W.nsIn K mainGlobals "law" = some (some (.ref f_law)))
    (L_law : K.lookup f_law = some ⟨oc_law, od_law, .func (PySem.W.fnOf "law" "law" (defArgs s_law) (defBody s_law) (defScope s_law) .none kV_law dc_law pm_law an_law cd_law ct_law), sl_law⟩)
    (C_law : PySem.W.codeIn K cd_law "law" = true)
    (K_law : PySem.W.keepIn K (.ref f_law) = true)
    (Z_abs : PySem.W.nsIn K mainGlobals "abs" = some none)
    (Z_all : PySem.W.nsIn K mainGlobals "all" = some none)
    (Z_bool : PySem.W.nsIn K mainGlobals "bool" = some none)
    (Z_divmod : PySem.W.nsIn K mainGlobals "divmod" = some none)
    (Z_int : PySem.W.nsIn K mainGlobals "int" = some none)
    (Z_isinstance : PySem.W.nsIn K mainGlobals "isinstance" = some none)
    (Z_len : PySem.W.nsIn K mainGlobals "len" = some none)
    (Z_list : PySem.W.nsIn K mainGlobals "list" = some none)
    (Z_max : PySem.W.nsIn K mainGlobals "max" = some none)
    (Z_min : PySem.W.nsIn K mainGlobals "min" = some none)
    (Z_range : PySem.W.nsIn K mainGlobals "range" = some none)
    (Z_repr : PySem.W.nsIn K mainGlobals "repr" = some none)
    (Z_str : PySem.W.nsIn K mainGlobals "str" = some none)
    (Z_tuple : PySem.W.nsIn K mainGlobals "tuple" = some none)
    (Z_zip : PySem.W.nsIn K mainGlobals "zip" = some none)
    (A_VARIABLES : PySem.W.nsIn K mainGlobals "VARIABLES" = some (some (.ref a_VARIABLES)))
    (L_VARIABLES : K.lookup a_VARIABLES = some ⟨.type "tuple", od_VARIABLES, .seq #[.str "a" t_VARIABLES_0, .str "b" t_VARIABLES_1, .str "c" t_VARIABLES_2, .str "d" t_VARIABLES_3] nn_VARIABLES, sl_VARIABLES⟩)
    (A_MOST_LETTERS : PySem.W.nsIn K mainGlobals "MOST_LETTERS" = some (some (.int 8 t_MOST_LETTERS)))
    (A_LETTERS : PySem.W.nsIn K mainGlobals "LETTERS" = some (some (.str "abcdefghijklmnopqrstuvwxyz" t_LETTERS)))
    (A_PLAIN : PySem.W.nsIn K mainGlobals "PLAIN" = some (some (.ref a_PLAIN)))
    (L_PLAIN : K.lookup a_PLAIN = some ⟨.type "tuple", od_PLAIN, .seq #[.str "set" t_PLAIN_0, .str "add" t_PLAIN_1, .str "skip" t_PLAIN_2] nn_PLAIN, sl_PLAIN⟩)
    (A_FORMS : PySem.W.nsIn K mainGlobals "FORMS" = some (some (.ref a_FORMS)))
    (L_FORMS : K.lookup a_FORMS = some ⟨.type "dict", none, .dict es_FORMS nn_FORMS, #[]⟩)
    (lo_FORMS : (a_FORMS == sysModules) = false)
    (KL_FORMS : PySem.W.KeysLit w.params es_FORMS.toList)
    (KP_FORMS : KP es_FORMS.toList [("set", a_F0), ("add", a_F1), ("skip", a_F2), ("export", a_F3), ("read", a_F4), ("need", a_F5), ("try", a_F6), ("fail", a_F7)])
    (L_F0 : K.lookup a_F0 = some ⟨.type "tuple", od_F0, .seq #[.str "variable" t_F0_0, .str "integer" t_F0_1] nn_F0, sl_F0⟩)
    (L_F1 : K.lookup a_F1 = some ⟨.type "tuple", od_F1, .seq #[.str "variable" t_F1_0, .str "variable" t_F1_1] nn_F1, sl_F1⟩)
    (L_F2 : K.lookup a_F2 = some ⟨.type "tuple", od_F2, .seq #[.str "variable" t_F2_0, .str "amount" t_F2_1] nn_F2, sl_F2⟩)
    (L_F3 : K.lookup a_F3 = some ⟨.type "tuple", od_F3, .seq #[.str "name" t_F3_0, .str "variable" t_F3_1] nn_F3, sl_F3⟩)
    (L_F4 : K.lookup a_F4 = some ⟨.type "tuple", od_F4, .seq #[.str "variable" t_F4_0, .str "module" t_F4_1, .str "name" t_F4_2] nn_F4, sl_F4⟩)
    (L_F5 : K.lookup a_F5 = some ⟨.type "tuple", od_F5, .seq #[.str "module" t_F5_0] nn_F5, sl_F5⟩)
    (L_F6 : K.lookup a_F6 = some ⟨.type "tuple", od_F6, .seq #[.str "module" t_F6_0, .str "variable" t_F6_1] nn_F6, sl_F6⟩)
    (L_F7 : K.lookup a_F7 = some ⟨.type "tuple", od_F7, .seq #[] nn_F7, sl_F7⟩) :
    ∃ fd : FuncData, (∀ (s : Shared) (v : Value), BindsTo s fd ⟨[v], []⟩ [("_law_script", v)]) ∧ ∀ base : Heap, K.In base → base.Ns mainGlobals mg → SysB base → FnG l.prog w K mg base CX0 7 fa fd ["_law_script"] (sp_law K w) := by
  have e := hfa.symm.trans (PySem.W.mg_of X G A_law)
  cases e
  have F_is_name := fun_mk (st := s_is_name) L_is_name C_is_name K_is_name
  have F_is_integer := fun_mk (st := s_is_integer) L_is_integer C_is_integer K_is_integer
  have F_is_count := fun_mk (st := s_is_count) L_is_count C_is_count K_is_count
  have F_is_variable := fun_mk (st := s_is_variable) L_is_variable C_is_variable K_is_variable
  have F_is_item := fun_mk (st := s_is_item) L_is_item C_is_item K_is_item
  have F_is_step := fun_mk (st := s_is_step) L_is_step C_is_step K_is_step
  have F_is_plain := fun_mk (st := s_is_plain) L_is_plain C_is_plain K_is_plain
  have F_law_pot := fun_mk (st := s_law_pot) L_law_pot C_law_pot K_law_pot
  have F_law_draw := fun_mk (st := s_law_draw) L_law_draw C_law_draw K_law_draw
  have F_law_choice := fun_mk (st := s_law_choice) L_law_choice C_law_choice K_law_choice
  have F_law_name := fun_mk (st := s_law_name) L_law_name C_law_name K_law_name
  have F_law_names := fun_mk (st := s_law_names) L_law_names C_law_names K_law_names
  have F_law_integer := fun_mk (st := s_law_integer) L_law_integer C_law_integer K_law_integer
  have F_law_step := fun_mk (st := s_law_step) L_law_step C_law_step K_law_step
  have F_law_is_whole := fun_mk (st := s_law_is_whole) L_law_is_whole C_law_is_whole K_law_is_whole
  have F_law_is_word := fun_mk (st := s_law_is_word) L_law_is_word C_law_is_word K_law_is_word
  have F_law_fits := fun_mk (st := s_law_fits) L_law_fits C_law_fits K_law_fits
  have F_law_is_right_step := fun_mk (st := s_law_is_right_step) L_law_is_right_step C_law_is_right_step K_law_is_right_step
  have F_law_odd := fun_mk (st := s_law_odd) L_law_odd C_law_odd K_law_odd
  have F_law_changed := fun_mk (st := s_law_changed) L_law_changed C_law_changed K_law_changed
  have F_law_judged := fun_mk (st := s_law_judged) L_law_judged C_law_judged K_law_judged
  have F_law_right := fun_mk (st := s_law_right) L_law_right C_law_right K_law_right
  have F_law_truths_right := fun_mk (st := s_law_truths_right) L_law_truths_right C_law_truths_right K_law_truths_right
  have F_law := fun_mk (st := s_law) L_law C_law K_law
  exact ⟨PySem.W.fnOf "law" "law" (defArgs s_law) (defBody s_law) (defScope s_law) .none kV_law dc_law pm_law an_law cd_law ct_law, fun s v => .of_eq rfl, fun base _ _ hS => ok_law (P := l.prog) (T := {
    f_is_name := f_is_name, d_is_name := _, F_is_name := F_is_name, m_is_name := PySem.W.mg_of X G A_is_name, b_is_name := F_is_name.binds (ps := ["value"]) (fun _ _ _ _ _ _ us hl => match us, hl with | [_], _ => rfl),
    f_is_integer := f_is_integer, d_is_integer := _, F_is_integer := F_is_integer, m_is_integer := PySem.W.mg_of X G A_is_integer, b_is_integer := F_is_integer.binds (ps := ["value"]) (fun _ _ _ _ _ _ us hl => match us, hl with | [_], _ => rfl),
    f_is_count := f_is_count, d_is_count := _, F_is_count := F_is_count, m_is_count := PySem.W.mg_of X G A_is_count, b_is_count := F_is_count.binds (ps := ["value"]) (fun _ _ _ _ _ _ us hl => match us, hl with | [_], _ => rfl),
    f_is_variable := f_is_variable, d_is_variable := _, F_is_variable := F_is_variable, m_is_variable := PySem.W.mg_of X G A_is_variable, b_is_variable := F_is_variable.binds (ps := ["value"]) (fun _ _ _ _ _ _ us hl => match us, hl with | [_], _ => rfl),
    f_is_item := f_is_item, d_is_item := _, F_is_item := F_is_item, m_is_item := PySem.W.mg_of X G A_is_item, b_is_item := F_is_item.binds (ps := ["kind", "value"]) (fun _ _ _ _ _ _ us hl => match us, hl with | [_, _], _ => rfl),
    f_is_step := f_is_step, d_is_step := _, F_is_step := F_is_step, m_is_step := PySem.W.mg_of X G A_is_step, b_is_step := F_is_step.binds (ps := ["value"]) (fun _ _ _ _ _ _ us hl => match us, hl with | [_], _ => rfl),
    f_is_plain := f_is_plain, d_is_plain := _, F_is_plain := F_is_plain, m_is_plain := PySem.W.mg_of X G A_is_plain, b_is_plain := F_is_plain.binds (ps := ["step"]) (fun _ _ _ _ _ _ us hl => match us, hl with | [_], _ => rfl),
    f_law_pot := f_law_pot, d_law_pot := _, F_law_pot := F_law_pot, m_law_pot := PySem.W.mg_of X G A_law_pot, b_law_pot := F_law_pot.binds (ps := ["_law_script", "_law_index"]) (fun _ _ _ _ _ _ us hl => match us, hl with | [_, _], _ => rfl),
    f_law_draw := f_law_draw, d_law_draw := _, F_law_draw := F_law_draw, m_law_draw := PySem.W.mg_of X G A_law_draw, b_law_draw := F_law_draw.binds (ps := ["_law_pot_here", "_law_most"]) (fun _ _ _ _ _ _ us hl => match us, hl with | [_, _], _ => rfl),
    f_law_choice := f_law_choice, d_law_choice := _, F_law_choice := F_law_choice, m_law_choice := PySem.W.mg_of X G A_law_choice, b_law_choice := F_law_choice.binds (ps := ["_law_pot_here", "_law_options"]) (fun _ _ _ _ _ _ us hl => match us, hl with | [_, _], _ => rfl),
    f_law_name := f_law_name, d_law_name := _, F_law_name := F_law_name, m_law_name := PySem.W.mg_of X G A_law_name, b_law_name := F_law_name.binds (ps := ["_law_pot_here", "_law_used"]) (fun _ _ _ _ _ _ us hl => match us, hl with | [_, _], _ => rfl),
    f_law_names := f_law_names, d_law_names := _, F_law_names := F_law_names, m_law_names := PySem.W.mg_of X G A_law_names, b_law_names := F_law_names.binds (ps := ["_law_pot_here", "_law_number"]) (fun _ _ _ _ _ _ us hl => match us, hl with | [_, _], _ => rfl),
    f_law_integer := f_law_integer, d_law_integer := _, F_law_integer := F_law_integer, m_law_integer := PySem.W.mg_of X G A_law_integer, b_law_integer := F_law_integer.binds (ps := ["_law_pot_here"]) (fun _ _ _ _ _ _ us hl => match us, hl with | [_], _ => rfl),
    f_law_step := f_law_step, d_law_step := _, F_law_step := F_law_step, m_law_step := PySem.W.mg_of X G A_law_step, b_law_step := F_law_step.binds (ps := ["_law_pot_here", "_law_modules", "_law_names_here", "_law_after"]) (fun _ _ _ _ _ _ us hl => match us, hl with | [_, _, _, _], _ => rfl),
    f_law_is_whole := f_law_is_whole, d_law_is_whole := _, F_law_is_whole := F_law_is_whole, m_law_is_whole := PySem.W.mg_of X G A_law_is_whole, b_law_is_whole := F_law_is_whole.binds (ps := ["_law_value"]) (fun _ _ _ _ _ _ us hl => match us, hl with | [_], _ => rfl),
    f_law_is_word := f_law_is_word, d_law_is_word := _, F_law_is_word := F_law_is_word, m_law_is_word := PySem.W.mg_of X G A_law_is_word, b_law_is_word := F_law_is_word.binds (ps := ["_law_value"]) (fun _ _ _ _ _ _ us hl => match us, hl with | [_], _ => rfl),
    f_law_fits := f_law_fits, d_law_fits := _, F_law_fits := F_law_fits, m_law_fits := PySem.W.mg_of X G A_law_fits, b_law_fits := F_law_fits.binds (ps := ["_law_sort", "_law_value"]) (fun _ _ _ _ _ _ us hl => match us, hl with | [_, _], _ => rfl),
    f_law_is_right_step := f_law_is_right_step, d_law_is_right_step := _, F_law_is_right_step := F_law_is_right_step, m_law_is_right_step := PySem.W.mg_of X G A_law_is_right_step, b_law_is_right_step := F_law_is_right_step.binds (ps := ["_law_value"]) (fun _ _ _ _ _ _ us hl => match us, hl with | [_], _ => rfl),
    f_law_odd := f_law_odd, d_law_odd := _, F_law_odd := F_law_odd, m_law_odd := PySem.W.mg_of X G A_law_odd, b_law_odd := F_law_odd.binds (ps := ["_law_pot_here"]) (fun _ _ _ _ _ _ us hl => match us, hl with | [_], _ => rfl),
    f_law_changed := f_law_changed, d_law_changed := _, F_law_changed := F_law_changed, m_law_changed := PySem.W.mg_of X G A_law_changed, b_law_changed := F_law_changed.binds (ps := ["_law_pot_here", "_law_step_here"]) (fun _ _ _ _ _ _ us hl => match us, hl with | [_, _], _ => rfl),
    f_law_judged := f_law_judged, d_law_judged := _, F_law_judged := F_law_judged, m_law_judged := PySem.W.mg_of X G A_law_judged, b_law_judged := F_law_judged.binds (ps := ["_law_value"]) (fun _ _ _ _ _ _ us hl => match us, hl with | [_], _ => rfl),
    f_law_right := f_law_right, d_law_right := _, F_law_right := F_law_right, m_law_right := PySem.W.mg_of X G A_law_right, b_law_right := F_law_right.binds (ps := ["_law_pot_here"]) (fun _ _ _ _ _ _ us hl => match us, hl with | [_], _ => rfl),
    f_law_truths_right := f_law_truths_right, d_law_truths_right := _, F_law_truths_right := F_law_truths_right, m_law_truths_right := PySem.W.mg_of X G A_law_truths_right, b_law_truths_right := F_law_truths_right.binds (ps := []) (fun _ _ _ _ _ _ us hl => match us, hl with | [], _ => rfl),
    f_law := fa, d_law := _, F_law := F_law, m_law := PySem.W.mg_of X G A_law, b_law := F_law.binds (ps := ["_law_script"]) (fun _ _ _ _ _ _ us hl => match us, hl with | [_], _ => rfl),
    n_abs := PySem.W.mg_none_of X G Z_abs,
    n_all := PySem.W.mg_none_of X G Z_all,
    n_bool := PySem.W.mg_none_of X G Z_bool,
    n_divmod := PySem.W.mg_none_of X G Z_divmod,
    n_int := PySem.W.mg_none_of X G Z_int,
    n_isinstance := PySem.W.mg_none_of X G Z_isinstance,
    n_len := PySem.W.mg_none_of X G Z_len,
    n_list := PySem.W.mg_none_of X G Z_list,
    n_max := PySem.W.mg_none_of X G Z_max,
    n_min := PySem.W.mg_none_of X G Z_min,
    n_range := PySem.W.mg_none_of X G Z_range,
    n_repr := PySem.W.mg_none_of X G Z_repr,
    n_str := PySem.W.mg_none_of X G Z_str,
    n_tuple := PySem.W.mg_none_of X G Z_tuple,
    n_zip := PySem.W.mg_none_of X G Z_zip,
    a_VARIABLES := a_VARIABLES, g_VARIABLES := PySem.W.mg_of X G A_VARIABLES, s_VARIABLES := tupK L_VARIABLES (Nat.le_of_ble_eq_true rfl) (.cons ⟨_, rfl⟩ (.cons ⟨_, rfl⟩ (.cons ⟨_, rfl⟩ (.cons ⟨_, rfl⟩ .nil)))),
    k_MOST_LETTERS := t_MOST_LETTERS, g_MOST_LETTERS := PySem.W.mg_of X G A_MOST_LETTERS,
    k_LETTERS := t_LETTERS, g_LETTERS := PySem.W.mg_of X G A_LETTERS,
    a_PLAIN := a_PLAIN, g_PLAIN := PySem.W.mg_of X G A_PLAIN, s_PLAIN := tupK L_PLAIN (Nat.le_of_ble_eq_true rfl) (.cons ⟨_, rfl⟩ (.cons ⟨_, rfl⟩ (.cons ⟨_, rfl⟩ .nil))),
    a_FORMS := a_FORMS, g_FORMS := PySem.W.mg_of X G A_FORMS, fo_FORMS := foL [("set", a_F0), ("add", a_F1), ("skip", a_F2), ("export", a_F3), ("read", a_F4), ("need", a_F5), ("try", a_F6), ("fail", a_F7)], kd_FORMS := kd_mk L_FORMS KL_FORMS lo_FORMS KP_FORMS, ks_FORMS := forms_ks (tupK L_F0 (Nat.le_of_ble_eq_true rfl) (.cons ⟨_, rfl⟩ (.cons ⟨_, rfl⟩ .nil))) (tupK L_F1 (Nat.le_of_ble_eq_true rfl) (.cons ⟨_, rfl⟩ (.cons ⟨_, rfl⟩ .nil))) (tupK L_F2 (Nat.le_of_ble_eq_true rfl) (.cons ⟨_, rfl⟩ (.cons ⟨_, rfl⟩ .nil))) (tupK L_F3 (Nat.le_of_ble_eq_true rfl) (.cons ⟨_, rfl⟩ (.cons ⟨_, rfl⟩ .nil))) (tupK L_F4 (Nat.le_of_ble_eq_true rfl) (.cons ⟨_, rfl⟩ (.cons ⟨_, rfl⟩ (.cons ⟨_, rfl⟩ .nil)))) (tupK L_F5 (Nat.le_of_ble_eq_true rfl) (.cons ⟨_, rfl⟩ .nil)) (tupK L_F6 (Nat.le_of_ble_eq_true rfl) (.cons ⟨_, rfl⟩ (.cons ⟨_, rfl⟩ .nil))) (tupK L_F7 (Nat.le_of_ble_eq_true rfl) .nil), kn_FORMS := forms_kn }) hS⟩
end My
open PySem PySem.W PyProof.Rows in
set_option maxRecDepth 100000 in
set_option maxHeartbeats 0 in
theorem PySem.Challenge.cw_cycleready_k11_words_and_steps_holds : PySem.Challenge.rw_cycleready_k11_words_and_steps.Holds := by
  w_on; o_law; k_head; (case hw => w_witness2)
  k_fill
  refine Z.walkG (l := PySem.Challenge.rw_cycleready_k11_words_and_steps) (n := 63) (k := 7) (x := "_law_script") (sp := My.sp_law) rfl (by decide) rfl ⟨rfl, by decide, by decide⟩ (by rfl) (fun w h Y => PySem.W.kIn_of Y) ?F (fun w H a ns h1 h2 => ⟨a, ns, rfl, h2, h1, fun _ => rfl⟩)
  case F =>
    intro w mg fa h KX G hmg
    refine' My.all_mk KX G hmg ?A_is_name ?L_is_name ?C_is_name ?K_is_name ?A_is_integer ?L_is_integer ?C_is_integer ?K_is_integer ?A_is_count ?L_is_count ?C_is_count ?K_is_count ?A_is_variable ?L_is_variable ?C_is_variable ?K_is_variable ?A_is_item ?L_is_item ?C_is_item ?K_is_item ?A_is_step ?L_is_step ?C_is_step ?K_is_step ?A_is_plain ?L_is_plain ?C_is_plain ?K_is_plain ?A_law_pot ?L_law_pot ?C_law_pot ?K_law_pot ?A_law_draw ?L_law_draw ?C_law_draw ?K_law_draw ?A_law_choice ?L_law_choice ?C_law_choice ?K_law_choice ?A_law_name ?L_law_name ?C_law_name ?K_law_name ?A_law_names ?L_law_names ?C_law_names ?K_law_names ?A_law_integer ?L_law_integer ?C_law_integer ?K_law_integer ?A_law_step ?L_law_step ?C_law_step ?K_law_step ?A_law_is_whole ?L_law_is_whole ?C_law_is_whole ?K_law_is_whole ?A_law_is_word ?L_law_is_word ?C_law_is_word ?K_law_is_word ?A_law_fits ?L_law_fits ?C_law_fits ?K_law_fits ?A_law_is_right_step ?L_law_is_right_step ?C_law_is_right_step ?K_law_is_right_step ?A_law_odd ?L_law_odd ?C_law_odd ?K_law_odd ?A_law_changed ?L_law_changed ?C_law_changed ?K_law_changed ?A_law_judged ?L_law_judged ?C_law_judged ?K_law_judged ?A_law_right ?L_law_right ?C_law_right ?K_law_right ?A_law_truths_right ?L_law_truths_right ?C_law_truths_right ?K_law_truths_right ?A_law ?L_law ?C_law ?K_law ?Z_abs ?Z_all ?Z_bool ?Z_divmod ?Z_int ?Z_isinstance ?Z_len ?Z_list ?Z_max ?Z_min ?Z_range ?Z_repr ?Z_str ?Z_tuple ?Z_zip ?A_VARIABLES ?L_VARIABLES ?A_MOST_LETTERS ?A_LETTERS ?A_PLAIN ?L_PLAIN ?A_FORMS ?L_FORMS ?lo_FORMS ?KL_FORMS ?KP_FORMS ?L_F0 ?L_F1 ?L_F2 ?L_F3 ?L_F4 ?L_F5 ?L_F6 ?L_F7
    (case A_is_name => k_is)
    (case L_is_name => k_is)
    (case C_is_name => k_is)
    (case K_is_name => k_is)
    (case A_is_integer => k_is)
    (case L_is_integer => k_is)
    (case C_is_integer => k_is)
    (case K_is_integer => k_is)
    (case A_is_count => k_is)
    (case L_is_count => k_is)
    (case C_is_count => k_is)
    (case K_is_count => k_is)
    (case A_is_variable => k_is)
    (case L_is_variable => k_is)
    (case C_is_variable => k_is)
    (case K_is_variable => k_is)
    (case A_is_item => k_is)
    (case L_is_item => k_is)
    (case C_is_item => k_is)
    (case K_is_item => k_is)
    (case A_is_step => k_is)
    (case L_is_step => k_is)
    (case C_is_step => k_is)
    (case K_is_step => k_is)
    (case A_is_plain => k_is)
    (case L_is_plain => k_is)
    (case C_is_plain => k_is)
    (case K_is_plain => k_is)
    (case A_law_pot => k_is)
    (case L_law_pot => k_is)
    (case C_law_pot => k_is)
    (case K_law_pot => k_is)
    (case A_law_draw => k_is)
    (case L_law_draw => k_is)
    (case C_law_draw => k_is)
    (case K_law_draw => k_is)
    (case A_law_choice => k_is)
    (case L_law_choice => k_is)
    (case C_law_choice => k_is)
    (case K_law_choice => k_is)
    (case A_law_name => k_is)
    (case L_law_name => k_is)
    (case C_law_name => k_is)
    (case K_law_name => k_is)
    (case A_law_names => k_is)
    (case L_law_names => k_is)
    (case C_law_names => k_is)
    (case K_law_names => k_is)
    (case A_law_integer => k_is)
    (case L_law_integer => k_is)
    (case C_law_integer => k_is)
    (case K_law_integer => k_is)
    (case A_law_step => k_is)
    (case L_law_step => k_is)
    (case C_law_step => k_is)
    (case K_law_step => k_is)
    (case A_law_is_whole => k_is)
    (case L_law_is_whole => k_is)
    (case C_law_is_whole => k_is)
    (case K_law_is_whole => k_is)
    (case A_law_is_word => k_is)
    (case L_law_is_word => k_is)
    (case C_law_is_word => k_is)
    (case K_law_is_word => k_is)
    (case A_law_fits => k_is)
    (case L_law_fits => k_is)
    (case C_law_fits => k_is)
    (case K_law_fits => k_is)
    (case A_law_is_right_step => k_is)
    (case L_law_is_right_step => k_is)
    (case C_law_is_right_step => k_is)
    (case K_law_is_right_step => k_is)
    (case A_law_odd => k_is)
    (case L_law_odd => k_is)
    (case C_law_odd => k_is)
    (case K_law_odd => k_is)
    (case A_law_changed => k_is)
    (case L_law_changed => k_is)
    (case C_law_changed => k_is)
    (case K_law_changed => k_is)
    (case A_law_judged => k_is)
    (case L_law_judged => k_is)
    (case C_law_judged => k_is)
    (case K_law_judged => k_is)
    (case A_law_right => k_is)
    (case L_law_right => k_is)
    (case C_law_right => k_is)
    (case K_law_right => k_is)
    (case A_law_truths_right => k_is)
    (case L_law_truths_right => k_is)
    (case C_law_truths_right => k_is)
    (case K_law_truths_right => k_is)
    (case A_law => k_is)
    (case L_law => k_is)
    (case C_law => k_is)
    (case K_law => k_is)
    (case Z_abs => k_is)
    (case Z_all => k_is)
    (case Z_bool => k_is)
    (case Z_divmod => k_is)
    (case Z_int => k_is)
    (case Z_isinstance => k_is)
    (case Z_len => k_is)
    (case Z_list => k_is)
    (case Z_max => k_is)
    (case Z_min => k_is)
    (case Z_range => k_is)
    (case Z_repr => k_is)
    (case Z_str => k_is)
    (case Z_tuple => k_is)
    (case Z_zip => k_is)
    (case A_VARIABLES => k_is)
    (case L_VARIABLES => k_is)
    (case A_MOST_LETTERS => k_is)
    (case A_LETTERS => k_is)
    (case A_PLAIN => k_is)
    (case L_PLAIN => k_is)
    (case A_FORMS => k_is)
    (case L_FORMS => k_is)
    (case lo_FORMS => rfl)
    (case KL_FORMS => exact ⟨⟨_, _, rfl, rfl⟩, ⟨_, _, rfl, rfl⟩, ⟨_, _, rfl, rfl⟩, ⟨_, _, rfl, rfl⟩, ⟨_, _, rfl, rfl⟩, ⟨_, _, rfl, rfl⟩, ⟨_, _, rfl, rfl⟩, ⟨_, _, rfl, rfl⟩, True.intro⟩)
    (case KP_FORMS => exact ⟨⟨_, rfl⟩, rfl, ⟨_, rfl⟩, rfl, ⟨_, rfl⟩, rfl, ⟨_, rfl⟩, rfl, ⟨_, rfl⟩, rfl, ⟨_, rfl⟩, rfl, ⟨_, rfl⟩, rfl, ⟨_, rfl⟩, rfl, True.intro⟩)
    (case L_F0 => k_is)
    (case L_F1 => k_is)
    (case L_F2 => k_is)
    (case L_F3 => k_is)
    (case L_F4 => k_is)
    (case L_F5 => k_is)
    (case L_F6 => k_is)
    (case L_F7 => k_is)
