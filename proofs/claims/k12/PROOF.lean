import PyProof.Rows.All
import Wide.All
import OpenK.AllK
import Wide.FinOn
import HandS.ForMost
import HandS.ForExc
import HandS.Codes
import HandS.WideBits
import HandS.Flow
import HandS.IsInst
import PyProof.ReprRoads
import PyProof.FitsInt
import PyProof.StrLawsRepr
import HandS.More
import HandS.Dict
import HandS.Text
import HandS.TupAny
import HandS.Wide
import HandS.DictTup
import HandS.EndBits
import HandS.Zip
import HandS.Iter
import PyProof.RulesMatch
import HandS.Style
import HandS.TupLe
import PyProof.Draws
import PyProof.ZipIter
import HandS.Zip0
import HandS.Ends
import HandS.ExcInit
import HandS.ExcIs
import HandS.FStr
import KE.KExcIs
import HandS.Defaults
import HandS.DictComp
import HandS.Small
import KE.KExcInit
import HandS.ExcValue
import PyProof.Rows.FactsExc_KeyError
import PyProof.Rows.SortShellAny
import HandS.SetTxt0
import HandS.SetBool
import PyProof.Rows.StrMeet
import PySem.Challenge.RW_cycleready_k12_programs_checked
set_option Elab.async false
set_option linter.all false
set_option maxRecDepth 100000
set_option maxHeartbeats 1600000
/-! Z: contracts of defs that are called where no repr is under way (the guards are told), and the rules that use them. -/
namespace Z
open PySem PySem.Spec PyProof.Rows L2

/-- a call: the arguments, then the promise -/
def tCl (sp : Sp) (E : XK) (t : TA) : TE := fun σ H Q => t σ H fun vs H1 => sp vs H1 Q E

structure FnG (P : Program) (w : World) (K : PySem.W.Frag) (mg : Str → Option Value) (base : Heap) (CX : CXT)
    (k : Nat) (f : Addr) (fd : FuncData) (ps : List Str) (sp : Sp) : Prop where
  len : ∀ vs H Q E, sp vs H Q E → vs.length = ps.length
  run : ∀ (A : Around) (outer : List Env) (s : Shared) (H : Hp) (args : Args) (us : List Value) (vs : List V) (Q : VK) (E : XK),
    A.guards = some [] → Room k A → Env0 P w K mg base A outer s H → BindsTo s fd args (ps.zip us) → Vals vs us →
    sp vs H Q E → codeAny (model P w) A (.call (.ref f) args) (CR CX outer P w H s Q E) s

theorem FnG.lift {P : Program} {w : World} {K : PySem.W.Frag} {mg : Str → Option Value} {base : Heap} {CX : CXT}
    {j k : Nat} {f : Addr} {fd : FuncData} {ps : List Str} {sp : Sp} (F : FnG P w K mg base CX j f fd ps sp) (h : j ≤ k) :
    FnG P w K mg base CX k f fd ps sp :=
  ⟨F.len, fun A outer s H args us vs Q E hg hr => F.run A outer s H args us vs Q E hg (hr.mono h)⟩

theorem FnG.weaker {P : Program} {w : World} {K : PySem.W.Frag} {mg : Str → Option Value} {base : Heap} {CX : CXT}
    {k : Nat} {f : Addr} {fd : FuncData} {ps : List Str} {sp sp' : Sp} (F : FnG P w K mg base CX k f fd ps sp)
    (h : ∀ vs H Q E, sp' vs H Q E → sp vs H Q E) : FnG P w K mg base CX k f fd ps sp' :=
  ⟨fun vs H Q E q => F.len _ _ _ _ (h _ _ _ _ q),
   fun A outer s H args us vs Q E hg hr e0 hb hv q => F.run A outer s H args us vs Q E hg hr e0 hb hv (h _ _ _ _ q)⟩

section
variable {X : Cx} {CX : CXT} {k : Nat} {f C : Addr} {fd : FuncData} {ps : List Str} {sp : Sp} {E : XK}
  {x m : Str} {p pos apos : Pos} {e o : Expr} {es : List Expr} {ta : TE} {t : TA}

theorem runG {pins : List (Addr × Obj)} {σ : L2.St} {H : Hp} {s : Shared} {Q : VK} {us : List Value} {vs : List V}
    (hG : X.A.guards = some []) (F : FnG X.prog X.w X.K X.mg X.base CX k f fd ps sp) (hr : Room k X.A)
    (hb : Binds X.K fd ps []) (hx : Passes CX X E) (I : Inv X pins σ H s) (r : Vals vs us) (h : sp vs H Q E) :
    wpAny (model X.prog X.w) X.A (call (.ref f) us) (EP X pins σ Q) X.xe s := by
  have hl : (us ++ []).length = ps.length := by
    rw [List.append_nil, ← r.length]
    exact F.len _ _ _ _ h
  have hb' := hb s us I.kIn hl
  rw [List.append_nil] at hb'
  have c := F.run X.A X.stack s H ⟨us, []⟩ us vs Q E hG hr I.env0 hb' r h
  refine wpAny_call (codeAny_mono c ?_)
  rintro (er | fl) s' hq
  · exact hx pins σ H s er s' I hq
  · cases fl with
    | ret u => exact I.after hq
    | next | brk | cont => exact hq.elim

theorem pe_callG (hG : X.A.guards = some []) (F : FnG X.prog X.w X.K X.mg X.base CX k f fd ps sp) (hr : Room k X.A)
    (hm : X.mg x = some (.ref f)) (hk : PySem.W.keepIn X.K (.ref f) = true) (hb : Binds X.K fd ps []) (hx : Passes CX X E)
    (ha : PA X (e :: es) t) (hg : Gl X x := by rfl) (hdb : (x == ("__debug__" : Str)) = false := by decide)
    (he : starEach (e :: es) X.env = (false, eval e X.env) :: starEach es X.env := by rfl)
    (hpl : (backTo pos (starEach es X.env)).any (·.1) = false := by rfl) :
    PE X (.Call (.Name x p) (e :: es) [] pos) (tCl sp E t) :=
  ⟨fun pins s σ H Q I h => wpAny_Call_Name_kw (ld_glob I hg hm (PySem.W.callWith_K (h₀ := X.base) I.ok.mod.kin hk
    (thn (ha.run pos pins s σ H _ I h) fun us s1 ⟨vs, H1, I1, r, q⟩ =>
      ⟨I1.kIn, runG hG F hr hb hx I1 r q⟩) he hpl) hdb)⟩

theorem pe_callG0 (hG : X.A.guards = some []) (F : FnG X.prog X.w X.K X.mg X.base CX k f fd ps sp) (hr : Room k X.A)
    (hm : X.mg x = some (.ref f)) (hk : PySem.W.keepIn X.K (.ref f) = true) (hb : Binds X.K fd ps []) (hx : Passes CX X E)
    (hg : Gl X x := by rfl) (hdb : (x == ("__debug__" : Str)) = false := by decide) :
    PE X (.Call (.Name x p) [] [] pos) (tCl sp E tNil) :=
  ⟨fun pins s σ H Q I h => wpAny_Call_Name_kw (ld_glob I hg hm
    (PySem.W.callWith_K0 I.kIn hk (runG (us := []) hG F hr hb hx I .nil h)) hdb)⟩

end

/-- a def's contract by its body, where the guards are told -/
theorem fn_ofG {CX : CXT} {P : Program} {w : World} {K : PySem.W.Frag} {mg : Str → Option Value} {base : Heap} {k : Nat} {f : Addr}
    {name qual : Str} {params : Arguments} {body : List Stmt} {scope : Scope} {dV kV doc pm cdv ct oc : Value} {an od : Option Addr}
    {osl : Array (Option Value)} {N ps : List Str} {sp : Sp}
    (lk : K.lookup f = some ⟨oc, od, .func (PySem.W.fnOf name qual params body scope dV kV doc pm an cdv ct), osl⟩)
    (hcd : PySem.W.codeIn K cdv qual = true) (S : FnScope N ps scope) (len : ∀ vs H Q E, sp vs H Q E → vs.length = ps.length)
    (hbody : ∀ (A : Around) (outer : List Env) (s : Shared) (H : Hp) (vs : List V) (Q : VK) (E : XK),
      (A.deeper (envOfC qual scope s.heap.objs.size f cdv)).guards = some [] →
      Room k (A.deeper (envOfC qual scope s.heap.objs.size f cdv)) → sp vs H Q E →
      ∃ t, PSs (cxOf CX P w K mg base N qual scope f cdv A outer s H E) body t ∧ t { nx := fun _ H' => Q .non H', rt := Q } (start N vs) H) :
    FnG P w K mg base CX (k + 1) f (PySem.W.fnOf name qual params body scope dV kV doc pm an cdv ct) ps sp := by
  constructor
  · exact len
  intro A outer s H args us vs Q E hg hr e0 hb r hsp
  have kept : ∀ b o, base.get? b = some o → s.heap.get? b = some o := fun b o e => (e0.bs b o e).1
  have KX := e0.mod.kin.keeps kept
  have hkind : ∀ y ∈ ps.zip us, scope.names.lookup y.1 = some .local ∨
      (scope.names.lookup y.1 = some .cell ∧ ((cellsFrom (s.heap.objs.size + 1) scope.names []).lookup y.1).isSome = true) := by
    intro y hy
    have hm : y.1 ∈ ps := (List.of_mem_zip (show (y.1, y.2) ∈ ps.zip us from hy)).1
    exact (S.par y.1 hm).imp id fun q => ⟨q, PySem.W.cellsFrom_some _ _ _ (.inl q)⟩
  apply codeAny_call_function hr.depth (KX _ _ lk) rfl S.co S.gen rfl (PySem.W.codeRec_of KX hcd) (hb _ _ _ _ ?_)
  apply wpAny_newFunctionEnv_cells S.kind hkind
  intro env he s1 x
  subst he
  refine ⟨(e0.mod.nolimit.keeps kept).keeps x.toInCall.keep, codeAny_func ?_⟩
  obtain ⟨t, ht, hq⟩ := hbody A outer s H vs Q E hg (hr.deeper _) hsp
  have I := inv_start (CX := CX) (E := E) (qual := qual) (f := f) (cd := cdv) S hr.hd e0 (len _ _ _ _ hsp) r x
  refine wpAny_mono (ht.run [] s1 (start N vs) H _ I hq) ?_ (fun _ _ z => z)
  intro fl s' hs
  match fl, hs with
  | .ret u, ⟨v, σ', H', J, rv, q⟩ => exact ⟨v, H', J.os, J.bare, J.base, J.hok, rv, q⟩
  | .next, ⟨σ', H', J, q⟩ => exact ⟨.non, H', J.os, J.bare, J.base, J.hok, rfl, q⟩
  | .brk, ⟨_, _, _, q⟩ => exact q.elim
  | .cont, ⟨_, _, _, q⟩ => exact q.elim

theorem okG {P : Program} {w : World} {K : PySem.W.Frag} {mg : Str → Option Value} {base : Heap}
    {x qual : Str} {st : Stmt} {f : Addr} {fd : FuncData} {N ps : List Str} {k : Nat} {sp : Sp}
    (F : Fun K x qual st f fd) (S : FnScope N ps (defScope st)) (len : ∀ vs H Q E, sp vs H Q E → vs.length = ps.length)
    (hbody : ∀ (cdv : Value) (A : Around) (outer : List Env) (s : Shared) (H : Hp) (vs : List V) (Q : VK) (E : XK),
      (A.deeper (envOfC qual (defScope st) s.heap.objs.size f cdv)).guards = some [] →
      Room k (A.deeper (envOfC qual (defScope st) s.heap.objs.size f cdv)) → sp vs H Q E →
      ∃ t, PSs (cxOf CX0 P w K mg base N qual (defScope st) f cdv A outer s H E).nox (defBody st) t ∧
        t { nx := fun _ H' => Q .non H', rt := Q } (start N vs) H) :
    FnG P w K mg base CX0 (k + 1) f fd ps sp := by
  obtain ⟨oc, od, kV, doc, pm, an, cdv, ct, osl, rfl, lk, hcd⟩ := F.ex
  refine fn_ofG lk hcd S len fun A outer s H vs Q E hg hr hsp => ?_
  obtain ⟨t, h, q⟩ := hbody cdv A outer s H vs Q E hg hr hsp
  exact ⟨t, h.nox, q⟩
end Z

/-! Z1: an object hidden while code runs that does not touch it. -/
namespace Z
open PySem PySem.Spec PyProof.Rows L2

theorem small_lt {n : Nat} (h : n ≤ 1000000) : n < sizeLine := Nat.lt_of_le_of_lt h (by decide)
theorem small_le {n : Nat} (h : n ≤ 1000000) : n ≤ sizeLine := Nat.le_of_lt (small_lt h)

def del (H : Hp) (D : Addr) : Hp := fun b => if b = D then none else H b
theorem del_same {H : Hp} {D : Addr} : del H D D = none := if_pos rfl
theorem del_ne {H : Hp} {D b : Addr} (h : b ≠ D) : del H D b = H b := if_neg h
theorem del_upd {H : Hp} {D : Addr} {o : HO} (h : H D = none) : del (upd H D o) D = H := by
  funext b
  by_cases e : b = D
  · rw [e, del_same, h]
  · rw [del_ne e, upd_ne e]
theorem upd_del {H : Hp} {D : Addr} {o : HO} (h : H D = some o) : upd (del H D) D o = H := by
  funext b
  by_cases e : b = D
  · rw [e, upd_same, h]
  · rw [upd_ne e, del_ne e]
theorem del_of {H : Hp} {D b : Addr} {o : HO} (h : del H D b = some o) : b ≠ D ∧ H b = some o := by
  by_cases e : b = D
  · rw [e, del_same] at h; cases h
  · exact ⟨e, by rw [del_ne e] at h; exact h⟩

/-- what may be hidden: it leans on its own object alone, and nothing else leans on it -/
def Hid : HO → Prop
  | .lst _ => True
  | .dK _ => True
  | _ => False

section
variable {X : Cx} {pins : List (Addr × Obj)} {σ : L2.St} {H : Hp} {s : Shared} {D : Addr} {o : HO}

theorem obj_at {P : Program} {w : World} {H H' : Hp} {h h' : Heap} {a : Addr} {o : HO} (hd : Hid o) (x : ObjOk P w H h a o)
    (e : ∀ u, h.get? a = some u → h'.get? a = some u) : ObjOk P w H' h' a o := by
  cases o with
  | lst xs => obtain ⟨z, its, n, r, q⟩ := x; exact ⟨z, its, n, r, e _ q⟩
  | dK kvs => obtain ⟨z, y, vs, r, ob, es, ep, q, c⟩ := x; exact ⟨z, y, vs, r, ob, es, ep, e _ q, c⟩
  | _ => exact hd.elim
theorem obj_no_cell {P : Program} {w : World} {H : Hp} {h : Heap} {a : Addr} {o : HO} (x : ObjOk P w H h a o) (hd : Hid o) : ∃ u, h.get? a = some u ∧ ∀ v, u.data ≠ .cell v := by
  cases o with
  | lst xs => obtain ⟨z, its, n, r, q⟩ := x; exact ⟨_, q, fun v => by intro c; cases c⟩
  | dK kvs => obtain ⟨z, y, vs, r, ob, es, ep, q, _, c, _⟩ := x; exact ⟨_, q, fun v => by rw [c]; intro c; cases c⟩
  | _ => exact hd.elim

theorem stay_del {P : Program} {w : World} {h : Heap} (ok : HOk P w H h) (e : H D = some o) (hd : Hid o) : HOk P w (del H D) h := by
  intro a u q
  obtain ⟨ne, q⟩ := del_of q
  refine (ok a u q).stay (fun _ _ _ z => z) (fun b z => ?_) (fun b xs z => ?_)
  · rw [del_ne]
    · exact z
    · rintro rfl; rw [z] at e; cases e; exact hd
  · rw [del_ne]
    · exact z
    · rintro rfl; rw [z] at e; cases e; exact hd

theorem hide (I : Inv X pins σ H s) (e : H D = some o) (hd : Hid o) :
    ∃ ob, Inv X ((D, ob) :: pins) σ (del H D) s ∧
      ∀ σ' H' s', Inv X ((D, ob) :: pins) σ' H' s' → H' D = none ∧ Inv X pins σ' (upd H' D o) s' := by
  have notin : D ∉ X.fs := fun z => by
    obtain ⟨_, u, hu, _⟩ := I.ok.funs.mem z
    have := I.base.free D u hu (I.ok.frf D z) fun y => I.ok.exfs D y z
    rw [e] at this; cases this
  have neL : D ≠ X.env.locals := fun z => by have := I.free; rw [← z, e] at this; cases this
  have neC : ∀ x c, X.env.cells.lookup x = some c → c ≠ D := fun x c h z => by have := I.freeC x c h; rw [z, e] at this; cases this
  have neP : ∀ p ∈ X.pn ++ pins, p.1 ≠ D := fun p hp z => by have := (I.pin p hp).2.1; rw [z, e] at this; cases this
  obtain ⟨ob, hob, hc⟩ := obj_no_cell (I.hok D o e) hd
  have dn : ∀ {b}, H b = none → del H D b = none := fun {b} h => by
    by_cases q : b = D
    · rw [q, del_same]
    · rw [del_ne q]; exact h
  have db : ∀ {b u}, H b = some u → (match u with | .tup _ => True | .frz _ _ => True | .tbl _ => True | _ => False) → del H D b = some u := fun {b u} h k => by
    rw [del_ne]
    · exact h
    · rintro rfl; rw [h] at e; cases e; cases o <;> first | exact hd.elim | exact k.elim
  refine ⟨ob, ⟨I.ok, I.os, I.bare, ⟨I.base.keep, I.base.slot, fun b u q n x => dn (I.base.free b u q n x), I.base.there, fun b xs q => db (I.base.tups b xs q) trivial,
      fun b u v q => db (I.base.frzs b u v q) trivial, fun b ps q => ?_⟩, I.loc, I.cell, dn I.free, fun x c h => dn (I.freeC x c h), fun p hp => ?_, stay_del I.hok e hd, I.len⟩, fun σ' H' s' J => ?_⟩
  · obtain ⟨m, z⟩ := I.base.tbls b ps q
    exact ⟨m, db z trivial⟩
  · rcases List.mem_append.mp hp with hp | hp
    · obtain ⟨a, b, c⟩ := I.pin p (List.mem_append_left _ hp)
      exact ⟨a, dn b, c⟩
    · rcases List.mem_cons.mp hp with rfl | hp
      · exact ⟨hob, del_same, neL, notin, hc⟩
      · obtain ⟨a, b, c⟩ := I.pin p (List.mem_append_right _ hp)
        exact ⟨a, dn b, c⟩
  · obtain ⟨hD, hn, _⟩ := J.pin (D, ob) (List.mem_append_right _ List.mem_cons_self)
    have hD : s'.heap.get? D = some ob := hD
    have hn : H' D = none := hn
    have keepU : ∀ {b u}, H' b = some u → upd H' D o b = some u := fun {b u} h => by rw [upd_ne (ne_of_none h hn)]; exact h
    have un : ∀ {b}, b ≠ D → H' b = none → upd H' D o b = none := fun {b} h k => by rw [upd_ne h]; exact k
    refine ⟨hn, J.ok, J.os, J.bare, ⟨J.base.keep, J.base.slot, fun b u q n x => ?_, J.base.there, fun b xs q => keepU (J.base.tups b xs q), fun b u v q => keepU (J.base.frzs b u v q), fun b ps q => ?_⟩,
      J.loc, J.cell, un (Ne.symm neL) J.free, fun x c h => un (neC x c h) (J.freeC x c h), fun p hp => ?_, fun a u q => ?_, J.len⟩
    · refine un ?_ (J.base.free b u q n x)
      rintro rfl
      have := I.base.free b u q n x
      rw [e] at this; cases this
    · obtain ⟨m, z⟩ := J.base.tbls b ps q
      exact ⟨m, keepU z⟩
    · have hp' : p ∈ X.pn ++ (D, ob) :: pins := by
        rcases List.mem_append.mp hp with z | z
        · exact List.mem_append_left _ z
        · exact List.mem_append_right _ (List.mem_cons_of_mem _ z)
      obtain ⟨a, b, c⟩ := J.pin p hp'
      exact ⟨a, un (neP p hp) b, c⟩
    · by_cases h : a = D
      · subst h
        rw [upd_same] at q; cases q
        refine obj_at hd (I.hok a o e) fun v hv => ?_
        rw [hob] at hv; cases hv; exact hD
      · rw [upd_ne h] at q
        exact (J.hok a u q).stay (fun _ _ _ z => z) (fun b z => keepU z) fun b xs z => keepU z

/-- the reading while a list (or dict) is hidden -/
def tFr (te : TE) : TE := fun σ H Q => ∃ D o, H D = some o ∧ Hid o ∧ te σ (del H D) fun v H' => H' D = none → Q v (upd H' D o)
def tFrT (te : TT) : TT := fun σ H Q => ∃ D o, H D = some o ∧ Hid o ∧ te σ (del H D) fun v H' => H' D = none → Q v (upd H' D o)
theorem pe_fr {e : Expr} {te : TE} (h : PE X e te) : PE X e (tFr te) := by
  constructor
  intro pins s σ H Q I q
  obtain ⟨D, o, e1, hd, q⟩ := q
  obtain ⟨ob, J, back⟩ := hide I e1 hd
  refine thn (h.run _ s σ _ _ J q) ?_
  rintro u s' ⟨v, H', J', r, k⟩
  obtain ⟨n, I'⟩ := back _ _ _ J'
  exact ⟨v, _, I', r, k n⟩
theorem pt_fr {e : Expr} {te : TT} (h : PT X e te) : PT X e (tFrT te) := by
  constructor
  intro pins s σ H Q I q
  obtain ⟨D, o, e1, hd, q⟩ := q
  obtain ⟨ob, J, back⟩ := hide I e1 hd
  refine thn (h.run _ s σ _ _ J q) ?_
  rintro u s' ⟨H', J', k⟩
  obtain ⟨n, I'⟩ := back _ _ _ J'
  exact ⟨_, I', k n⟩
theorem PE.imp {e : Expr} {t t' : TE} (h : PE X e t) (k : ∀ σ H Q, t' σ H Q → t σ H Q) : PE X e t' :=
  ⟨fun pins s σ H Q I q => h.run pins s σ H Q I (k _ _ _ q)⟩
theorem PS.imp {e : Stmt} {t t' : TS} (h : PS X e t) (k : ∀ D σ H, t' D σ H → t D σ H) : PS X e t' :=
  ⟨fun pins s σ H Q I q => h.run pins s σ H Q I (k _ _ _ q)⟩
theorem PSs.imp {e : List Stmt} {t t' : TS} (h : PSs X e t) (k : ∀ D σ H, t' D σ H → t D σ H) : PSs X e t' :=
  ⟨fun pins s σ H Q I q => h.run pins s σ H Q I (k _ _ _ q)⟩
end

/-! ### comprehensions: the list stands behind the turns -/
section
variable {te : TE} {tt : TT} {σ : L2.St} {H1 : Hp} {Q : VK} {j : Nat}
theorem wipe_one (σ : L2.St) (j : Nat) (x : Option V) : wipe ((wipe σ [j]).set j x) [j] = wipe σ [j] := by
  show ((σ.set j none).set j x).set j none = σ.set j none
  rw [List.set_set, List.set_set]
/-- one turn with x at the comprehension's name -/
def Turn (tt : TT) (te : TE) (σ : L2.St) (j : Nat) (x : V) (acc : List V) (G : Hp) (N : List V → Hp → Prop) : Prop :=
  ∀ R : Bool → Hp → Prop, (∀ b G3, (if b = true then ∀ R2 : VK, (∀ y G4, N (acc ++ [y]) G4 → R2 y G4) → te (σ.set j (some x)) G3 R2 else N acc G3) → R b G3) →
    tt (σ.set j (some x)) G R
theorem turn_yes {te : TE} {σ : L2.St} {j : Nat} {x : V} {acc : List V} {G : Hp} {N : List V → Hp → Prop}
    (h : ∀ R2 : VK, (∀ y G4, N (acc ++ [y]) G4 → R2 y G4) → te (σ.set j (some x)) G R2) : Turn tYes te σ j x acc G N := by
  intro R hR
  refine hR true G ?_
  rw [if_pos rfl]
  exact h
theorem turn_core {D : Addr} {G : Hp} {acc : List V} {x : V} {N : List V → Hp → Prop} {Nx : Hp → Prop} (hD : G D = none) (hl : acc.length < sizeLine)
    (h : Turn tt te σ j x acc G N) (k : ∀ acc' G', N acc' G' → acc'.length ≤ acc.length + 1 → G' D = none → Nx (upd G' D (.lst acc'))) :
    gName j x (wipe σ [j]) (upd G D (.lst acc)) fun σ2 H2 => wipe σ2 [j] = wipe σ [j] ∧ tFrT tt σ2 H2 fun b H3 =>
      if b = true then tFr te σ2 H3 fun y H4 => ∃ acc, H4 D = some (.lst acc) ∧ acc.length < sizeLine ∧ Nx (upd H4 D (.lst (acc ++ [y]))) else Nx H3 := by
  refine ⟨wipe_one _ _ _, D, _, upd_same, trivial, ?_⟩
  rw [del_upd hD]
  have e : (wipe σ [j]).set j (some x) = σ.set j (some x) := by
    show (σ.set j none).set j (some x) = _
    rw [List.set_set]
  rw [e]
  refine h _ ?_
  intro b G3 hb n3
  cases b with
  | false =>
    rw [if_neg Bool.false_ne_true] at hb ⊢
    exact k _ _ hb (Nat.le_succ _) n3
  | true =>
    rw [if_pos rfl] at hb ⊢
    refine ⟨D, _, upd_same, trivial, ?_⟩
    rw [del_upd n3]
    refine hb _ ?_
    intro y G4 hN n4
    refine ⟨acc, upd_same, hl, ?_⟩
    rw [upd_upd]
    exact k _ _ hN (by rw [List.length_append]; exact Nat.le_refl _) n4
theorem lcF_range {lo : Int} {n : Nat} (Pv : Nat → List V → Hp → Prop) (h0 : Pv 0 [] H1) (hn : n ≤ 1000000)
    (hs : ∀ i acc H, i < n → acc.length ≤ i → Pv i acc H → Turn tt te σ j (.int (lo + i)) acc H (Pv (i + 1)))
    (hd : ∀ acc H D, acc.length ≤ n → Pv n acc H → H D = none → Q (.ref D) (upd H D (.lst acc))) :
    ∀ D, H1 D = none → ∃ W : Nat → Nat → Hp → Prop, (∃ m, W 0 m (upd H1 D (.lst []))) ∧ ∀ i m H, W i m H →
      ((Itr lo n).stop i H ∧ Q (.ref D) H) ∨ ((Itr lo n).go i H ∧ ∃ Nx : Hp → Prop, (∀ H', Nx H' → ∃ m', m' < m ∧ W (i + 1) m' H') ∧
        ∀ x H', (Itr lo n).yld i H x H' → gName j x (wipe σ [j]) H' fun σ2 H2 => wipe σ2 [j] = wipe σ [j] ∧ tFrT tt σ2 H2 fun b H3 =>
          if b = true then tFr te σ2 H3 fun y H4 => ∃ acc, H4 D = some (.lst acc) ∧ acc.length < sizeLine ∧ Nx (upd H4 D (.lst (acc ++ [y]))) else Nx H3) := by
  intro D hD
  refine lc_range (fun i H => ∃ acc G, H = upd G D (.lst acc) ∧ G D = none ∧ acc.length ≤ i ∧ Pv i acc G) ⟨[], H1, rfl, hD, Nat.le_refl _, h0⟩ ?_ ?_
  · rintro i H hi ⟨acc, G, rfl, hG, hl, p⟩
    exact turn_core hG (small_lt (by omega)) (hs i acc G hi hl p) fun acc' G' p' hl' hD' => ⟨acc', G', rfl, hD', by omega, p'⟩
  · rintro H ⟨acc, G, rfl, hG, hl, p⟩
    exact hd acc G D hl p hG
theorem lcF_list {K : PySem.W.Frag} {a : Addr} {xs : List V} (Pv : Nat → List V → Hp → Prop) (h0 : Pv 0 [] H1) (hn : xs.length ≤ 1000000)
    (hl : ∀ i acc H, Pv i acc H → SqL K H a xs)
    (hs : ∀ i x acc H, xs[i]? = some x → acc.length ≤ i → Pv i acc H → Turn tt te σ j x acc H (Pv (i + 1)))
    (hd : ∀ acc H D, acc.length ≤ xs.length → Pv xs.length acc H → H D = none → Q (.ref D) (upd H D (.lst acc))) :
    ∀ D, H1 D = none → ∃ W : Nat → Nat → Hp → Prop, (∃ m, W 0 m (upd H1 D (.lst []))) ∧ ∀ i m H, W i m H →
      ((Itl K a).stop i H ∧ Q (.ref D) H) ∨ ((Itl K a).go i H ∧ ∃ Nx : Hp → Prop, (∀ H', Nx H' → ∃ m', m' < m ∧ W (i + 1) m' H') ∧
        ∀ x H', (Itl K a).yld i H x H' → gName j x (wipe σ [j]) H' fun σ2 H2 => wipe σ2 [j] = wipe σ [j] ∧ tFrT tt σ2 H2 fun b H3 =>
          if b = true then tFr te σ2 H3 fun y H4 => ∃ acc, H4 D = some (.lst acc) ∧ acc.length < sizeLine ∧ Nx (upd H4 D (.lst (acc ++ [y]))) else Nx H3) := by
  intro D hD
  refine lc_list (K := K) (a := a) (xs := xs) (fun i H => ∃ acc G, H = upd G D (.lst acc) ∧ G D = none ∧ acc.length ≤ i ∧ Pv i acc G) ⟨[], H1, rfl, hD, Nat.le_refl _, h0⟩ ?_ ?_ ?_
  · rintro i H hi ⟨acc, G, rfl, hG, hl', p⟩
    exact Same.seq (fun b o e => by rw [upd_ne (ne_of_none e hG)]; exact e) (hl i acc G p)
  · rintro i x H hi ⟨acc, G, rfl, hG, hl', p⟩
    have hlt : i < xs.length := (List.getElem?_eq_some_iff.mp hi).1
    exact turn_core hG (small_lt (by omega)) (hs i x acc G hi hl' p) fun acc' G' p' hl' hD' => ⟨acc', G', rfl, hD', by omega, p'⟩
  · rintro H ⟨acc, G, rfl, hG, hl, p⟩
    exact hd acc G D hl p hG
theorem lcF_tup {K : PySem.W.Frag} {a : Addr} {xs : List V} (Pv : Nat → List V → Hp → Prop) (h0 : Pv 0 [] H1) (hn : xs.length ≤ 1000000)
    (hl : ∀ i acc H, Pv i acc H → SqT K H a xs)
    (hs : ∀ i x acc H, xs[i]? = some x → acc.length ≤ i → Pv i acc H → Turn tt te σ j x acc H (Pv (i + 1)))
    (hd : ∀ acc H D, acc.length ≤ xs.length → Pv xs.length acc H → H D = none → Q (.ref D) (upd H D (.lst acc))) :
    ∀ D, H1 D = none → ∃ W : Nat → Nat → Hp → Prop, (∃ m, W 0 m (upd H1 D (.lst []))) ∧ ∀ i m H, W i m H →
      ((Itt K a).stop i H ∧ Q (.ref D) H) ∨ ((Itt K a).go i H ∧ ∃ Nx : Hp → Prop, (∀ H', Nx H' → ∃ m', m' < m ∧ W (i + 1) m' H') ∧
        ∀ x H', (Itt K a).yld i H x H' → gName j x (wipe σ [j]) H' fun σ2 H2 => wipe σ2 [j] = wipe σ [j] ∧ tFrT tt σ2 H2 fun b H3 =>
          if b = true then tFr te σ2 H3 fun y H4 => ∃ acc, H4 D = some (.lst acc) ∧ acc.length < sizeLine ∧ Nx (upd H4 D (.lst (acc ++ [y]))) else Nx H3) := by
  intro D hD
  have lift : ∀ {acc : List V} {G : Hp}, G D = none → SqT K G a xs → SqT K (upd G D (.lst acc)) a xs := fun {acc G} hG h => by
    rcases h with (h | ⟨o, h⟩) | h
    · exact .inl (.inl (by rw [upd_ne (ne_of_none h hG)]; exact h))
    · exact .inl (.inr ⟨o, by rw [upd_ne (ne_of_none h hG)]; exact h⟩)
    · exact .inr h
  refine lc_tup (K := K) (a := a) (xs := xs) (fun i H => ∃ acc G, H = upd G D (.lst acc) ∧ G D = none ∧ acc.length ≤ i ∧ Pv i acc G) ⟨[], H1, rfl, hD, Nat.le_refl _, h0⟩ ?_ ?_ ?_
  · rintro i H hi ⟨acc, G, rfl, hG, hl', p⟩
    exact lift hG (hl i acc G p)
  · rintro i x H hi ⟨acc, G, rfl, hG, hl', p⟩
    have hlt : i < xs.length := (List.getElem?_eq_some_iff.mp hi).1
    exact turn_core hG (small_lt (by omega)) (hs i x acc G hi hl' p) fun acc' G' p' hl' hD' => ⟨acc', G', rfl, hD', by omega, p'⟩
  · rintro H ⟨acc, G, rfl, hG, hl, p⟩
    exact hd acc G D hl p hG
end
end Z

/-! Z2: a tracked list told by an invariant alone, and back. -/
namespace Z
open PySem PySem.Spec PyProof.Rows L2
section
variable {X : Cx} {pins : List (Addr × Obj)} {σ : L2.St} {H : Hp} {s : Shared} {a : Addr} {o o' : HO}
def Sft : HO → Prop
  | .lst _ => True
  | .ext _ => True
  | _ => False
/-- the same object, described otherwise -/
theorem retell (I : Inv X pins σ H s) (e : H a = some o) (h1 : Sft o) (h2 : Sft o') (ok : ObjOk X.prog X.w (upd H a o') s.heap a o') : Inv X pins σ (upd H a o') s := by
  have un : ∀ {b}, H b = none → upd H a o' b = none := fun {b} h => by
    have : b ≠ a := fun z => by rw [z, e] at h; cases h
    rw [upd_ne this]; exact h
  have up : ∀ {b u}, H b = some u → (match u with | .tup _ => True | .frz _ _ => True | .tbl _ => True | .own _ => True | _ => False) → upd H a o' b = some u := fun {b u} h k => by
    rw [upd_ne]
    · exact h
    · rintro rfl; rw [h] at e; cases e; cases o <;> first | exact h1.elim | exact k.elim
  refine ⟨I.ok, I.os, I.bare, ⟨I.base.keep, I.base.slot, fun b u q n x => un (I.base.free b u q n x), I.base.there, fun b xs q => up (I.base.tups b xs q) trivial,
    fun b u v q => up (I.base.frzs b u v q) trivial, fun b ps q => ?_⟩, I.loc, I.cell, un I.free, fun x c h => un (I.freeC x c h), fun p hp => ?_, fun b u q => ?_, I.len⟩
  · obtain ⟨m, z⟩ := I.base.tbls b ps q
    exact ⟨m, up z trivial⟩
  · obtain ⟨a1, a2, a3⟩ := I.pin p hp
    exact ⟨a1, un a2, a3⟩
  · by_cases h : b = a
    · subst h
      rw [upd_same] at q; cases q; exact ok
    · rw [upd_ne h] at q
      exact (I.hok b u q).stay (fun _ _ _ z => z) (fun c z => up z trivial) fun c xs z => up z trivial
end

/-- what the two cells of a pot are -/
def PotOk (i j : Int) : Prop := 0 ≤ i ∧ 0 ≤ j ∧ j < 2147483588
def potPhi (a : Addr) : Heap → Prop := fun h => ∃ i j t u n, PotOk i j ∧ h.get? a = some { cls := .type "list", data := .seq #[.int i t, .int j u] n }
def pot (a : Addr) : HO := .ext (potPhi a)
theorem upd_self {H : Hp} {a : Addr} {o : HO} (h : H a = some o) : upd H a o = H := by
  funext b
  by_cases e : b = a
  · rw [e, upd_same, h]
  · rw [upd_ne e]
section
variable {X : Cx} {pins : List (Addr × Obj)} {σ : L2.St} {H : Hp} {s : Shared} {a : Addr}
theorem pot_open (I : Inv X pins σ H s) (e : H a = some (pot a)) : ∃ i j, PotOk i j ∧ Inv X pins σ (upd H a (.lst [.int i, .int j])) s := by
  obtain ⟨⟨i, j, t, u, n, ok, g⟩, _, _⟩ := I.hok a _ e
  exact ⟨i, j, ok, retell I e trivial trivial ⟨small_le (by show 2 ≤ 1000000; decide), [.int i t, .int j u], n, .cons ⟨t, rfl⟩ (.cons ⟨u, rfl⟩ .nil), g⟩⟩
theorem pot_close (I : Inv X pins σ H s) {i j : Int} (ok : PotOk i j) (e : H a = some (.lst [.int i, .int j])) : Inv X pins σ (upd H a (pot a)) s := by
  obtain ⟨_, its, n, r, g⟩ := I.hok a _ e
  obtain ⟨u1, u2, rfl, ⟨t, rfl⟩, ⟨u, rfl⟩⟩ := vals2 r
  refine retell I e trivial trivial ⟨⟨i, j, t, u, n, ok, g⟩, ⟨_, g⟩, ?_⟩
  rintro h1 h2 ⟨i, j, t, u, n, ok, g⟩ k
  exact ⟨i, j, t, u, n, ok, k _ g⟩
end
/-- a body that works at the pot at a -/
def tPot (t : TS) : TS := fun D σ H => ∃ a, H a = some (pot a) ∧ ∀ i j, PotOk i j → t
  { nx := fun σ' H' => ∃ i j, PotOk i j ∧ H' a = some (.lst [.int i, .int j]) ∧ D.nx σ' (upd H' a (pot a)),
    rt := fun v H' => ∃ i j, PotOk i j ∧ H' a = some (.lst [.int i, .int j]) ∧ D.rt v (upd H' a (pot a)) } σ (upd H a (.lst [.int i, .int j]))
theorem pss_pot {X : Cx} {b : List Stmt} {t : TS} (h : PSs X b t) : PSs X b (tPot t) := by
  constructor
  intro pins s σ H D I q
  obtain ⟨a, e, q⟩ := q
  obtain ⟨i, j, ok, J⟩ := pot_open I e
  refine thn (h.run pins s σ _ _ J (q i j ok)) ?_
  intro fl s' hs
  match fl, hs with
  | .ret u, ⟨v, σ', H', J', r, i, j, ok, e', k⟩ => exact ⟨v, σ', _, pot_close J' ok e', r, k⟩
  | .next, ⟨σ', H', J', i, j, ok, e', k⟩ => exact ⟨σ', _, pot_close J' ok e', k⟩
  | .brk, ⟨_, _, _, k⟩ => exact k.elim
  | .cont, ⟨_, _, _, k⟩ => exact k.elim
/-- a body that hands back a new pot -/
def tPotRet (t : TS) : TS := fun D σ H => t
  { nx := fun _ _ => False,
    rt := fun v H' => ∃ a i j, v = .ref a ∧ PotOk i j ∧ H' a = some (.lst [.int i, .int j]) ∧ D.rt (.ref a) (upd H' a (pot a)) } σ H
theorem pss_potRet {X : Cx} {b : List Stmt} {t : TS} (h : PSs X b t) : PSs X b (tPotRet t) := by
  constructor
  intro pins s σ H D I q
  refine thn (h.run pins s σ _ _ I q) ?_
  intro fl s' hs
  match fl, hs with
  | .ret u, ⟨v, σ', H', J', r, a, i, j, e0, ok, e', k⟩ => exact ⟨.ref a, σ', _, pot_close J' ok e', by rw [← e0]; exact r, k⟩
  | .next, ⟨σ', H', J', k⟩ => exact k.elim
  | .brk, ⟨_, _, _, k⟩ => exact k.elim
  | .cont, ⟨_, _, _, k⟩ => exact k.elim
end Z

/-! Z3: values as data; repr of data. -/
namespace Z
open PySem PySem.Spec PyProof.Rows L2

def keyD : Key → PyData
  | .inl i => .int i
  | .inr x => .str x
mutual
/-- the value v stands for the data d -/
inductive Rp (K : PySem.W.Frag) (H : Hp) : V → PyData → Prop
  | non : Rp K H .non .none
  | bl (b : Bool) : Rp K H (.bl b) (.bool b)
  | int (i : Int) : Rp K H (.int i) (.int i)
  | str (x : Str) : Rp K H (.str x) (.str x)
  | lst {a : Addr} {xs : List V} {ds : List PyData} : H a = some (.lst xs) → RpAll K H xs ds → Rp K H (.ref a) (.list ds)
  | tup {a : Addr} {xs : List V} {ds : List PyData} : SqT K H a xs → RpAll K H xs ds → Rp K H (.ref a) (.tuple ds)
  | dct {a : Addr} {kvs : List (Key × V)} {ds : List (PyData × PyData)} : H a = some (.dK kvs) → RpKv K H kvs ds → Rp K H (.ref a) (.dict ds)
inductive RpAll (K : PySem.W.Frag) (H : Hp) : List V → List PyData → Prop
  | nil : RpAll K H [] []
  | cons {v : V} {vs : List V} {d : PyData} {ds : List PyData} : Rp K H v d → RpAll K H vs ds → RpAll K H (v :: vs) (d :: ds)
inductive RpKv (K : PySem.W.Frag) (H : Hp) : List (Key × V) → List (PyData × PyData) → Prop
  | nil : RpKv K H [] []
  | cons {k : Key} {v : V} {r : List (Key × V)} {d : PyData} {ds : List (PyData × PyData)} : Rp K H v d → RpKv K H r ds → RpKv K H ((k, v) :: r) ((keyD k, d) :: ds)
end

theorem Same.seqT {K : PySem.W.Frag} {H H' : Hp} {a : Addr} {xs : List V} (e : Same H H') (h : SqT K H a xs) : SqT K H' a xs := by
  rcases h with (h | ⟨o, h⟩) | h
  · exact .inl (.inl (e _ _ h))
  · exact .inl (.inr ⟨o, e _ _ h⟩)
  · exact .inr h
theorem Same.new {H : Hp} {p : Addr} {o : HO} (h : H p = none) : Same H (upd H p o) := fun b u e => by
  rw [upd_ne (ne_of_none e h)]
  exact e
mutual
theorem Rp.mono {K : PySem.W.Frag} {H H' : Hp} (e : Same H H') : ∀ {v : V} {d : PyData}, Rp K H v d → Rp K H' v d
  | _, _, .non => .non
  | _, _, .bl b => .bl b
  | _, _, .int i => .int i
  | _, _, .str x => .str x
  | _, _, .lst h r => .lst (e _ _ h) (RpAll.mono e r)
  | _, _, .tup h r => .tup (Same.seqT e h) (RpAll.mono e r)
  | _, _, .dct h r => .dct (e _ _ h) (RpKv.mono e r)
theorem RpAll.mono {K : PySem.W.Frag} {H H' : Hp} (e : Same H H') : ∀ {v : List V} {d : List PyData}, RpAll K H v d → RpAll K H' v d
  | _, _, .nil => .nil
  | _, _, .cons h r => .cons (Rp.mono e h) (RpAll.mono e r)
theorem RpKv.mono {K : PySem.W.Frag} {H H' : Hp} (e : Same H H') : ∀ {v : List (Key × V)} {d : List (PyData × PyData)}, RpKv K H v d → RpKv K H' v d
  | _, _, .nil => .nil
  | _, _, .cons h r => .cons (Rp.mono e h) (RpKv.mono e r)
end
theorem RpAll.len {K : PySem.W.Frag} {H : Hp} : ∀ {vs : List V} {ds : List PyData}, RpAll K H vs ds → vs.length = ds.length
  | _, _, .nil => rfl
  | _, _, .cons _ r => by rw [List.length_cons, List.length_cons, r.len]
theorem RpAll.at {K : PySem.W.Frag} {H : Hp} : ∀ {vs : List V} {ds : List PyData} {i : Nat} {v : V}, RpAll K H vs ds → vs[i]? = some v → ∃ d, ds[i]? = some d ∧ Rp K H v d
  | _, _, i, v, .nil, e => by simp at e
  | _, _, 0, v, .cons h _, e => ⟨_, rfl, by simp at e; subst e; exact h⟩
  | _, _, i + 1, v, .cons _ r, e => by
    obtain ⟨d, a, b⟩ := r.at (i := i) (v := v) (by simpa using e)
    exact ⟨d, by simpa using a, b⟩
theorem RpAll.set {K : PySem.W.Frag} {H : Hp} {v : V} {d : PyData} (h : Rp K H v d) : ∀ {vs : List V} {ds : List PyData} (i : Nat), RpAll K H vs ds → RpAll K H (vs.set i v) (ds.set i d)
  | _, _, _, .nil => .nil
  | _, _, 0, .cons _ r => .cons h r
  | _, _, i + 1, .cons a r => .cons a (RpAll.set h i r)
theorem RpAll.app {K : PySem.W.Frag} {H : Hp} : ∀ {vs ws : List V} {ds es : List PyData}, RpAll K H vs ds → RpAll K H ws es → RpAll K H (vs ++ ws) (ds ++ es)
  | _, _, _, _, .nil, s => s
  | _, _, _, _, .cons a r, s => .cons a (r.app s)
theorem RpAll.take {K : PySem.W.Frag} {H : Hp} : ∀ {vs : List V} {ds : List PyData} (n : Nat), RpAll K H vs ds → RpAll K H (vs.take n) (ds.take n)
  | _, _, 0, _ => .nil
  | _, _, _ + 1, .nil => .nil
  | _, _, n + 1, .cons a r => .cons a (RpAll.take n r)
theorem RpAll.drop {K : PySem.W.Frag} {H : Hp} : ∀ {vs : List V} {ds : List PyData} (n : Nat), RpAll K H vs ds → RpAll K H (vs.drop n) (ds.drop n)
  | _, _, 0, r => r
  | _, _, _ + 1, .nil => .nil
  | _, _, n + 1, .cons _ r => RpAll.drop n r
theorem RpAll.erase {K : PySem.W.Frag} {H : Hp} : ∀ {vs : List V} {ds : List PyData} (n : Nat), RpAll K H vs ds → RpAll K H (vs.eraseIdx n) (ds.eraseIdx n)
  | _, _, _, .nil => .nil
  | _, _, 0, .cons _ r => r
  | _, _, n + 1, .cons a r => .cons a (RpAll.erase n r)

/-- the module's dict of modules stands in the base -/
def SysB (base : Heap) : Prop := ∃ o es n, base.get? sysModules = some o ∧ o.data = .dict es n
section
variable {X : Cx} {pins : List (Addr × Obj)} {σ : L2.St} {H : Hp} {s : Shared}
theorem rd_ne (I : Inv X pins σ H s) (hS : SysB X.base) {a : Addr} {u : HO} (h : Rd H a u) : sysModules ≠ a := by
  obtain ⟨o, es, n, e, _⟩ := hS
  rintro rfl
  have := (I.bs _ _ e).2
  rcases h with h | ⟨o, h⟩ <;> (rw [this] at h; cases h)
mutual
theorem Rp.reads (I : Inv X pins σ H s) (hS : SysB X.base) : ∀ {v : V} {d : PyData} {u : Value}, Rp X.K H v d → RelV v u → ∃ as, Reads s.heap u d as ∧ sysModules ∉ as
  | _, _, _, .non, r => by cases r; exact ⟨[], .none, by simp⟩
  | _, _, _, .bl b, r => by cases r; exact ⟨[], .bool b, by simp⟩
  | _, _, _, .int i, r => by obtain ⟨t, rfl⟩ := r; exact ⟨[], .int i t, by simp⟩
  | _, _, _, .str x, r => by obtain ⟨t, rfl⟩ := r; exact ⟨[], .str x t, by simp⟩
  | _, _, _, .lst (a := a) h q, r => by
    cases r
    obtain ⟨_, its, n, rv, g⟩ := I.hok a _ h
    obtain ⟨as, ra, ne⟩ := RpAll.reads I hS q rv
    refine ⟨a :: as, .list g rfl rfl (by simpa using ra), fun z => ?_⟩
    rcases List.mem_cons.mp z with z | z
    · exact rd_ne I hS (.inl h) z
    · exact ne z
  | _, _, _, .tup (a := a) h q, r => by
    cases r
    rcases h with h | ⟨o, its, n, hk, hc, hdata, hz, rv⟩
    · obtain ⟨_, its, rv, o, g, hc, n, hd⟩ := h.ok I.hok
      obtain ⟨as, ra, ne⟩ := RpAll.reads I hS q rv
      exact ⟨as, .tuple g hc hd (by simpa using ra), ne⟩
    · obtain ⟨as, ra, ne⟩ := RpAll.reads I hS q rv
      exact ⟨as, .tuple (I.kIn _ _ hk) hc hdata ra, ne⟩
  | _, _, _, .dct (a := a) h q, r => by
    cases r
    obtain ⟨_, _, vs, kv, ob, es, ep, g, hx, hd, _, hp, _⟩ := I.hok a _ h
    obtain ⟨as, bs, r1, r2, n1, n2⟩ := RpKv.reads I hS q kv hp
    refine ⟨a :: as ++ bs, .dict g hx.1 hd r1 r2, fun z => ?_⟩
    rcases List.mem_append.mp z with z | z
    · rcases List.mem_cons.mp z with z | z
      · exact rd_ne I hS (.inl h) z
      · exact n1 z
    · exact n2 z
theorem RpAll.reads (I : Inv X pins σ H s) (hS : SysB X.base) : ∀ {vs : List V} {ds : List PyData} {us : List Value}, RpAll X.K H vs ds → Vals vs us → ∃ as, ReadsAll s.heap us ds as ∧ sysModules ∉ as
  | _, _, _, .nil, .nil => ⟨[], .nil, by simp⟩
  | _, _, _, .cons h q, .cons r rs => by
    obtain ⟨as, r1, n1⟩ := Rp.reads I hS h r
    obtain ⟨bs, r2, n2⟩ := RpAll.reads I hS q rs
    exact ⟨as ++ bs, .cons r1 r2, fun z => (List.mem_append.mp z).elim n1 n2⟩
theorem RpKv.reads (I : Inv X pins σ H s) (hS : SysB X.base) : ∀ {kvs : List (Key × V)} {ds : List (PyData × PyData)} {vs : List (Key × Value)} {es : List DictEntry}, RpKv X.K H kvs ds → KV kvs vs →
    Pairs (mixKind X.prog X.w) es vs →
    ∃ as bs, ReadsAll s.heap (es.map (·.key)) (ds.map (·.1)) as ∧ ReadsAll s.heap (es.map (·.val)) (ds.map (·.2)) bs ∧ sysModules ∉ as ∧ sysModules ∉ bs
  | _, _, _, _, .nil, .nil, .nil => ⟨[], [], .nil, .nil, by simp, by simp⟩
  | _, _, _, _, .cons (k := k) h q, .cons r rs, .cons (e := e) hk hv hp => by
    obtain ⟨as, r1, n1⟩ := Rp.reads I hS h r.2
    obtain ⟨bs, cs, r2, r3, n2, n3⟩ := RpKv.reads I hS q rs hp
    have hk' : keyIs k e.key = true := by have e2 : k = _ := r.1; rw [e2]; exact hk
    have kr : Reads s.heap e.key (keyD k) [] := by
      rcases keyIs_shape hk' with ⟨i, t, rfl, e1⟩ | ⟨x, t, rfl, e1⟩
      · rw [e1]; exact .int i t
      · rw [e1]; exact .str x t
    refine ⟨[] ++ bs, as ++ cs, .cons kr r2, .cons (by show Reads s.heap e.val _ as; rw [hv]; exact r1) r3, by simpa using n2, fun z => (List.mem_append.mp z).elim n1 n3⟩
end
/-- repr(x), x any data -/
def rRepr (K : PySem.W.Frag) : List V → Hp → VK → Prop := fun xs H Q => ∃ x d, xs = [x] ∧ Rp K H x d ∧ d.showable = true ∧ d.shown.length ≤ sizeLine ∧ d.depth ≤ 40 ∧ Q (.str d.shown) H
theorem call_repr {k : Nat} (hG : X.A.guards = some []) (hr : Room k X.A) (hS : SysB X.base) : CallR X (.builtin "repr") (rRepr X.K) := by
  intro pins s σ H xs us Q I r h
  obtain ⟨x, d, rfl, hd, sh, sz, dp, q⟩ := h
  obtain ⟨u, rfl, rx⟩ := vals1 r
  obtain ⟨as, ra, ns⟩ := hd.reads I hS rx
  have hu := hr.units
  have fin : ∀ (h' : Heap) (t : Tok) (tk : Nat), (∀ b o, s.heap.get? b = some o → h'.get? b = some o) → EP X pins σ Q (.str d.shown t) { s with heap := h', toks := tk } :=
    fun h' t tk k => ⟨.str d.shown, H, I.kept k, ⟨t, rfl⟩, q⟩
  cases hd with
  | non => cases rx; exact PySem.P.repr_of_none (fin s.heap _ _ fun _ _ e => e)
  | bl b => cases rx; exact PySem.P.repr_of_bool (fin s.heap _ _ fun _ _ e => e)
  | int i => obtain ⟨t, rfl⟩ := rx; exact PySem.P.repr_of_int (of_decide_eq_true sh) (fin s.heap _ _ fun _ _ e => e)
  | str z => obtain ⟨t, rfl⟩ := rx; exact PySem.P.repr_of_str (fin s.heap _ _ fun _ _ e => e) sz
  | lst _ _ => cases rx; exact repr_of_reads' ra sh (fun _ => ns) hG (by omega) (fun _ _ e => e) (fun h' t tk k => fin h' t tk k) sz
  | tup _ _ => cases rx; exact repr_of_reads' ra sh (fun _ => ns) hG (by omega) (fun _ _ e => e) (fun h' t tk k => fin h' t tk k) sz
  | dct _ _ => cases rx; exact repr_of_reads' ra sh (fun _ => ns) hG (by omega) (fun _ _ e => e) (fun h' t tk k => fin h' t tk k) sz
end

/-! ### small data -/
/-- what is shown is short, nothing is deep -/
structure Sm (k n : Nat) (d : PyData) : Prop where
  sh : d.showable = true
  ln : d.shown.length ≤ n
  dp : d.depth ≤ k
theorem Sm.mono {k n k' n' : Nat} {d : PyData} (s : Sm k n d) (h1 : k ≤ k') (h2 : n ≤ n') : Sm k' n' d := ⟨s.sh, Nat.le_trans s.ln h2, Nat.le_trans s.dp h1⟩
theorem Sm.none : Sm 0 4 .none := ⟨rfl, by decide +kernel, Nat.le_refl _⟩
theorem Sm.bool (b : Bool) : Sm 0 5 (.bool b) := ⟨rfl, by cases b <;> decide +kernel, Nat.le_refl _⟩
theorem Sm.int {i : Int} (h : i.natAbs < 10 ^ 60) : Sm 0 61 (.int i) := by
  refine ⟨decide_eq_true ?_, ?_, Nat.le_refl _⟩
  · by_cases z : i.natAbs = 0
    · rw [z]; decide
    · exact (Nat.log2_lt z).mpr (Nat.lt_of_lt_of_le h (by decide +kernel))
  · have e := PySem.int_text_length_le10 (k := 60) (by decide) h
    show (Str.ofString (toString i)).length ≤ 61
    rw [PySem.ofString_length]
    exact e
theorem Sm.str {x : Str} {m : Nat} (h : x.length ≤ m) (hc : ∀ c ∈ x.cps.toList, c < 16 ^ 8) : Sm 0 (10 * m + 2) (.str x) :=
  ⟨rfl, Nat.le_trans (StrLaws.reprText_len x hc) (by omega), Nat.le_refl _⟩
theorem textFrom_le : ∀ (ts : List Str) (k : Nat) (acc : Str), (textFrom k acc ts).length ≤ acc.length + piled ts
  | [], k, acc => by show acc.length ≤ _; omega
  | t :: ts, k, acc => by
    show (textFrom (k + 1) _ ts).length ≤ _
    refine Nat.le_trans (textFrom_le ts (k + 1) _) ?_
    rw [strLen_append, strLen_append, piled_cons]
    split <;> (first | (have : (Str.ofString ", ").length = 2 := by decide +kernel) | skip) <;> (have : (Str.ofString "").length = 0 := by decide +kernel) <;> omega
theorem listText_le (ts : List Str) : (listText ts).length ≤ piled ts + 2 := by
  show (textFrom 0 "[" ts ++ ("]" : Str)).length ≤ _
  rw [strLen_append]
  have h1 := textFrom_le ts 0 "["
  have h2 : (Str.ofString "[").length = 1 := by decide +kernel
  have h3 : (Str.ofString "]").length = 1 := by decide +kernel
  omega
theorem tupleText_le (ts : List Str) : (tupleText ts).length ≤ piled ts + 3 := by
  unfold tupleText
  rw [strLen_append, strLen_append]
  have h2 : (Str.ofString "(").length = 1 := by decide +kernel
  have h3 : (Str.ofString (if ts.length == 1 then ",)" else ")" : String)).length ≤ 2 := by split <;> decide +kernel
  by_cases e : ts = []
  · subst e
    have : (Str.join ", " ([] : List Str)).length = 0 := by decide +kernel
    omega
  · have := join_length_add ts e
    omega
theorem dictText_le (ts : List Str) : (dictText ts).length ≤ piled ts + 2 := by
  unfold dictText
  rw [strLen_append, strLen_append]
  have h2 : (Str.ofString "{").length = 1 := by decide +kernel
  have h3 : (Str.ofString "}").length = 1 := by decide +kernel
  by_cases e : ts = []
  · subst e
    have : (Str.join ", " ([] : List Str)).length = 0 := by decide +kernel
    omega
  · have := join_length_add ts e
    omega
theorem sm_all {k n : Nat} : ∀ {ds : List PyData}, (∀ d ∈ ds, Sm k n d) → PyData.showableAll ds = true ∧ piled (PyData.shownAll ds) ≤ ds.length * (n + 2) ∧ PyData.depthAll ds ≤ k
  | [], _ => ⟨rfl, Nat.zero_le _, Nat.zero_le _⟩
  | d :: ds, h => by
    obtain ⟨a, b, c⟩ := sm_all (fun x hx => h x (List.mem_cons_of_mem _ hx))
    obtain ⟨a', b', c'⟩ := h d List.mem_cons_self
    refine ⟨by show (d.showable && PyData.showableAll ds) = true; rw [a, a'] <;> rfl, ?_, ?_⟩
    · show piled (d.shown :: PyData.shownAll ds) ≤ (ds.length + 1) * (n + 2)
      rw [piled_cons, Nat.succ_mul]
      omega
    · show max d.depth (PyData.depthAll ds) ≤ k
      omega
theorem Sm.list {k n m : Nat} {ds : List PyData} (h : ∀ d ∈ ds, Sm k n d) (hl : ds.length ≤ m) : Sm (k + 1) (m * (n + 2) + 2) (.list ds) := by
  obtain ⟨a, b, c⟩ := sm_all h
  refine ⟨a, Nat.le_trans (listText_le _) ?_, Nat.succ_le_succ c⟩
  have := Nat.mul_le_mul_right (n + 2) hl
  omega
theorem Sm.tuple {k n m : Nat} {ds : List PyData} (h : ∀ d ∈ ds, Sm k n d) (hl : ds.length ≤ m) : Sm (k + 1) (m * (n + 2) + 3) (.tuple ds) := by
  obtain ⟨a, b, c⟩ := sm_all h
  refine ⟨a, Nat.le_trans (tupleText_le _) ?_, Nat.succ_le_succ c⟩
  have := Nat.mul_le_mul_right (n + 2) hl
  omega
end Z

/-! Z4: readings taken apart, one head at a time. -/
namespace Z
open PySem PySem.Spec PyProof.Rows L2

theorem szok {n : Nat} (h : Nat.ble n 1000000 = true) : n ≤ sizeLine := small_le (Nat.le_of_ble_eq_true h)
theorem szlt {n : Nat} (h : n ≤ 100000) : n < sizeLine := small_lt (Nat.le_trans h (by decide))

section
variable {σ : L2.St} {H : Hp} {Q : VK} {v x y : V} {te ta tb : TE} {tt tu : TT} {tA : TA} {i : Nat} {o : Option V}
/-! values -/
theorem g_var0 (k : Q v H) : tVar 0 (some v :: σ) H Q := ⟨v, rfl, k⟩
theorem g_varS (k : tVar i σ H Q) : tVar (i + 1) (o :: σ) H Q := by
  obtain ⟨v, e, q⟩ := k
  exact ⟨v, by rw [List.getElem?_cons_succ]; exact e, q⟩
theorem g_c (k : Q v H) : tC v σ H Q := k
theorem g_op {r : R2} (k : ta σ H fun x H1 => tb σ H1 fun y H2 => r x y H2 Q) : tOp r ta tb σ H Q := k
theorem g_un {r : V → Hp → VK → Prop} (k : ta σ H fun x H1 => r x H1 Q) : tUn r ta σ H Q := k
theorem g_cl {sp : Sp} {E : XK} (k : tA σ H fun vs H1 => sp vs H1 Q E) : tCl sp E tA σ H Q := k
theorem g_cb {r : List V → Hp → VK → Prop} (k : tA σ H fun vs H1 => r vs H1 Q) : tCB r tA σ H Q := k
theorem g_nil {R : List V → Hp → Prop} (k : R [] H) : tNil σ H R := k
theorem g_cons {R : List V → Hp → Prop} (k : ta σ H fun x H1 => tA σ H1 fun xs H2 => R (x :: xs) H2) : tCons ta tA σ H R := k
def NewO (o : HO) (H : Hp) (Q : VK) : Prop := ∀ p H2, H p = none → L2.Same H H2 → H2 p = some o → H2 = upd H p o → Q (.ref p) H2
theorem newO {o : HO} (k : NewO o H Q) : ∀ p, H p = none → Q (.ref p) (upd H p o) := fun p hp => k p _ hp (Same.new hp) upd_same rfl
def NewL (xs : List V) (H : Hp) (Q : VK) : Prop := xs.length ≤ sizeLine ∧ NewO (.lst xs) H Q
def NewT (xs : List V) (H : Hp) (Q : VK) : Prop := xs.length ≤ sizeLine ∧ NewO (.tup xs) H Q
theorem newL {xs : List V} (k : NewL xs H Q) : xs.length ≤ sizeLine ∧ ∀ p, H p = none → Q (.ref p) (upd H p (.lst xs)) := ⟨k.1, newO k.2⟩
theorem newT {xs : List V} (k : NewT xs H Q) : xs.length ≤ sizeLine ∧ ∀ p, H p = none → Q (.ref p) (upd H p (.tup xs)) := ⟨k.1, newO k.2⟩
/-- a new list, a new tuple (the heap behind it a name, with what is known) -/
def tLs (tA : TA) : TE := fun σ H Q => tA σ H fun xs H1 => NewL xs H1 Q
def tTp (tA : TA) : TE := fun σ H Q => tA σ H fun xs H1 => NewT xs H1 Q
theorem g_ls (k : tA σ H fun xs H1 => NewL xs H1 Q) : tLs tA σ H Q := k
theorem g_tp (k : tA σ H fun xs H1 => NewT xs H1 Q) : tTp tA σ H Q := k
theorem k_newL {xs : List V} (hl : Nat.ble xs.length 1000000 = true) (k : ∀ p H2, H p = none → L2.Same H H2 → H2 p = some (.lst xs) → H2 = upd H p (.lst xs) → Q (.ref p) H2) : NewL xs H Q := ⟨szok hl, k⟩
theorem k_newT {xs : List V} (hl : Nat.ble xs.length 1000000 = true) (k : ∀ p H2, H p = none → L2.Same H H2 → H2 p = some (.tup xs) → H2 = upd H p (.tup xs) → Q (.ref p) H2) : NewT xs H Q := ⟨szok hl, k⟩
theorem g_if (k : tt σ H fun c H1 => if c = true then ta σ H1 Q else tb σ H1 Q) : tIf tt ta tb σ H Q := k
theorem g_andV (k : ta σ H fun x H1 => ∃ c, x = .bl c ∧ if c = true then tb σ H1 Q else Q (.bl false) H1) : tAndV ta tb σ H Q := k
theorem g_orV (k : ta σ H fun x H1 => ∃ c, x = .bl c ∧ if c = true then Q (.bl true) H1 else tb σ H1 Q) : tOrV ta tb σ H Q := k
theorem g_notV (k : ta σ H fun x H1 => ∃ c, x = .bl c ∧ Q (.bl (!c)) H1) : tNotV ta σ H Q := k
/-! tests -/
theorem g_test {R : Bool → Hp → Prop} (k : ta σ H fun x H1 => ∃ k, x = .bl k ∧ R k H1) : tTest ta σ H R := k
theorem g_B {R : Bool → Hp → Prop} (k : ta σ H fun x H1 => ∃ c, x = .bl c ∧ R c H1) : tB ta σ H R := k
theorem g_and {R : Bool → Hp → Prop} (k : tt σ H fun c H1 => if c = true then tu σ H1 R else R false H1) : tAnd tt tu σ H R := k
theorem g_or {R : Bool → Hp → Prop} (k : tt σ H fun c H1 => if c = true then R true H1 else tu σ H1 R) : tOr tt tu σ H R := k
theorem g_not {R : Bool → Hp → Prop} (k : tt σ H fun c H1 => R (!c) H1) : tNot tt σ H R := k
theorem k_bl {b : Bool} {R : Bool → Hp → Prop} (k : R b H) : ∃ c, V.bl b = .bl c ∧ R c H := ⟨b, rfl, k⟩
theorem k_blI {b : Bool} {A B : Bool → Prop} (k : if b = true then A b else B b) : ∃ c, V.bl b = .bl c ∧ if c = true then A c else B c := ⟨b, rfl, k⟩
theorem k_blp {b : Bool} {R : Bool → Prop} (k : R b) : ∃ c, V.bl b = .bl c ∧ R c := ⟨b, rfl, k⟩
/-! forks -/
theorem k_ifT {A B : Prop} (k : A) : if true = true then A else B := iteT k
theorem k_ifF {A B : Prop} (k : B) : if false = true then A else B := iteF k
theorem k_ifNT {A B : Prop} (k : B) : if (!true) = true then A else B := iteF k
theorem k_ifNF {A B : Prop} (k : A) : if (!false) = true then A else B := iteT k
theorem k_ifD {p A B : Prop} [Decidable p] (h1 : p → A) (h2 : ¬ p → B) : if decide p = true then A else B := by
  by_cases h : p
  · rw [decide_eq_true h]; exact iteT (h1 h)
  · rw [decide_eq_false h]; exact iteF (h2 h)
theorem k_ifDy {p A B : Prop} [Decidable p] (h : p) (k : A) : if decide p = true then A else B := by
  rw [decide_eq_true h]; exact iteT k
theorem k_ifDn {p A B : Prop} [Decidable p] (h : ¬ p) (k : B) : if decide p = true then A else B := by
  rw [decide_eq_false h]; exact iteF k
theorem k_ifND {p A B : Prop} [Decidable p] (h1 : ¬ p → A) (h2 : p → B) : if (!decide p) = true then A else B := by
  by_cases h : p
  · rw [decide_eq_true h]; exact iteF (h2 h)
  · rw [decide_eq_false h]; exact iteT (h1 h)
theorem k_ifNDy {p A B : Prop} [Decidable p] (h : ¬ p) (k : A) : if (!decide p) = true then A else B := by
  rw [decide_eq_false h]; exact iteT k
theorem k_ifNDn {p A B : Prop} [Decidable p] (h : p) (k : B) : if (!decide p) = true then A else B := by
  rw [decide_eq_true h]; exact iteF k
theorem k_ifB {b : Bool} {A B : Prop} (h1 : b = true → A) (h2 : b = false → B) : if b = true then A else B := by
  cases b
  · exact iteF (h2 rfl)
  · exact iteT (h1 rfl)
theorem k_ifNB {b : Bool} {A B : Prop} (h1 : b = false → A) (h2 : b = true → B) : if (!b) = true then A else B := by
  cases b
  · exact iteT (h1 rfl)
  · exact iteF (h2 rfl)
theorem k_ifBy {b : Bool} {A B : Prop} (h : b = true) (k : A) : if b = true then A else B := by rw [if_pos h]; exact k
theorem k_ifBn {b : Bool} {A B : Prop} (h : b = false) (k : B) : if b = true then A else B := by rw [h]; exact iteF k
/-! operations on values -/
theorem k_I0 {g : Int → Int → V} {a b : Int} (k : Q (g a b) H) : rI0 g (.int a) (.int b) H Q := ⟨a, b, rfl, rfl, k⟩
theorem k_I {C : Int → Int → Prop} {g : Int → Int → V} {a b : Int} (c : C a b) (k : Q (g a b) H) : rI C g (.int a) (.int b) H Q := ⟨a, b, rfl, rfl, c, k⟩
theorem k_U {g : Int → V} {a : Int} (k : Q (g a) H) : rU g (.int a) H Q := ⟨a, rfl, k⟩
theorem k_eqI {a b : Int} (k : Q (.bl (decide (a = b))) H) : rEq (.int a) (.int b) H Q := by
  refine ⟨rfl, ?_⟩
  have e : decide (V.int a = V.int b) = decide (a = b) := by by_cases h : a = b <;> simp [h]
  rw [e]; exact k
theorem k_neI {a b : Int} (k : Q (.bl (!decide (a = b))) H) : rNe (.int a) (.int b) H Q := by
  refine ⟨rfl, ?_⟩
  have e : decide (V.int a = V.int b) = decide (a = b) := by by_cases h : a = b <;> simp [h]
  rw [e]; exact k
theorem k_eqS {a b : Str} (k : Q (.bl (decide (a = b))) H) : rEq (.str a) (.str b) H Q := by
  refine ⟨rfl, ?_⟩
  have e : decide (V.str a = V.str b) = decide (a = b) := by by_cases h : a = b <;> simp [h]
  rw [e]; exact k
theorem k_neS {a b : Str} (k : Q (.bl (!decide (a = b))) H) : rNe (.str a) (.str b) H Q := by
  refine ⟨rfl, ?_⟩
  have e : decide (V.str a = V.str b) = decide (a = b) := by by_cases h : a = b <;> simp [h]
  rw [e]; exact k
theorem k_eqX (h : scal x y = true) (k : Q (.bl (decide (x = y))) H) : rEq x y H Q := ⟨h, k⟩
theorem k_neX (h : scal x y = true) (k : Q (.bl (!decide (x = y))) H) : rNe x y H Q := ⟨h, k⟩
/-- an item of a list or tuple at a place in bounds -/
theorem k_ixL {K : PySem.W.Frag} {p : Addr} {xs : List V} {a : Int} (h : SqL K H p xs) (h0 : 0 ≤ a) (h1 : a < (xs.length : Int)) (k : ∀ v, xs[a.toNat]? = some v → Q v H) : rIxL K (.ref p) (.int a) H Q := by
  have hlt : a.toNat < xs.length := by omega
  refine ⟨p, xs, a, xs[a.toNat], rfl, rfl, h, ?_, k _ (List.getElem?_eq_getElem hlt)⟩
  unfold atI ixN
  rw [if_pos h0, if_pos h1]
  exact List.getElem?_eq_getElem hlt
theorem k_ixT {K : PySem.W.Frag} {p : Addr} {xs : List V} {a : Int} (h : SqT K H p xs) (h0 : 0 ≤ a) (h1 : a < (xs.length : Int)) (k : ∀ v, xs[a.toNat]? = some v → Q v H) : rIxT K (.ref p) (.int a) H Q := by
  have hlt : a.toNat < xs.length := by omega
  refine ⟨p, xs, a, xs[a.toNat], rfl, rfl, h, ?_, k _ (List.getElem?_eq_getElem hlt)⟩
  unfold atI ixN
  rw [if_pos h0, if_pos h1]
  exact List.getElem?_eq_getElem hlt
theorem k_ixS {z : Str} {a : Int} (hl : z.length ≤ 100000) (h0 : 0 ≤ a) (h1 : a < (z.length : Int)) (k : ∀ c, z.cps.toList[a.toNat]? = some c → Q (.str ⟨#[c]⟩) H) : rIxS (.str z) (.int a) H Q := by
  have hz : z.cps.toList.length = z.length := by simp [Str.length]
  have hlt : a.toNat < z.cps.toList.length := by omega
  refine ⟨z, a, z.cps.toList[a.toNat], rfl, rfl, Nat.le_of_lt (szlt hl), ?_, k _ (List.getElem?_eq_getElem hlt)⟩
  unfold atI ixN
  rw [if_pos h0, if_pos (by omega)]
  exact List.getElem?_eq_getElem hlt
end
/-! statements -/
/-- a word between a statement and what follows it: what follows is read once -/
def tMid (t u : TS) : TS := fun D σ H => ∃ M : L2.St → Hp → Prop, t ⟨M, D.rt, D.bk, D.ct⟩ σ H ∧ ∀ σ' H', M σ' H' → u D σ' H'
theorem pss_mid {X : Cx} {st : Stmt} {rest : List Stmt} {t u : TS} (h1 : PS X st t) (h2 : PSs X rest u) : PSs X (st :: rest) (tMid t u) := by
  constructor
  rintro pins s σ H D I ⟨M, hm, hu⟩
  refine wpAny_execs_cons (thn (h1.run pins s σ H _ I hm) ?_)
  intro fl s1 q
  match fl, q with
  | .next, ⟨σ', H', I', q⟩ => exact h2.run pins s1 σ' H' D I' (hu σ' H' q)
  | .ret _, q => exact q
  | .brk, q => exact q
  | .cont, q => exact q
section
variable {σ σ' : L2.St} {H : Hp} {n b c : L2.St → Hp → Prop} {r : VK} {te ta : TE} {tc : TT} {t u : TS} {g : TG} {tA : TA} {i : Nat} {v w : V} {o : Option V} {N : L2.St → Hp → Prop}
theorem g_seq (k : t ⟨u ⟨n, r, b, c⟩, r, b, c⟩ σ H) : tSeq t u ⟨n, r, b, c⟩ σ H := k
theorem g_cut (M : L2.St → Hp → Prop) (k1 : t ⟨M, r, b, c⟩ σ H) (k2 : ∀ σ' H', M σ' H' → u ⟨n, r, b, c⟩ σ' H') : tMid t u ⟨n, r, b, c⟩ σ H := ⟨M, k1, k2⟩
theorem g_next (k : n σ H) : tNext ⟨n, r, b, c⟩ σ H := k
theorem g_brk (k : b σ H) : tBreak ⟨n, r, b, c⟩ σ H := k
theorem g_cont (k : c σ H) : tCont ⟨n, r, b, c⟩ σ H := k
theorem g_ret (k : te σ H r) : tRet te ⟨n, r, b, c⟩ σ H := k
theorem g_retN (k : r .non H) : tRetN ⟨n, r, b, c⟩ σ H := k
theorem g_drop (k : te σ H fun _ H1 => n σ H1) : tDrop te ⟨n, r, b, c⟩ σ H := k
theorem g_ifS (k : tc σ H fun z H1 => if z = true then t ⟨n, r, b, c⟩ σ H1 else u ⟨n, r, b, c⟩ σ H1) : tIfS tc t u ⟨n, r, b, c⟩ σ H := k
theorem g_asg (k : te σ H fun x H1 => g x σ H1 n) : tAsg te g ⟨n, r, b, c⟩ σ H := k
theorem g_set0 (k : N (some v :: σ) H) : gName 0 v (o :: σ) H N := k
theorem g_setS (k : gName i v σ H fun σ' H' => N (o :: σ') H') : gName (i + 1) v (o :: σ) H N := k
theorem g_par {j l : Nat} (k : tA σ H fun vs H1 => ∃ v w, vs = [v, w] ∧ gName j v σ H1 fun σ1 H2 => gName l w σ1 H2 n) : tPar j l tA ⟨n, r, b, c⟩ σ H := k
theorem k_par {R : V → V → Prop} (k : R v w) : ∃ a b, [v, w] = [a, b] ∧ R a b := ⟨v, w, rfl, k⟩
end
end Z

/-! Z5: operators by the shapes of their values, several shapes under one name. -/
namespace Z
open PySem PySem.Spec PyProof.Rows L2

/-- a module's dict with texts as keys: what it holds at each text -/
structure KD (K : PySem.W.Frag) (w : World) (a : Addr) (f : Str → Option V) : Prop where
  ex : ∃ es n, K.lookup a = some ⟨.type "dict", none, .dict es n, #[]⟩ ∧ PySem.W.KeysLit w.params es.toList
  low : (a == sysModules) = false
  has : ∀ z v, f z = some v → ∃ u, PySem.W.nsIn K a z = some (some u) ∧ RelV v u
  no : ∀ z, f z = none → PySem.W.nsIn K a z = some none

def zAdd (K : PySem.W.Frag) : R2 := fun x y H Q => rI0 (fun i j => .int (i + j)) x y H Q ∨
  (∃ i j, x = .str i ∧ y = .str j ∧ i.length + j.length ≤ sizeLine ∧ Q (.str (i ++ j)) H) ∨ rCat x y H Q ∨ rCatA K x y H Q
def zSub : R2 := rI0 fun i j => .int (i - j)
def zMul : R2 := fun x y H Q => rI CMul (fun i j => .int (i * j)) x y H Q ∨ rRep x y H Q
def zMod : R2 := rI (fun _ j => 0 < j) fun i j => .int (i % j)
def zDiv : R2 := rI CDivN fun i j => .int (i.fdiv j)
def zPow : R2 := rI CPow fun i j => .int (i ^ j.toNat)
def zEqD (K : PySem.W.Frag) (neg : Bool) : R2 := fun x y H Q => ∃ d e, Rp K H x d ∧ Rp K H y e ∧ SeqAt.shaped d = true ∧ SeqAt.shaped e = true ∧ Q (.bl (if neg then !PyData.eqv d e else PyData.eqv d e)) H
/-- a tuple and the empty one -/
def zEqT0 (K : PySem.W.Frag) : R2 := fun x y H Q => ∃ p q xs, x = .ref p ∧ y = .ref q ∧ SqT K H p xs ∧ SqT K H q [] ∧ Q (.bl xs.isEmpty) H
def zEq (K : PySem.W.Frag) : R2 := fun x y H Q => rEq x y H Q ∨ zEqD K false x y H Q ∨ zEqT0 K x y H Q
def zNe (K : PySem.W.Frag) : R2 := fun x y H Q => rNe x y H Q ∨ zEqD K true x y H Q
def zLt : R2 := fun x y H Q => rI0 (fun i j => .bl (decide (i < j))) x y H Q ∨ ∃ i j, x = .str i ∧ y = .str j ∧ Q (.bl (decide (i.cps.toList < j.cps.toList))) H
def zLe : R2 := fun x y H Q => rI0 (fun i j => .bl (decide (i ≤ j))) x y H Q ∨ ∃ i j, x = .str i ∧ y = .str j ∧ Q (.bl (!decide (j.cps.toList < i.cps.toList))) H
def zGt : R2 := fun x y H Q => rI0 (fun i j => .bl (decide (j < i))) x y H Q ∨ ∃ i j, x = .str i ∧ y = .str j ∧ Q (.bl (decide (j.cps.toList < i.cps.toList))) H
def zGe : R2 := fun x y H Q => rI0 (fun i j => .bl (decide (j ≤ i))) x y H Q ∨ ∃ i j, x = .str i ∧ y = .str j ∧ Q (.bl (!decide (i.cps.toList < j.cps.toList))) H
def zIn (K : PySem.W.Frag) (w : World) (neg : Bool) : R2 := fun x y H Q => rIn K neg x y H Q ∨
  (∃ (c : Nat) (z : Str), x = .str ⟨#[c]⟩ ∧ y = .str z ∧ Q (.bl (if neg then !decide (c ∈ z.cps.toList) else decide (c ∈ z.cps.toList))) H) ∨
  (∃ a o, y = .ref a ∧ DGet H a x o ∧ Q (.bl (if neg then !o.isSome else o.isSome)) H) ∨
  (∃ a f z, x = .str z ∧ y = .ref a ∧ KD K w a f ∧ Q (.bl (if neg then !(f z).isSome else (f z).isSome)) H)
def zIs (neg : Bool) : R2 := fun x y H Q => y = .non ∧ Q (.bl (if neg then !decide (x = .non) else decide (x = .non))) H

section
variable {X : Cx}
theorem opr_or {f : Value → Value → Sem Value} {r r' : R2} (h : OpR X f r) (h' : OpR X f r') : OpR X f fun x y H Q => r x y H Q ∨ r' x y H Q := by
  rintro pins s σ H x y v u Q I rx ry (q | q)
  · exact h pins s σ H x y v u Q I rx ry q
  · exact h' pins s σ H x y v u Q I rx ry q
theorem o_add : OpR X (binaryOp .Add) (zAdd X.K) := opr_or op_add (opr_or op_add_str (opr_or op_cat op_catA))
theorem o_sub : OpR X (binaryOp .Sub) zSub := op_sub
theorem o_mul : OpR X (binaryOp .Mult) zMul := opr_or op_mul op_rep
theorem o_mod : OpR X (binaryOp .Mod) zMod := op_mod
theorem o_div : OpR X (binaryOp .FloorDiv) zDiv := op_fdivN
theorem o_pow : OpR X (binaryOp .Pow) zPow := op_pow
theorem o_eqD (hS : SysB X.base) {k : Nat} (hr : Room k X.A) : OpR X (compareOp .Eq) (zEqD X.K false) := by
  rintro pins s σ H x y v u Q I rx ry ⟨d, e, hd, he, sd, se, q⟩
  obtain ⟨as, ra, _⟩ := hd.reads I hS rx
  obtain ⟨bs, rb, _⟩ := he.reads I hS ry
  exact SeqAt.compareEq_shaped ra rb sd se hr.units ⟨.bl _, H, I, rfl, q⟩
theorem o_neD (hS : SysB X.base) {k : Nat} (hr : Room k X.A) : OpR X (compareOp .NotEq) (zEqD X.K true) := by
  rintro pins s σ H x y v u Q I rx ry ⟨d, e, hd, he, sd, se, q⟩
  obtain ⟨as, ra, _⟩ := hd.reads I hS rx
  obtain ⟨bs, rb, _⟩ := he.reads I hS ry
  exact SeqAt.compareNe_shaped ra rb sd se hr.units ⟨.bl _, H, I, rfl, q⟩
theorem o_eqT0 {k : Nat} (hr : Room k X.A) : OpR X (compareOp .Eq) (zEqT0 X.K) := by
  rintro pins s σ H x y v u Q I rx ry ⟨p, q, xs, rfl, rfl, h1, h2, k⟩
  cases rx
  cases ry
  obtain ⟨i1, r1, t1, _⟩ := I.tuple h1
  obtain ⟨i2, r2, t2, _⟩ := I.tuple h2
  cases r2
  refine SeqAt.eq_tupleAt (e := fun _ => true) t1 t2 hr.units0 (fun j _ h => absurd h (by simp)) ⟨.bl xs.isEmpty, H, I, ?_, k⟩
  have e := r1.length
  cases xs with
  | nil => cases r1; rfl
  | cons a l =>
    cases r1
    rfl
theorem o_eq (hS : SysB X.base) {k : Nat} (hr : Room k X.A) : OpR X (compareOp .Eq) (zEq X.K) := opr_or op_eq (opr_or (o_eqD hS hr) (o_eqT0 hr))
theorem o_ne (hS : SysB X.base) {k : Nat} (hr : Room k X.A) : OpR X (compareOp .NotEq) (zNe X.K) := opr_or op_ne (o_neD hS hr)
theorem o_lt : OpR X (compareOp .Lt) zLt := opr_or op_lt op_lt_str
theorem o_le : OpR X (compareOp .LtE) zLe := opr_or op_le op_le_str
theorem o_gt : OpR X (compareOp .Gt) zGt := opr_or op_gt op_gt_str
theorem o_ge : OpR X (compareOp .GtE) zGe := opr_or op_ge op_ge_str
theorem o_isN : OpR X (compareOp .Is) (zIs false) := op_isN
theorem o_notN : OpR X (compareOp .IsNot) (zIs true) := op_notN
theorem KD.kdict {K : PySem.W.Frag} {w : World} {a : Addr} {f : Str → Option V} (D : KD K w a f) : ∃ es n, KDict K w a es n := by
  obtain ⟨es, n, h1, h2⟩ := D.ex
  exact ⟨es, n, ⟨h1, h2, D.low⟩⟩
theorem o_in {k : Nat} (hr : Room k X.A) : OpR X (compareOp .In) (zIn X.K X.w false) := by
  refine opr_or op_in_seq (opr_or op_in_sign (opr_or ?_ ?_))
  · rintro pins s σ H x y v u Q I rx ry ⟨a, o, rfl, g, q⟩
    cases ry
    exact d_in (hu_of hr) I g rx fun s' I' => ⟨.bl o.isSome, H, I', rfl, q⟩
  · rintro pins s σ H x y v u Q I rx ry ⟨a, f, z, rfl, rfl, D, q⟩
    obtain ⟨es, n, kd⟩ := D.kdict
    have e : ∃ r, PySem.W.nsIn X.K a z = some r ∧ r.isSome = (f z).isSome := by
      cases h : f z with
      | none => exact ⟨none, D.no z h, rfl⟩
      | some v0 =>
        obtain ⟨u0, e1, _⟩ := D.has z v0 h
        exact ⟨some u0, e1, rfl⟩
    obtain ⟨r, e1, e2⟩ := e
    refine op_in_kd kd pins s σ H _ _ v u Q I rx ry ⟨z, r, rfl, rfl, e1, ?_⟩
    rw [e2]; exact q
theorem o_notIn {k : Nat} (hr : Room k X.A) : OpR X (compareOp .NotIn) (zIn X.K X.w true) := by
  refine opr_or op_notIn_seq (opr_or op_notIn_sign (opr_or ?_ ?_))
  · rintro pins s σ H x y v u Q I rx ry ⟨a, o, rfl, g, q⟩
    cases ry
    exact d_notIn (hu_of hr) I g rx fun s' I' => ⟨.bl (!o.isSome), H, I', rfl, q⟩
  · rintro pins s σ H x y v u Q I rx ry ⟨a, f, z, rfl, rfl, D, q⟩
    obtain ⟨es, n, kd⟩ := D.kdict
    have e : ∃ r, PySem.W.nsIn X.K a z = some r ∧ r.isSome = (f z).isSome := by
      cases h : f z with
      | none => exact ⟨none, D.no z h, rfl⟩
      | some v0 =>
        obtain ⟨u0, e1, _⟩ := D.has z v0 h
        exact ⟨some u0, e1, rfl⟩
    obtain ⟨r, e1, e2⟩ := e
    refine op_notIn_kd kd pins s σ H _ _ v u Q I rx ry ⟨z, r, rfl, rfl, e1, ?_⟩
    rw [e2]; exact q
def zIx (K : PySem.W.Frag) (w : World) : R2 := fun x y H Q => rIx K x y H Q ∨ (∃ a v, x = .ref a ∧ DGet H a y (some v) ∧ Q v H) ∨ ∃ a f z v, x = .ref a ∧ y = .str z ∧ KD K w a f ∧ f z = some v ∧ Q v H
theorem o_ix {k : Nat} (hr : Room k X.A) : IxR X (zIx X.K X.w) := by
  refine (ix_list.or (ix_tup.or ix_str)).or (IxR.or ?_ ?_)
  · rintro value slice pins s σ H x y v u Q I rx ry ⟨a, v0, rfl, g, q⟩ hs
    cases rx
    exact tail_any (dict_typeIs I g) slot_dict_getitem.lookup (d_getItem (hu_of hr) I g ry fun w' s' I' rw' => ⟨v0, H, I', rw', q⟩) hs
  · rintro value slice pins s σ H x y v u Q I rx ry ⟨a, f, z, v0, rfl, rfl, D, hf, q⟩ hs
    obtain ⟨es, n, h1, h2⟩ := D.ex
    obtain ⟨u0, e1, r0⟩ := D.has z v0 hf
    exact ix_kdict value slice pins s σ H _ _ v u Q I rx ry ⟨a, z, v0, rfl, rfl, ⟨es, n, u0, h1, h2, e1, r0⟩, q⟩ hs
def zLen (K : PySem.W.Frag) : List V → Hp → VK → Prop := fun xs H Q => (∃ x n, xs = [x] ∧ LenV K x H n ∧ Q (.int n) H) ∨ ∃ a kvs, xs = [.ref a] ∧ H a = some (.dK kvs) ∧ Q (.int kvs.length) H
theorem callr_or {f : Value} {r r' : List V → Hp → VK → Prop} (h : CallR X f r) (h' : CallR X f r') : CallR X f fun xs H Q => r xs H Q ∨ r' xs H Q := by
  rintro pins s σ H xs us Q I rx (q | q)
  · exact h pins s σ H xs us Q I rx q
  · exact h' pins s σ H xs us Q I rx q
theorem o_len : CallR X (.builtin "len") (zLen X.K) := callr_or call_len call_lenD
def zSl (K : PySem.W.Frag) : V → Option Int → Option Int → Hp → VK → Prop := fun x lo hi H Q => rSlL K x lo hi H Q ∨ rSlA K x lo hi H Q ∨ rSlS x lo hi H Q
theorem slr_or {r r' : V → Option Int → Option Int → Hp → VK → Prop} (h : SlR X r) (h' : SlR X r') : SlR X fun x lo hi H Q => r x lo hi H Q ∨ r' x lo hi H Q := by
  rintro pins s σ H x v vl vu lo hi sl Q I rx hs pl pu (q | q)
  · exact h pins s σ H x v vl vu lo hi sl Q I rx hs pl pu q
  · exact h' pins s σ H x v vl vu lo hi sl Q I rx hs pl pu q
theorem o_sl : SlR X (zSl X.K) := slr_or sl_list (slr_or sl_tupA sl_str)
end
/-! ### the same, apart -/
section
variable {K : PySem.W.Frag} {w : World} {σ : L2.St} {H : Hp} {Q : VK} {x y : V} {a b : Int} {s t : Str} {p q : Addr} {xs ys : List V}
theorem kAdd_I (k : Q (.int (a + b)) H) : zAdd K (.int a) (.int b) H Q := .inl (k_I0 k)
theorem kAdd_S (h : s.length + t.length ≤ 1000000) (k : Q (.str (s ++ t)) H) : zAdd K (.str s) (.str t) H Q := .inr (.inl ⟨s, t, rfl, rfl, small_le h, k⟩)
theorem kAdd_L (h1 : H p = some (.lst xs)) (h2 : H q = some (.lst ys)) (hl : xs.length + ys.length ≤ 1000000)
    (k : ∀ r H2, H r = none → L2.Same H H2 → H2 r = some (.lst (xs ++ ys)) → H2 = upd H r (.lst (xs ++ ys)) → Q (.ref r) H2) : zAdd K (.ref p) (.ref q) H Q :=
  .inr (.inr (.inl ⟨p, q, xs, ys, rfl, rfl, h1, h2, small_le hl, newO k⟩))
theorem kSub_I (k : Q (.int (a - b)) H) : zSub (.int a) (.int b) H Q := k_I0 k
theorem kMul_I (c : CMul a b) (k : Q (.int (a * b)) H) : zMul (.int a) (.int b) H Q := .inl (k_I c k)
theorem kMul_L (h1 : H p = some (.lst xs)) (h0 : 0 ≤ b) (h2 : b ≤ 1000) (hl : xs.length * b.toNat ≤ 1000000)
    (k : ∀ r H2, H r = none → L2.Same H H2 → H2 r = some (.lst (List.replicate b.toNat xs).flatten) → H2 = upd H r (.lst (List.replicate b.toNat xs).flatten) → Q (.ref r) H2) : zMul (.ref p) (.int b) H Q := by
  refine .inr ⟨p, b, xs, rfl, rfl, h1, by omega, by omega, small_le hl, ?_⟩
  exact newO k
theorem kMod_I (c : 0 < b) (k : Q (.int (a % b)) H) : zMod (.int a) (.int b) H Q := k_I c k
theorem kDiv_I (c : 0 < b) (c2 : b < 1073741824) (k : Q (.int (a / b)) H) : zDiv (.int a) (.int b) H Q := by
  refine k_I ⟨by omega, by omega⟩ ?_
  rw [Int.fdiv_eq_ediv_of_nonneg a (by omega)]
  exact k
theorem kPow_I (c : 0 ≤ b) (c2 : b ≤ 1000) (c3 : -(2 ^ 60) < a) (c4 : a < 2 ^ 60) (k : Q (.int (a ^ b.toNat)) H) : zPow (.int a) (.int b) H Q := k_I ⟨c, by omega, by omega⟩ k
theorem kEq_I (k : Q (.bl (decide (a = b))) H) : zEq K (.int a) (.int b) H Q := .inl (k_eqI k)
theorem kEq_S (k : Q (.bl (decide (s = t))) H) : zEq K (.str s) (.str t) H Q := .inl (k_eqS k)
theorem kEq_X (h : scal x y = true) (k : Q (.bl (decide (x = y))) H) : zEq K x y H Q := .inl (k_eqX h k)
theorem kEq_D {d e : PyData} (h1 : Rp K H x d) (h2 : Rp K H y e) (h3 : SeqAt.shaped d = true) (h4 : SeqAt.shaped e = true) (k : Q (.bl (PyData.eqv d e)) H) : zEq K x y H Q := .inr (.inl ⟨d, e, h1, h2, h3, h4, by rw [if_neg Bool.false_ne_true]; exact k⟩)
theorem kEq_T0 (h1 : SqT K H p xs) (h2 : SqT K H q []) (k : Q (.bl xs.isEmpty) H) : zEq K (.ref p) (.ref q) H Q := .inr (.inr ⟨p, q, xs, rfl, rfl, h1, h2, k⟩)
theorem kNe_I (k : Q (.bl (!decide (a = b))) H) : zNe K (.int a) (.int b) H Q := .inl (k_neI k)
theorem kNe_S (k : Q (.bl (!decide (s = t))) H) : zNe K (.str s) (.str t) H Q := .inl (k_neS k)
theorem kNe_X (h : scal x y = true) (k : Q (.bl (!decide (x = y))) H) : zNe K x y H Q := .inl (k_neX h k)
theorem kNe_D {d e : PyData} (h1 : Rp K H x d) (h2 : Rp K H y e) (h3 : SeqAt.shaped d = true) (h4 : SeqAt.shaped e = true) (k : Q (.bl (!PyData.eqv d e)) H) : zNe K x y H Q := .inr ⟨d, e, h1, h2, h3, h4, by rw [if_pos rfl]; exact k⟩
theorem kLt_I (k : Q (.bl (decide (a < b))) H) : zLt (.int a) (.int b) H Q := .inl (k_I0 k)
theorem kLt_S (k : Q (.bl (decide (s.cps.toList < t.cps.toList))) H) : zLt (.str s) (.str t) H Q := .inr ⟨s, t, rfl, rfl, k⟩
theorem kLe_I (k : Q (.bl (decide (a ≤ b))) H) : zLe (.int a) (.int b) H Q := .inl (k_I0 k)
theorem kLe_S (k : Q (.bl (!decide (t.cps.toList < s.cps.toList))) H) : zLe (.str s) (.str t) H Q := .inr ⟨s, t, rfl, rfl, k⟩
theorem kGt_I (k : Q (.bl (decide (b < a))) H) : zGt (.int a) (.int b) H Q := .inl (k_I0 k)
theorem kGt_S (k : Q (.bl (decide (t.cps.toList < s.cps.toList))) H) : zGt (.str s) (.str t) H Q := .inr ⟨s, t, rfl, rfl, k⟩
theorem kGe_I (k : Q (.bl (decide (b ≤ a))) H) : zGe (.int a) (.int b) H Q := .inl (k_I0 k)
theorem kGe_S (k : Q (.bl (!decide (s.cps.toList < t.cps.toList))) H) : zGe (.str s) (.str t) H Q := .inr ⟨s, t, rfl, rfl, k⟩
/-- x in a list of flat things -/
theorem kIn_L (h : SqL K H q ys) (h1 : flatV x = true) (h2 : ys.all flatV = true) (k : Q (.bl (inV x ys)) H) : zIn K w false x (.ref q) H Q := .inl ⟨q, ys, rfl, .inl h, h1, h2, k⟩
theorem kIn_T (h : SqT K H q ys) (h1 : flatV x = true) (h2 : ys.all flatV = true) (k : Q (.bl (inV x ys)) H) : zIn K w false x (.ref q) H Q := .inl ⟨q, ys, rfl, .inr h, h1, h2, k⟩
theorem kNin_L (h : SqL K H q ys) (h1 : flatV x = true) (h2 : ys.all flatV = true) (k : Q (.bl (!inV x ys)) H) : zIn K w true x (.ref q) H Q := .inl ⟨q, ys, rfl, .inl h, h1, h2, k⟩
theorem kNin_T (h : SqT K H q ys) (h1 : flatV x = true) (h2 : ys.all flatV = true) (k : Q (.bl (!inV x ys)) H) : zIn K w true x (.ref q) H Q := .inl ⟨q, ys, rfl, .inr h, h1, h2, k⟩
theorem kIn_C {c : Nat} (k : Q (.bl (decide (c ∈ s.cps.toList))) H) : zIn K w false (.str ⟨#[c]⟩) (.str s) H Q := .inr (.inl ⟨c, s, rfl, rfl, k⟩)
theorem kNin_C {c : Nat} (k : Q (.bl (!decide (c ∈ s.cps.toList))) H) : zIn K w true (.str ⟨#[c]⟩) (.str s) H Q := .inr (.inl ⟨c, s, rfl, rfl, k⟩)
theorem kIn_D {kvs : List (Key × V)} {z : Key} (h : H q = some (.dK kvs)) (k : Q (.bl (valV kvs z).isSome) H) : zIn K w false (kV z) (.ref q) H Q := .inr (.inr (.inl ⟨q, _, rfl, DGet.k h, k⟩))
theorem kNin_D {kvs : List (Key × V)} {z : Key} (h : H q = some (.dK kvs)) (k : Q (.bl (!(valV kvs z).isSome)) H) : zIn K w true (kV z) (.ref q) H Q := .inr (.inr (.inl ⟨q, _, rfl, DGet.k h, k⟩))
theorem kIn_K {f : Str → Option V} (h : KD K w q f) (k : Q (.bl (f s).isSome) H) : zIn K w false (.str s) (.ref q) H Q := .inr (.inr (.inr ⟨q, f, s, rfl, rfl, h, k⟩))
theorem kNin_K {f : Str → Option V} (h : KD K w q f) (k : Q (.bl (!(f s).isSome)) H) : zIn K w true (.str s) (.ref q) H Q := .inr (.inr (.inr ⟨q, f, s, rfl, rfl, h, k⟩))
theorem kIs_N (k : Q (.bl (decide (x = .non))) H) : zIs false x .non H Q := ⟨rfl, k⟩
theorem kNis_N (k : Q (.bl (!decide (x = .non))) H) : zIs true x .non H Q := ⟨rfl, k⟩
theorem kIx_L (h : SqL K H p xs) (h0 : 0 ≤ a) (h1 : a < (xs.length : Int)) (k : ∀ v, xs[a.toNat]? = some v → Q v H) : zIx K w (.ref p) (.int a) H Q := .inl (.inl (k_ixL h h0 h1 k))
theorem kIx_T (h : SqT K H p xs) (h0 : 0 ≤ a) (h1 : a < (xs.length : Int)) (k : ∀ v, xs[a.toNat]? = some v → Q v H) : zIx K w (.ref p) (.int a) H Q := .inl (.inr (.inl (k_ixT h h0 h1 k)))
theorem kIx_S (hl : s.length ≤ 100000) (h0 : 0 ≤ a) (h1 : a < (s.length : Int)) (k : ∀ c, s.cps.toList[a.toNat]? = some c → Q (.str ⟨#[c]⟩) H) : zIx K w (.str s) (.int a) H Q := .inl (.inr (.inr (k_ixS hl h0 h1 k)))
theorem kIx_D {kvs : List (Key × V)} {z : Key} {v : V} (h : H q = some (.dK kvs)) (e : valV kvs z = some v) (k : Q v H) : zIx K w (.ref q) (kV z) H Q := .inr (.inl ⟨q, v, rfl, by rw [← e]; exact DGet.k h, k⟩)
theorem kIx_K {f : Str → Option V} {v : V} (h : KD K w q f) (e : f s = some v) (k : Q v H) : zIx K w (.ref q) (.str s) H Q := .inr (.inr ⟨q, f, s, v, rfl, rfl, h, e, k⟩)
theorem kLen_S (h : s.length ≤ 1000000) (k : Q (.int s.length) H) : zLen K [.str s] H Q := .inl ⟨_, _, rfl, ⟨small_le h, rfl⟩, k⟩
theorem kLen_L (h : SqL K H p xs) (k : Q (.int xs.length) H) : zLen K [.ref p] H Q := .inl ⟨_, _, rfl, .inl ⟨xs, h, rfl⟩, k⟩
theorem kLen_T (h : SqT K H p xs) (k : Q (.int xs.length) H) : zLen K [.ref p] H Q := .inl ⟨_, _, rfl, .inr ⟨xs, h, rfl⟩, k⟩
theorem kLen_D {kvs : List (Key × V)} (h : H p = some (.dK kvs)) (k : Q (.int kvs.length) H) : zLen K [.ref p] H Q := .inr ⟨p, kvs, rfl, h, k⟩
/-- a part of a list, of a tuple but its first item, of a text -/
theorem kSl_L {lo hi : Option Int} (h : SqL K H p xs) (k : ∀ r H2, H r = none → L2.Same H H2 → H2 r = some (.lst (cutV xs lo hi)) → H2 = upd H r (.lst (cutV xs lo hi)) → Q (.ref r) H2) : zSl K (.ref p) lo hi H Q := .inl ⟨p, xs, rfl, h, newO k⟩
theorem kSl_T1 (h : SqT K H p (x :: xs)) (k : ∀ r H2, H r = none → L2.Same H H2 → H2 r = some (.tup xs) → Q (.ref r) H2) : zSl K (.ref p) (some 1) none H Q := by
  refine .inr (.inl ⟨p, x :: xs, rfl, h, ?_, ?_⟩)
  · rintro ⟨h1, _⟩
    simp [HT.sIx] at h1
  · intro _ r hr
    have e : cutV (x :: xs) (some 1) none = xs := by simp [cutV, HT.sIx]
    rw [e]
    exact k r _ hr (Same.new hr) upd_same
theorem kSl_S {lo hi : Option Int} (hl : s.length ≤ 1000000) (k : Q (.str (cutS s lo hi)) H) : zSl K (.str s) lo hi H Q := .inr (.inr ⟨s, rfl, small_le hl, k⟩)
end
end Z

/-! Z6: match over texts; comprehensions over zip and over texts. -/
namespace Z
open PySem PySem.Spec PyProof.Rows L2 RZ

/-! ### match, the subject a text -/
structure PM (X : Cx) (cs : List MatchCase) (t : Str → TS) : Prop where
  run : ∀ (first : Bool) (pins : List (Addr × Obj)) (s : Shared) (σ : L2.St) (H : Hp) (D : Ends) (z : Str) (tk : Tok), Inv X pins σ H s → t z D σ H →
    wpAny (model X.prog X.w) X.A (matchCases cs X.env (.str z tk) first) (SP X pins D) X.xe s
def tMatch (te : TE) (tm : Str → TS) : TS := fun D σ H => te σ H fun v H1 => ∃ z, v = .str z ∧ tm z D σ H1
def tmNil : Str → TS := fun _ D σ H => D.nx σ H
def tmVal (c : Str) (t : TS) (r : Str → TS) : Str → TS := fun z D σ H => if decide (z = c) = true then t D σ H else r z D σ H
def tmAny (t : TS) : Str → TS := fun _ => t
section
variable {X : Cx}
theorem pm_nil : PM X [] tmNil := ⟨fun _ _ _ σ H _ _ _ I h => wpAny_matchCases_nil ⟨σ, H, I, h⟩⟩
theorem pm_val {c : Str} {j : Nat} {p1 p2 : Pos} {b : List Stmt} {r : List MatchCase} {t : TS} {tr : Str → TS} (hb : PSs X b t) (hr : PM X r tr) :
    PM X (⟨.MatchValue (.Constant (.str c) j p1) p2, none, b⟩ :: r) (tmVal c t tr) := by
  constructor
  intro first pins s σ H D z tk I h
  refine wpAny_matchCases_cons (wpAny_matchPattern_Value ?_)
  refine thn (pe_str.run pins s σ H (fun v H' => v = .str c ∧ H' = H) I ⟨rfl, rfl⟩) ?_
  rintro u s1 ⟨v, H1, I1, r1, rfl, rfl⟩
  refine thn (op_eq pins s1 σ H1 (.str z) (.str c) (.str z tk) u (fun v H' => v = .bl (decide (V.str z = V.str c)) ∧ H' = H1) I1 ⟨tk, rfl⟩ r1 ⟨rfl, rfl, rfl⟩) ?_
  rintro w s2 ⟨v, H2, I2, r2, rfl, rfl⟩
  have e : decide (V.str z = V.str c) = decide (z = c) := by by_cases h : z = c <;> simp [h]
  rw [e] at r2
  cases r2
  refine wpAny_truthy_bool ?_
  change if decide (z = c) = true then t D σ H2 else tr z D σ H2 at h
  cases hd : decide (z = c) with
  | true =>
    rw [hd, if_pos rfl] at h
    rw [if_pos rfl]
    exact assignInOrder_nil (hb.run pins s2 σ H2 D I2 h)
  | false =>
    rw [hd, if_neg Bool.false_ne_true] at h
    rw [if_neg Bool.false_ne_true]
    exact hr.run false pins s2 σ H2 D z tk I2 h
theorem pm_any {p2 : Pos} {b : List Stmt} {r : List MatchCase} {t : TS} (hb : PSs X b t) : PM X (⟨.MatchAs none none p2, none, b⟩ :: r) (tmAny t) := by
  constructor
  intro first pins s σ H D z tk I h
  refine wpAny_matchCases_cons (wpAny_matchPattern_Capture ?_)
  exact assignInOrder_nil (hb.run pins s σ H D I h)
theorem ps_match {e : Expr} {te : TE} {cs : List MatchCase} {tm : Str → TS} {pos : Pos} (he : PE X e te) (hc : PM X cs tm) : PS X (.Match e cs pos) (tMatch te tm) := by
  constructor
  intro pins s σ H D I h
  refine wpAny_Match (thn (he.run pins s σ H _ I h) ?_)
  rintro u s1 ⟨v, H1, I1, r1, z, rfl, q⟩
  obtain ⟨tk, rfl⟩ := r1
  exact hc.run true pins s1 σ H1 D z tk I1 q
end
section
variable {σ : L2.St} {H : Hp} {n b c : L2.St → Hp → Prop} {r : VK} {te : TE} {t : TS} {tm tr : Str → TS} {z c0 : Str}
theorem g_match (k : te σ H fun v H1 => ∃ z, v = .str z ∧ tm z ⟨n, r, b, c⟩ σ H1) : tMatch te tm ⟨n, r, b, c⟩ σ H := k
theorem k_str {R : Str → Prop} (k : R z) : ∃ y, V.str z = .str y ∧ R y := ⟨z, rfl, k⟩
theorem g_mval (k : if decide (z = c0) = true then t ⟨n, r, b, c⟩ σ H else tr z ⟨n, r, b, c⟩ σ H) : tmVal c0 t tr z ⟨n, r, b, c⟩ σ H := k
theorem g_many (k : t ⟨n, r, b, c⟩ σ H) : tmAny t z ⟨n, r, b, c⟩ σ H := k
theorem g_mnil (k : n σ H) : tmNil z ⟨n, r, b, c⟩ σ H := k
end

/-! ### tests hidden from the list -/
theorem pts_fr {X : Cx} {ifs : List Expr} {t : TT} (h : PTs X ifs t) : PTs X ifs (tFrT t) := by
  constructor
  intro pins s σ H Q I q
  obtain ⟨D, o, e1, hd, q⟩ := q
  obtain ⟨ob, J, back⟩ := hide I e1 hd
  refine thn (h.run _ s σ _ _ J q) ?_
  rintro u s' ⟨H', J', k⟩
  obtain ⟨n, I'⟩ := back _ _ _ J'
  exact ⟨_, I', k n⟩

section
variable {te : TE} {tt : TT} {σ : L2.St} {H1 : Hp} {Q : VK} {j l : Nat}
theorem lcF_str {z : Str} (Pv : Nat → List V → Hp → Prop) (h0 : Pv 0 [] H1) (hn : z.cps.size ≤ 1000000)
    (hs : ∀ i c acc H, z.cps.toList[i]? = some c → acc.length ≤ i → Pv i acc H → Turn tt te σ j (.str ⟨#[c]⟩) acc H (Pv (i + 1)))
    (hd : ∀ acc H D, acc.length ≤ z.cps.size → Pv z.cps.size acc H → H D = none → Q (.ref D) (upd H D (.lst acc))) :
    ∀ D, H1 D = none → ∃ W : Nat → Nat → Hp → Prop, (∃ m, W 0 m (upd H1 D (.lst []))) ∧ ∀ i m H, W i m H →
      ((Its z).stop i H ∧ Q (.ref D) H) ∨ ((Its z).go i H ∧ ∃ Nx : Hp → Prop, (∀ H', Nx H' → ∃ m', m' < m ∧ W (i + 1) m' H') ∧
        ∀ x H', (Its z).yld i H x H' → gName j x (wipe σ [j]) H' fun σ2 H2 => wipe σ2 [j] = wipe σ [j] ∧ tFrT tt σ2 H2 fun b H3 =>
          if b = true then tFr te σ2 H3 fun y H4 => ∃ acc, H4 D = some (.lst acc) ∧ acc.length < sizeLine ∧ Nx (upd H4 D (.lst (acc ++ [y]))) else Nx H3) := by
  intro D hD
  refine ⟨fun i m H => m = z.cps.size - i ∧ i ≤ z.cps.size ∧ ∃ acc G, H = upd G D (.lst acc) ∧ G D = none ∧ acc.length ≤ i ∧ Pv i acc G, ⟨_, rfl, Nat.zero_le _, [], H1, rfl, hD, Nat.le_refl _, h0⟩, ?_⟩
  rintro i m H ⟨rfl, hi, acc, G, rfl, hG, hl, p⟩
  by_cases h : i < z.cps.size
  · refine .inr ⟨h, fun H' => i + 1 ≤ z.cps.size ∧ ∃ acc G, H' = upd G D (.lst acc) ∧ G D = none ∧ acc.length ≤ i + 1 ∧ Pv (i + 1) acc G, ?_, ?_⟩
    · rintro H' ⟨hi', q⟩
      exact ⟨z.cps.size - (i + 1), by omega, rfl, hi', q⟩
    · rintro x H' ⟨rfl, c, hc, rfl⟩
      have hc' : z.cps.toList[i]? = some c := by rw [Array.getElem?_toList]; exact hc
      exact turn_core hG (small_lt (by omega)) (hs i c acc G hc' hl p) fun acc' G' p' hl' hD' => ⟨by omega, acc', G', rfl, hD', by omega, p'⟩
  · have e : i = z.cps.size := by omega
    subst e
    exact .inl ⟨Nat.le_refl _, hd acc G D hl p hG⟩

/-- one turn with x, y at the comprehension's two names -/
def Turn2 (tt : TT) (te : TE) (σ : L2.St) (j l : Nat) (x y : V) (acc : List V) (G : Hp) (N : List V → Hp → Prop) : Prop :=
  ∀ R : Bool → Hp → Prop, (∀ b G3, (if b = true then ∀ R2 : VK, (∀ y G4, N (acc ++ [y]) G4 → R2 y G4) → te ((σ.set j (some x)).set l (some y)) G3 R2 else N acc G3) → R b G3) →
    tt ((σ.set j (some x)).set l (some y)) G R
theorem turn2_yes {te : TE} {σ : L2.St} {x y : V} {acc : List V} {G : Hp} {N : List V → Hp → Prop}
    (h : ∀ R2 : VK, (∀ y G4, N (acc ++ [y]) G4 → R2 y G4) → te ((σ.set j (some x)).set l (some y)) G R2) : Turn2 tYes te σ j l x y acc G N := by
  intro R hR
  refine hR true G ?_
  rw [if_pos rfl]
  exact h
theorem wipe_two (σ : L2.St) (hjl : j ≠ l) (x y : Option V) : ((wipe σ [j, l]).set j x).set l y = (σ.set j x).set l y := by
  show (((σ.set l none).set j none).set j x).set l y = _
  rw [List.set_set, List.set_comm _ _ hjl.symm, List.set_set]
theorem wipe_two' (σ : L2.St) (hjl : j ≠ l) (x y : Option V) : wipe ((σ.set j x).set l y) [j, l] = wipe σ [j, l] := by
  show ((((σ.set j x).set l y).set l none).set j none) = (σ.set l none).set j none
  rw [List.set_set, List.set_comm _ _ hjl, List.set_set]
theorem turn_core2 {K : PySem.W.Frag} {D T : Addr} {G : Hp} {acc : List V} {x y : V} {N : List V → Hp → Prop} {Nx : Hp → Prop} (hjl : j ≠ l) (hD : G D = none) (hT : upd G D (.lst acc) T = none) (hl : acc.length < sizeLine)
    (h : Turn2 tt te σ j l x y acc (upd G T (.tup [x, y])) N) (k : ∀ acc' G', N acc' G' → acc'.length ≤ acc.length + 1 → G' D = none → Nx (upd G' D (.lst acc'))) :
    gTup K 2 (gCons (gName j) (gCons (gName l) gNil)) (.ref T) (wipe σ [j, l]) (upd (upd G D (.lst acc)) T (.tup [x, y])) fun σ2 H2 => wipe σ2 [j, l] = wipe σ [j, l] ∧ tFrT tt σ2 H2 fun b H3 =>
      if b = true then tFr te σ2 H3 fun y H4 => ∃ acc, H4 D = some (.lst acc) ∧ acc.length < sizeLine ∧ Nx (upd H4 D (.lst (acc ++ [y]))) else Nx H3 := by
  have ne : D ≠ T := by rintro rfl; rw [upd_same] at hT; cases hT
  have e : upd (upd G D (.lst acc)) T (.tup [x, y]) = upd (upd G T (.tup [x, y])) D (.lst acc) := by
    funext b
    unfold upd
    by_cases h1 : b = D
    · rw [if_neg (by rw [h1]; exact ne), if_pos h1, if_pos h1]
    · rw [if_neg h1, if_neg h1]
  refine ⟨T, [x, y], rfl, .inl (.inl upd_same), rfl, x, [y], rfl, y, [], rfl, rfl, ?_⟩
  rw [wipe_two σ hjl, e]
  have hD' : upd G T (.tup [x, y]) D = none := by rw [upd_ne ne]; exact hD
  refine ⟨wipe_two' σ hjl _ _, D, _, upd_same, trivial, ?_⟩
  rw [del_upd hD']
  refine h _ ?_
  intro b G3 hb n3
  cases b with
  | false =>
    rw [if_neg Bool.false_ne_true] at hb ⊢
    exact k _ _ hb (Nat.le_succ _) n3
  | true =>
    rw [if_pos rfl] at hb ⊢
    refine ⟨D, _, upd_same, trivial, ?_⟩
    rw [del_upd n3]
    refine hb _ ?_
    intro y G4 hN n4
    refine ⟨acc, upd_same, hl, ?_⟩
    rw [upd_upd]
    exact k _ _ hN (by rw [List.length_append]; exact Nat.le_refl _) n4
theorem liftT {K : PySem.W.Frag} {G : Hp} {D a : Addr} {acc xs : List V} (hG : G D = none) (h : SqT K G a xs) : SqT K (upd G D (.lst acc)) a xs := Same.seqT (Same.new hG) h
theorem liftL {K : PySem.W.Frag} {G : Hp} {D a : Addr} {acc xs : List V} (hG : G D = none) (h : SqL K G a xs) : SqL K (upd G D (.lst acc)) a xs := L2.Same.seq (Same.new hG) h
/-- [.. for x, y in zip(t, u)], t and u tuples -/
theorem lcF_zipT {K : PySem.W.Frag} {a b : Addr} {xs ys : List V} (hjl : j ≠ l) (Pv : Nat → List V → Hp → Prop) (h0 : Pv 0 [] H1) (hlen : xs.length = ys.length) (hn : xs.length ≤ 1000000)
    (hl : ∀ i acc H, Pv i acc H → SqT K H a xs ∧ SqT K H b ys)
    (hs : ∀ i x y acc H H', xs[i]? = some x → ys[i]? = some y → acc.length ≤ i → Pv i acc H → L2.Same H H' → Turn2 tt te σ j l x y acc H' (Pv (i + 1)))
    (hd : ∀ acc H D, acc.length ≤ xs.length → Pv xs.length acc H → H D = none → Q (.ref D) (upd H D (.lst acc))) :
    ∀ D, H1 D = none → ∃ W : Nat → Nat → Hp → Prop, (∃ m, W 0 m (upd H1 D (.lst []))) ∧ ∀ i m H, W i m H →
      ((ItzT K a b).stop i H ∧ Q (.ref D) H) ∨ ((ItzT K a b).go i H ∧ ∃ Nx : Hp → Prop, (∀ H', Nx H' → ∃ m', m' < m ∧ W (i + 1) m' H') ∧
        ∀ x H', (ItzT K a b).yld i H x H' → gTup K 2 (gCons (gName j) (gCons (gName l) gNil)) x (wipe σ [j, l]) H' fun σ2 H2 => wipe σ2 [j, l] = wipe σ [j, l] ∧ tFrT tt σ2 H2 fun b H3 =>
          if b = true then tFr te σ2 H3 fun y H4 => ∃ acc, H4 D = some (.lst acc) ∧ acc.length < sizeLine ∧ Nx (upd H4 D (.lst (acc ++ [y]))) else Nx H3) := by
  intro D hD
  refine ⟨fun i m H => m = xs.length - i ∧ i ≤ xs.length ∧ ∃ acc G, H = upd G D (.lst acc) ∧ G D = none ∧ acc.length ≤ i ∧ Pv i acc G, ⟨_, rfl, Nat.zero_le _, [], H1, rfl, hD, Nat.le_refl _, h0⟩, ?_⟩
  rintro i m H ⟨rfl, hi, acc, G, rfl, hG, hac, p⟩
  obtain ⟨ha, hb⟩ := hl i acc G p
  have ha' := liftT (acc := acc) hG ha
  have hb' := liftT (acc := acc) hG hb
  by_cases h : i < xs.length
  · have hy : i < ys.length := by omega
    refine .inr ⟨⟨xs, ys, xs[i], ys[i], ha', hb', List.getElem?_eq_getElem h, List.getElem?_eq_getElem hy⟩, fun H' => i + 1 ≤ xs.length ∧ ∃ acc G, H' = upd G D (.lst acc) ∧ G D = none ∧ acc.length ≤ i + 1 ∧ Pv (i + 1) acc G, ?_, ?_⟩
    · rintro H' ⟨hi', q⟩
      exact ⟨xs.length - (i + 1), by omega, rfl, hi', q⟩
    · rintro v H' ⟨T, x, y, rfl, hT, rfl, hx, hyy⟩
      have hGT : G T = none := by
        by_cases e : T = D
        · rw [e, upd_same] at hT; cases hT
        · rw [upd_ne e] at hT; exact hT
      exact turn_core2 hjl hG hT (small_lt (by omega)) (hs i x y acc G _ (hx xs ha') (hyy ys hb') hac p (Same.new hGT)) fun acc' G' p' hl' hD' => ⟨by omega, acc', G', rfl, hD', by omega, p'⟩
  · have e : i = xs.length := by omega
    subst e
    exact .inl ⟨⟨xs, ys, ha', hb', .inl (Nat.le_refl _)⟩, hd acc G D hac p hG⟩
end
end Z

/-! Z7: displays, built-ins by name. -/
namespace Z
open PySem PySem.Spec PyProof.Rows L2 RZ

theorem bt_len : bootBuiltins "len" = some (.builtin "len") := by decide +kernel
theorem bt_isinstance : bootBuiltins "isinstance" = some (.builtin "isinstance") := by decide +kernel
theorem bt_repr : bootBuiltins "repr" = some (.builtin "repr") := by decide +kernel
theorem bt_all : bootBuiltins "all" = some (.builtin "all") := by decide +kernel
theorem bt_any : bootBuiltins "any" = some (.builtin "any") := by decide +kernel
theorem bt_abs : bootBuiltins "abs" = some (.builtin "abs") := by decide +kernel
theorem bt_divmod : bootBuiltins "divmod" = some (.builtin "divmod") := by decide +kernel
theorem bt_sum : bootBuiltins "sum" = some (.builtin "sum") := by decide +kernel
theorem bt_max : bootBuiltins "max" = some (.builtin "max") := by decide +kernel
theorem bt_min : bootBuiltins "min" = some (.builtin "min") := by decide +kernel
theorem bt_sorted : bootBuiltins "sorted" = some (.builtin "sorted") := by decide +kernel
theorem bt_list : bootBuiltins "list" = some (.type "list") := by decide +kernel
theorem bt_tuple : bootBuiltins "tuple" = some (.type "tuple") := by decide +kernel
theorem bt_str : bootBuiltins "str" = some (.type "str") := by decide +kernel
theorem bt_int : bootBuiltins "int" = some (.type "int") := by decide +kernel
theorem bt_bool : bootBuiltins "bool" = some (.type "bool") := by decide +kernel
theorem bt_dict : bootBuiltins "dict" = some (.type "dict") := by decide +kernel
theorem bt_set : bootBuiltins "set" = some (.type "set") := by decide +kernel

section
variable {X : Cx}
theorem pe_ls {es : List Expr} {t : TA} {pos : Pos} (h : PA X es t) : PE X (.List es pos) (tLs t) := by
  have b := pe_lst (pos := pos) h
  constructor
  intro pins s σ H Q I q
  refine wpAny_List_spliced (thn (h.run pos pins s σ H _ I q) ?_)
  rintro us s1 ⟨xs, H1, I1, r, z, q⟩
  refine ⟨by rw [← r.length]; exact z, ?_⟩
  have hf : H1 s1.heap.objs.size = none := I1.hok.fresh (Nat.le_refl _)
  have J : Inv X pins σ (upd H1 s1.heap.objs.size (.lst xs)) { s1 with heap := s1.heap.push { cls := .type "list", data := .seq us.toArray } } :=
    I1.laid (t' := s1.toks) (fun b u e => Heap.get?_push_of_some _ e) (Nat.le_refl _) ⟨z, us, 0, r, Heap.get?_push_size _ rfl⟩
  exact ⟨.ref s1.heap.objs.size, _, J, rfl, newO q _ hf⟩
theorem pe_tp {es : List Expr} {t : TA} {k : Nat} {pos : Pos} (h : PA X es t) : PE X (.Tuple es k pos) (tTp t) := by
  constructor
  intro pins s σ H Q I q
  refine wpAny_Tuple_spliced (thn (h.run pos pins s σ H _ I q) ?_)
  rintro us s1 ⟨xs, H1, I1, r, z, q⟩
  refine ⟨by rw [← r.length]; exact z, ?_⟩
  have hf : H1 s1.heap.objs.size = none := I1.hok.fresh (Nat.le_refl _)
  refine ⟨.ref s1.heap.objs.size, upd H1 s1.heap.objs.size (.tup xs), I1.laid (t' := s1.toks) (fun b u e => Heap.get?_push_of_some _ e) (Nat.le_refl _) ?_, rfl, newO q _ hf⟩
  exact ⟨z, us, r, ⟨_, Heap.get?_push_size _ rfl, rfl, _, rfl⟩⟩
def zList (K : PySem.W.Frag) : List V → Hp → VK → Prop := fun xs H Q => ∃ p ys, xs = [.ref p] ∧ (SqL K H p ys ∨ SqT K H p ys) ∧ ∀ l, H l = none → Q (.ref l) (upd H l (.lst ys))
def zTuple (K : PySem.W.Frag) : List V → Hp → VK → Prop := fun xs H Q => ∃ p ys, xs = [.ref p] ∧ ((SqL K H p ys ∧ ∀ l, H l = none → Q (.ref l) (upd H l (.tup ys))) ∨ (SqT K H p ys ∧ Q (.ref p) H))
theorem o_list : CallR X (.type "list") (zList X.K) := call_list_of
theorem o_tuple : CallR X (.type "tuple") (zTuple X.K) := call_tuple_of
end
section
variable {K : PySem.W.Frag} {w : World} {σ : L2.St} {H : Hp} {Q : VK} {x y : V} {a b : Int} {s t : Str} {p q : Addr} {xs ys : List V}
theorem kList_L (h : SqL K H p xs) (k : ∀ r H2, H r = none → L2.Same H H2 → H2 r = some (.lst xs) → H2 = upd H r (.lst xs) → Q (.ref r) H2) : zList K [.ref p] H Q := ⟨p, xs, rfl, .inl h, newO k⟩
theorem kList_T (h : SqT K H p xs) (k : ∀ r H2, H r = none → L2.Same H H2 → H2 r = some (.lst xs) → H2 = upd H r (.lst xs) → Q (.ref r) H2) : zList K [.ref p] H Q := ⟨p, xs, rfl, .inr h, newO k⟩
theorem kTuple_L (h : SqL K H p xs) (k : ∀ r H2, H r = none → L2.Same H H2 → H2 r = some (.tup xs) → H2 = upd H r (.tup xs) → Q (.ref r) H2) : zTuple K [.ref p] H Q := ⟨p, xs, rfl, .inl ⟨h, newO k⟩⟩
theorem kTuple_T (h : SqT K H p xs) (k : Q (.ref p) H) : zTuple K [.ref p] H Q := ⟨p, xs, rfl, .inr ⟨h, k⟩⟩
/-! isinstance -/
theorem kIsi {T : String} {b : Bool} {n : String} (ty : TyX K H x (.type n)) (h : kitB n T = some b) (k : Q (.bl b) H) : rIsi K [x, .ty T] H Q :=
  ⟨x, .ty T, .type n, .type T, b, rfl, .ty T, ty, kit_ty h, k⟩
theorem kIsi_non {T : String} {b : Bool} (h : kitB "NoneType" T = some b) (k : Q (.bl b) H) : rIsi K [.non, .ty T] H Q := kIsi (.base .non) h k
theorem kIsi_bl {T : String} {b c : Bool} (h : kitB "bool" T = some b) (k : Q (.bl b) H) : rIsi K [.bl c, .ty T] H Q := kIsi (.base (.bl c)) h k
theorem kIsi_int {T : String} {b : Bool} (h : kitB "int" T = some b) (k : Q (.bl b) H) : rIsi K [.int a, .ty T] H Q := kIsi (.base (.int a)) h k
theorem kIsi_str {T : String} {b : Bool} (h : kitB "str" T = some b) (k : Q (.bl b) H) : rIsi K [.str s, .ty T] H Q := kIsi (.base (.str s)) h k
theorem tyx_lst (h : SqL K H p xs) : TyX K H (.ref p) (.type "list") := by
  rcases h with (h | ⟨o, h⟩) | ⟨o, its, n, h, c, _⟩
  · exact .base (.lst h)
  · exact .base (.frz h)
  · exact .kList h c
theorem tyx_tup (h : SqT K H p xs) : TyX K H (.ref p) (.type "tuple") := by
  rcases h with (h | ⟨o, h⟩) | ⟨o, its, n, h, c, _⟩
  · exact .base (.tup h)
  · exact .fTuple h
  · exact .kTuple h c
theorem kIsi_lst {T : String} {b : Bool} (hp : SqL K H p xs) (h : kitB "list" T = some b) (k : Q (.bl b) H) : rIsi K [.ref p, .ty T] H Q := kIsi (tyx_lst hp) h k
theorem kIsi_tup {T : String} {b : Bool} (hp : SqT K H p xs) (h : kitB "tuple" T = some b) (k : Q (.bl b) H) : rIsi K [.ref p, .ty T] H Q := kIsi (tyx_tup hp) h k
theorem kIsi_dct {T : String} {b : Bool} {kvs : List (Key × V)} (hp : H p = some (.dK kvs)) (h : kitB "dict" T = some b) (k : Q (.bl b) H) : rIsi K [.ref p, .ty T] H Q := kIsi (.base (.dK hp)) h k
/-! other built-ins -/
theorem kAll {bs : List Bool} (h : SqL K H p (bs.map V.bl)) (k : Q (.bl (bs.all id)) H) : rAll K [.ref p] H Q := ⟨p, bs, rfl, h, k⟩
theorem kRepr {d : PyData} {n m : Nat} (h : Rp K H x d) (sm : Sm n m d) (h1 : n ≤ 40) (h2 : m ≤ 1000000) (k : Q (.str d.shown) H) : rRepr K [x] H Q :=
  ⟨x, d, rfl, h, sm.sh, small_le (Nat.le_trans sm.ln h2), Nat.le_trans sm.dp h1, k⟩
end
/-! targets -/
section
variable {K : PySem.W.Frag} {σ : L2.St} {H : Hp} {N : L2.St → Hp → Prop} {to ti : TE} {ts : TSet} {v w : V} {vs xs : List V} {g : TG} {gs : TGs} {n i : Nat} {p : Addr} {a : Int}
theorem g_tup (h : SqT K H p xs) (hl : xs.length = n) (k : gs xs σ H N) : gTup K n gs (.ref p) σ H N := ⟨p, xs, rfl, h, hl, k⟩
theorem g_gnil (k : N σ H) : gNil [] σ H N := ⟨rfl, k⟩
theorem g_gcons (k : g v σ H fun σ' H' => gs vs σ' H' N) : gCons g gs (v :: vs) σ H N := ⟨v, vs, rfl, k⟩
theorem g_sub (k : to σ H fun o H1 => ti σ H1 fun i H2 => ts o i v H2 fun H3 => N σ H3) : gSub to ti ts v σ H N := k
theorem kSetL (h : H p = some (.lst xs)) (h0 : 0 ≤ a) (h1 : a < (xs.length : Int)) {R : Hp → Prop} (k : R (upd H p (.lst (xs.set a.toNat v)))) : rSetL (.ref p) (.int a) v H R := by
  refine ⟨p, xs, a, a.toNat, rfl, rfl, h, ?_, k⟩
  unfold ixN
  rw [if_pos h0, if_pos h1]
end
/-! named readings of some rules -/
section
variable {X : Cx}
def zAbs : List V → Hp → VK → Prop := fun xs H Q => ∃ i, xs = [.int i] ∧ Q (.int (if i < 0 then -i else i)) H
def zMax : List V → Hp → VK → Prop := fun xs H Q => ∃ i j, xs = [.int i, .int j] ∧ Q (.int (if j > i then j else i)) H
def zMin : List V → Hp → VK → Prop := fun xs H Q => ∃ i j, xs = [.int i, .int j] ∧ Q (.int (if j < i then j else i)) H
def zDivmod : List V → Hp → VK → Prop := fun xs H Q => ∃ i j, xs = [.int i, .int j] ∧ CDivP i j ∧ ∀ p, H p = none → Q (.ref p) (upd H p (.tup [.int (i / j), .int (i % j)]))
theorem o_abs : CallR X (.builtin "abs") zAbs := call_abs
theorem o_max (hc : X.calm = true) : CallR X (.builtin "max") zMax := call_max2 hc
theorem o_min (hc : X.calm = true) : CallR X (.builtin "min") zMin := call_min2 hc
theorem o_divmod : CallR X (.builtin "divmod") zDivmod := call_divmodW
def zNeg : V → Hp → VK → Prop := rU fun i => .int (-i)
theorem o_neg : UnR X (unaryOp .USub) zNeg := un_neg
def zTru (K : PySem.W.Frag) (te : TE) : TT := fun σ H Q => te σ H fun x H' => ∃ k, TruV K x H' k ∧ Q k H'
theorem pt_tru {a : Expr} {ta : TE} (ha : PE X a ta) (he : ∀ whole, isTrue a X.env whole = (do let v ← whole; standAt a.pos; holding [v] (truthy v)) := by intro _; rfl) : PT X a (zTru X.K ta) := pt_truth ha he
def zInsert : V → List V → Hp → VK → Prop := fun x vs H Q => ∃ (l : Addr) (xs : List V) (i : Int) (y : V), x = .ref l ∧ vs = [.int i, y] ∧ H l = some (.lst xs) ∧ xs.length < sizeLine ∧ 0 ≤ i ∧ i < 2 ^ 63 ∧
  Q .non (upd H l (.lst (xs.take i.toNat ++ [y] ++ xs.drop i.toNat)))
theorem m_insert : MtR X "list.insert" zInsert := mt_insert
theorem m_append : MtR X "list.append" rAppend := mt_append
theorem m_popAt : MtR X "list.pop" rPopAt := mt_popAt
theorem m_pop0 : MtR X "list.pop" rPop := mt_pop
def zJoin (K : PySem.W.Frag) : V → List V → Hp → VK → Prop := fun x xs H Q => ∃ a p, ∃ ys : List Str, x = .str a ∧ xs = [.ref p] ∧ (SqL K H p (ys.map V.str) ∨ SqT K H p (ys.map V.str)) ∧
  (ys.map (·.length)).sum + ys.length * a.length ≤ 16777216 ∧ Q (.str (Txt.join a ys)) H
theorem pe_joinZ {o e : Expr} {to te : TE} {apos pos : Pos} (ho : PE X o to) (he : PE X e te) (hs : starEach [e] X.env = [(false, eval e X.env)] := by rfl) (hbase : attributeBase o "join" X.env (eval o X.env) = eval o X.env := by rfl) (hline : (apos.endLine == pos.line) = true := by rfl) :
    PE X (.Call (.Attribute o "join" apos) [e] [] pos) (tM1 (zJoin X.K) to te) := pe_join ho he hs hbase hline
end
section
variable {K : PySem.W.Frag} {w : World} {σ : L2.St} {H : Hp} {Q : VK} {x y : V} {a b : Int} {s t : Str} {p q : Addr} {xs ys : List V} {te to : TE} {tA : TA}
theorem kAbs (k : Q (.int (if a < 0 then -a else a)) H) : zAbs [.int a] H Q := ⟨a, rfl, k⟩
theorem kMax (k : Q (.int (if b > a then b else a)) H) : zMax [.int a, .int b] H Q := ⟨a, b, rfl, k⟩
theorem kMin (k : Q (.int (if b < a then b else a)) H) : zMin [.int a, .int b] H Q := ⟨a, b, rfl, k⟩
theorem kDivmod {a b : Int} {H : Hp} {Q : VK} (c : 0 < b) (c2 : b < 10 ^ 40) (k : ∀ r H2, H r = none → L2.Same H H2 → H2 r = some (.tup [.int (a / b), .int (a % b)]) → H2 = upd H r (.tup [.int (a / b), .int (a % b)]) → Q (.ref r) H2) :
    zDivmod [V.int a, V.int b] H Q := by
  refine ⟨a, b, rfl, ⟨c, PyProof.noPylong_of_log2 ?_⟩, newO k⟩
  have h1 : b.natAbs ≠ 0 := by omega
  have h2 : b.natAbs < 10 ^ 40 := by omega
  exact (Nat.log2_lt h1).mpr (Nat.lt_of_lt_of_le h2 (by decide +kernel))
theorem kNeg (k : Q (.int (-a)) H) : zNeg (.int a) H Q := ⟨a, rfl, k⟩
theorem g_tru {R : Bool → Hp → Prop} (k : te σ H fun x H' => ∃ k, TruV K x H' k ∧ R k H') : zTru K te σ H R := k
theorem g_m1 {r : V → List V → Hp → VK → Prop} (k : to σ H fun x H1 => (∃ a, x = .str a) ∧ te σ H1 fun y H2 => r x [y] H2 Q) : tM1 r to te σ H Q := k
theorem g_m0 {r : V → List V → Hp → VK → Prop} (k : to σ H fun x H1 => (∃ a, x = .str a) ∧ r x [] H1 Q) : tM0 r to σ H Q := k
theorem k_isS {A : Prop} (k : A) : (∃ a, V.str s = .str a) ∧ A := ⟨⟨s, rfl⟩, k⟩
theorem g_bm {T : String} {r : V → List V → Hp → VK → Prop} (k : to σ H fun x H1 => tyV K T x H1 ∧ tA σ H1 fun xs H2 => r x xs H2 Q) : tBM K T r to tA σ H Q := k
theorem g_bm0 {T : String} {r : V → List V → Hp → VK → Prop} (k : to σ H fun x H1 => tyV K T x H1 ∧ r x [] H1 Q) : tBM0 K T r to σ H Q := k
theorem k_tyL {A : Prop} (h : H p = some (.lst xs)) (k : A) : tyV K "list" (.ref p) H ∧ A := ⟨.inl ⟨rfl, _, SqL.of h⟩, k⟩
theorem kAppend (h : H p = some (.lst xs)) (hl : xs.length ≤ 100000) (k : Q .non (upd H p (.lst (xs ++ [x])))) : rAppend (.ref p) [x] H Q := ⟨p, xs, x, rfl, rfl, h, szlt hl, k⟩
theorem kInsert (h : H p = some (.lst xs)) (hl : xs.length ≤ 100000) (h0 : 0 ≤ a) (h1 : a ≤ 100000) (k : Q .non (upd H p (.lst (xs.take a.toNat ++ [x] ++ xs.drop a.toNat)))) : zInsert (.ref p) [.int a, x] H Q :=
  ⟨p, xs, a, x, rfl, rfl, h, szlt hl, h0, by omega, k⟩
theorem kPopAt (h : H p = some (.lst xs)) (h0 : 0 ≤ a) (h1 : a < (xs.length : Int)) (h2 : xs.length ≤ 100000) (k : ∀ y, xs[a.toNat]? = some y → Q y (upd H p (.lst (xs.eraseIdx a.toNat)))) : rPopAt (.ref p) [.int a] H Q := by
  have hlt : a.toNat < xs.length := by omega
  refine ⟨p, xs, a, a.toNat, xs[a.toNat], rfl, rfl, h, by omega, by omega, ?_, List.getElem?_eq_getElem hlt, k _ (List.getElem?_eq_getElem hlt)⟩
  unfold seqIndex?
  first
    | (simp [h0, h1]; done)
    | (simp [h0, h1]; omega)
theorem kJoin {ys : List Str} (h : SqL K H p (ys.map V.str)) (hl : (ys.map (·.length)).sum + ys.length * s.length ≤ 1000000) (k : Q (.str (Txt.join s ys)) H) : zJoin K (.str s) [.ref p] H Q :=
  ⟨s, p, ys, rfl, rfl, .inl h, Nat.le_trans hl (by decide), k⟩
theorem g_sl {r : V → Option Int → Option Int → Hp → VK → Prop} {tl th : TO} (k : te σ H fun x H1 => tl σ H1 fun l H2 => th σ H2 fun u H3 => r x l u H3 Q) : tSl r te tl th σ H Q := k
theorem g_part {R : Option Int → Hp → Prop} (k : te σ H fun x H1 => ∃ i, x = .int i ∧ R (some i) H1) : tPart te σ H R := k
theorem g_nopart {R : Option Int → Hp → Prop} (k : R none H) : tNoPart σ H R := k
theorem k_int {R : Int → Prop} (k : R a) : ∃ i, V.int a = .int i ∧ R i := ⟨a, rfl, k⟩
theorem g_par3 {n b c : L2.St → Hp → Prop} {r : VK} {i j l : Nat} (k : tA σ H fun vs H1 => ∃ u v w, vs = [u, v, w] ∧ gName i u σ H1 fun σ1 H2 => gName j v σ1 H2 fun σ2 H3 => gName l w σ2 H3 n) : tPar3 i j l tA ⟨n, r, b, c⟩ σ H := k
theorem k_par3 {u v w : V} {R : V → V → V → Prop} (k : R u v w) : ∃ a b c, [u, v, w] = [a, b, c] ∧ R a b c := ⟨u, v, w, rfl, k⟩
end
end Z

/-! Z8: comprehensions whose items are told one by one; small data; other words. -/
namespace Z
open PySem PySem.Spec PyProof.Rows L2 RZ

theorem ints_at {ns : List Int} {i : Nat} {v : V} (h : (ns.map V.int)[i]? = some v) : ∃ z, v = .int z ∧ ns[i]? = some z := by
  rw [List.getElem?_map] at h
  cases e : ns[i]? with
  | none => rw [e] at h; cases h
  | some z => rw [e] at h; exact ⟨z, (Option.some.inj h).symm, rfl⟩
theorem strs_at {ns : List Str} {i : Nat} {v : V} (h : (ns.map V.str)[i]? = some v) : ∃ z, v = .str z ∧ ns[i]? = some z := by
  rw [List.getElem?_map] at h
  cases e : ns[i]? with
  | none => rw [e] at h; cases h
  | some z => rw [e] at h; exact ⟨z, (Option.some.inj h).symm, rfl⟩
theorem take_snoc {α : Type} {l : List α} {i : Nat} {x : α} (h : l[i]? = some x) : l.take (i + 1) = l.take i ++ [x] := by
  rw [List.take_add_one, h]
  rfl

section
variable {te : TE} {tt : TT} {σ : L2.St} {H1 : Hp} {Q : VK} {j l : Nat}
theorem sel_end {acc : List V} {H : Hp} {D : Addr} (h : L2.Same H1 H) (hD : H D = none) (k : ∀ D H', L2.Same H1 H' → H' D = some (.lst acc) → H1 D = none → H' = upd H D (.lst acc) → Q (.ref D) H') : Q (.ref D) (upd H D (.lst acc)) :=
  k D _ (L2.Same.trans h (Same.new hD)) upd_same (L2.Same.free h hD) rfl
theorem selRange {lo : Int} {n : Nat} (sel : Nat → List V) (hn : n ≤ 1000000)
    (hs : ∀ (i : Nat) acc G, i < n → L2.Same H1 G → Turn tt te σ j (.int (lo + i)) acc G fun acc' G' => L2.Same G G' ∧ acc' = acc ++ sel i)
    (hd : ∀ D H', L2.Same H1 H' → H' D = some (.lst ((List.range n).flatMap sel)) → H1 D = none → Q (.ref D) H') :
    ∀ D, H1 D = none → ∃ W : Nat → Nat → Hp → Prop, (∃ m, W 0 m (upd H1 D (.lst []))) ∧ ∀ i m H, W i m H →
      ((Itr lo n).stop i H ∧ Q (.ref D) H) ∨ ((Itr lo n).go i H ∧ ∃ Nx : Hp → Prop, (∀ H', Nx H' → ∃ m', m' < m ∧ W (i + 1) m' H') ∧
        ∀ x H', (Itr lo n).yld i H x H' → gName j x (wipe σ [j]) H' fun σ2 H2 => wipe σ2 [j] = wipe σ [j] ∧ tFrT tt σ2 H2 fun b H3 =>
          if b = true then tFr te σ2 H3 fun y H4 => ∃ acc, H4 D = some (.lst acc) ∧ acc.length < sizeLine ∧ Nx (upd H4 D (.lst (acc ++ [y]))) else Nx H3) := by
  refine lcF_range (fun i acc H => L2.Same H1 H ∧ acc = (List.range i).flatMap sel) ⟨L2.Same.refl _, rfl⟩ hn ?_ ?_
  · rintro i acc H hi _ ⟨he, rfl⟩ R hR
    refine hs i ((List.range i).flatMap sel) H hi he R ?_
    intro b G3 hb
    refine hR b G3 ?_
    cases b with
    | false =>
      rw [if_neg Bool.false_ne_true] at hb ⊢
      exact ⟨L2.Same.trans he hb.1, by rw [hb.2, List.range_succ, List.flatMap_append]; simp⟩
    | true =>
      rw [if_pos rfl] at hb ⊢
      intro R2 hR2
      refine hb R2 ?_
      rintro y G4 ⟨e4, e5⟩
      exact hR2 y G4 ⟨L2.Same.trans he e4, by rw [e5, List.range_succ, List.flatMap_append]; simp⟩
  · rintro acc H D _ ⟨he, rfl⟩ hD
    exact sel_end he hD fun D H' a b c _ => hd D H' a b c
theorem selList {K : PySem.W.Frag} {a : Addr} {xs : List V} (sel : V → List V) (hl : SqL K H1 a xs) (hn : xs.length ≤ 1000000)
    (hs : ∀ (i : Nat) (x : V) acc G, xs[i]? = some x → L2.Same H1 G → Turn tt te σ j x acc G fun acc' G' => L2.Same G G' ∧ acc' = acc ++ sel x)
    (hd : ∀ D H', L2.Same H1 H' → H' D = some (.lst (xs.flatMap sel)) → H1 D = none → Q (.ref D) H') :
    ∀ D, H1 D = none → ∃ W : Nat → Nat → Hp → Prop, (∃ m, W 0 m (upd H1 D (.lst []))) ∧ ∀ i m H, W i m H →
      ((Itl K a).stop i H ∧ Q (.ref D) H) ∨ ((Itl K a).go i H ∧ ∃ Nx : Hp → Prop, (∀ H', Nx H' → ∃ m', m' < m ∧ W (i + 1) m' H') ∧
        ∀ x H', (Itl K a).yld i H x H' → gName j x (wipe σ [j]) H' fun σ2 H2 => wipe σ2 [j] = wipe σ [j] ∧ tFrT tt σ2 H2 fun b H3 =>
          if b = true then tFr te σ2 H3 fun y H4 => ∃ acc, H4 D = some (.lst acc) ∧ acc.length < sizeLine ∧ Nx (upd H4 D (.lst (acc ++ [y]))) else Nx H3) := by
  refine lcF_list (K := K) (a := a) (xs := xs) (fun i acc H => L2.Same H1 H ∧ acc = (xs.take i).flatMap sel) ⟨L2.Same.refl _, by simp⟩ hn (fun i acc H h => h.1.seq hl) ?_ ?_
  · rintro i x acc H hi _ ⟨he, rfl⟩ R hR
    refine hs i x ((xs.take i).flatMap sel) H hi he R ?_
    intro b G3 hb
    refine hR b G3 ?_
    cases b with
    | false =>
      rw [if_neg Bool.false_ne_true] at hb ⊢
      exact ⟨L2.Same.trans he hb.1, by rw [hb.2, take_snoc hi, List.flatMap_append]; simp⟩
    | true =>
      rw [if_pos rfl] at hb ⊢
      intro R2 hR2
      refine hb R2 ?_
      rintro y G4 ⟨e4, e5⟩
      exact hR2 y G4 ⟨L2.Same.trans he e4, by rw [e5, take_snoc hi, List.flatMap_append]; simp⟩
  · rintro acc H D _ ⟨he, rfl⟩ hD
    rw [List.take_length]
    exact sel_end he hD fun D H' a b c _ => hd D H' a b c
theorem selTup {K : PySem.W.Frag} {a : Addr} {xs : List V} (sel : V → List V) (hl : SqT K H1 a xs) (hn : xs.length ≤ 1000000)
    (hs : ∀ (i : Nat) (x : V) acc G, xs[i]? = some x → L2.Same H1 G → Turn tt te σ j x acc G fun acc' G' => L2.Same G G' ∧ acc' = acc ++ sel x)
    (hd : ∀ D H', L2.Same H1 H' → H' D = some (.lst (xs.flatMap sel)) → H1 D = none → Q (.ref D) H') :
    ∀ D, H1 D = none → ∃ W : Nat → Nat → Hp → Prop, (∃ m, W 0 m (upd H1 D (.lst []))) ∧ ∀ i m H, W i m H →
      ((Itt K a).stop i H ∧ Q (.ref D) H) ∨ ((Itt K a).go i H ∧ ∃ Nx : Hp → Prop, (∀ H', Nx H' → ∃ m', m' < m ∧ W (i + 1) m' H') ∧
        ∀ x H', (Itt K a).yld i H x H' → gName j x (wipe σ [j]) H' fun σ2 H2 => wipe σ2 [j] = wipe σ [j] ∧ tFrT tt σ2 H2 fun b H3 =>
          if b = true then tFr te σ2 H3 fun y H4 => ∃ acc, H4 D = some (.lst acc) ∧ acc.length < sizeLine ∧ Nx (upd H4 D (.lst (acc ++ [y]))) else Nx H3) := by
  refine lcF_tup (K := K) (a := a) (xs := xs) (fun i acc H => L2.Same H1 H ∧ acc = (xs.take i).flatMap sel) ⟨L2.Same.refl _, by simp⟩ hn (fun i acc H h => Same.seqT h.1 hl) ?_ ?_
  · rintro i x acc H hi _ ⟨he, rfl⟩ R hR
    refine hs i x ((xs.take i).flatMap sel) H hi he R ?_
    intro b G3 hb
    refine hR b G3 ?_
    cases b with
    | false =>
      rw [if_neg Bool.false_ne_true] at hb ⊢
      exact ⟨L2.Same.trans he hb.1, by rw [hb.2, take_snoc hi, List.flatMap_append]; simp⟩
    | true =>
      rw [if_pos rfl] at hb ⊢
      intro R2 hR2
      refine hb R2 ?_
      rintro y G4 ⟨e4, e5⟩
      exact hR2 y G4 ⟨L2.Same.trans he e4, by rw [e5, take_snoc hi, List.flatMap_append]; simp⟩
  · rintro acc H D _ ⟨he, rfl⟩ hD
    rw [List.take_length]
    exact sel_end he hD fun D H' a b c _ => hd D H' a b c
theorem selStr {z : Str} (sel : Nat → List V) (hn : z.length ≤ 1000000)
    (hs : ∀ (i c : Nat) acc G, z.cps.toList[i]? = some c → L2.Same H1 G → Turn tt te σ j (.str ⟨#[c]⟩) acc G fun acc' G' => L2.Same G G' ∧ acc' = acc ++ sel c)
    (hd : ∀ D H', L2.Same H1 H' → H' D = some (.lst (z.cps.toList.flatMap sel)) → H1 D = none → Q (.ref D) H') :
    ∀ D, H1 D = none → ∃ W : Nat → Nat → Hp → Prop, (∃ m, W 0 m (upd H1 D (.lst []))) ∧ ∀ i m H, W i m H →
      ((Its z).stop i H ∧ Q (.ref D) H) ∨ ((Its z).go i H ∧ ∃ Nx : Hp → Prop, (∀ H', Nx H' → ∃ m', m' < m ∧ W (i + 1) m' H') ∧
        ∀ x H', (Its z).yld i H x H' → gName j x (wipe σ [j]) H' fun σ2 H2 => wipe σ2 [j] = wipe σ [j] ∧ tFrT tt σ2 H2 fun b H3 =>
          if b = true then tFr te σ2 H3 fun y H4 => ∃ acc, H4 D = some (.lst acc) ∧ acc.length < sizeLine ∧ Nx (upd H4 D (.lst (acc ++ [y]))) else Nx H3) := by
  have hz : z.cps.size = z.cps.toList.length := by simp
  refine lcF_str (z := z) (fun i acc H => L2.Same H1 H ∧ acc = (z.cps.toList.take i).flatMap sel) ⟨L2.Same.refl _, by simp⟩ hn ?_ ?_
  · rintro i x acc H hi _ ⟨he, rfl⟩ R hR
    refine hs i x ((z.cps.toList.take i).flatMap sel) H hi he R ?_
    intro b G3 hb
    refine hR b G3 ?_
    cases b with
    | false =>
      rw [if_neg Bool.false_ne_true] at hb ⊢
      exact ⟨L2.Same.trans he hb.1, by rw [hb.2, take_snoc hi, List.flatMap_append]; simp⟩
    | true =>
      rw [if_pos rfl] at hb ⊢
      intro R2 hR2
      refine hb R2 ?_
      rintro y G4 ⟨e4, e5⟩
      exact hR2 y G4 ⟨L2.Same.trans he e4, by rw [e5, take_snoc hi, List.flatMap_append]; simp⟩
  · rintro acc H D _ ⟨he, rfl⟩ hD
    rw [hz, List.take_length]
    exact sel_end he hD fun D H' a b c _ => hd D H' a b c
def zipSel (sel : V → V → List V) (xs ys : List V) : List V := (xs.zip ys).flatMap fun p => sel p.1 p.2
theorem selZipT {K : PySem.W.Frag} {a b : Addr} {xs ys : List V} (hjl : j ≠ l) (sel : V → V → List V) (h1 : SqT K H1 a xs) (h2 : SqT K H1 b ys) (hlen : xs.length = ys.length) (hn : xs.length ≤ 1000000)
    (hs : ∀ (i : Nat) (x y : V) acc G, xs[i]? = some x → ys[i]? = some y → L2.Same H1 G → Turn2 tt te σ j l x y acc G fun acc' G' => L2.Same G G' ∧ acc' = acc ++ sel x y)
    (hd : ∀ D H', L2.Same H1 H' → H' D = some (.lst (zipSel sel xs ys)) → H1 D = none → Q (.ref D) H') :
    ∀ D, H1 D = none → ∃ W : Nat → Nat → Hp → Prop, (∃ m, W 0 m (upd H1 D (.lst []))) ∧ ∀ i m H, W i m H →
      ((ItzT K a b).stop i H ∧ Q (.ref D) H) ∨ ((ItzT K a b).go i H ∧ ∃ Nx : Hp → Prop, (∀ H', Nx H' → ∃ m', m' < m ∧ W (i + 1) m' H') ∧
        ∀ x H', (ItzT K a b).yld i H x H' → gTup K 2 (gCons (gName j) (gCons (gName l) gNil)) x (wipe σ [j, l]) H' fun σ2 H2 => wipe σ2 [j, l] = wipe σ [j, l] ∧ tFrT tt σ2 H2 fun b H3 =>
          if b = true then tFr te σ2 H3 fun y H4 => ∃ acc, H4 D = some (.lst acc) ∧ acc.length < sizeLine ∧ Nx (upd H4 D (.lst (acc ++ [y]))) else Nx H3) := by
  have step : ∀ {i x y}, xs[i]? = some x → ys[i]? = some y → ((xs.zip ys).take (i + 1)) = (xs.zip ys).take i ++ [(x, y)] := fun {i x y} hx hy => take_snoc (by rw [List.getElem?_zip_eq_some]; exact ⟨hx, hy⟩)
  refine lcF_zipT (K := K) (a := a) (b := b) (xs := xs) (ys := ys) hjl (fun i acc H => L2.Same H1 H ∧ acc = ((xs.zip ys).take i).flatMap fun p => sel p.1 p.2) ⟨L2.Same.refl _, by simp⟩ hlen hn (fun i acc H h => ⟨Same.seqT h.1 h1, Same.seqT h.1 h2⟩) ?_ ?_
  · rintro i x y acc H H' hx hy _ ⟨he, rfl⟩ he' R hR
    refine hs i x y (((xs.zip ys).take i).flatMap fun p => sel p.1 p.2) H' hx hy (L2.Same.trans he he') R ?_
    intro b G3 hb
    refine hR b G3 ?_
    cases b with
    | false =>
      rw [if_neg Bool.false_ne_true] at hb ⊢
      exact ⟨L2.Same.trans (L2.Same.trans he he') hb.1, by rw [hb.2, step hx hy, List.flatMap_append]; simp⟩
    | true =>
      rw [if_pos rfl] at hb ⊢
      intro R2 hR2
      refine hb R2 ?_
      rintro y G4 ⟨e4, e5⟩
      exact hR2 y G4 ⟨L2.Same.trans (L2.Same.trans he he') e4, by rw [e5, step hx hy, List.flatMap_append]; simp⟩
  · rintro acc H D _ ⟨he, rfl⟩ hD
    have hz : (xs.zip ys).length = xs.length := by rw [List.length_zip]; omega
    rw [← hz, List.take_length]
    exact sel_end he hD fun D H' a b c _ => hd D H' a b c
end
/-! the comprehension itself: what it goes over -/
section
variable {te ti : TE} {tt : TT} {σ : L2.St} {H : Hp} {Q : VK} {j : Nat} {g : TG} {vs : List Nat} {tA : TA} {K : PySem.W.Frag} {wi : TI}
theorem g_lc (k : wi σ H fun J H1 => ∀ D, H1 D = none → ∃ W : Nat → Nat → Hp → Prop, (∃ m, W 0 m (upd H1 D (.lst []))) ∧ ∀ i m H, W i m H →
    (J.stop i H ∧ Q (.ref D) H) ∨ (J.go i H ∧ ∃ Nx : Hp → Prop, (∀ H', Nx H' → ∃ m', m' < m ∧ W (i + 1) m' H') ∧ ∀ x H', J.yld i H x H' → g x (wipe σ vs) H' fun σ2 H2 => wipe σ2 vs = wipe σ vs ∧ tt σ2 H2 fun b H3 =>
      if b = true then te σ2 H3 fun y H4 => ∃ acc, H4 D = some (.lst acc) ∧ acc.length < sizeLine ∧ Nx (upd H4 D (.lst (acc ++ [y]))) else Nx H3)) : tLc wi g tt te vs σ H Q := k
variable {R : It → Hp → Prop}
theorem g_iRng1 (k : tA σ H fun vs H1 => ∃ j : Int, vs = [.int j] ∧ -(2 ^ 62) ≤ j ∧ j < 2 ^ 62 ∧ R (Itr 0 j.toNat) H1) : iRng1 tA σ H R := k
theorem k_rng1 {a : Int} (h0 : -1000000 ≤ a) (h1 : a ≤ 1000000) (k : R (Itr 0 a.toNat) H) : ∃ j : Int, [V.int a] = [.int j] ∧ -(2 ^ 62) ≤ j ∧ j < 2 ^ 62 ∧ R (Itr 0 j.toNat) H := ⟨a, rfl, by omega, by omega, k⟩
theorem g_iList (k : ti σ H fun x H1 => ∃ a, x = .ref a ∧ (∃ xs, SqL K H1 a xs) ∧ R (Itl K a) H1) : iList K ti σ H R := k
theorem k_iList {a : Addr} {xs : List V} (h : SqL K H a xs) (k : R (Itl K a) H) : ∃ b, V.ref a = .ref b ∧ (∃ xs, SqL K H b xs) ∧ R (Itl K b) H := ⟨a, rfl, ⟨xs, h⟩, k⟩
theorem g_iTup (k : ti σ H fun x H1 => ∃ a, x = .ref a ∧ (∃ xs, SqT K H1 a xs) ∧ R (Itt K a) H1) : iTup K ti σ H R := k
theorem k_iTup {a : Addr} {xs : List V} (h : SqT K H a xs) (k : R (Itt K a) H) : ∃ b, V.ref a = .ref b ∧ (∃ xs, SqT K H b xs) ∧ R (Itt K b) H := ⟨a, rfl, ⟨xs, h⟩, k⟩
theorem g_iStr (k : ti σ H fun v H1 => ∃ x, v = .str x ∧ R (Its x) H1) : iStr ti σ H R := k
theorem k_iStr {z : Str} (k : R (Its z) H) : ∃ x, V.str z = .str x ∧ R (Its x) H := ⟨z, rfl, k⟩
theorem g_iZipA (k : tA σ H fun vs H1 => ∃ a b xs ys, vs = [.ref a, .ref b] ∧ ((SqL K H1 a xs ∧ SqL K H1 b ys ∧ R (Itz K a b) H1) ∨ (SqT K H1 a xs ∧ SqT K H1 b ys ∧ R (ItzT K a b) H1))) : iZipA K tA σ H R := k
theorem k_zipT {a b : Addr} {xs ys : List V} (h1 : SqT K H a xs) (h2 : SqT K H b ys) (k : R (ItzT K a b) H) : ∃ a' b' xs ys, [V.ref a, V.ref b] = [.ref a', .ref b'] ∧ ((SqL K H a' xs ∧ SqL K H b' ys ∧ R (Itz K a' b') H) ∨ (SqT K H a' xs ∧ SqT K H b' ys ∧ R (ItzT K a' b') H)) :=
  ⟨a, b, xs, ys, rfl, .inr ⟨h1, h2, k⟩⟩
end
/-! the whole comprehension, told by sel: what each item adds -/
def tMo (t : TE) : TE := fun σ H Q => ∃ P : VK, t σ H P ∧ ∀ v H', P v H' → Q v H'
def tMoA (t : TA) : TA := fun σ H Q => ∃ P : List V → Hp → Prop, t σ H P ∧ ∀ v H', P v H' → Q v H'
theorem pe_mo {X : Cx} {e : Expr} {t : TE} (h : PE X e t) : PE X e (tMo t) := by
  constructor
  rintro pins s σ H Q I ⟨P, hp, k⟩
  refine thn (h.run pins s σ H P I hp) ?_
  rintro u s' ⟨v, H', I', r, p⟩
  exact ⟨v, H', I', r, k _ _ p⟩
theorem pa_mo {X : Cx} {e : List Expr} {t : TA} (h : PA X e t) : PA X e (tMoA t) := by
  constructor
  rintro pos pins s σ H Q I ⟨P, hp, k⟩
  refine thn (h.run pos pins s σ H P I hp) ?_
  rintro u s' ⟨v, H', I', r, p⟩
  exact ⟨v, H', I', r, k _ _ p⟩
section
variable {te ti : TE} {tt : TT} {σ : L2.St} {H H1 : Hp} {Q : VK} {j l : Nat} {tA : TA} {K : PySem.W.Frag}
def SelS (tt : TT) (te : TE) (σ : L2.St) (j : Nat) (Q : VK) (v : V) (H1 : Hp) : Prop := ∃ (z : Str) (sel : Nat → List V), v = .str z ∧ z.length ≤ 1000000 ∧
  (∀ (i c : Nat) acc G, z.cps.toList[i]? = some c → L2.Same H1 G → Turn tt te σ j (.str ⟨#[c]⟩) acc G fun acc' G' => L2.Same G G' ∧ acc' = acc ++ sel c) ∧
  ∀ D H', L2.Same H1 H' → H' D = some (.lst (z.cps.toList.flatMap sel)) → H1 D = none → Q (.ref D) H'
theorem cStr (k : ti σ H (SelS tt te σ j Q)) : tLc (iStr (tMo ti)) (gName j) (tFrT tt) (tFr te) [j] σ H Q := by
  refine ⟨_, k, ?_⟩
  rintro v H' ⟨z, sel, rfl, h1, h2, h3⟩
  exact ⟨z, rfl, selStr sel h1 h2 h3⟩
def SelL (K : PySem.W.Frag) (tt : TT) (te : TE) (σ : L2.St) (j : Nat) (Q : VK) (v : V) (H1 : Hp) : Prop := ∃ (a : Addr) (xs : List V) (sel : V → List V), v = .ref a ∧ SqL K H1 a xs ∧ xs.length ≤ 1000000 ∧
  (∀ (i : Nat) (x : V) acc G, xs[i]? = some x → L2.Same H1 G → Turn tt te σ j x acc G fun acc' G' => L2.Same G G' ∧ acc' = acc ++ sel x) ∧
  ∀ D H', L2.Same H1 H' → H' D = some (.lst (xs.flatMap sel)) → H1 D = none → Q (.ref D) H'
theorem cList (k : ti σ H (SelL K tt te σ j Q)) : tLc (iList K (tMo ti)) (gName j) (tFrT tt) (tFr te) [j] σ H Q := by
  refine ⟨_, k, ?_⟩
  rintro v H' ⟨a, xs, sel, rfl, h0, h1, h2, h3⟩
  exact ⟨a, rfl, ⟨xs, h0⟩, selList sel h0 h1 h2 h3⟩
def SelT (K : PySem.W.Frag) (tt : TT) (te : TE) (σ : L2.St) (j : Nat) (Q : VK) (v : V) (H1 : Hp) : Prop := ∃ (a : Addr) (xs : List V) (sel : V → List V), v = .ref a ∧ SqT K H1 a xs ∧ xs.length ≤ 1000000 ∧
  (∀ (i : Nat) (x : V) acc G, xs[i]? = some x → L2.Same H1 G → Turn tt te σ j x acc G fun acc' G' => L2.Same G G' ∧ acc' = acc ++ sel x) ∧
  ∀ D H', L2.Same H1 H' → H' D = some (.lst (xs.flatMap sel)) → H1 D = none → Q (.ref D) H'
theorem cTup (k : ti σ H (SelT K tt te σ j Q)) : tLc (iTup K (tMo ti)) (gName j) (tFrT tt) (tFr te) [j] σ H Q := by
  refine ⟨_, k, ?_⟩
  rintro v H' ⟨a, xs, sel, rfl, h0, h1, h2, h3⟩
  exact ⟨a, rfl, ⟨xs, h0⟩, selTup sel h0 h1 h2 h3⟩
def SelR (tt : TT) (te : TE) (σ : L2.St) (j : Nat) (Q : VK) (vs : List V) (H1 : Hp) : Prop := ∃ (n : Int) (sel : Nat → List V), vs = [.int n] ∧ -1000000 ≤ n ∧ n ≤ 1000000 ∧
  (∀ (i : Nat) acc G, i < n.toNat → L2.Same H1 G → Turn tt te σ j (.int (i : Int)) acc G fun acc' G' => L2.Same G G' ∧ acc' = acc ++ sel i) ∧
  ∀ D H', L2.Same H1 H' → H' D = some (.lst ((List.range n.toNat).flatMap sel)) → H1 D = none → Q (.ref D) H'
theorem cRng (k : tA σ H (SelR tt te σ j Q)) : tLc (iRng1 (tMoA tA)) (gName j) (tFrT tt) (tFr te) [j] σ H Q := by
  refine ⟨_, k, ?_⟩
  rintro v H' ⟨n, sel, rfl, h0, h1, h2, h3⟩
  refine ⟨n, rfl, by omega, by omega, selRange sel (by omega) (fun i acc G hi he => ?_) h3⟩
  have := h2 i acc G hi he
  rw [Int.zero_add]
  exact this
/-- the same by a word of one's own: W of the turn, the list so far, the heap -/
def WordR (tt : TT) (te : TE) (σ : L2.St) (j : Nat) (Q : VK) (vs : List V) (H1 : Hp) : Prop := ∃ (n : Int) (Pv : Nat → List V → Hp → Prop), vs = [.int n] ∧ -1000000 ≤ n ∧ n ≤ 1000000 ∧ Pv 0 [] H1 ∧
  (∀ (i : Nat) acc G, i < n.toNat → acc.length ≤ i → Pv i acc G → Turn tt te σ j (.int (i : Int)) acc G (Pv (i + 1))) ∧
  ∀ acc G D, acc.length ≤ n.toNat → Pv n.toNat acc G → G D = none → Q (.ref D) (upd G D (.lst acc))
theorem cRngW (k : tA σ H (WordR tt te σ j Q)) : tLc (iRng1 (tMoA tA)) (gName j) (tFrT tt) (tFr te) [j] σ H Q := by
  refine ⟨_, k, ?_⟩
  rintro v H' ⟨n, Pv, rfl, h0, h1, h2, h3, h4⟩
  refine ⟨n, rfl, by omega, by omega, lcF_range Pv h2 (by omega) (fun i acc G hi hl p => ?_) h4⟩
  have := h3 i acc G hi hl p
  rw [Int.zero_add]
  exact this
def WordL (K : PySem.W.Frag) (tt : TT) (te : TE) (σ : L2.St) (j : Nat) (Q : VK) (v : V) (H1 : Hp) : Prop := ∃ (a : Addr) (xs : List V) (Pv : Nat → List V → Hp → Prop), v = .ref a ∧ SqL K H1 a xs ∧ xs.length ≤ 1000000 ∧ Pv 0 [] H1 ∧
  (∀ i acc G, Pv i acc G → SqL K G a xs) ∧ (∀ (i : Nat) (x : V) acc G, xs[i]? = some x → acc.length ≤ i → Pv i acc G → Turn tt te σ j x acc G (Pv (i + 1))) ∧
  ∀ acc G D, acc.length ≤ xs.length → Pv xs.length acc G → G D = none → Q (.ref D) (upd G D (.lst acc))
theorem cListW (k : ti σ H (WordL K tt te σ j Q)) : tLc (iList K (tMo ti)) (gName j) (tFrT tt) (tFr te) [j] σ H Q := by
  refine ⟨_, k, ?_⟩
  rintro v H' ⟨a, xs, Pv, rfl, h0, h1, h2, h3, h4, h5⟩
  exact ⟨a, rfl, ⟨xs, h0⟩, lcF_list (K := K) (a := a) (xs := xs) Pv h2 h1 h3 h4 h5⟩
def SelZ (K : PySem.W.Frag) (tt : TT) (te : TE) (σ : L2.St) (j l : Nat) (Q : VK) (vs : List V) (H1 : Hp) : Prop := ∃ (a b : Addr) (xs ys : List V) (sel : V → V → List V), vs = [.ref a, .ref b] ∧ j ≠ l ∧ SqT K H1 a xs ∧ SqT K H1 b ys ∧ xs.length = ys.length ∧ xs.length ≤ 1000000 ∧
  (∀ (i : Nat) (x y : V) acc G, xs[i]? = some x → ys[i]? = some y → L2.Same H1 G → Turn2 tt te σ j l x y acc G fun acc' G' => L2.Same G G' ∧ acc' = acc ++ sel x y) ∧
  ∀ D H', L2.Same H1 H' → H' D = some (.lst (zipSel sel xs ys)) → H1 D = none → Q (.ref D) H'
theorem cZipT (k : tA σ H (SelZ K tt te σ j l Q)) : tLc (iZipA K (tMoA tA)) (gTup K 2 (gCons (gName j) (gCons (gName l) gNil))) (tFrT tt) (tFr te) [j, l] σ H Q := by
  refine ⟨_, k, ?_⟩
  rintro v H' ⟨a, b, xs, ys, sel, rfl, hjl, h0, h0', hlen, h1, h2, h3⟩
  exact ⟨a, b, xs, ys, rfl, .inr ⟨h0, h0', selZipT hjl sel h0 h0' hlen h1 h2 h3⟩⟩
end
theorem flat_bl {α : Type} (f : α → Bool) (xs : List α) : xs.flatMap (fun x => [V.bl (f x)]) = (xs.map f).map V.bl := by
  induction xs with
  | nil => rfl
  | cons a r ih => rw [List.flatMap_cons, ih]; rfl
section
variable {K : PySem.W.Frag} {H : Hp} {Q : VK} {D : Addr}
theorem kAllF {α : Type} {f : α → Bool} {xs : List α} (h : H D = some (.lst (xs.flatMap fun x => [V.bl (f x)]))) (k : Q (.bl (xs.all f)) H) : rAll K [.ref D] H Q := by
  refine kAll (bs := xs.map f) (SqL.of (by rw [← flat_bl]; exact h)) ?_
  have e : (xs.map f).all id = xs.all f := by rw [List.all_map]; rfl
  rw [e]; exact k
theorem kAllZ {f : V → V → Bool} {xs ys : List V} (h : H D = some (.lst (zipSel (fun x y => [V.bl (f x y)]) xs ys))) (k : Q (.bl ((xs.zip ys).all fun p => f p.1 p.2)) H) : rAll K [.ref D] H Q := by
  refine kAllF (f := fun p : V × V => f p.1 p.2) (xs := xs.zip ys) h k
theorem flat_str {α : Type} (f : α → Str) (p : α → Bool) (xs : List α) : xs.flatMap (fun x => if p x = true then [V.str (f x)] else []) = ((xs.filter p).map f).map V.str := by
  induction xs with
  | nil => rfl
  | cons a r ih =>
    rw [List.flatMap_cons, ih]
    by_cases h : p a = true
    · rw [if_pos h, List.filter_cons_of_pos h]; rfl
    · rw [if_neg h, List.filter_cons_of_neg h]; rfl
end
/-! small data by its shape -/
inductive Gd (m : Nat) : Nat → PyData → Prop
  | none (k : Nat) : Gd m k .none
  | bool (k : Nat) (b : Bool) : Gd m k (.bool b)
  | int (k : Nat) {i : Int} (h : i.natAbs < 10 ^ 60) : Gd m k (.int i)
  | str (k : Nat) {x : Str} (h : x.length ≤ 30) (hc : ∀ c ∈ x.cps.toList, c < 16 ^ 8) : Gd m k (.str x)
  | list {k : Nat} {ds : List PyData} (h : ∀ d ∈ ds, Gd m k d) (hl : ds.length ≤ m) : Gd m (k + 1) (.list ds)
  | tuple {k : Nat} {ds : List PyData} (h : ∀ d ∈ ds, Gd m k d) (hl : ds.length ≤ m) : Gd m (k + 1) (.tuple ds)
  | dict0 (k : Nat) : Gd m (k + 1) (.dict [])
  | dict1 {k : Nat} {a b : PyData} (h1 : Gd m k a) (h2 : Gd m k b) : Gd m (k + 1) (.dict [(a, b)])
def gdN (m : Nat) : Nat → Nat
  | 0 => 302
  | k + 1 => (m + 2) * (gdN m k + 4) + 4
theorem gdN_ge (m : Nat) : ∀ k, 302 ≤ gdN m k
  | 0 => Nat.le_refl _
  | k + 1 => by
    have := gdN_ge m k
    show 302 ≤ (m + 2) * (gdN m k + 4) + 4
    have : 2 * (gdN m k + 4) ≤ (m + 2) * (gdN m k + 4) := Nat.mul_le_mul_right _ (by omega)
    omega
theorem Gd.sm {m : Nat} : ∀ {k : Nat} {d : PyData}, Gd m k d → Sm k (gdN m k) d
  | k, _, .none _ => Sm.none.mono (Nat.zero_le _) (by have := gdN_ge m k; omega)
  | k, _, .bool _ b => (Sm.bool b).mono (Nat.zero_le _) (by have := gdN_ge m k; omega)
  | k, _, .int _ h => (Sm.int h).mono (Nat.zero_le _) (by have := gdN_ge m k; omega)
  | k, _, .str _ h hc => (Sm.str h hc).mono (Nat.zero_le _) (by have := gdN_ge m k; omega)
  | k + 1, _, .list h hl => (Sm.list (fun d hd => (h d hd).sm) hl).mono (Nat.le_refl _) (by
      show m * (gdN m k + 2) + 2 ≤ (m + 2) * (gdN m k + 4) + 4
      have : m * (gdN m k + 2) ≤ (m + 2) * (gdN m k + 4) := Nat.mul_le_mul (by omega) (by omega)
      omega)
  | k + 1, _, .tuple h hl => (Sm.tuple (fun d hd => (h d hd).sm) hl).mono (Nat.le_refl _) (by
      show m * (gdN m k + 2) + 3 ≤ (m + 2) * (gdN m k + 4) + 4
      have : m * (gdN m k + 2) ≤ (m + 2) * (gdN m k + 4) := Nat.mul_le_mul (by omega) (by omega)
      omega)
  | k + 1, _, .dict0 _ => ⟨rfl, by have := gdN_ge m (k + 1); have e : (PyData.dict []).shown.length ≤ 2 := by decide +kernel
                                   omega, by show PyData.depthKv [] + 1 ≤ k + 1; exact Nat.succ_le_succ (Nat.zero_le _)⟩
  | k + 1, _, .dict1 (a := a) (b := b) h1 h2 => by
    have s1 := h1.sm
    have s2 := h2.sm
    refine ⟨?_, ?_, ?_⟩
    · show (a.showable && b.showable && true) = true
      rw [s1.sh, s2.sh] <;> rfl
    · refine Nat.le_trans (dictText_le _) ?_
      show piled [a.shown ++ ": " ++ b.shown] + 2 ≤ (m + 2) * (gdN m k + 4) + 4
      rw [piled_cons, strLen_append, strLen_append, piled_nil]
      have e : (Str.ofString ": ").length = 2 := by decide +kernel
      have := s1.ln
      have := s2.ln
      have : 2 * (gdN m k + 4) ≤ (m + 2) * (gdN m k + 4) := Nat.mul_le_mul_right _ (by omega)
      omega
    · show max (max a.depth b.depth) 0 + 1 ≤ k + 1
      have := s1.dp
      have := s2.dp
      omega
theorem Gd.up {m : Nat} : ∀ {k k' : Nat} {d : PyData}, Gd m k d → k ≤ k' → Gd m k' d
  | _, k', _, .none _, _ => .none k'
  | _, k', _, .bool _ b, _ => .bool k' b
  | _, k', _, .int _ h, _ => .int k' h
  | _, k', _, .str _ h hc, _ => .str k' h hc
  | k + 1, k' + 1, _, .list h hl, e => .list (fun d hd => (h d hd).up (Nat.le_of_succ_le_succ e)) hl
  | k + 1, k' + 1, _, .tuple h hl, e => .tuple (fun d hd => (h d hd).up (Nat.le_of_succ_le_succ e)) hl
  | k + 1, k' + 1, _, .dict0 _, _ => .dict0 k'
  | k + 1, k' + 1, _, .dict1 h1 h2, e => .dict1 (h1.up (Nat.le_of_succ_le_succ e)) (h2.up (Nat.le_of_succ_le_succ e))
section
variable {σ : L2.St} {H : Hp} {Q : VK} {r r' : R2} {ta tb tc : TE}
theorem g_chain (k : ta σ H fun x H1 => tb σ H1 fun y H2 => r x y H2 fun z H3 => ∃ k, z = .bl k ∧ if k = true then tc σ H3 fun v H4 => r' y v H4 Q else Q (.bl false) H3) : tChain r r' ta tb tc σ H Q := k
end
/-! isinstance, kind by kind -/
section
variable {K : PySem.W.Frag} {H : Hp} {Q : VK} {a : Int} {c : Bool} {s : Str} {p : Addr} {xs : List V} {kvs : List (Key × V)}
theorem kI_non_str (k : Q (.bl false) H) : rIsi K [.non, .ty "str"] H Q := kIsi_non (by decide +kernel) k
theorem kI_non_int (k : Q (.bl false) H) : rIsi K [.non, .ty "int"] H Q := kIsi_non (by decide +kernel) k
theorem kI_non_bool (k : Q (.bl false) H) : rIsi K [.non, .ty "bool"] H Q := kIsi_non (by decide +kernel) k
theorem kI_non_tuple (k : Q (.bl false) H) : rIsi K [.non, .ty "tuple"] H Q := kIsi_non (by decide +kernel) k
theorem kI_non_list (k : Q (.bl false) H) : rIsi K [.non, .ty "list"] H Q := kIsi_non (by decide +kernel) k
theorem kI_non_dict (k : Q (.bl false) H) : rIsi K [.non, .ty "dict"] H Q := kIsi_non (by decide +kernel) k
theorem kI_bl_str (k : Q (.bl false) H) : rIsi K [(.bl c), .ty "str"] H Q := kIsi_bl (by decide +kernel) k
theorem kI_bl_int (k : Q (.bl true) H) : rIsi K [(.bl c), .ty "int"] H Q := kIsi_bl (by decide +kernel) k
theorem kI_bl_bool (k : Q (.bl true) H) : rIsi K [(.bl c), .ty "bool"] H Q := kIsi_bl (by decide +kernel) k
theorem kI_bl_tuple (k : Q (.bl false) H) : rIsi K [(.bl c), .ty "tuple"] H Q := kIsi_bl (by decide +kernel) k
theorem kI_bl_list (k : Q (.bl false) H) : rIsi K [(.bl c), .ty "list"] H Q := kIsi_bl (by decide +kernel) k
theorem kI_bl_dict (k : Q (.bl false) H) : rIsi K [(.bl c), .ty "dict"] H Q := kIsi_bl (by decide +kernel) k
theorem kI_int_str (k : Q (.bl false) H) : rIsi K [(.int a), .ty "str"] H Q := kIsi_int (by decide +kernel) k
theorem kI_int_int (k : Q (.bl true) H) : rIsi K [(.int a), .ty "int"] H Q := kIsi_int (by decide +kernel) k
theorem kI_int_bool (k : Q (.bl false) H) : rIsi K [(.int a), .ty "bool"] H Q := kIsi_int (by decide +kernel) k
theorem kI_int_tuple (k : Q (.bl false) H) : rIsi K [(.int a), .ty "tuple"] H Q := kIsi_int (by decide +kernel) k
theorem kI_int_list (k : Q (.bl false) H) : rIsi K [(.int a), .ty "list"] H Q := kIsi_int (by decide +kernel) k
theorem kI_int_dict (k : Q (.bl false) H) : rIsi K [(.int a), .ty "dict"] H Q := kIsi_int (by decide +kernel) k
theorem kI_str_str (k : Q (.bl true) H) : rIsi K [(.str s), .ty "str"] H Q := kIsi_str (by decide +kernel) k
theorem kI_str_int (k : Q (.bl false) H) : rIsi K [(.str s), .ty "int"] H Q := kIsi_str (by decide +kernel) k
theorem kI_str_bool (k : Q (.bl false) H) : rIsi K [(.str s), .ty "bool"] H Q := kIsi_str (by decide +kernel) k
theorem kI_str_tuple (k : Q (.bl false) H) : rIsi K [(.str s), .ty "tuple"] H Q := kIsi_str (by decide +kernel) k
theorem kI_str_list (k : Q (.bl false) H) : rIsi K [(.str s), .ty "list"] H Q := kIsi_str (by decide +kernel) k
theorem kI_str_dict (k : Q (.bl false) H) : rIsi K [(.str s), .ty "dict"] H Q := kIsi_str (by decide +kernel) k
theorem kI_lst_str (hp : SqL K H p xs) (k : Q (.bl false) H) : rIsi K [(.ref p), .ty "str"] H Q := kIsi_lst hp (by decide +kernel) k
theorem kI_lst_int (hp : SqL K H p xs) (k : Q (.bl false) H) : rIsi K [(.ref p), .ty "int"] H Q := kIsi_lst hp (by decide +kernel) k
theorem kI_lst_bool (hp : SqL K H p xs) (k : Q (.bl false) H) : rIsi K [(.ref p), .ty "bool"] H Q := kIsi_lst hp (by decide +kernel) k
theorem kI_lst_tuple (hp : SqL K H p xs) (k : Q (.bl false) H) : rIsi K [(.ref p), .ty "tuple"] H Q := kIsi_lst hp (by decide +kernel) k
theorem kI_lst_list (hp : SqL K H p xs) (k : Q (.bl true) H) : rIsi K [(.ref p), .ty "list"] H Q := kIsi_lst hp (by decide +kernel) k
theorem kI_lst_dict (hp : SqL K H p xs) (k : Q (.bl false) H) : rIsi K [(.ref p), .ty "dict"] H Q := kIsi_lst hp (by decide +kernel) k
theorem kI_tup_str (hp : SqT K H p xs) (k : Q (.bl false) H) : rIsi K [(.ref p), .ty "str"] H Q := kIsi_tup hp (by decide +kernel) k
theorem kI_tup_int (hp : SqT K H p xs) (k : Q (.bl false) H) : rIsi K [(.ref p), .ty "int"] H Q := kIsi_tup hp (by decide +kernel) k
theorem kI_tup_bool (hp : SqT K H p xs) (k : Q (.bl false) H) : rIsi K [(.ref p), .ty "bool"] H Q := kIsi_tup hp (by decide +kernel) k
theorem kI_tup_tuple (hp : SqT K H p xs) (k : Q (.bl true) H) : rIsi K [(.ref p), .ty "tuple"] H Q := kIsi_tup hp (by decide +kernel) k
theorem kI_tup_list (hp : SqT K H p xs) (k : Q (.bl false) H) : rIsi K [(.ref p), .ty "list"] H Q := kIsi_tup hp (by decide +kernel) k
theorem kI_tup_dict (hp : SqT K H p xs) (k : Q (.bl false) H) : rIsi K [(.ref p), .ty "dict"] H Q := kIsi_tup hp (by decide +kernel) k
theorem kI_dct_str (hp : H p = some (.dK kvs)) (k : Q (.bl false) H) : rIsi K [(.ref p), .ty "str"] H Q := kIsi_dct hp (by decide +kernel) k
theorem kI_dct_int (hp : H p = some (.dK kvs)) (k : Q (.bl false) H) : rIsi K [(.ref p), .ty "int"] H Q := kIsi_dct hp (by decide +kernel) k
theorem kI_dct_bool (hp : H p = some (.dK kvs)) (k : Q (.bl false) H) : rIsi K [(.ref p), .ty "bool"] H Q := kIsi_dct hp (by decide +kernel) k
theorem kI_dct_tuple (hp : H p = some (.dK kvs)) (k : Q (.bl false) H) : rIsi K [(.ref p), .ty "tuple"] H Q := kIsi_dct hp (by decide +kernel) k
theorem kI_dct_list (hp : H p = some (.dK kvs)) (k : Q (.bl false) H) : rIsi K [(.ref p), .ty "list"] H Q := kIsi_dct hp (by decide +kernel) k
theorem kI_dct_dict (hp : H p = some (.dK kvs)) (k : Q (.bl true) H) : rIsi K [(.ref p), .ty "dict"] H Q := kIsi_dct hp (by decide +kernel) k
end
end Z

/-! Z9: loops with a word of the turn; is with a truth. -/
namespace Z
open PySem PySem.Spec PyProof.Rows L2 RZ

def ForR (tu : TS) (σ : L2.St) (j : Nat) (n b c : L2.St → Hp → Prop) (r : VK) (vs : List V) (H1 : Hp) : Prop := ∃ (m : Int) (Pv : Nat → L2.St → Hp → Prop), vs = [.int m] ∧ 0 ≤ m ∧ m ≤ 100000 ∧ Pv 0 σ H1 ∧
  (∀ (i : Nat) σ' H', (i : Int) < m → Pv i σ' H' → tu ⟨Pv (i + 1), r, n, Pv (i + 1)⟩ (σ'.set j (some (.int (i : Int)))) H') ∧ ∀ σ' H', Pv m.toNat σ' H' → n σ' H'
theorem fRng {tA : TA} {tu : TS} {σ : L2.St} {H : Hp} {j : Nat} {n b c : L2.St → Hp → Prop} {r : VK} (k : tA σ H (ForR tu σ j n b c r)) : tFor (iRng1 (tMoA tA)) (gName j) tu ⟨n, r, b, c⟩ σ H := by
  refine ⟨_, k, ?_⟩
  rintro v H' ⟨m, Pv, rfl, h0, h1, h2, h3, h4⟩
  refine ⟨m, rfl, by omega, by omega, ?_⟩
  refine for_range (lo := 0) (n := m.toNat) Pv h2 (fun i σ' H' hi p => ?_) h4
  have e0 : (0 : Int) + (i : Int) = (i : Int) := Int.zero_add _
  show tu _ (σ'.set j (some (.int ((0 : Int) + (i : Int))))) H'
  rw [e0]
  exact h3 i σ' H' (by omega) p
def ForL (K : PySem.W.Frag) (g : TG) (tu : TS) (σ : L2.St) (n b c : L2.St → Hp → Prop) (r : VK) (v : V) (H1 : Hp) : Prop := ∃ (a : Addr) (xs : List V) (Pv : Nat → L2.St → Hp → Prop), v = .ref a ∧ SqL K H1 a xs ∧ Pv 0 σ H1 ∧
  (∀ i σ' H', i ≤ xs.length → Pv i σ' H' → SqL K H' a xs) ∧
  (∀ (i : Nat) x σ' H', xs[i]? = some x → Pv i σ' H' → g x σ' H' fun σ2 H2 => tu ⟨Pv (i + 1), r, n, Pv (i + 1)⟩ σ2 H2) ∧ ∀ σ' H', Pv xs.length σ' H' → n σ' H'
theorem fList {K : PySem.W.Frag} {te : TE} {g : TG} {tu : TS} {σ : L2.St} {H : Hp} {n b c : L2.St → Hp → Prop} {r : VK} (k : te σ H (ForL K g tu σ n b c r)) : tFor (iList K (tMo te)) g tu ⟨n, r, b, c⟩ σ H := by
  refine ⟨_, k, ?_⟩
  rintro v H' ⟨a, xs, Pv, rfl, h0, h2, h1, h3, h4⟩
  exact ⟨a, rfl, ⟨xs, h0⟩, for_list Pv h2 h1 h3 h4⟩
def ForT (K : PySem.W.Frag) (g : TG) (tu : TS) (σ : L2.St) (n b c : L2.St → Hp → Prop) (r : VK) (v : V) (H1 : Hp) : Prop := ∃ (a : Addr) (xs : List V) (Pv : Nat → L2.St → Hp → Prop), v = .ref a ∧ SqT K H1 a xs ∧ Pv 0 σ H1 ∧
  (∀ i σ' H', i ≤ xs.length → Pv i σ' H' → SqT K H' a xs) ∧
  (∀ (i : Nat) x σ' H', xs[i]? = some x → Pv i σ' H' → g x σ' H' fun σ2 H2 => tu ⟨Pv (i + 1), r, n, Pv (i + 1)⟩ σ2 H2) ∧ ∀ σ' H', Pv xs.length σ' H' → n σ' H'
theorem fTup {K : PySem.W.Frag} {te : TE} {g : TG} {tu : TS} {σ : L2.St} {H : Hp} {n b c : L2.St → Hp → Prop} {r : VK} (k : te σ H (ForT K g tu σ n b c r)) : tFor (iTup K (tMo te)) g tu ⟨n, r, b, c⟩ σ H := by
  refine ⟨_, k, ?_⟩
  rintro v H' ⟨a, xs, Pv, rfl, h0, h2, h1, h3, h4⟩
  exact ⟨a, rfl, ⟨xs, h0⟩, for_tup Pv h2 h1 h3 h4⟩
def zIsB : R2 := fun x y H Q => ∃ a b, x = .bl a ∧ y = .bl b ∧ Q (.bl (decide (a = b))) H
def zNotB : R2 := fun x y H Q => ∃ a b, x = .bl a ∧ y = .bl b ∧ Q (.bl (!decide (a = b))) H
theorem o_isB {X : Cx} : OpR X (compareOp .Is) zIsB := op_is_bl
theorem o_notB {X : Cx} : OpR X (compareOp .IsNot) zNotB := op_isnot_bl
theorem kIs_B {H : Hp} {Q : VK} {a b : Bool} (k : Q (.bl (decide (a = b))) H) : zIsB (.bl a) (.bl b) H Q := ⟨a, b, rfl, rfl, k⟩
theorem kNot_B {H : Hp} {Q : VK} {a b : Bool} (k : Q (.bl (!decide (a = b))) H) : zNotB (.bl a) (.bl b) H Q := ⟨a, b, rfl, rfl, k⟩
theorem kNot_T {H : Hp} {Q : VK} {a : Bool} (k : Q (.bl (!a)) H) : zNotB (.bl a) (.bl true) H Q := kNot_B (by cases a <;> exact k)
/-- a pot told again -/
theorem pot_same {H H2 : Hp} {p : Addr} {o : HO} (hp : H p = some (pot p)) (e : L2.Same (upd H p o) H2) : L2.Same H (upd H2 p (pot p)) := by
  intro b u hb
  by_cases q : b = p
  · rw [q, upd_same, ← hp, ← q]; exact hb
  · rw [upd_ne q]; exact e b u (by rw [upd_ne q]; exact hb)
/-- a list changed where an older heap knows nothing of it -/
theorem same_upd {H H2 : Hp} {p : Addr} {o : HO} (hp : H p = none) (e : L2.Same H H2) : L2.Same H (upd H2 p o) := by
  intro b u hb
  by_cases q : b = p
  · rw [q] at hb; rw [hp] at hb; cases hb
  · rw [upd_ne q]; exact e b u hb
theorem all_of_len {α : Type} [DecidableEq α] {ys : List α} : ∀ {xs : List α}, xs.Nodup → (∀ x ∈ xs, x ∈ ys) → xs.length ≤ ys.length := by
  intro xs
  induction xs generalizing ys with
  | nil => intro _ _; exact Nat.zero_le _
  | cons a r ih =>
    intro hn h
    have ha : a ∈ ys := h a List.mem_cons_self
    have hn' := List.nodup_cons.mp hn
    have := ih (ys := ys.erase a) hn'.2 fun x hx => (List.mem_erase_of_ne (show x ≠ a from fun e => hn'.1 (by rw [← e]; exact hx))).mpr (h x (List.mem_cons_of_mem _ hx))
    rw [List.length_erase_of_mem ha] at this
    have : 0 < ys.length := List.length_pos_of_mem ha
    simp only [List.length_cons]
    omega
/-! texts glued without a word between -/
theorem joinL_nil : ∀ ps : List (List Nat), TL.joinL [] ps = ps.flatten
  | [] => rfl
  | [p] => by show p = p ++ []; rw [List.append_nil]
  | p :: q :: r => by
    show p ++ ([] ++ TL.joinL [] (q :: r)) = p ++ (q :: r).flatten
    rw [joinL_nil (q :: r), List.nil_append]
theorem join0 (ps : List Str) : (Txt.join "" ps).cps.toList = (ps.map fun z => z.cps.toList).flatten := by
  rw [TL.join_eq]
  have e := TL.tl_join "" ps
  have e2 : TL.tl "" = [] := by decide +kernel
  rw [e2, joinL_nil] at e
  exact e
/-- signs, one by one -/
def one (c : Nat) : Str := ⟨#[c]⟩
theorem flat_one (cs : List Nat) : ((cs.map one).map fun z => z.cps.toList).flatten = cs := by
  induction cs with
  | nil => rfl
  | cons c r ih =>
    show [c] ++ _ = _
    rw [List.map_map] at ih ⊢
    show [c] ++ (r.map _).flatten = c :: r
    rw [ih]; rfl
theorem join_ones (cs : List Nat) : Txt.join "" (cs.map one) = ⟨cs.toArray⟩ := by
  have e := join0 (cs.map one)
  rw [flat_one] at e
  exact TL.ext_tl e
theorem sum_ones (cs : List Nat) : ((cs.map one).map (·.length)).sum = cs.length := by
  induction cs with
  | nil => rfl
  | cons c r ih => simp only [List.map_cons, List.sum_cons, List.length_cons, ih]; show 1 + _ = _; omega
theorem kJoin1 {K : PySem.W.Frag} {H : Hp} {Q : VK} {p : Addr} {cs : List Nat} (h : SqL K H p (cs.map fun c => V.str (one c))) (hl : cs.length ≤ 1000000) (k : Q (.str ⟨cs.toArray⟩) H) : zJoin K (.str "") [.ref p] H Q := by
  refine kJoin (ys := cs.map one) (by rw [List.map_map]; exact h) ?_ (by rw [join_ones]; exact k)
  rw [sum_ones]
  show cs.length + (cs.map one).length * 0 ≤ 1000000
  omega
theorem inV_str {z : Str} {us : List Str} : inV (.str z) (us.map V.str) = decide (z ∈ us) := by
  induction us with
  | nil => rfl
  | cons a r ih =>
    show (eqV (.str a) (.str z) || inV (.str z) (r.map V.str)) = _
    rw [ih]
    have e : eqV (.str a) (.str z) = decide (a = z) := by
      show (a == z) = _
      by_cases h : a = z <;> simp [h]
    rw [e]
    by_cases h : a = z
    · simp [h]
    · simp [h, show ¬ z = a from fun e => h e.symm]
theorem flat_strs {us : List Str} : (us.map V.str).all flatV = true := by
  rw [List.all_eq_true]
  intro v hv
  obtain ⟨z, _, rfl⟩ := List.mem_map.mp hv
  rfl
theorem kNin_LS {K : PySem.W.Frag} {w : World} {H : Hp} {Q : VK} {q : Addr} {z : Str} {us : List Str} (h : SqL K H q (us.map V.str)) (k : Q (.bl (!decide (z ∈ us))) H) : zIn K w true (.str z) (.ref q) H Q :=
  kNin_L h rfl flat_strs (by rw [inV_str]; exact k)
theorem kIn_LS {K : PySem.W.Frag} {w : World} {H : Hp} {Q : VK} {q : Addr} {z : Str} {us : List Str} (h : SqL K H q (us.map V.str)) (k : Q (.bl (decide (z ∈ us))) H) : zIn K w false (.str z) (.ref q) H Q :=
  kIn_L h rfl flat_strs (by rw [inV_str]; exact k)
/-! displays of dicts -/
theorem g_dnew {σ : L2.St} {H : Hp} {Q : VK} (k : ∀ p H2, H p = none → L2.Same H H2 → H2 p = some (.dK []) → H2 = upd H p (.dK []) → Q (.ref p) H2) : tDNewK σ H Q := newO k
def tDispC (kvs : List (Str × V)) : TE := tDisp (kvs.map fun kv => (tC (.str kv.1), tC kv.2))
def keyed (kvs : List (Str × V)) : List (Key × V) := kvs.map fun kv => (.inr kv.1, kv.2)
theorem pairsC {σ : L2.St} {G : Hp} {R : List (V × V) → Hp → Prop} : ∀ kvs : List (Str × V), R (kvs.map fun kv => (V.str kv.1, kv.2)) G → tPairs (kvs.map fun kv => (tC (.str kv.1), tC kv.2)) σ G R := by
  intro kvs
  induction kvs generalizing R with
  | nil => intro h; exact h
  | cons a r ih => intro h; exact ih h
theorem g_dispC {σ : L2.St} {H : Hp} {Q : VK} {kvs : List (Str × V)} {o : List (Key × V)} (hl : Nat.ble kvs.length 15 = true) (e : mergeK [] (keyed kvs) = o)
    (k : ∀ p H2, H p = none → L2.Same H H2 → H2 p = some (.dK o) → H2 = upd H p (.dK o) → Q (.ref p) H2) : tDispC kvs σ H Q := by
  subst e
  intro p hp
  refine pairsC kvs ⟨upd_same, keyed kvs, ?_, ?_, ?_⟩
  · unfold keyed; rw [List.map_map]; rfl
  · unfold keyed; rw [List.length_map]; exact Nat.le_of_ble_eq_true hl
  · rw [upd_upd]; exact k p _ hp (Same.new hp) upd_same rfl
theorem g_dput {σ : L2.St} {H : Hp} {td ty tv : TE} {n b c : L2.St → Hp → Prop} {r : VK} (k : tv σ H fun v H1 => td σ H1 fun x H2 => ty σ H2 fun y H3 => ∃ a H4, x = .ref a ∧ DPut H3 a y v H4 ∧ n σ H4) : sDPut td ty tv ⟨n, r, b, c⟩ σ H := k
theorem kPut_S {σ : L2.St} {H : Hp} {n : L2.St → Hp → Prop} {p : Addr} {kvs : List (Key × V)} {z : Str} {v : V} (h : H p = some (.dK kvs)) (hl : kvs.length ≤ 100000) (k : n σ (upd H p (.dK (putK kvs (.inr z) v)))) :
    ∃ a H4, V.ref p = .ref a ∧ DPut H a (.str z) v H4 ∧ n σ H4 := ⟨p, _, rfl, DPut.k (k := .inr z) h (szlt hl), k⟩
theorem kNin_DS {K : PySem.W.Frag} {w : World} {H : Hp} {Q : VK} {q : Addr} {kvs : List (Key × V)} {z : Str} (h : H q = some (.dK kvs)) (k : Q (.bl (!(valV kvs (.inr z)).isSome)) H) : zIn K w true (.str z) (.ref q) H Q := kNin_D (z := .inr z) h k
theorem kIx_DS {K : PySem.W.Frag} {w : World} {H : Hp} {Q : VK} {q : Addr} {kvs : List (Key × V)} {z : Str} {v : V} (h : H q = some (.dK kvs)) (e : valV kvs (.inr z) = some v) (k : Q v H) : zIx K w (.ref q) (.str z) H Q := kIx_D (z := .inr z) h e k
/-! small data, made -/
def GdA (m k : Nat) (ds : List PyData) : Prop := ∀ d ∈ ds, Gd m k d
theorem gA_nil {m k : Nat} : GdA m k [] := fun d h => nomatch h
theorem gA_cons {m k : Nat} {d : PyData} {ds : List PyData} (h : Gd m k d) (r : GdA m k ds) : GdA m k (d :: ds) := fun x hx => by
  rcases List.mem_cons.mp hx with e | e
  · rw [e]; exact h
  · exact r x e
theorem gA_tup {m k : Nat} {ds : List PyData} (h : GdA m k ds) (hl : Nat.ble ds.length m = true) : Gd m (k + 1) (.tuple ds) := .tuple h (Nat.le_of_ble_eq_true hl)
theorem gA_lst {m k : Nat} {ds : List PyData} (h : GdA m k ds) (hl : Nat.ble ds.length m = true) : Gd m (k + 1) (.list ds) := .list h (Nat.le_of_ble_eq_true hl)
theorem gA_app {m k : Nat} {ds es : List PyData} (h : GdA m k ds) (g : GdA m k es) : GdA m k (ds ++ es) := fun x hx => by
  rcases List.mem_append.mp hx with e | e
  · exact h x e
  · exact g x e
end Z

/-! Z10: zip of whatever can be drawn from: two iterators told by Draws; then a text and a tuple. -/
namespace Z
open PySem PySem.Spec PyProof.Rows L2 RZ

/-- the five records of a zip stand apart, and apart from what its two iterators lean on -/
structure Ap (z TI TO i j : Addr) (U V : List Addr) : Prop where
  a1 : TI ≠ z
  a2 : TO ≠ z
  a3 : i ≠ z
  a4 : j ≠ z
  a5 : TI ≠ TO
  a6 : TI ≠ i
  a7 : TI ≠ j
  a8 : TO ≠ i
  a9 : TO ≠ j
  b1 : i ≠ j
  f1 : ∀ c ∈ U, c ≠ z ∧ c ≠ TO ∧ c ≠ j
  f2 : ∀ c ∈ V, c ≠ z ∧ c ≠ TO ∧ c ≠ i
section
variable {prog : Program} {w : World} {A : Around} {E : Value → Shared → Prop}
theorem zn_item {z TI TO i j : Addr} {U V : List Addr} {n m p q : Nat} {PX PY : Nat → Value → Prop} {SX SY : Nat → Heap → Prop} {a b : Value} {Q : Value → Shared → Prop}
    (X : Draws prog w A i U n PX SX) (Y : Draws prog w A j V m PY SY) (D : Ap z TI TO i j U V) {s : Shared}
    (zz : IsZip s.heap z TI TO .none) (ti : IsPair s.heap TI (.ref i) (.ref j)) (to : IsPair s.heap TO a b) (x0 : SX p s.heap) (y0 : SY q s.heap) (lx : p < n) (ly : q < m)
    (hQ : ∀ x y h' tk, PX p x → PY q y → IsZip h' z TI TO (rawInt s.heap.objs.size) → IsPair h' TO x y → SX (p + 1) h' → SY (q + 1) h' → IsPair h' s.heap.objs.size x y → h'.objs.size = s.heap.objs.size + 1 →
      (∀ c o, c ≠ z → c ≠ TO → c ≠ i → c ≠ j → s.heap.get? c = some o → h'.get? c = some o) → Q (.ref s.heap.objs.size) { s with heap := h', toks := tk }) :
    wpAny (model prog w) A (Builtin.«zip.__next__» ⟨[.ref z], []⟩) (fun fin s' => ∃ v, fin = .done (.ret v) ∧ Q v s') E s := by
  show wpAny (model prog w) A (field (.ref z) 2 >>= _) _ E s
  refine wpAny_bind (wpAny_field (x := .bool false) zz rfl rfl ?_)
  show wpAny (model prog w) A (field (.ref z) 3 >>= _) _ E s
  refine wpAny_bind (wpAny_field (x := .ref TI) zz rfl rfl ?_)
  refine wpAny_bind (wpAny_seqItems ti rfl ?_)
  show wpAny (model prog w) A (Builtin.SmallTypes.ownedTupleIsFree (.ref z) >>= _) _ E s
  unfold Builtin.SmallTypes.ownedTupleIsFree
  refine wpAny_bind (wpAny_bind (wpAny_field (x := .none) zz rfl rfl (wpAny_pure ?_)))
  simp only [if_true]
  refine wpAny_bind (wpAny_rule ?_)
  refine wpAny_bind (wpAny_field (x := .ref TO) zz rfl rfl ?_)
  refine wpAny_bind (wpAny_setField_rec zz (by simp) fun g1 z1 u1 => ?_)
  replace z1 : IsZip g1 z TI TO .ellipsis := z1
  refine wpAny_bind ?_
  simp only [List.zipIdx_cons, List.zipIdx_nil, List.forIn_cons, List.forIn_nil]
  have x1 : SX p g1 := X.frame p _ g1 x0 fun c hc o e => u1.extBut _ _ (D.f1 c hc).1 e
  have y1 : SY q g1 := Y.frame q _ g1 y0 fun c hc o e => u1.extBut _ _ (D.f2 c hc).1 e
  have to1 : IsPair g1 TO a b := u1.extBut _ _ D.a2 to
  refine wpAny_bind (wpAny_bind (wpAny_onRaise ?_))
  show wpAny (model prog w) A (Builtin.SmallTypes.nextOf (.ref i) >>= _) _ _ _
  refine wpAny_bind (X.item p _ _ _ lx x1 fun x g2 tk2 px x2 u2 => wpAny_pure ?_)
  replace u2 : Heap.SameBut i g1 g2 := u2
  have to2 : IsPair g2 TO a b := u2.extBut _ _ D.a8 to1
  have y2 : SY q g2 := Y.frame q _ g2 y1 fun c hc o e => u2.extBut _ _ (D.f2 c hc).2.2 e
  have z2 : IsZip g2 z TI TO .ellipsis := u2.extBut _ _ D.a3.symm z1
  refine wpAny_bind (wpAny_seqItems to2 rfl ?_)
  refine wpAny_bind (wpAny_updateSeq_pair to2 fun g3 to3 u3 => ?_)
  replace to3 : IsPair g3 TO x b := to3
  replace u3 : Heap.SameBut TO g2 g3 := u3
  have y3 : SY q g3 := Y.frame q _ g3 y2 fun c hc o e => u3.extBut _ _ (D.f2 c hc).2.1 e
  have x3 : SX (p + 1) g3 := X.frame _ _ g3 x2 fun c hc o e => u3.extBut _ _ (D.f1 c hc).2.1 e
  have z3 : IsZip g3 z TI TO .ellipsis := u3.extBut _ _ D.a2.symm z2
  refine wpAny_bind (wpAny_letGo (wpAny_pure ?_))
  refine wpAny_bind (wpAny_bind (wpAny_onRaise ?_))
  show wpAny (model prog w) A (Builtin.SmallTypes.nextOf (.ref j) >>= _) _ _ _
  refine wpAny_bind (Y.item q _ _ _ ly y3 fun y g4 tk4 py y4 u4 => wpAny_pure ?_)
  replace u4 : Heap.SameBut j g3 g4 := u4
  have to4 : IsPair g4 TO x b := u4.extBut _ _ D.a9 to3
  have x4 : SX (p + 1) g4 := X.frame _ _ g4 x3 fun c hc o e => u4.extBut _ _ (D.f1 c hc).2.2 e
  have z4 : IsZip g4 z TI TO .ellipsis := u4.extBut _ _ D.a4.symm z3
  refine wpAny_bind (wpAny_seqItems to4 rfl ?_)
  refine wpAny_bind (wpAny_updateSeq_pair to4 fun g5 to5 u5 => ?_)
  replace to5 : IsPair g5 TO x y := to5
  replace u5 : Heap.SameBut TO g4 g5 := u5
  have x5 : SX (p + 1) g5 := X.frame _ _ g5 x4 fun c hc o e => u5.extBut _ _ (D.f1 c hc).2.1 e
  have y5 : SY (q + 1) g5 := Y.frame _ _ g5 y4 fun c hc o e => u5.extBut _ _ (D.f2 c hc).2.1 e
  have z5 : IsZip g5 z TI TO .ellipsis := u5.extBut _ _ D.a2.symm z4
  refine wpAny_bind (wpAny_letGo (wpAny_pure (wpAny_pure ?_)))
  refine wpAny_bind (wpAny_seqItems to5 rfl ?_)
  refine wpAny_bind (wpAny_newTuple ?_)
  have sz : g5.objs.size = s.heap.objs.size := by rw [u5.1, u4.1, u3.1, u2.1, u1.1]
  have k5 : ∀ c o, c ≠ z → c ≠ TO → c ≠ i → c ≠ j → s.heap.get? c = some o → g5.get? c = some o := fun c o c1 c2 c3 c4 e =>
    u5.extBut _ _ c2 (u4.extBut _ _ c4 (u3.extBut _ _ c2 (u2.extBut _ _ c3 (u1.extBut _ _ c1 e))))
  have ltz : z < g5.objs.size := Heap.lt_size z5
  show wpAny (model prog w) A (Builtin.SmallTypes.ownedTupleHandOut (.ref z) (.ref g5.objs.size) >>= _) _ E _
  unfold Builtin.SmallTypes.ownedTupleHandOut
  refine wpAny_bind ?_
  have z6 : IsZip (g5.push { cls := .type "tuple", data := .seq #[x, y] }) z TI TO .ellipsis := Heap.get?_push_of_some _ z5
  refine wpAny_bind (wpAny_setField_rec z6 (by simp) fun g7 z7 u7 => ?_)
  replace z7 : IsZip g7 z TI TO (rawInt g5.objs.size) := z7
  refine wpAny_setField_rec z7 (by simp) fun g8 z8 u8 => ?_
  replace z8 : IsZip g8 z TI TO (rawInt g5.objs.size) := z8
  have up : ∀ c o, c ≠ z → g5.get? c = some o → g8.get? c = some o := fun c o c1 e => u8.extBut _ _ c1 (u7.extBut _ _ c1 (Heap.get?_push_of_some _ e))
  have nw : IsPair g8 g5.objs.size x y := u8.extBut _ _ (Nat.ne_of_gt ltz) (u7.extBut _ _ (Nat.ne_of_gt ltz) (Heap.get?_push_size _ rfl))
  have s8 : g8.objs.size = g5.objs.size + 1 := by rw [u8.1, u7.1, Heap.size_push]
  rw [sz] at z8 nw s8
  refine wpAny_pure ⟨_, rfl, ?_⟩
  show Q (.ref g5.objs.size) _
  rw [sz]
  exact hQ x y g8 _ px py z8 (up _ _ D.a2 to5) (X.frame _ _ g8 x5 fun c hc o e => up c o (D.f1 c hc).1 e) (Y.frame _ _ g8 y5 fun c hc o e => up c o (D.f2 c hc).1 e) nw s8 fun c o c1 c2 c3 c4 e => up c o c1 (k5 c o c1 c2 c3 c4 e)
theorem zn_end {z TI TO i j : Addr} {U V : List Addr} {n m p q : Nat} {PX PY : Nat → Value → Prop} {SX SY : Nat → Heap → Prop} {a b : Value} {Q : Fin → Shared → Prop}
    (X : Draws prog w A i U n PX SX) (Y : Draws prog w A j V m PY SY) (D : Ap z TI TO i j U V) {s : Shared}
    (zz : IsZip s.heap z TI TO .none) (ti : IsPair s.heap TI (.ref i) (.ref j)) (to : IsPair s.heap TO a b) (x0 : SX p s.heap) (y0 : SY q s.heap) (l : p = n ∨ (p < n ∧ q = m))
    (hE : ∀ h' tk e, (∀ c o, c ≠ z → c ≠ TO → c ≠ i → c ≠ j → s.heap.get? c = some o → h'.get? c = some o) → (∃ o, h'.get? e = some o ∧ o.cls = .type "StopIteration") → E (.ref e) { s with heap := h', toks := tk }) :
    wpAny (model prog w) A (Builtin.«zip.__next__» ⟨[.ref z], []⟩) Q E s := by
  show wpAny (model prog w) A (field (.ref z) 2 >>= _) _ E s
  refine wpAny_bind (wpAny_field (x := .bool false) zz rfl rfl ?_)
  show wpAny (model prog w) A (field (.ref z) 3 >>= _) _ E s
  refine wpAny_bind (wpAny_field (x := .ref TI) zz rfl rfl ?_)
  refine wpAny_bind (wpAny_seqItems ti rfl ?_)
  show wpAny (model prog w) A (Builtin.SmallTypes.ownedTupleIsFree (.ref z) >>= _) _ E s
  unfold Builtin.SmallTypes.ownedTupleIsFree
  refine wpAny_bind (wpAny_bind (wpAny_field (x := .none) zz rfl rfl (wpAny_pure ?_)))
  simp only [if_true]
  refine wpAny_bind (wpAny_rule ?_)
  refine wpAny_bind (wpAny_field (x := .ref TO) zz rfl rfl ?_)
  refine wpAny_bind (wpAny_setField_rec zz (by simp) fun g1 z1 u1 => ?_)
  replace z1 : IsZip g1 z TI TO .ellipsis := z1
  refine wpAny_bind ?_
  simp only [List.zipIdx_cons, List.zipIdx_nil, List.forIn_cons, List.forIn_nil]
  have x1 : SX p g1 := X.frame p _ g1 x0 fun c hc o e => u1.extBut _ _ (D.f1 c hc).1 e
  have y1 : SY q g1 := Y.frame q _ g1 y0 fun c hc o e => u1.extBut _ _ (D.f2 c hc).1 e
  have to1 : IsPair g1 TO a b := u1.extBut _ _ D.a2 to
  refine wpAny_bind (wpAny_bind (wpAny_onRaise ?_))
  show wpAny (model prog w) A (Builtin.SmallTypes.nextOf (.ref i) >>= _) _ _ _
  rcases l with l | ⟨lx, ly⟩
  · subst l
    refine wpAny_bind (X.done _ _ _ x1 fun g2 e u2 he => ?_)
    obtain ⟨oe, hoe, hce⟩ := he
    replace u2 : Heap.ExtBut i g1 g2 := u2
    have z2 : IsZip g2 z TI TO .ellipsis := u2 _ _ D.a3.symm z1
    have ez : e ≠ z := fun h => by subst h; rw [z2] at hoe; cases hoe; simp at hce
    refine wpAny_setField_rec z2 (by simp) fun g3 _ u3 => hE g3 _ e (fun c o c1 _ c3 _ h => u3.extBut _ _ c1 (u2 _ _ c3 (u1.extBut _ _ c1 h))) ⟨oe, u3.extBut _ _ ez hoe, hce⟩
  · subst ly
    refine wpAny_bind (X.item p _ _ _ lx x1 fun x g2 tk2 px x2 u2 => wpAny_pure ?_)
    replace u2 : Heap.SameBut i g1 g2 := u2
    have to2 : IsPair g2 TO a b := u2.extBut _ _ D.a8 to1
    have y2 : SY q g2 := Y.frame q _ g2 y1 fun c hc o e => u2.extBut _ _ (D.f2 c hc).2.2 e
    have z2 : IsZip g2 z TI TO .ellipsis := u2.extBut _ _ D.a3.symm z1
    refine wpAny_bind (wpAny_seqItems to2 rfl ?_)
    refine wpAny_bind (wpAny_updateSeq_pair to2 fun g3 to3 u3 => ?_)
    replace u3 : Heap.SameBut TO g2 g3 := u3
    have y3 : SY q g3 := Y.frame q _ g3 y2 fun c hc o e => u3.extBut _ _ (D.f2 c hc).2.1 e
    have z3 : IsZip g3 z TI TO .ellipsis := u3.extBut _ _ D.a2.symm z2
    refine wpAny_bind (wpAny_letGo (wpAny_pure ?_))
    refine wpAny_bind (wpAny_bind (wpAny_onRaise ?_))
    show wpAny (model prog w) A (Builtin.SmallTypes.nextOf (.ref j) >>= _) _ _ _
    refine wpAny_bind (Y.done _ _ _ y3 fun g4 e u4 he => ?_)
    obtain ⟨oe, hoe, hce⟩ := he
    replace u4 : Heap.ExtBut j g3 g4 := u4
    have z4 : IsZip g4 z TI TO .ellipsis := u4 _ _ D.a4.symm z3
    have ez : e ≠ z := fun h => by subst h; rw [z4] at hoe; cases hoe; simp at hce
    refine wpAny_setField_rec z4 (by simp) fun g5 _ u5 => hE g5 _ e (fun c o c1 c2 c3 c4 h => u5.extBut _ _ c1 (u4 _ _ c4 (u3.extBut _ _ c2 (u2.extBut _ _ c3 (u1.extBut _ _ c1 h))))) ⟨oe, u5.extBut _ _ ez hoe, hce⟩
theorem pz_item {z TI TO i j : Addr} {U V : List Addr} {n m p q : Nat} {PX PY : Nat → Value → Prop} {SX SY : Nat → Heap → Prop} {a b : Value} {Q : Option Value → Shared → Prop}
    (X : Draws prog w A.in1 i U n PX SX) (Y : Draws prog w A.in1 j V m PY SY) (D : Ap z TI TO i j U V) {s : Shared}
    (zz : IsZip s.heap z TI TO .none) (ti : IsPair s.heap TI (.ref i) (.ref j)) (to : IsPair s.heap TO a b) (x0 : SX p s.heap) (y0 : SY q s.heap) (lx : p < n) (ly : q < m)
    (hQ : ∀ x y h' tk, PX p x → PY q y → IsZip h' z TI TO (rawInt s.heap.objs.size) → IsPair h' TO x y → SX (p + 1) h' → SY (q + 1) h' → IsPair h' s.heap.objs.size x y → h'.objs.size = s.heap.objs.size + 1 →
      (∀ c o, c ≠ z → c ≠ TO → c ≠ i → c ≠ j → s.heap.get? c = some o → h'.get? c = some o) → Q (some (.ref s.heap.objs.size)) { s with heap := h', toks := tk }) :
    wpAny (model prog w) A (pyNext (.ref z)) Q E s := by
  have ty : s.TypeIs (.ref z) "zip" := ⟨_, zz, rfl⟩
  unfold pyNext
  refine wpAny_bind (wpAny_attempt (wpAny_callSpecial?_slot (name := Str.ofString "__next__") ty F.slot_zip_next (wpAny_call_entry F.slot_zip_next ty F.entry_zip_next ?_ (F.args_zip_next_1 _))))
  exact zn_item X Y D zz ti to x0 y0 lx ly fun x y h' tk c1 c2 c3 c4 c5 c6 c7 c8 c9 => wpAny_pure (hQ x y h' tk c1 c2 c3 c4 c5 c6 c7 c8 c9)
theorem pz_end {z TI TO i j : Addr} {U V : List Addr} {n m p q : Nat} {PX PY : Nat → Value → Prop} {SX SY : Nat → Heap → Prop} {a b : Value} {Q : Option Value → Shared → Prop}
    (X : Draws prog w A.in1 i U n PX SX) (Y : Draws prog w A.in1 j V m PY SY) (D : Ap z TI TO i j U V) {s : Shared}
    (zz : IsZip s.heap z TI TO .none) (ti : IsPair s.heap TI (.ref i) (.ref j)) (to : IsPair s.heap TO a b) (x0 : SX p s.heap) (y0 : SY q s.heap) (l : p = n ∨ (p < n ∧ q = m))
    (hQ : ∀ h' tk, (∀ c o, c ≠ z → c ≠ TO → c ≠ i → c ≠ j → s.heap.get? c = some o → h'.get? c = some o) → Q none { s with heap := h', toks := tk }) :
    wpAny (model prog w) A (pyNext (.ref z)) Q E s := by
  have ty : s.TypeIs (.ref z) "zip" := ⟨_, zz, rfl⟩
  unfold pyNext
  refine wpAny_bind (wpAny_attempt (wpAny_callSpecial?_slot (name := Str.ofString "__next__") ty F.slot_zip_next (wpAny_call_entry F.slot_zip_next ty F.entry_zip_next ?_ (F.args_zip_next_1 _))))
  refine zn_end X Y D zz ti to x0 y0 l fun h' tk e hk he => ?_
  obtain ⟨o, ho, hc⟩ := he
  exact wpAny_bind (wpAny_isInstance (T := "StopIteration") (b := true) ⟨o, ho, hc⟩ isSubtype_stop (wpAny_pure (hQ _ _ hk)))
theorem draws_tup {A : Around} (hh : A.handled = none) (it l : Addr) (hne : l ≠ it) (items : Array Value) :
    Draws prog w A it [it, l] items.size (fun i v => items[i]? = some v) (fun i h => h.IsTupleIter it l i ∧ h.IsTuple l items) where
  live := fun _ _ st => let ⟨o, ho, _⟩ := st.1; ⟨o, ho⟩
  frame := fun _ _ _ st hk => ⟨st.1.at fun o e => hk it (by simp) o e, let ⟨o, ho, r⟩ := st.2; ⟨o, hk l (by simp) o ho, r⟩⟩
  item := fun i s Q E hi st hQ => nextOf_tuple_item st.1 st.2 (x := items[i]) (by simp [hi]) fun h' hit' u => hQ _ h' s.toks (by simp [hi]) ⟨hit', st.2.extBut u.extBut hne⟩ u
  done := fun s Q E st hE => nextOf_tuple_end hh st.1 st.2 (by simp) hE
/-- the heap behind zip(text, tuple) -/
abbrev zh1 (h : Heap) (x : Str) (t : Tok) : Heap := h.push { cls := .type "str_ascii_iterator", data := .fields #[.str x t, .int 0 0] }
abbrev zh2 (h : Heap) (x : Str) (t : Tok) (l : Addr) : Heap := (zh1 h x t).push { cls := .type "tuple_iterator", data := .fields #[.ref l, .int 0 0] }
abbrev zh3 (h : Heap) (x : Str) (t : Tok) (l : Addr) : Heap := (zh2 h x t l).push { cls := .type "tuple", data := .seq #[.ref h.objs.size, .ref (zh1 h x t).objs.size] }
abbrev zh4 (h : Heap) (x : Str) (t : Tok) (l : Addr) : Heap := (zh3 h x t l).push { cls := .type "tuple", data := .seq #[.none, .none] }
abbrev zh5 (h : Heap) (x : Str) (t : Tok) (l : Addr) : Heap := (zh4 h x t l).push { cls := .type "zip", data := .fields #[.none, .bool false, .bool false, .ref (zh2 h x t l).objs.size, .ref (zh3 h x t l).objs.size] }
theorem zip_made (x : Str) (t : Tok) (l : Addr) (ys : Array Value) :
    Meets (Builtin.«zip.__new__» ⟨[.type "zip", .str x t, .ref l], []⟩) (fun _ R s => x.cps.all (· < 128) = true ∧ s.heap.IsTuple l ys ∧
      R (.ok (.ret (.ref (zh4 s.heap x t l).objs.size))) { s with heap := zh5 s.heap x t l }) :=
  .of_wp fun prog w A R s h => by
    obtain ⟨hp, g, d, tk, os⟩ := s
    obtain ⟨ha, hl, h⟩ := h
    have hsub := sub_zip
    have hL : Heap.IsTuple (Shared.heap ⟨zh1 hp x t, g, d, tk, os⟩) l ys := Heap.IsTuple.push hl _
    wp_walk using wpAny_pyIter_ascii ha, wpAny_pyIter_tuple hL
    exact ⟨_, rfl, h⟩
theorem zip_call {x : Str} {t : Tok} {l : Addr} {ys : Array Value} {Q : Value → Shared → Prop} {s : Shared} (ha : x.cps.all (· < 128) = true) (hl : s.heap.IsTuple l ys)
    (h : ∀ h', IsZip h' (s.heap.objs.size + 4) (s.heap.objs.size + 2) (s.heap.objs.size + 3) .none → IsPair h' (s.heap.objs.size + 2) (.ref s.heap.objs.size) (.ref (s.heap.objs.size + 1)) →
      IsPair h' (s.heap.objs.size + 3) .none .none → h'.IsStrIter s.heap.objs.size "str_ascii_iterator" x t 0 → h'.IsTupleIter (s.heap.objs.size + 1) l 0 →
      (∀ c o, s.heap.get? c = some o → h'.get? c = some o) → Q (.ref (s.heap.objs.size + 4)) { s with heap := h' }) :
    wpAny (model prog w) A (call (.type "zip") [.str x t, .ref l]) Q E s := by
  refine callType_new F.called_zip (by decide) (F.typeCall_zip_2 _ _) (F.newCall_zip_2 _ _) (fun obj => F.args_object_init_3 obj _ _) F.entry_zip_new (zip_made x t l ys) ⟨ha, hl, ?_⟩
  have e1 : (zh1 s.heap x t).objs.size = s.heap.objs.size + 1 := Heap.size_push ..
  have e2 : (zh2 s.heap x t l).objs.size = s.heap.objs.size + 2 := by rw [Heap.size_push, e1]
  have e3 : (zh3 s.heap x t l).objs.size = s.heap.objs.size + 3 := by rw [Heap.size_push, e2]
  have e4 : (zh4 s.heap x t l).objs.size = s.heap.objs.size + 4 := by rw [Heap.size_push, e3]
  have q5 : (zh5 s.heap x t l).get? (zh4 s.heap x t l).objs.size = some _ := Heap.get?_push_size _ rfl
  have q4 : (zh5 s.heap x t l).get? (zh3 s.heap x t l).objs.size = some _ := Heap.get?_push_of_some _ (Heap.get?_push_size _ rfl)
  have q3 : (zh5 s.heap x t l).get? (zh2 s.heap x t l).objs.size = some _ := Heap.get?_push_of_some _ (Heap.get?_push_of_some _ (Heap.get?_push_size _ rfl))
  have q2 : (zh5 s.heap x t l).get? (zh1 s.heap x t).objs.size = some _ := Heap.get?_push_of_some _ (Heap.get?_push_of_some _ (Heap.get?_push_of_some _ (Heap.get?_push_size _ rfl)))
  have q1 : (zh5 s.heap x t l).get? s.heap.objs.size = some _ := Heap.get?_push_of_some _ (Heap.get?_push_of_some _ (Heap.get?_push_of_some _ (Heap.get?_push_of_some _ (Heap.get?_push_size _ rfl))))
  show _ ∧ _
  rw [e2, e3, e4] at q5
  rw [e1, e2] at q3
  rw [e3] at q4
  rw [e1] at q2
  rw [e4]
  exact ⟨⟨_, q5, rfl⟩, h _ q5 q3 q4 ⟨_, q1, rfl, rfl⟩ ⟨_, q2, rfl, rfl⟩ fun c o v =>
    Heap.get?_push_of_some _ (Heap.get?_push_of_some _ (Heap.get?_push_of_some _ (Heap.get?_push_of_some _ (Heap.get?_push_of_some _ v))))⟩
end
end Z

/-! Z11: [.. for c, y in zip(text, tuple)]. -/
namespace Z
open PySem PySem.Spec PyProof.Rows L2 RZ

def ItzS (K : PySem.W.Frag) (x : Str) (b : Addr) : It :=
  ⟨fun i H => ∃ (ys : List V) (y : V), SqT K H b ys ∧ i < x.cps.size ∧ ys[i]? = some y,
    fun i H v H' => ∃ T c y, v = .ref T ∧ H T = none ∧ H' = upd H T (.tup [.str (one c), y]) ∧ x.cps[i]? = some c ∧ ∀ ys, SqT K H b ys → ys[i]? = some y,
    fun i H => ∃ ys : List V, SqT K H b ys ∧ (i = x.cps.size ∨ (i < x.cps.size ∧ i = ys.length))⟩
theorem ap_of {z TI TO i j b : Addr} (D : ZipApart z TI TO i j b b) : Ap z TI TO i j [i] [j, b] where
  a1 := D.TIz
  a2 := D.TOz
  a3 := D.i1z
  a4 := D.i2z
  a5 := D.TITO
  a6 := D.TIi1
  a7 := D.TIi2
  a8 := D.TOi1
  a9 := D.TOi2
  b1 := D.i12
  f1 := fun c hc => by rw [List.mem_singleton.mp hc]; exact ⟨D.i1z, D.TOi1.symm, D.i12⟩
  f2 := fun c hc => by
    rcases List.mem_cons.mp hc with e | e
    · rw [e]; exact ⟨D.i2z, D.TOi2.symm, D.i12.symm⟩
    · rw [List.mem_singleton.mp e]; exact ⟨D.l2z, D.l2TO, D.l2i1⟩
theorem turn_zipS {P : Program} {w : World} {K : PySem.W.Frag} {elts : List Expr} {kk : Nat} {tpos : Pos} {x : Str} {t : Tok} {b z TI TO i1 i2 : Addr} (D : ZipApart z TI TO i1 i2 b b) :
    L2.Turn P w K (.Tuple elts kk tpos) (ItzS K x b) [z, TI, TO, i1, i2] z (fun i h => IsZip h z TI TO .none ∧ IsPair h TI (.ref i1) (.ref i2) ∧ (∃ u v, IsPair h TO u v) ∧ h.IsStrIter i1 "str_ascii_iterator" x t i ∧ h.IsTupleIter i2 b i) where
  mem := by simp
  obj := fun i h st c hc => by
    obtain ⟨zz, ti, ⟨u, v, to⟩, ⟨o1, e1, _, d1⟩, ⟨o2, e2, _, d2⟩⟩ := st
    have e' : c = z ∨ c = TI ∨ c = TO ∨ c = i1 ∨ c = i2 := by simpa using hc
    rcases e' with rfl | rfl | rfl | rfl | rfl
    · exact ⟨_, zz, fun v q => nomatch q⟩
    · exact ⟨_, ti, fun v q => nomatch q⟩
    · exact ⟨_, to, fun v q => nomatch q⟩
    · exact ⟨o1, e1, fun v q => by rw [d1] at q; cases q⟩
    · exact ⟨o2, e2, fun v q => by rw [d2] at q; cases q⟩
  keep := fun i h h' st k => by
    obtain ⟨zz, ti, ⟨u, v, to⟩, ⟨o1, e1, r1⟩, s2⟩ := st
    exact ⟨k z (by simp) _ zz, k TI (by simp) _ ti, ⟨u, v, k TO (by simp) _ to⟩, ⟨o1, k i1 (by simp) o1 e1, r1⟩, s2.at fun o q => k i2 (by simp) o q⟩
  item := by
    intro X hP hw hK hc i pins s σ H E I hf st hg
    subst hP hw hK
    obtain ⟨zz, ti, ⟨u0, v0, to⟩, s1, s2⟩ := st
    obtain ⟨ys, y, hqy, hi, hy⟩ := hg
    obtain ⟨its, rv, p2, _⟩ := I.tuple hqy
    obtain ⟨u2, hu2, ru2⟩ := rv.get hy
    have hh : X.A.in1.handled = none := I.ok.hd hc
    have hm : i < its.toArray.size := by
      have := List.getElem?_eq_some_iff.mp hu2
      obtain ⟨h, _⟩ := this
      simpa using h
    have ltz : z < s.heap.objs.size := Heap.lt_size zz
    refine pz_item (Draws.strAscii hh i1 x t) (draws_tup hh i2 b D.l2i2 its.toArray) (ap_of D) zz ti to s1 ⟨s2, p2⟩ hi hm fun a c h' tk pa pc z' to' s1' s2' nw sz hk => ?_
    obtain ⟨cc, ut, hcc, rfl⟩ := pa
    have hcu : c = u2 := by
      have e : its.toArray[i]? = some u2 := by simpa using hu2
      rw [e] at pc; cases pc; rfl
    subst hcu
    refine ⟨_, rfl, wpAny_letOwnedTupleGo_zip (s := { s with heap := h', toks := tk }) z' fun h2 z2 sb => ?_⟩
    have nw2 : h2.get? s.heap.objs.size = some { cls := .type "tuple", data := .seq #[.str ⟨#[cc]⟩ ut, c] } := (sb.2 _ (Nat.ne_of_gt ltz)).trans nw
    have new : ObjOk X.prog X.w (upd H s.heap.objs.size (.tup [.str (one cc), y])) h2 s.heap.objs.size (.tup [.str (one cc), y]) :=
      ⟨by show 2 ≤ sizeLine; decide, [.str ⟨#[cc]⟩ ut, c], .cons ⟨ut, rfl⟩ (.cons ru2 .nil), ⟨_, nw2, rfl, _, rfl⟩⟩
    have I1 : Inv X pins σ (upd H s.heap.objs.size (.tup [.str (one cc), y])) { s with heap := h2, toks := tk } :=
      I.turnedNew (t' := tk) (ch := [z, TI, TO, i1, i2]) (fun v o hb q => (sb.2 v (fun e => hb (by simp [e]))).trans (hk v o (fun e => hb (by simp [e])) (fun e => hb (by simp [e])) (fun e => hb (by simp [e])) (fun e => hb (by simp [e])) q)) hf (Nat.le_refl _) new
    refine ⟨.ref s.heap.objs.size, _, I1, rfl, ⟨_, cc, y, rfl, I.hok.fresh (Nat.le_refl _), rfl, hcc, fun l hl => by rw [I.tuple_inj hl hqy]; exact hy⟩, ⟨z2, ?_, ⟨.str ⟨#[cc]⟩ ut, c, ?_⟩, ?_, ?_⟩, fun v hv => ?_⟩
    · exact (sb.2 _ D.TIz).trans (hk _ _ D.TIz D.TITO D.TIi1 D.TIi2 ti)
    · exact (sb.2 _ D.TOz).trans to'
    · obtain ⟨o, ho, r⟩ := s1'
      exact ⟨o, (sb.2 _ D.i1z).trans ho, r⟩
    · exact s2'.1.at fun o q => (sb.2 _ D.i2z).trans q
    · obtain ⟨_, f2, _⟩ := hf v hv
      have hlt : v < s.heap.objs.size := by
        have e' : v = z ∨ v = TI ∨ v = TO ∨ v = i1 ∨ v = i2 := by simpa using hv
        rcases e' with rfl | rfl | rfl | rfl | rfl
        · exact ltz
        · exact Heap.lt_size ti
        · exact Heap.lt_size to
        · obtain ⟨_, e1, _⟩ := s1; exact Heap.lt_size e1
        · obtain ⟨_, e1, _⟩ := s2; exact Heap.lt_size e1
      rw [upd_ne (Nat.ne_of_lt hlt)]
      exact (hf v hv).1
  done := by
    intro X hP hw hK hc i pins s σ H E I hf st hg
    subst hP hw hK
    obtain ⟨zz, ti, ⟨u0, v0, to⟩, s1, s2⟩ := st
    obtain ⟨ys, hqy, hend⟩ := hg
    obtain ⟨its, rv, p2, _⟩ := I.tuple hqy
    have lv := rv.length
    have hh : X.A.in1.handled = none := I.ok.hd hc
    refine pz_end (Draws.strAscii hh i1 x t) (draws_tup hh i2 b D.l2i2 its.toArray) (ap_of D) zz ti to s1 ⟨s2, p2⟩ ?_ fun h' tk hk => ⟨rfl, ?_⟩
    · rcases hend with e | ⟨e, e2⟩
      · exact .inl e
      · exact .inr ⟨e, by simp; omega⟩
    · exact I.turnedL (t' := tk) (ch := [z, TI, TO, i1, i2]) (fun c o hb q => hk c o (fun e => hb (by simp [e])) (fun e => hb (by simp [e])) (fun e => hb (by simp [e])) (fun e => hb (by simp [e])) q) hf
  self := fun A i s Q E st h => wpAny_pyIter_zip st.1 h
def iZipS (K : PySem.W.Frag) (ta : TA) : TI := fun σ H R => ta σ H fun vs H1 => ∃ x b ys, vs = [.str x, .ref b] ∧ x.cps.all (· < 128) = true ∧ SqT K H1 b ys ∧ R (ItzS K x b) H1
theorem pi_zipS {X : Cx} {e e2 : Expr} {ta : TA} {p pos tpos : Pos} {elts : List Expr} {kk : Nat} (hg : Gl X "zip") (hm : X.mg "zip" = none) (ha : PA X [e, e2] ta)
    (hs : starEach [e, e2] X.env = (false, eval e X.env) :: starEach [e2] X.env := by rfl) (hpl : (backTo pos (starEach [e2] X.env)).any (·.1) = false := by rfl) :
    PI X (.Tuple elts kk tpos) (.Call (.Name "zip" p) [e, e2] [] pos) (iZipS X.K ta) := by
  constructor
  intro pins s σ H R I h
  refine Call_ (ld_blt I hg hm PyProof.Rows.boot_zip (PyProof.Rows.callWith_type1 (thn (ha.run pos pins s σ H _ I h) fun us s1 q0 => ?_) hs hpl))
  obtain ⟨vs, H1, I1, r1, x, b, ys, ex, hx, hqy, q⟩ := q0
  subst ex
  cases r1 with
  | cons r rr =>
    cases rr with
    | cons r' rr =>
      cases rr
      obtain ⟨t, rfl⟩ := r
      cases r'
      obtain ⟨its, rv, p2, _⟩ := I1.tuple hqy
      obtain ⟨o2, ho2, _⟩ := id p2
      refine zip_call hx (show s1.heap.IsTuple b its.toArray from p2) fun h' zz ti to s1' s2' hk => wpAny_pyIter_zip zz ?_
      have I2 : Inv X pins σ H1 { s1 with heap := h' } := I1.kept (t' := s1.toks) hk
      refine ⟨s1.heap.objs.size + 4, [s1.heap.objs.size + 4, s1.heap.objs.size + 2, s1.heap.objs.size + 3, s1.heap.objs.size, s1.heap.objs.size + 1], _, _, H1, rfl, I2,
        turn_zipS (x := x) (t := t) (PySem.W.ktu_apart s1.heap.objs.size b b (Heap.lt_size ho2) (Heap.lt_size ho2)), ⟨zz, ti, ⟨_, _, to⟩, s1', s2'⟩, fun c hc => ?_, q⟩
      have hle : s1.heap.objs.size ≤ c := by
        simp only [List.mem_cons, List.not_mem_nil, or_false] at hc
        rcases hc with rfl | rfl | rfl | rfl | rfl
        · exact Nat.le_add_right _ _
        · exact Nat.le_add_right _ _
        · exact Nat.le_add_right _ _
        · exact Nat.le_refl _
        · exact Nat.le_add_right _ _
      exact I1.fpOk hle (I1.hok.fresh hle)
/-- the signs of a text, as values -/
def sgs (x : Str) : List V := x.cps.toList.map fun c => V.str (one c)
theorem sgs_at {x : Str} {i c : Nat} (h : x.cps[i]? = some c) : (sgs x)[i]? = some (V.str (one c)) := by
  unfold sgs
  rw [List.getElem?_map, Array.getElem?_toList, h]; rfl
theorem sgs_len {x : Str} : (sgs x).length = x.length := by
  unfold sgs
  rw [List.length_map]; simp [Str.length]
section
variable {tt : TT} {te : TE} {σ : L2.St} {j l : Nat} {Q : VK} {H1 : Hp}
theorem selZipS {K : PySem.W.Frag} {x : Str} {b : Addr} {ys : List V} (hjl : j ≠ l) (sel : V → V → List V) (h2 : SqT K H1 b ys) (hlen : x.length = ys.length) (hn : ys.length ≤ 1000000)
    (hs : ∀ (i c : Nat) (y : V) acc G, x.cps[i]? = some c → ys[i]? = some y → L2.Same H1 G → Turn2 tt te σ j l (.str (one c)) y acc G fun acc' G' => L2.Same G G' ∧ acc' = acc ++ sel (.str (one c)) y)
    (hd : ∀ D H', L2.Same H1 H' → H' D = some (.lst (zipSel sel (sgs x) ys)) → H1 D = none → Q (.ref D) H') :
    ∀ D, H1 D = none → ∃ W : Nat → Nat → Hp → Prop, (∃ m, W 0 m (upd H1 D (.lst []))) ∧ ∀ i m H, W i m H →
      ((ItzS K x b).stop i H ∧ Q (.ref D) H) ∨ ((ItzS K x b).go i H ∧ ∃ Nx : Hp → Prop, (∀ H', Nx H' → ∃ m', m' < m ∧ W (i + 1) m' H') ∧
        ∀ v H', (ItzS K x b).yld i H v H' → gTup K 2 (gCons (gName j) (gCons (gName l) gNil)) v (wipe σ [j, l]) H' fun σ2 H2 => wipe σ2 [j, l] = wipe σ [j, l] ∧ tFrT tt σ2 H2 fun b H3 =>
          if b = true then tFr te σ2 H3 fun y H4 => ∃ acc, H4 D = some (.lst acc) ∧ acc.length < sizeLine ∧ Nx (upd H4 D (.lst (acc ++ [y]))) else Nx H3) := by
  have hsz : x.cps.size = ys.length := hlen
  have zl : ((sgs x).zip ys).length = ys.length := by rw [List.length_zip, sgs_len]; omega
  have step : ∀ {i : Nat} {c : Nat} {y : V}, x.cps[i]? = some c → ys[i]? = some y → ((sgs x).zip ys).take (i + 1) = ((sgs x).zip ys).take i ++ [(.str (one c), y)] := fun {i c y} hx hy => take_snoc (by rw [List.getElem?_zip_eq_some]; exact ⟨sgs_at hx, hy⟩)
  intro D hD
  refine ⟨fun i m H => m = ys.length - i ∧ i ≤ ys.length ∧ ∃ acc G, H = upd G D (.lst acc) ∧ G D = none ∧ acc.length ≤ i ∧ L2.Same H1 G ∧ acc = (((sgs x).zip ys).take i).flatMap fun p => sel p.1 p.2, ⟨_, rfl, Nat.zero_le _, [], H1, rfl, hD, Nat.le_refl _, L2.Same.refl _, by simp⟩, ?_⟩
  rintro i m H ⟨rfl, hi, acc, G, rfl, hG, hac, he, hacc⟩
  have hb' := liftT (acc := acc) hG (Same.seqT he h2)
  by_cases h : i < ys.length
  · refine .inr ⟨⟨ys, ys[i], hb', by omega, List.getElem?_eq_getElem h⟩, fun H' => i + 1 ≤ ys.length ∧ ∃ acc G, H' = upd G D (.lst acc) ∧ G D = none ∧ acc.length ≤ i + 1 ∧ L2.Same H1 G ∧ acc = (((sgs x).zip ys).take (i + 1)).flatMap fun p => sel p.1 p.2, ?_, ?_⟩
    · rintro H' ⟨hi', q⟩
      exact ⟨ys.length - (i + 1), by omega, rfl, hi', q⟩
    · rintro v H' ⟨T, c, y, rfl, hT, rfl, hx, hyy⟩
      have hy := hyy ys hb'
      have hGT : G T = none := by
        by_cases e : T = D
        · rw [e, upd_same] at hT; cases hT
        · rw [upd_ne e] at hT; exact hT
      refine turn_core2 hjl hG hT (small_lt (by omega)) (hs i c y acc _ hx hy (he.trans (Same.new hGT))) fun acc' G' p' hl' hD' => ⟨by omega, acc', G', rfl, hD', by omega, (he.trans (Same.new hGT)).trans p'.1, ?_⟩
      rw [p'.2, step hx hy, List.flatMap_append, hacc]; simp
  · have e : i = ys.length := by omega
    subst e
    refine .inl ⟨⟨ys, hb', .inl hsz.symm⟩, ?_⟩
    rw [hacc, ← zl, List.take_length]
    exact sel_end he hG fun D H' a b c _ => hd D H' a b c
end
def SelZS (K : PySem.W.Frag) (tt : TT) (te : TE) (σ : L2.St) (j l : Nat) (Q : VK) (vs : List V) (H1 : Hp) : Prop := ∃ (x : Str) (b : Addr) (ys : List V) (sel : V → V → List V), vs = [.str x, .ref b] ∧ j ≠ l ∧ x.cps.all (· < 128) = true ∧ SqT K H1 b ys ∧ x.length = ys.length ∧ ys.length ≤ 1000000 ∧
  (∀ (i c : Nat) (y : V) acc G, x.cps[i]? = some c → ys[i]? = some y → L2.Same H1 G → Turn2 tt te σ j l (.str (one c)) y acc G fun acc' G' => L2.Same G G' ∧ acc' = acc ++ sel (.str (one c)) y) ∧
  ∀ D H', L2.Same H1 H' → H' D = some (.lst (zipSel sel (sgs x) ys)) → H1 D = none → Q (.ref D) H'
theorem cZipS {K : PySem.W.Frag} {tA : TA} {tt : TT} {te : TE} {σ : L2.St} {j l : Nat} {Q : VK} {H : Hp} (k : tA σ H (SelZS K tt te σ j l Q)) : tLc (iZipS K (tMoA tA)) (gTup K 2 (gCons (gName j) (gCons (gName l) gNil))) (tFrT tt) (tFr te) [j, l] σ H Q := by
  refine ⟨_, k, ?_⟩
  rintro v H' ⟨x, b, ys, sel, rfl, hjl, hx, h0, hlen, h1, h2, h3⟩
  exact ⟨x, b, ys, rfl, hx, h0, selZipS hjl sel h0 hlen h1 h2 h3⟩
end Z

/-! Z12: the law's own call, for contracts that tell the guards; what is told of the script and of the table of modules. -/
namespace Z
open PySem PySem.Spec PyProof.Rows L2 RZ

theorem law_callG {P : Program} {w : World} {K : PySem.W.Frag} {mg mb : Str → Option Value} {k : Nat} {fa a : Addr} {fd : FuncData} {x : Str} {sp : Sp} {s : Shared} {vs : List Value} {ns : List Int}
    (KX : K.In s.heap) (hns : s.heap.Ns mainGlobals mg) (hb : s.heap.Ns builtinsNs mb) (hbb : ∀ x : Str, x ≠ "__name__" → mb x = bootBuiltins x) (hlim : s.heap.NoLimit) (hg : s.gens = #[]) (hsb : SysB s.heap)
    (ha : s.heap.get? a = some { cls := .type "list", data := .seq vs.toArray }) (hi : IntsAre vs ns) (hl : ns.length ≤ sizeLine) (hr : Room k callerA)
    (F : ∀ base : Heap, K.In base → base.Ns mainGlobals mg → SysB base → FnG P w K mg base CX0 k fa fd [x] sp) (hbind : ∀ (s : Shared) (u : Value), BindsTo s fd ⟨[u], []⟩ [(x, u)])
    (hsp : ∀ H : Hp, SqL K H a (ns.map V.int) → sp [.ref a] H (fun v _ => v = .bl true) fun _ _ _ => False) :
    codeAny (model P w) callerA (.call (.ref fa) ⟨[.ref a], []⟩) (fun r s' => r = .ok (.ret (.bool true)) ∧ OldK s.heap s'.heap ∧ s'.os = s.os ∧ AllBare s'.gens) s := by
  have rv := vals_ints hi
  have lenV := hi.length
  have core : ∀ H : Hp, Only H → SqL K H a (ns.map V.int) → HOk P w H s.heap → (∀ b, H b ≠ none → b = a) → (H a ≠ none → K.lookup a = none) →
      codeAny (model P w) callerA (.call (.ref fa) ⟨[.ref a], []⟩) (fun r s' => r = .ok (.ret (.bool true)) ∧ OldK s.heap s'.heap ∧ s'.os = s.os ∧ AllBare s'.gens) s := by
    intro H only sq ok hA hK
    have free : ∀ {b : Addr} {o : Obj} {es : Array DictEntry} {n : Nat}, s.heap.get? b = some o → o.data = .dict es n → H b = none := by
      intro b o es n e d
      refine Classical.byContradiction fun q => ?_
      rw [hA b q, ha] at e
      cases e
      have d' : Data.seq vs.toArray _ = Data.dict es n := d
      cases d'
    have nsK : ∀ {b : Addr} {m : Str → Option Value}, s.heap.Ns b m → (hidT s.heap H).Ns b m := by
      rintro b m ⟨o, es, n, e, d, r⟩
      exact ⟨o, es, n, hidT_get e (free e d), d, r⟩
    have inb : K.In (hidT s.heap H) := by
      intro b o e
      refine hidT_get (KX b o e) (Classical.byContradiction fun q => ?_)
      have e' := hA b q
      subst e'
      rw [hK q] at e; cases e
    have sb : SysB (hidT s.heap H) := by
      obtain ⟨o, es, n, e, d⟩ := hsb
      exact ⟨o, es, n, hidT_get e (free e d), d⟩
    obtain ⟨mc, c1, c2⟩ := id hlim
    have md : Mod K mg (hidT s.heap H) := ⟨inb, nsK hns, ⟨mb, nsK hb, hbb⟩, ⟨mc, nsK c1, c2⟩⟩
    have e0 : Env0 P w K mg (hidT s.heap H) callerA [] s H := ⟨rfl, md, fun b o e => of_hidT e, Nat.le_of_eq (hidT_size _ _), trivial, fun b hb => absurd (show b ∈ ([] : List Addr) from hb) (by simp), ok, .of_eq hg⟩
    refine codeAny_mono ((F _ inb (nsK hns) sb).run callerA [] s H ⟨[.ref a], []⟩ [.ref a] [.ref a] _ _ rfl hr e0 (hbind s (.ref a)) (.cons rfl .nil) (hsp H sq)) ?_
    rintro (e | fl) s' h
    · exact (show False from h).elim
    cases fl with
    | ret u =>
      obtain ⟨v, H', os, bare, un, ok', rel, q⟩ := h
      obtain rfl : v = .bl true := q
      obtain rfl : u = Value.bool true := rel
      refine ⟨rfl, OldK.of_keep ?_, os, bare⟩
      intro b o e
      cases q : H b with
      | none => exact un.keep b o e q (by intro z; exact absurd (show b ∈ ([] : List Addr) from z) (by simp)) (by simp)
      | some u =>
        rcases only b with z | ⟨ob, xs, z⟩
        · rw [q] at z; cases z
        · obtain ⟨e1, _⟩ := ok b _ z
          obtain ⟨e2, _⟩ := ok' b _ (un.frzs b ob _ z)
          rw [e] at e1; cases e1
          exact e2
    | next | brk | cont => exact (show False from h).elim
  cases hk : K.lookup a with
  | some o =>
    have e := KX a o hk
    rw [ha] at e
    cases e
    exact core (fun _ => none) (fun _ => .inl rfl) (.inr ⟨_, vs.toArray, _, hk, rfl, rfl, rfl, by rw [List.size_toArray, lenV]; exact hl, by simpa using rv⟩) (fun b u z => by cases (show (none : Option HO) = some u from z)) (fun b z => absurd rfl z) fun z => absurd rfl z
  | none =>
    refine core (fun b => if b = a then some (.frz { cls := .type "list", data := .seq vs.toArray } (.lst (ns.map V.int))) else none) ?_ (.inl (.inr ⟨{ cls := .type "list", data := .seq vs.toArray }, if_pos rfl⟩)) ?_ ?_ fun _ => hk
    · intro b
      by_cases hb : b = a
      · exact .inr ⟨_, _, if_pos hb⟩
      · exact .inl (if_neg hb)
    · intro b u z
      by_cases hb : b = a
      · cases (if_pos hb).symm.trans z
        subst hb
        exact ⟨ha, by rw [List.length_map]; exact hl, vs, _, rv, ha⟩
      · cases (if_neg hb).symm.trans z
    · intro b z
      exact Classical.byContradiction fun hb => z (if_neg hb)
theorem walkG {l : PySem.W.OpenLaw} {n k : Nat} {q : Program} {loose : List Str} {XP : (Str → Option Value) → Heap → Prop} {YP : World → Heap → Prop} {d : DefRec} {K : Params → PySem.W.Frag} {sp : PySem.W.Frag → World → Sp} {x : Str}
    (hn : l.most = some n) (hn2 : n ≤ sizeLine) (hdf : d.params.defaults = []) (hr : Room k callerA) (himp : importsNone q = true)
    (hY : ∀ (w : World) (h : Heap), YP w h → (K w.params).In h)
    (F : ∀ (w : World) (mg : Str → Option Value) (fa : Addr) (h : Heap), (K w.params).In h → h.Ns mainGlobals mg → mg d.name = some (.ref fa) →
      ∃ fd : FuncData, (∀ (s : Shared) (u : Value), BindsTo s fd ⟨[u], []⟩ [(x, u)]) ∧
        ∀ base : Heap, (K w.params).In base → base.Ns mainGlobals mg → SysB base → FnG l.prog w (K w.params) mg base CX0 k fa fd [x] (sp (K w.params) w))
    (hsp : ∀ (w : World) (H : Hp) (a : Addr) (ns : List Int), ns.length ≤ n → SqL (K w.params) H a (ns.map V.int) → sp (K w.params) w [.ref a] H (fun v _ => v = .bl true) fun _ _ _ => False) :
    PySem.W.WalkO q loose XP YP l.row.toRowW d [] (fun f vs => PySem.call f vs) := by
  refine Att.attach_call hn hdf fun w s₀ s₁ mg mb fa o pm cd doc a vs ns G Y ho hd hcd hmg hobj hints hlen hg => ?_
  obtain ⟨fd, hb, hF⟩ := F w mg fa _ (hY w _ Y) G.T.g hmg
  have sb : SysB s₁.heap := by
    obtain ⟨mm, ⟨o, es, n, e, d, _⟩, _⟩ := (G.T.seer himp).mods
    exact ⟨o, es, n, e, d⟩
  exact law_callG (hY w _ Y) G.T.g G.T.b G.T.builtins G.T.nolimit hg sb hobj hints (Nat.le_trans hlen hn2) hr hF hb fun H hS => hsp w H a ns hlen hS
end Z

/-! Z13: a written dict of texts to objects. -/
namespace Z
open PySem PySem.Spec PyProof.Rows L2 RZ

def foL : List (Str × Addr) → Str → Option Addr
  | [], _ => none
  | (x, a) :: r, z => if x = z then some a else foL r z
def KP : List DictEntry → List (Str × Addr) → Prop
  | [], [] => True
  | e :: r, p :: q => (∃ t, e.key = .str p.1 t) ∧ e.val = .ref p.2 ∧ KP r q
  | _, _ => False
theorem kp_find {z : Str} : ∀ {es : List DictEntry} {ps : List (Str × Addr)}, KP es ps →
    (es.find? (fun e => e.key.isStr z) = none ∧ foL ps z = none) ∨ ∃ e a, es.find? (fun e => e.key.isStr z) = some e ∧ foL ps z = some a ∧ e.val = .ref a
  | [], [], _ => .inl ⟨rfl, rfl⟩
  | e :: r, (x, a) :: q, ⟨⟨t, hk⟩, hv, h⟩ => by
    have e1 : e.key.isStr z = (x == z) := by rw [hk]; rfl
    by_cases hx : x = z
    · refine .inr ⟨e, a, ?_, if_pos hx, hv⟩
      rw [List.find?_cons_of_pos]
      rw [e1]; simpa using hx
    · rw [List.find?_cons_of_neg (by rw [e1]; simpa using hx)]
      have : foL ((x, a) :: q) z = foL q z := if_neg hx
      rw [this]
      exact kp_find h
  | [], _ :: _, h => h.elim
  | _ :: _, [], h => h.elim
theorem kp_ref : ∀ {es : List DictEntry} {ps : List (Str × Addr)}, KP es ps → es.any (fun e => e.refKey) = false
  | [], [], _ => rfl
  | e :: r, (x, a) :: q, ⟨⟨t, hk⟩, hv, h⟩ => by
    have e1 : e.refKey = false := by unfold DictEntry.refKey; rw [hk]
    rw [List.any_cons, e1, Bool.false_or]
    exact kp_ref h
  | [], _ :: _, h => h.elim
  | _ :: _, [], h => h.elim
theorem kd_mk {K : PySem.W.Frag} {w : World} {a : Addr} {es : Array DictEntry} {n : Nat} {ps : List (Str × Addr)} (hl : K.lookup a = some ⟨.type "dict", none, .dict es n, #[]⟩) (hk : PySem.W.KeysLit w.params es.toList) (low : (a == sysModules) = false) (hp : KP es.toList ps) :
    KD K w a (fun z => (foL ps z).map V.ref) where
  ex := ⟨es, n, hl, hk⟩
  low := low
  has := fun z v h => by
    rcases kp_find (z := z) hp with ⟨_, e2⟩ | ⟨e, b, e1, e2, e3⟩
    · rw [e2] at h; cases h
    · rw [e2] at h
      cases h
      refine ⟨.ref b, ?_, rfl⟩
      unfold PySem.W.nsIn
      rw [hl]
      simp only []
      rw [e1]
      simp only [e3]
  no := fun z h => by
    rcases kp_find (z := z) hp with ⟨e1, e2⟩ | ⟨e, b, e1, e2, e3⟩
    · unfold PySem.W.nsIn
      rw [hl]
      simp only []
      rw [e1]
      simp only []
      rw [kp_ref hp]; rfl
    · rw [e2] at h; cases h
/-- a written tuple of texts -/
theorem tupK {K : PySem.W.Frag} {a : Addr} {od : Option Addr} {its : Array Value} {n : Nat} {sl : Array (Option Value)} {xs : List V} (hl : K.lookup a = some ⟨.type "tuple", od, .seq its n, sl⟩) (hs : its.size ≤ 1000) (hv : Vals xs its.toList) : ∀ H, SqT K H a xs := fun H =>
  .inr ⟨_, its, n, hl, rfl, rfl, Nat.le_trans hs (by decide), hv⟩
end Z

/-! T1: trees. What a value is, whole: frozen data, or a tree of own objects. The heap in three parts: frozen (F), own (h), the frame (hx). -/
namespace T
open PySem PySem.Spec PyProof.Rows L2 Z

def emp : Hp := fun _ => none
def jn (F h : Hp) : Hp := fun a => match F a with
  | some o => some o
  | none => h a
def Dj (F h : Hp) : Prop := ∀ a, F a = none ∨ h a = none
section
variable {F G h k : Hp} {a : Addr} {o : HO}
theorem jn_emp : jn h emp = h := by funext a; unfold jn emp; split <;> simp_all
theorem emp_jn : jn emp h = h := rfl
theorem jn_l (e : F a = some o) : jn F h a = some o := by unfold jn; rw [e]
theorem jn_r (e : F a = none) : jn F h a = h a := by unfold jn; rw [e]
theorem jn_none : jn F h a = none ↔ F a = none ∧ h a = none := by
  unfold jn
  cases F a with
  | none => simp
  | some o => simp
theorem Dj.symm (d : Dj F h) : Dj h F := fun a => (d a).symm
theorem Dj.nr (d : Dj F h) (e : F a = some o) : h a = none := (d a).resolve_left fun z => by rw [e] at z; cases z
theorem Dj.nl (d : Dj F h) (e : h a = some o) : F a = none := (d a).resolve_right fun z => by rw [e] at z; cases z
theorem dj_emp : Dj F emp := fun _ => .inr rfl
theorem emp_dj : Dj emp F := fun _ => .inl rfl
theorem dj_jn : Dj F (jn h k) ↔ Dj F h ∧ Dj F k := by
  constructor
  · intro d
    refine ⟨fun a => ?_, fun a => ?_⟩ <;> rcases d a with z | z
    · exact .inl z
    · exact .inr (jn_none.mp z).1
    · exact .inl z
    · exact .inr (jn_none.mp z).2
  · rintro ⟨d1, d2⟩ a
    rcases d1 a with z | z
    · exact .inl z
    · rcases d2 a with y | y
      · exact .inl y
      · exact .inr (jn_none.mpr ⟨z, y⟩)
theorem jn_dj : Dj (jn h k) F ↔ Dj h F ∧ Dj k F := by
  constructor
  · intro d
    have := dj_jn.mp d.symm
    exact ⟨this.1.symm, this.2.symm⟩
  · rintro ⟨a, b⟩
    exact (dj_jn.mpr ⟨a.symm, b.symm⟩).symm
theorem jn_comm (d : Dj F h) : jn F h = jn h F := by
  funext a
  rcases d a with z | z
  · rw [jn_r z]; unfold jn; split <;> simp_all
  · rw [jn_r z]; unfold jn; split <;> simp_all
theorem jn_assoc : jn (jn F h) k = jn F (jn h k) := by
  funext a; unfold jn
  cases F a <;> rfl
theorem same_l : Same F (jn F h) := fun b o e => jn_l e
theorem same_r (d : Dj F h) : Same h (jn F h) := fun b o e => by rw [jn_r (d.nl e)]; exact e
theorem same_jn (a : Same F G) (b : Same h G) : Same (jn F h) G := fun c o e => by
  cases q : F c with
  | some u => rw [jn_l q] at e; cases e; exact a _ _ q
  | none => rw [jn_r q] at e; exact b _ _ e
theorem same_upd' {p : Addr} (n : F p = none) : Same F (upd F p o) := fun b u e => by rw [upd_ne (ne_of_none e n)]; exact e
theorem dj_upd {p : Addr} (d : Dj F h) (n : h p = none) : Dj (upd F p o) h := fun a => by
  by_cases e : a = p
  · rw [e]; exact .inr n
  · rw [upd_ne e]; exact d a
theorem same_up {p : Addr} (s : Same F G) (e : upd F p o p = some o := upd_same) : Same (upd F p o) (upd G p o) := fun b u q => by
  by_cases hb : b = p
  · subst hb; rw [upd_same] at q ⊢; exact q
  · rw [upd_ne hb] at q ⊢; exact s _ _ q
theorem same_over {p : Addr} (s : Same F G) (n : F p = none) : Same F (upd G p o) := fun b u q => by
  rw [upd_ne (ne_of_none q n)]; exact s _ _ q
theorem jn_upd {p : Addr} (n : F p = none) : jn F (upd h p o) = upd (jn F h) p o := by
  funext b
  by_cases hb : b = p
  · subst hb; rw [upd_same, jn_r n, upd_same]
  · rw [upd_ne hb]; unfold jn; rw [upd_ne hb]
theorem upd_jn {p : Addr} : jn (upd F p o) h = upd (jn F h) p o := by
  funext b
  by_cases hb : b = p
  · subst hb; rw [upd_same, jn_l upd_same]
  · rw [upd_ne hb]; unfold jn; rw [upd_ne hb]
theorem Same.none (s : Same F G) (e : G a = none) : F a = none := s.free e
end

/-- the three parts of a heap -/
structure Sp3 (F h hx H : Hp) : Prop where
  f : Same F H
  o : Same h H
  x : Same hx H
  fo : Dj F h
  fx : Dj F hx
  ox : Dj h hx
theorem Sp3.new {F h hx H : Hp} {p : Addr} {u : HO} (s : Sp3 F h hx H) (n : H p = none) : Sp3 (upd F p u) h hx (upd H p u) :=
  ⟨same_up s.f, same_over s.o (s.o.free n), same_over s.x (s.x.free n), dj_upd s.fo (s.o.free n), dj_upd s.fx (s.x.free n), s.ox⟩
theorem Sp3.own {F h hx H : Hp} {p : Addr} {u : HO} (s : Sp3 F h hx H) (n : H p = none) : Sp3 F (upd h p u) hx (upd H p u) :=
  ⟨same_over s.f (s.f.free n), same_up s.o, same_over s.x (s.x.free n), (dj_upd s.fo.symm (s.f.free n)).symm, s.fx, dj_upd s.ox (s.x.free n)⟩
/-- an own object is changed -/
theorem Sp3.chg {F h hx H : Hp} {p : Addr} {o u : HO} (s : Sp3 F h hx H) (e : h p = some o) : Sp3 F (upd h p u) hx (upd H p u) :=
  ⟨same_over s.f (s.fo.nl e), same_up s.o, same_over s.x (s.ox.nr e), (dj_upd s.fo.symm (s.fo.nl e)).symm, s.fx, dj_upd s.ox (s.ox.nr e)⟩
/-- own cells are left behind -/
theorem Sp3.less {F h h' hx H : Hp} (s : Sp3 F h hx H) (e : Same h' h) : Sp3 F h' hx H :=
  ⟨s.f, e.trans s.o, s.x, fun a => by
    cases q : h' a with
    | none => exact .inr rfl
    | some o => exact .inl (s.fo.nl (e _ _ q)), s.fx, fun a => by
    cases q : h' a with
    | none => exact .inl rfl
    | some o => exact .inr (s.ox.nr (e _ _ q))⟩
/-- own cells are frozen -/
theorem Sp3.frz {F h1 h hx H : Hp} (s : Sp3 F (jn h1 h) hx H) (d : Dj h1 h) : Sp3 (jn F h1) h hx H :=
  ⟨same_jn s.f (same_l.trans s.o), (same_r d).trans s.o, s.x, jn_dj.mpr ⟨(dj_jn.mp s.fo).2, d⟩, jn_dj.mpr ⟨s.fx, (jn_dj.mp s.ox).1⟩, (jn_dj.mp s.ox).2⟩
/-- own cells go into the frame, and back -/
theorem Sp3.put {F h1 h hx H : Hp} (s : Sp3 F (jn h1 h) hx H) (d : Dj h1 h) : Sp3 F h (jn h1 hx) H :=
  ⟨s.f, (same_r d).trans s.o, same_jn (same_l.trans s.o) s.x, (dj_jn.mp s.fo).2, dj_jn.mpr ⟨(dj_jn.mp s.fo).1, s.fx⟩, dj_jn.mpr ⟨d.symm, (jn_dj.mp s.ox).2⟩⟩
theorem Sp3.get {F h1 h hx H : Hp} (s : Sp3 F h (jn h1 hx) H) (d : Dj h1 hx) : Sp3 F (jn h1 h) hx H ∧ Dj h1 h := by
  obtain ⟨a, b⟩ := dj_jn.mp s.ox
  refine ⟨⟨s.f, same_jn (same_l.trans s.x) s.o, (same_r d).trans s.x, dj_jn.mpr ⟨(dj_jn.mp s.fx).1, s.fo⟩, (dj_jn.mp s.fx).2, jn_dj.mpr ⟨d, b⟩⟩, a.symm⟩

/-! ### trees -/
/-- an exception: its class, the fields of its own dict -/
structure Exn where
  cls : Value
  fs : List (Str × PyData)
inductive RpF (K : PySem.W.Frag) (F : Hp) : List (Str × V) → List (Str × PyData) → Prop
  | nil : RpF K F [] []
  | cons {k : Str} {v : V} {d : PyData} {vs : List (Str × V)} {ds : List (Str × PyData)} : Rp K F v d → RpF K F vs ds → RpF K F ((k, v) :: vs) ((k, d) :: ds)
theorem RpF.mono {K : PySem.W.Frag} {F G : Hp} (s : Same F G) : ∀ {vs : List (Str × V)} {ds : List (Str × PyData)}, RpF K F vs ds → RpF K G vs ds
  | _, _, .nil => .nil
  | _, _, .cons a b => .cons (a.mono s) (b.mono s)
/-- an exception's class and own dict -/
def ExOk (K : PySem.W.Frag) (F : Hp) (x : Exn) (c : Value) (d : Option Addr) : Prop := c = x.cls ∧ ((d = none ∧ x.fs = []) ∨ ∃ dx vs, d = some dx ∧ F dx = some (.xd vs) ∧ RpF K F vs x.fs)
theorem ExOk.mono {K : PySem.W.Frag} {F G : Hp} {x : Exn} {c : Value} {d : Option Addr} (s : Same F G) (h : ExOk K F x c d) : ExOk K G x c d := by
  obtain ⟨h1, h2⟩ := h
  refine ⟨h1, ?_⟩
  rcases h2 with h2 | ⟨dx, vs, a, b, c⟩
  · exact .inl h2
  · exact .inr ⟨dx, vs, a, s _ _ b, c.mono s⟩
inductive O where
  | un
  | fz (d : PyData)
  | tok
  | scr (ns : List Int)
  | exc (a : Addr) (d : Option Addr) (x : Exn)
  | exv (C : Addr) (fs : List (Str × PyData))
  | lst (xs : List O)
  | dct (kvs : List (Key × O))
  | ins (C : Addr) (fs : List (Str × O))
  | lls (xs : List O)
  | ldc (kvs : List (Key × O))
  | lns (C : Addr) (fs : List (Str × O))

/-- an exception held as a value: it stands frozen -/
def XvOk (K : PySem.W.Frag) (F : Hp) (a C : Addr) (d : Option Addr) (fs : List (Str × PyData)) : Prop := F a = some (exo a C d) ∧ ((d = none ∧ fs = []) ∨ ∃ dx vs, d = some dx ∧ F dx = some (exd dx vs) ∧ RpF K F vs fs)
theorem XvOk.mono {K : PySem.W.Frag} {F G : Hp} {a C : Addr} {d : Option Addr} {fs : List (Str × PyData)} (s : Same F G) (h : XvOk K F a C d fs) : XvOk K G a C d fs := by
  obtain ⟨h1, h2⟩ := h
  refine ⟨s _ _ h1, ?_⟩
  rcases h2 with h2 | ⟨dx, vs, e1, e2, e3⟩
  · exact .inl h2
  · exact .inr ⟨dx, vs, e1, s _ _ e2, e3.mono s⟩
mutual
/-- the own tree o stands at v, in the own heap h, over the frozen heap F -/
inductive Own (K : PySem.W.Frag) (F : Hp) : O → V → Hp → Prop
  | fz {d : PyData} {v : V} : Rp K F v d → Own K F (.fz d) v emp
  | tok {a : Addr} : F a = some (pot a) → Own K F .tok (.ref a) emp
  | scr {a : Addr} {ns : List Int} : SqL K F a (ns.map V.int) → Own K F (.scr ns) (.ref a) emp
  | exc {a : Addr} {d : Option Addr} {x : Exn} : ExOk K F x x.cls d → Own K F (.exc a d x) (.ref a) emp
  | exv {a C : Addr} {d : Option Addr} {fs : List (Str × PyData)} : XvOk K F a C d fs → Own K F (.exv C fs) (.ref a) emp
  | lst {xs : List O} {vs : List V} {a : Addr} {h : Hp} : OwnL K F xs vs h → h a = none → Own K F (.lst xs) (.ref a) (upd h a (.lst vs))
  | dct {kvs : List (Key × O)} {vs : List (Key × V)} {a : Addr} {h : Hp} : OwnK K F kvs vs h → (kvs.map (·.1)).Nodup → h a = none → Own K F (.dct kvs) (.ref a) (upd h a (.dK vs))
  | ins {C : Addr} {fs : List (Str × O)} {vs : List (Str × V)} {a dx : Addr} {h : Hp} : OwnF K F fs vs h → h a = none → h dx = none → dx ≠ a → Own K F (.ins C fs) (.ref a) (upd (upd h dx (.own a)) a (.ins C dx vs))
  | lls {xs : List O} {vs : List V} {a : Addr} : OwnL K F xs vs emp → F a = some (.lst vs) → Own K F (.lls xs) (.ref a) emp
  | ldc {kvs : List (Key × O)} {vs : List (Key × V)} {a : Addr} : OwnK K F kvs vs emp → F a = some (.dK vs) → Own K F (.ldc kvs) (.ref a) emp
  | lns {C : Addr} {fs : List (Str × O)} {vs : List (Str × V)} {a dx : Addr} : OwnF K F fs vs emp → F a = some (.ins C dx vs) → F dx = some (.own a) → Own K F (.lns C fs) (.ref a) emp
inductive OwnL (K : PySem.W.Frag) (F : Hp) : List O → List V → Hp → Prop
  | nil : OwnL K F [] [] emp
  | cons {o : O} {os : List O} {v : V} {vs : List V} {h1 h2 : Hp} : Own K F o v h1 → OwnL K F os vs h2 → Dj h1 h2 → OwnL K F (o :: os) (v :: vs) (jn h1 h2)
inductive OwnK (K : PySem.W.Frag) (F : Hp) : List (Key × O) → List (Key × V) → Hp → Prop
  | nil : OwnK K F [] [] emp
  | cons {k : Key} {o : O} {os : List (Key × O)} {v : V} {vs : List (Key × V)} {h1 h2 : Hp} : Own K F o v h1 → OwnK K F os vs h2 → Dj h1 h2 → OwnK K F ((k, o) :: os) ((k, v) :: vs) (jn h1 h2)
inductive OwnF (K : PySem.W.Frag) (F : Hp) : List (Str × O) → List (Str × V) → Hp → Prop
  | nil : OwnF K F [] [] emp
  | cons {k : Str} {o : O} {os : List (Str × O)} {v : V} {vs : List (Str × V)} {h1 h2 : Hp} : Own K F o v h1 → OwnF K F os vs h2 → Dj h1 h2 → OwnF K F ((k, o) :: os) ((k, v) :: vs) (jn h1 h2)
end
mutual
theorem Own.mono {K : PySem.W.Frag} {F G : Hp} (s : Same F G) : ∀ {o : O} {v : V} {h : Hp}, Own K F o v h → Own K G o v h
  | _, _, _, .fz r => .fz (r.mono s)
  | _, _, _, .tok e => .tok (s _ _ e)
  | _, _, _, .scr e => .scr (L2.Same.seq s e)
  | _, _, _, .exc e => .exc (e.mono s)
  | _, _, _, .exv e => .exv (e.mono s)
  | _, _, _, .lst r n => .lst (OwnL.mono s r) n
  | _, _, _, .dct r nd n => .dct (OwnK.mono s r) nd n
  | _, _, _, .ins r n m e => .ins (OwnF.mono s r) n m e
  | _, _, _, .lls r e => .lls (OwnL.mono s r) (s _ _ e)
  | _, _, _, .ldc r e => .ldc (OwnK.mono s r) (s _ _ e)
  | _, _, _, .lns r e e2 => .lns (OwnF.mono s r) (s _ _ e) (s _ _ e2)
theorem OwnL.mono {K : PySem.W.Frag} {F G : Hp} (s : Same F G) : ∀ {o : List O} {v : List V} {h : Hp}, OwnL K F o v h → OwnL K G o v h
  | _, _, _, .nil => .nil
  | _, _, _, .cons a b d => .cons (Own.mono s a) (OwnL.mono s b) d
theorem OwnK.mono {K : PySem.W.Frag} {F G : Hp} (s : Same F G) : ∀ {o : List (Key × O)} {v : List (Key × V)} {h : Hp}, OwnK K F o v h → OwnK K G o v h
  | _, _, _, .nil => .nil
  | _, _, _, .cons a b d => .cons (Own.mono s a) (OwnK.mono s b) d
theorem OwnF.mono {K : PySem.W.Frag} {F G : Hp} (s : Same F G) : ∀ {o : List (Str × O)} {v : List (Str × V)} {h : Hp}, OwnF K F o v h → OwnF K G o v h
  | _, _, _, .nil => .nil
  | _, _, _, .cons a b d => .cons (Own.mono s a) (OwnF.mono s b) d
end
theorem OwnL.len {K : PySem.W.Frag} {F : Hp} : ∀ {o : List O} {v : List V} {h : Hp}, OwnL K F o v h → o.length = v.length
  | _, _, _, .nil => rfl
  | _, _, _, .cons _ b _ => by rw [List.length_cons, List.length_cons, b.len]
theorem OwnL.app {K : PySem.W.Frag} {F : Hp} : ∀ {o o' : List O} {v v' : List V} {h h' : Hp}, OwnL K F o v h → OwnL K F o' v' h' → Dj h h' → OwnL K F (o ++ o') (v ++ v') (jn h h')
  | _, _, _, _, _, _, .nil, b, _ => by rw [emp_jn]; exact b
  | _, _, _, _, _, _, .cons a b d, c, e => by
    obtain ⟨e1, e2⟩ := jn_dj.mp e
    rw [jn_assoc]
    exact .cons a (b.app c e2) (dj_jn.mpr ⟨d, e1⟩)
/-- frozen items -/
theorem OwnL.frozen {K : PySem.W.Frag} {F : Hp} : ∀ {ds : List PyData} {vs : List V}, RpAll K F vs ds → OwnL K F (ds.map O.fz) vs emp
  | _, _, .nil => .nil
  | _, _, .cons a b => by
    have := OwnL.cons (Own.fz a) (OwnL.frozen b) emp_dj
    rw [emp_jn] at this; exact this
theorem OwnL.thaw {K : PySem.W.Frag} {F : Hp} : ∀ {ds : List PyData} {vs : List V} {h : Hp}, OwnL K F (ds.map O.fz) vs h → RpAll K F vs ds ∧ h = emp
  | [], _, _, h => by cases h; exact ⟨.nil, rfl⟩
  | d :: ds, _, _, h => by
    cases h with
    | cons a b e =>
      cases a with
      | fz r =>
        obtain ⟨r2, rfl⟩ := OwnL.thaw b
        exact ⟨.cons r r2, rfl⟩

/-! ### freezing -/
mutual
def fzO : O → Option PyData
  | .fz d => some d
  | .lst xs => (fzL xs).map PyData.list
  | .dct kvs => (fzK kvs).map PyData.dict
  | _ => none
def fzL : List O → Option (List PyData)
  | [] => some []
  | o :: os => match fzO o, fzL os with
    | some d, some ds => some (d :: ds)
    | _, _ => none
def fzK : List (Key × O) → Option (List (PyData × PyData))
  | [] => some []
  | (k, o) :: os => match fzO o, fzK os with
    | some d, some ds => some ((keyD k, d) :: ds)
    | _, _ => none
end
theorem fzL_map : ∀ ds : List PyData, fzL (ds.map O.fz) = some ds
  | [] => by unfold fzL; rfl
  | d :: ds => by
    show fzL (O.fz d :: ds.map O.fz) = _
    unfold fzL
    rw [fzL_map ds]; rfl
theorem fzO_lst {ds : List PyData} : fzO (.lst (ds.map O.fz)) = some (.list ds) := by
  unfold fzO; rw [fzL_map]; rfl
mutual
theorem Own.frz {K : PySem.W.Frag} {F : Hp} : ∀ {o : O} {v : V} {h : Hp} {d : PyData}, Own K F o v h → Dj F h → fzO o = some d → Rp K (jn F h) v d
  | _, _, _, _, .fz r, _, e => by unfold fzO at e; cases e; rw [jn_emp]; exact r
  | _, _, _, _, .tok _, _, e => by unfold fzO at e; cases e
  | _, _, _, _, .scr _, _, e => by unfold fzO at e; cases e
  | _, _, _, _, .exc _, _, e => by unfold fzO at e; cases e
  | _, _, _, _, .exv _, _, e => by unfold fzO at e; cases e
  | _, _, _, _, .lst (a := a) (h := h) r n, j, e => by
    unfold fzO at e
    cases q : fzL _ with
    | none => rw [q] at e; cases e
    | some ds =>
      rw [q] at e; cases e
      have nF : F a = none := j.nl upd_same
      have j2 : Dj F h := fun b => by
        by_cases hb : b = a
        · rw [hb]; exact .inr n
        · have := j b; rw [upd_ne hb] at this; exact this
      have rr := OwnL.frz r j2 q
      rw [jn_upd nF]
      exact .lst upd_same (rr.mono (same_upd' (jn_none.mpr ⟨nF, n⟩)))
  | _, _, _, _, .dct (a := a) (h := h) r nd n, j, e => by
    unfold fzO at e
    cases q : fzK _ with
    | none => rw [q] at e; cases e
    | some ds =>
      rw [q] at e; cases e
      have nF : F a = none := j.nl upd_same
      have j2 : Dj F h := fun b => by
        by_cases hb : b = a
        · rw [hb]; exact .inr n
        · have := j b; rw [upd_ne hb] at this; exact this
      have rr := OwnK.frz r j2 q
      rw [jn_upd nF]
      exact .dct upd_same (rr.mono (same_upd' (jn_none.mpr ⟨nF, n⟩)))
  | _, _, _, _, .ins _ _ _ _, _, e => by unfold fzO at e; cases e
  | _, _, _, _, .lls _ _, _, e => by unfold fzO at e; cases e
  | _, _, _, _, .ldc _ _, _, e => by unfold fzO at e; cases e
  | _, _, _, _, .lns _ _ _, _, e => by unfold fzO at e; cases e
theorem OwnL.frz {K : PySem.W.Frag} {F : Hp} : ∀ {o : List O} {v : List V} {h : Hp} {d : List PyData}, OwnL K F o v h → Dj F h → fzL o = some d → RpAll K (jn F h) v d
  | _, _, _, _, .nil, _, e => by unfold fzL at e; cases e; exact .nil
  | _, _, _, _, .cons (h1 := h1) (h2 := h2) a b d, j, e => by
    unfold fzL at e
    obtain ⟨j1, j2⟩ := dj_jn.mp j
    split at e
    · rename_i x y q1 q2
      cases e
      refine .cons ((Own.frz a j1 q1).mono ?_) ((OwnL.frz b j2 q2).mono ?_)
      · rw [← jn_assoc]; exact same_l
      · exact same_jn same_l ((same_r d).trans (same_r j))
    · cases e
theorem OwnK.frz {K : PySem.W.Frag} {F : Hp} : ∀ {o : List (Key × O)} {v : List (Key × V)} {h : Hp} {d : List (PyData × PyData)}, OwnK K F o v h → Dj F h → fzK o = some d → RpKv K (jn F h) v d
  | _, _, _, _, .nil, _, e => by unfold fzK at e; cases e; exact .nil
  | _, _, _, _, .cons (h1 := h1) (h2 := h2) a b d, j, e => by
    unfold fzK at e
    obtain ⟨j1, j2⟩ := dj_jn.mp j
    split at e
    · rename_i x y q1 q2
      cases e
      refine .cons ((Own.frz a j1 q1).mono ?_) ((OwnK.frz b j2 q2).mono ?_)
      · rw [← jn_assoc]; exact same_l
      · exact same_jn same_l ((same_r d).trans (same_r j))
    · cases e
end

/-! ### the slots -/
inductive EnvL (K : PySem.W.Frag) (F : Hp) : List O → L2.St → Hp → Prop
  | nil : EnvL K F [] [] emp
  | un {os : List O} {σ : L2.St} {h : Hp} (x : Option V) : EnvL K F os σ h → EnvL K F (.un :: os) (x :: σ) h
  | cons {o : O} {os : List O} {v : V} {σ : L2.St} {h1 h2 : Hp} : Own K F o v h1 → EnvL K F os σ h2 → Dj h1 h2 → EnvL K F (o :: os) (some v :: σ) (jn h1 h2)
section
variable {K : PySem.W.Frag} {F G : Hp}
theorem own_un {v : V} {h : Hp} : ¬ Own K F .un v h := fun h => by cases h
theorem EnvL.mono (s : Same F G) : ∀ {os : List O} {σ : L2.St} {h : Hp}, EnvL K F os σ h → EnvL K G os σ h
  | _, _, _, .nil => .nil
  | _, _, _, .un x r => .un x (r.mono s)
  | _, _, _, .cons a b d => .cons (a.mono s) (b.mono s) d
theorem EnvL.len : ∀ {os : List O} {σ : L2.St} {h : Hp}, EnvL K F os σ h → os.length = σ.length
  | _, _, _, .nil => rfl
  | _, _, _, .un x r => by rw [List.length_cons, List.length_cons, r.len]
  | _, _, _, .cons a b d => by rw [List.length_cons, List.length_cons, b.len]
/-- what stands in a slot is taken out -/
theorem EnvL.pull : ∀ {os : List O} {σ : L2.St} {h : Hp} {i : Nat} {o : O}, EnvL K F os σ h → os[i]? = some o → o ≠ .un →
    ∃ v h1 h2, σ[i]? = some (some v) ∧ Own K F o v h1 ∧ EnvL K F (os.set i .un) σ h2 ∧ Dj h1 h2 ∧ h = jn h1 h2
  | _, _, _, i, o, .nil, e, _ => by simp at e
  | _, _, _, 0, o, .un x r, e, n => by simp at e; exact absurd e.symm n
  | _, _, _, i + 1, o, .un x r, e, n => by
    obtain ⟨v, h1, h2, a, b, c, d, rfl⟩ := r.pull (i := i) (o := o) (by simpa using e) n
    exact ⟨v, h1, h2, by simpa using a, b, .un x c, d, rfl⟩
  | _, _, _, 0, o, .cons a b d, e, n => by
    simp at e; subst e
    exact ⟨_, _, _, rfl, a, .un _ b, d, rfl⟩
  | _, _, _, i + 1, o, .cons (h1 := g1) a b d, e, n => by
    obtain ⟨v, h1, h2, a', b', c, d', rfl⟩ := b.pull (i := i) (o := o) (by simpa using e) n
    obtain ⟨d1, d2⟩ := dj_jn.mp d
    refine ⟨v, h1, jn g1 h2, by simpa using a', b', .cons a c d2, dj_jn.mpr ⟨d1.symm, d'⟩, ?_⟩
    rw [← jn_assoc, jn_comm d1, jn_assoc]
/-- into an empty slot -/
theorem EnvL.push : ∀ {os : List O} {σ : L2.St} {h h1 : Hp} {i : Nat} {o : O} {v : V}, EnvL K F os σ h → os[i]? = some .un → Own K F o v h1 → Dj h1 h →
    EnvL K F (os.set i o) (σ.set i (some v)) (jn h1 h)
  | _, _, _, _, i, o, v, .nil, e, _, _ => by simp at e
  | _, _, _, _, 0, o, v, .un x r, e, a, d => .cons a r d
  | _, _, _, _, i + 1, o, v, .un x r, e, a, d => .un x (r.push (i := i) (by simpa using e) a d)
  | _, _, _, _, 0, o, v, .cons a' b d', e, a, d => by simp at e; subst e; exact (own_un a').elim
  | _, _, _, h1, i + 1, o, v, .cons (h1 := g1) (h2 := g2) a' b d', e, a, d => by
    obtain ⟨d1, d2⟩ := dj_jn.mp d
    have := EnvL.cons a' (b.push (i := i) (by simpa using e) a d2) (dj_jn.mpr ⟨d1.symm, d'⟩)
    rw [← jn_assoc, jn_comm d1.symm, jn_assoc] at this
    exact this
theorem EnvL.pushU : ∀ {os : List O} {σ : L2.St} {h : Hp} {i : Nat} (x : Option V), EnvL K F os σ h → os[i]? = some .un → EnvL K F os (σ.set i x) h
  | _, _, _, i, x, .nil, e => by simp at e
  | _, _, _, 0, x, .un y r, e => .un x r
  | _, _, _, i + 1, x, .un y r, e => .un y (r.pushU (i := i) x (by simpa using e))
  | _, _, _, 0, x, .cons a' b d', e => by simp at e; subst e; exact (own_un a').elim
  | _, _, _, i + 1, x, .cons a' b d', e => .cons a' (b.pushU (i := i) x (by simpa using e)) d'
theorem set_self {σ : L2.St} {i : Nat} {v : V} (e : σ[i]? = some (some v)) : σ.set i (some v) = σ := by
  obtain ⟨hi, e⟩ := List.getElem?_eq_some_iff.mp e
  rw [← e]; exact List.set_getElem_self hi
/-- whatever stands in a slot is left behind -/
theorem EnvL.drop {os : List O} {σ : L2.St} {h : Hp} (i : Nat) (r : EnvL K F os σ h) : ∃ h2, EnvL K F (os.set i .un) σ h2 ∧ Same h2 h := by
  cases e : os[i]? with
  | none =>
    refine ⟨h, ?_, Same.refl _⟩
    rw [List.set_eq_of_length_le (List.getElem?_eq_none_iff.mp e)]; exact r
  | some o =>
    by_cases n : o = .un
    · subst n
      refine ⟨h, ?_, Same.refl _⟩
      obtain ⟨hi, e⟩ := List.getElem?_eq_some_iff.mp e
      rw [show os.set i .un = os from by rw [← e]; exact List.set_getElem_self hi]; exact r
    · obtain ⟨v, h1, h2, _, _, c, d, rfl⟩ := r.pull e n
      exact ⟨h2, c, same_r d⟩
theorem EnvL.fz {os : List O} {σ : L2.St} {h : Hp} {i : Nat} {d : PyData} (r : EnvL K F os σ h) (e : os[i]? = some (.fz d)) : ∃ v, σ[i]? = some (some v) ∧ Rp K F v d := by
  obtain ⟨v, h1, h2, a, b, _⟩ := r.pull e (fun z => by cases z)
  cases b with
  | fz r => exact ⟨v, a, r⟩
end
end T

/-! T2: judgements over trees: expressions, tests, arguments, statements; and how they are joined. -/
namespace T
open PySem PySem.Spec PyProof.Rows L2 Z

abbrev EnvT := List O
abbrev TD := EnvT → (O → EnvT → Prop) → (Exn → EnvT → Prop) → Prop
abbrev TB := EnvT → (Bool → EnvT → Prop) → (Exn → EnvT → Prop) → Prop
abbrev TL := EnvT → (List O → EnvT → Prop) → (Exn → EnvT → Prop) → Prop
structure TEnds where
  nx : EnvT → Prop
  rt : O → EnvT → Prop
  ex : Exn → EnvT → Prop
  bk : EnvT → Prop := fun _ => False
  ct : EnvT → Prop := fun _ => False
abbrev TSD := TEnds → EnvT → Prop

def PostE (K : PySem.W.Frag) (σ : L2.St) (F hx : Hp) (Φ : O → EnvT → Prop) : VK := fun v H' => ∃ o ρ' F' h1 h', Same F F' ∧ Sp3 F' (jn h1 h') hx H' ∧ Dj h1 h' ∧ EnvL K F' ρ' σ h' ∧ Own K F' o v h1 ∧ Φ o ρ'
def PostB (K : PySem.W.Frag) (σ : L2.St) (F hx : Hp) (Φ : Bool → EnvT → Prop) : Bool → Hp → Prop := fun b H' => ∃ ρ' F' h', Same F F' ∧ Sp3 F' h' hx H' ∧ EnvL K F' ρ' σ h' ∧ Φ b ρ'
def PostA (K : PySem.W.Frag) (σ : L2.St) (F hx : Hp) (Φ : List O → EnvT → Prop) (pl : List (Option Nat)) : List V → Hp → Prop := fun vs H' => vs.length = pl.length ∧ (∀ (j i : Nat), pl[j]? = some (some i) → ∃ v, vs[j]? = some v ∧ σ[i]? = some (some v)) ∧
  ∃ os ρ' F' h1 h', Same F F' ∧ Sp3 F' (jn h1 h') hx H' ∧ Dj h1 h' ∧ EnvL K F' ρ' σ h' ∧ OwnL K F' os vs h1 ∧ Φ os ρ'
def PostX (K : PySem.W.Frag) (σ : L2.St) (F hx : Hp) (Ξ : Exn → EnvT → Prop) : XK := fun c d H' => ∃ x ρ' F' h', Same F F' ∧ Sp3 F' h' hx H' ∧ EnvL K F' ρ' σ h' ∧ ExOk K F' x c d ∧ Ξ x ρ'
def Keep (pr : List Nat) (σ σ' : L2.St) : Prop := ∀ i ∈ pr, σ'[i]? = σ[i]?
theorem Keep.refl {pr : List Nat} {σ : L2.St} : Keep pr σ σ := fun _ _ => rfl
theorem Keep.trans {pr : List Nat} {a b c : L2.St} (x : Keep pr a b) (y : Keep pr b c) : Keep pr a c := fun i h => (y i h).trans (x i h)
theorem Keep.set {pr : List Nat} {σ : L2.St} {i : Nat} {x : Option V} (h : pr.contains i = false) : Keep pr σ (σ.set i x) := fun j hj => by
  rw [List.getElem?_set_ne]
  rintro rfl
  have : pr.contains i = true := List.elem_eq_true_of_mem hj
  rw [h] at this; cases this
def PostS (K : PySem.W.Frag) (pr : List Nat) (σ : L2.St) (F hx : Hp) (Φ : EnvT → Prop) : L2.St → Hp → Prop := fun σ' H' => ∃ ρ' F' h', Keep pr σ σ' ∧ Same F F' ∧ Sp3 F' h' hx H' ∧ EnvL K F' ρ' σ' h' ∧ Φ ρ'
def PostV (K : PySem.W.Frag) (pr : List Nat) (σ : L2.St) (F hx : Hp) (Φ : O → EnvT → Prop) : VK := fun v H' => ∃ σ', Keep pr σ σ' ∧ PostE K σ' F hx Φ v H'
def ends (K : PySem.W.Frag) (pr : List Nat) (σ : L2.St) (F hx : Hp) (D : TEnds) : Ends where
  nx := PostS K pr σ F hx D.nx
  rt := PostV K pr σ F hx D.rt
  bk := PostS K pr σ F hx D.bk
  ct := PostS K pr σ F hx D.ct

section
variable {K : PySem.W.Frag} {σ : L2.St} {F F1 hx hy : Hp}
theorem Sp3.lessx {F h hx hy H : Hp} (s : Sp3 F h hy H) (e : Same hx hy) : Sp3 F h hx H :=
  ⟨s.f, s.o, e.trans s.x, s.fo, fun a => by
    cases q : hx a with
    | none => exact .inr rfl
    | some o => exact .inl (s.fx.nl (e _ _ q)), fun a => by
    cases q : hx a with
    | none => exact .inr rfl
    | some o => exact .inl (s.ox.nl (e _ _ q))⟩
theorem PostE.mono {Φ Φ' : O → EnvT → Prop} {v : V} {H : Hp} (a : Same F F1) (b : Same hx hy) (p : PostE K σ F1 hy Φ v H) (k : ∀ o ρ, Φ o ρ → Φ' o ρ) : PostE K σ F hx Φ' v H := by
  obtain ⟨o, ρ, F', h1, h', e, s, d, en, ow, q⟩ := p
  exact ⟨o, ρ, F', h1, h', a.trans e, s.lessx b, d, en, ow, k _ _ q⟩
theorem PostB.mono {Φ Φ' : Bool → EnvT → Prop} {v : Bool} {H : Hp} (a : Same F F1) (b : Same hx hy) (p : PostB K σ F1 hy Φ v H) (k : ∀ o ρ, Φ o ρ → Φ' o ρ) : PostB K σ F hx Φ' v H := by
  obtain ⟨ρ, F', h', e, s, en, q⟩ := p
  exact ⟨ρ, F', h', a.trans e, s.lessx b, en, k _ _ q⟩
theorem PostX.mono {Ξ : Exn → EnvT → Prop} {c : Value} {d : Option Addr} {H : Hp} (a : Same F F1) (b : Same hx hy) (p : PostX K σ F1 hy Ξ c d H) : PostX K σ F hx Ξ c d H := by
  obtain ⟨x, ρ, F', h', e, s, en, ow, q⟩ := p
  exact ⟨x, ρ, F', h', a.trans e, s.lessx b, en, ow, q⟩
theorem PostS.mono {pr : List Nat} {Φ : EnvT → Prop} {σ1 σ' : L2.St} {H : Hp} (k : Keep pr σ σ1) (a : Same F F1) (b : Same hx hy) (p : PostS K pr σ1 F1 hy Φ σ' H) : PostS K pr σ F hx Φ σ' H := by
  obtain ⟨ρ, F', h', k', e, s, en, q⟩ := p
  exact ⟨ρ, F', h', k.trans k', a.trans e, s.lessx b, en, q⟩
theorem PostV.mono {pr : List Nat} {Φ : O → EnvT → Prop} {σ1 : L2.St} {v : V} {H : Hp} (k : Keep pr σ σ1) (a : Same F F1) (b : Same hx hy) (p : PostV K pr σ1 F1 hy Φ v H) : PostV K pr σ F hx Φ v H := by
  obtain ⟨σ', k', q⟩ := p
  exact ⟨σ', k.trans k', q.mono a b fun _ _ z => z⟩
end

/-- the state at a piece of code -/
structure At (X : Cx) (pins : List (Addr × Obj)) (s : Shared) (σ : L2.St) (F h hx H : Hp) (ρ : EnvT) : Prop where
  i : Inv X pins σ H s
  s : Sp3 F h hx H
  e : EnvL X.K F ρ σ h
def XQ (X : Cx) (W : WX) (σ : L2.St) (F hx : Hp) (Ξ : Exn → EnvT → Prop) : Prop := ∀ c d H', PostX X.K σ F hx Ξ c d H' → W c d σ H'
theorem XQ.mono {X : Cx} {W : WX} {σ : L2.St} {F F1 hx hy : Hp} {Ξ : Exn → EnvT → Prop} (x : XQ X W σ F hx Ξ) (a : Same F F1) (b : Same hx hy) : XQ X W σ F1 hy Ξ := fun c d H' p => x c d H' (p.mono a b)
def XS (X : Cx) (W : WX) (pr : List Nat) (σ : L2.St) (F hx : Hp) (Ξ : Exn → EnvT → Prop) : Prop := ∀ σ', Keep pr σ σ' → XQ X W σ' F hx Ξ

structure JE (X : Cx) (W : WX) (e : Expr) (m : TD) : Prop where
  run : ∀ {pins s σ F h hx H ρ Φ Ξ}, At X pins s σ F h hx H ρ → m ρ Φ Ξ → XQ X W σ F hx Ξ → wpAny (model X.prog X.w) X.A (eval e X.env) (EP X pins σ (PostE X.K σ F hx Φ)) X.xe s
structure JT (X : Cx) (W : WX) (e : Expr) (m : TB) : Prop where
  run : ∀ {pins s σ F h hx H ρ Φ Ξ}, At X pins s σ F h hx H ρ → m ρ Φ Ξ → XQ X W σ F hx Ξ → wpAny (model X.prog X.w) X.A (isTrue e X.env (eval e X.env)) (TP X pins σ (PostB X.K σ F hx Φ)) X.xe s
structure JW (X : Cx) (W : WX) (e : Expr) (m : TB) : Prop where
  run : ∀ (whole : Sem Value) {pins s σ F h hx H ρ Φ Ξ}, At X pins s σ F h hx H ρ → m ρ Φ Ξ → XQ X W σ F hx Ξ → wpAny (model X.prog X.w) X.A (isTrue e X.env whole) (TP X pins σ (PostB X.K σ F hx Φ)) X.xe s
structure JA (X : Cx) (W : WX) (es : List Expr) (pl : List (Option Nat)) (m : TL) : Prop where
  run : ∀ (pos : Pos) {pins s σ F h hx H ρ Φ Ξ}, At X pins s σ F h hx H ρ → m ρ Φ Ξ → XQ X W σ F hx Ξ → wpAny (model X.prog X.w) X.A (spliced (backTo pos (starEach es X.env))) (AP X pins σ (PostA X.K σ F hx Φ pl)) X.xe s
structure JS (X : Cx) (W : WX) (pr : List Nat) (st : Stmt) (m : TSD) : Prop where
  run : ∀ {pins s σ F h hx H ρ D}, At X pins s σ F h hx H ρ → m D ρ → XS X W pr σ F hx D.ex → wpAny (model X.prog X.w) X.A (exec st X.env) (SP X pins (ends X.K pr σ F hx D)) X.xe s
structure JSs (X : Cx) (W : WX) (pr : List Nat) (st : List Stmt) (m : TSD) : Prop where
  run : ∀ {pins s σ F h hx H ρ D}, At X pins s σ F h hx H ρ → m D ρ → XS X W pr σ F hx D.ex → wpAny (model X.prog X.w) X.A (execs st X.env) (SP X pins (ends X.K pr σ F hx D)) X.xe s
theorem JW.jt {X : Cx} {W : WX} {e : Expr} {m : TB} (h : JW X W e m) : JT X W e m := ⟨fun a q x => h.run _ a q x⟩

/-! the weakest readings, for the layer's own rules -/
def teJ (X : Cx) (e : Expr) : TE := fun σ H Q => ∀ pins s, Inv X pins σ H s → wpAny (model X.prog X.w) X.A (eval e X.env) (EP X pins σ Q) X.xe s
def ttJ (X : Cx) (e : Expr) : TT := fun σ H Q => ∀ pins s, Inv X pins σ H s → wpAny (model X.prog X.w) X.A (isTrue e X.env (eval e X.env)) (TP X pins σ Q) X.xe s
def twJ (X : Cx) (e : Expr) : TT := fun σ H Q => ∀ (whole : Sem Value) pins s, Inv X pins σ H s → wpAny (model X.prog X.w) X.A (isTrue e X.env whole) (TP X pins σ Q) X.xe s
def taJ (X : Cx) (es : List Expr) : TA := fun σ H Q => ∀ pos pins s, Inv X pins σ H s → wpAny (model X.prog X.w) X.A (spliced (backTo pos (starEach es X.env))) (AP X pins σ Q) X.xe s
def tsJ (X : Cx) (st : Stmt) : TS := fun D σ H => ∀ pins s, Inv X pins σ H s → wpAny (model X.prog X.w) X.A (exec st X.env) (SP X pins D) X.xe s
def tssJ (X : Cx) (st : List Stmt) : TS := fun D σ H => ∀ pins s, Inv X pins σ H s → wpAny (model X.prog X.w) X.A (execs st X.env) (SP X pins D) X.xe s
section
variable {X : Cx} {W : WX} {pr : List Nat} {e a b c : Expr} {es : List Expr} {st : Stmt} {sts : List Stmt} {pos : Pos}
theorem pe_J : PE X e (teJ X e) := ⟨fun pins s _ _ _ I h => h pins s I⟩
theorem pt_J : PT X e (ttJ X e) := ⟨fun pins s _ _ _ I h => h pins s I⟩
theorem pw_J : PW X e (twJ X e) := ⟨fun whole pins s _ _ _ I h => h whole pins s I⟩
theorem pa_J : PA X es (taJ X es) := ⟨fun pos pins s _ _ _ I h => h pos pins s I⟩
theorem ps_J : PS X st (tsJ X st) := ⟨fun pins s _ _ _ I h => h pins s I⟩
theorem pss_J : PSs X sts (tssJ X sts) := ⟨fun pins s _ _ _ I h => h pins s I⟩
theorem ep_mono {pins : List (Addr × Obj)} {σ : L2.St} {Q Q' : VK} (k : ∀ v H', Q v H' → Q' v H') {u : Value} {s : Shared} (h : EP X pins σ Q u s) : EP X pins σ Q' u s := by
  obtain ⟨v, H', I, r, q⟩ := h; exact ⟨v, H', I, r, k _ _ q⟩
theorem tp_mono {pins : List (Addr × Obj)} {σ : L2.St} {Q Q' : Bool → Hp → Prop} (k : ∀ v H', Q v H' → Q' v H') {u : Bool} {s : Shared} (h : TP X pins σ Q u s) : TP X pins σ Q' u s := by
  obtain ⟨H', I, q⟩ := h; exact ⟨H', I, k _ _ q⟩
theorem ap_mono {pins : List (Addr × Obj)} {σ : L2.St} {Q Q' : List V → Hp → Prop} (k : ∀ v H', Q v H' → Q' v H') {u : List Value} {s : Shared} (h : AP X pins σ Q u s) : AP X pins σ Q' u s := by
  obtain ⟨v, H', I, r, q⟩ := h; exact ⟨v, H', I, r, k _ _ q⟩
theorem sp_mono {pins : List (Addr × Obj)} {D D' : Ends} (h1 : ∀ σ H, D.nx σ H → D'.nx σ H) (h2 : ∀ v H, D.rt v H → D'.rt v H) (h3 : ∀ σ H, D.bk σ H → D'.bk σ H) (h4 : ∀ σ H, D.ct σ H → D'.ct σ H) {f : Flow} {s : Shared} (h : SP X pins D f s) : SP X pins D' f s := by
  cases f with
  | next => obtain ⟨σ, H', I, q⟩ := h; exact ⟨σ, H', I, h1 _ _ q⟩
  | brk => obtain ⟨σ, H', I, q⟩ := h; exact ⟨σ, H', I, h3 _ _ q⟩
  | cont => obtain ⟨σ, H', I, q⟩ := h; exact ⟨σ, H', I, h4 _ _ q⟩
  | ret u => obtain ⟨v, σ, H', I, r, q⟩ := h; exact ⟨v, σ, H', I, r, h2 _ _ q⟩
section
variable {σ : L2.St} {F h hx H : Hp} {ρ : EnvT} {Ξ : Exn → EnvT → Prop}
theorem JE.te {m : TD} (j : JE X W e m) (s3 : Sp3 F h hx H) (en : EnvL X.K F ρ σ h) {Φ : O → EnvT → Prop} {Q : VK} (q : m ρ Φ Ξ) (x : XQ X W σ F hx Ξ) (k : ∀ v H', PostE X.K σ F hx Φ v H' → Q v H') : teJ X e σ H Q :=
  fun pins s I => thn (j.run ⟨I, s3, en⟩ q x) fun _ _ => ep_mono k
theorem JT.tt {m : TB} (j : JT X W e m) (s3 : Sp3 F h hx H) (en : EnvL X.K F ρ σ h) {Φ : Bool → EnvT → Prop} {Q : Bool → Hp → Prop} (q : m ρ Φ Ξ) (x : XQ X W σ F hx Ξ) (k : ∀ v H', PostB X.K σ F hx Φ v H' → Q v H') : ttJ X e σ H Q :=
  fun pins s I => thn (j.run ⟨I, s3, en⟩ q x) fun _ _ => tp_mono k
theorem JW.tw {m : TB} (j : JW X W e m) (s3 : Sp3 F h hx H) (en : EnvL X.K F ρ σ h) {Φ : Bool → EnvT → Prop} {Q : Bool → Hp → Prop} (q : m ρ Φ Ξ) (x : XQ X W σ F hx Ξ) (k : ∀ v H', PostB X.K σ F hx Φ v H' → Q v H') : twJ X e σ H Q :=
  fun whole pins s I => thn (j.run whole ⟨I, s3, en⟩ q x) fun _ _ => tp_mono k
theorem JA.ta {pl : List (Option Nat)} {m : TL} (j : JA X W es pl m) (s3 : Sp3 F h hx H) (en : EnvL X.K F ρ σ h) {Φ : List O → EnvT → Prop} {Q : List V → Hp → Prop} (q : m ρ Φ Ξ) (x : XQ X W σ F hx Ξ) (k : ∀ v H', PostA X.K σ F hx Φ pl v H' → Q v H') : taJ X es σ H Q :=
  fun pos pins s I => thn (j.run pos ⟨I, s3, en⟩ q x) fun _ _ => ap_mono k
theorem JSs.ts {m : TSD} (j : JSs X W pr sts m) (s3 : Sp3 F h hx H) (en : EnvL X.K F ρ σ h) {D : TEnds} {E : Ends} (q : m D ρ) (x : XS X W pr σ F hx D.ex) (h1 : ∀ σ' H', PostS X.K pr σ F hx D.nx σ' H' → E.nx σ' H') (h2 : ∀ σ' H', PostV X.K pr σ F hx D.rt σ' H' → E.rt σ' H')
    (h3 : ∀ σ' H', PostS X.K pr σ F hx D.bk σ' H' → E.bk σ' H') (h4 : ∀ σ' H', PostS X.K pr σ F hx D.ct σ' H' → E.ct σ' H') : tssJ X sts E σ H :=
  fun pins s I => thn (j.run ⟨I, s3, en⟩ q x) fun _ _ => sp_mono h1 h2 h3 h4
end

/-! ### expressions -/
/-- what may be shared: nothing of it is own -/
def shr : O → Bool
  | .fz _ => true
  | .tok => true
  | .scr _ => true
  | .exc _ _ _ => true
  | .exv _ _ => true
  | .lls _ => true
  | .ldc _ => true
  | .lns _ _ => true
  | _ => false
theorem Own.shr_emp {K : PySem.W.Frag} {F h : Hp} {o : O} {v : V} (a : Own K F o v h) (s : shr o = true) : h = emp := by
  cases a with
  | lst _ _ => cases s
  | dct _ _ _ => cases s
  | ins _ _ _ _ => cases s
  | _ => rfl
def mVar (i : Nat) : TD := fun ρ Φ _ => ∃ o, ρ[i]? = some o ∧ shr o = true ∧ Φ o ρ
def mC (d : PyData) : TD := fun ρ Φ _ => Φ (.fz d) ρ
/-- the result is frozen -/
def mFrz (m : TD) : TD := fun ρ Φ Ξ => m ρ (fun o ρ' => ∃ d, fzO o = some d ∧ Φ (.fz d) ρ') Ξ
/-- the tree in a slot is taken out -/
def mMov (i : Nat) : TD := fun ρ Φ _ => ∃ o, ρ[i]? = some o ∧ o ≠ .un ∧ Φ o (ρ.set i .un)

theorem own_emp {K : PySem.W.Frag} {F : Hp} {d : PyData} {v : V} {h : Hp} (o : Own K F (.fz d) v h) : h = emp ∧ Rp K F v d := by cases o with | fz r => exact ⟨rfl, r⟩
theorem postE_fz {K : PySem.W.Frag} {σ : L2.St} {F h hx H F' : Hp} {Φ : O → EnvT → Prop} {ρ : EnvT} {v : V} {d : PyData} (e : Same F F') (s : Sp3 F' h hx H) (en : EnvL K F' ρ σ h) (r : Rp K F' v d) (q : Φ (.fz d) ρ) : PostE K σ F hx Φ v H :=
  ⟨_, ρ, F', emp, h, e, by rw [emp_jn]; exact s, emp_dj, en, .fz r, q⟩
theorem je_var (i : Nat) {x : Str} (hN : X.N[i]? = some x := by rfl) (hv : Vis X.env.scope x := by first | exact Or.inl rfl | exact Or.inr (Or.inl rfl) | exact Or.inr (Or.inr rfl)) (hd : (x == ("__debug__" : Str)) = false := by decide)
    (hcd : (x == ("__classdict__" : Str)) = false := by decide) : JE X W (.Name x pos) (mVar i) := by
  refine ⟨fun {pins s σ F h hx H ρ Φ Ξ} a q x => ?_⟩
  obtain ⟨o, e, hc, q⟩ := q
  have key : ∃ v, σ[i]? = some (some v) ∧ PostE X.K σ F hx Φ v H := ?_
  · obtain ⟨v, e1, e2⟩ := key
    exact (pe_var hN hv hd hcd).run _ _ _ _ _ a.i ⟨v, e1, e2⟩
  · obtain ⟨v, h1, h2, e1, ow, en, d, eh⟩ := a.e.pull e (fun z => by subst z; cases hc)
    have e0 := ow.shr_emp hc
    subst e0
    exact ⟨v, e1, _, _, _, emp, _, Same.refl _, by rw [emp_jn]; exact a.s, emp_dj, a.e, ow, q⟩
theorem je_mov (i : Nat) {x : Str} (hN : X.N[i]? = some x := by rfl) (hv : Vis X.env.scope x := by first | exact Or.inl rfl | exact Or.inr (Or.inl rfl) | exact Or.inr (Or.inr rfl)) (hd : (x == ("__debug__" : Str)) = false := by decide)
    (hcd : (x == ("__classdict__" : Str)) = false := by decide) : JE X W (.Name x pos) (mMov i) := by
  refine ⟨fun a q x => ?_⟩
  obtain ⟨o, e, hc, q⟩ := q
  obtain ⟨v, h1, h2, e1, o, en, d, rfl⟩ := a.e.pull e hc
  exact (pe_var hN hv hd hcd).run _ _ _ _ _ a.i ⟨v, e1, _, _, _, h1, h2, Same.refl _, a.s, d, en, o, q⟩
theorem je_int {i j} : JE X W (.Constant (.int i) j pos) (mC (.int i)) := ⟨fun a q x => pe_int.run _ _ _ _ _ a.i (postE_fz (Same.refl _) a.s a.e (.int i) q)⟩
theorem je_bl {i j} : JE X W (.Constant (.bool i) j pos) (mC (.bool i)) := ⟨fun a q x => pe_bl.run _ _ _ _ _ a.i (postE_fz (Same.refl _) a.s a.e (.bl i) q)⟩
theorem je_non {j} : JE X W (.Constant .none j pos) (mC .none) := ⟨fun a q x => pe_non.run _ _ _ _ _ a.i (postE_fz (Same.refl _) a.s a.e .non q)⟩
theorem je_str {i j} : JE X W (.Constant (.str i) j pos) (mC (.str i)) := ⟨fun a q x => pe_str.run _ _ _ _ _ a.i (postE_fz (Same.refl _) a.s a.e (.str i) q)⟩
/-- a constant of the layer -/
theorem je_c {v : V} {d : PyData} (h : PE X e (tC v)) (r : ∀ F, Rp X.K F v d) : JE X W e (mC d) := ⟨fun a q x => h.run _ _ _ _ _ a.i (postE_fz (Same.refl _) a.s a.e (r _) q)⟩
theorem je_frz {m : TD} (j : JE X W e m) : JE X W e (mFrz m) := by
  refine ⟨fun a q x => thn (j.run a q x) fun _ _ => ep_mono ?_⟩
  rintro v H' ⟨o, ρ', F', h1, h', e, s, d, en, ow, y, hy, q⟩
  exact postE_fz (e.trans same_l) (s.frz d) (en.mono same_l) (ow.frz (dj_jn.mp s.fo).1 hy) q
theorem JE.imp {m m' : TD} (j : JE X W e m) (k : ∀ ρ Φ Ξ, m' ρ Φ Ξ → m ρ Φ Ξ) : JE X W e m' := ⟨fun a q x => j.run a (k _ _ _ q) x⟩

/-! a value's operation on frozen data -/
abbrev D2 := PyData → PyData → (O → Prop) → Prop
/-- what an operation leaves -/
def PostO (K : PySem.W.Frag) (F h hx : Hp) (Φ : O → Prop) : VK := fun v H' => ∃ o F' h1, Same F F' ∧ Sp3 F' (jn h1 h) hx H' ∧ Dj h1 h ∧ Own K F' o v h1 ∧ Φ o
theorem postO_fz {K : PySem.W.Frag} {F h hx H F' : Hp} {Φ : O → Prop} {v : V} {d : PyData} (e : Same F F') (s : Sp3 F' h hx H) (r : Rp K F' v d) (q : Φ (.fz d)) : PostO K F h hx Φ v H :=
  ⟨_, F', emp, e, by rw [emp_jn]; exact s, emp_dj, .fz r, q⟩
/-- a new list of frozen items -/
theorem postO_lst {K : PySem.W.Frag} {F h hx H : Hp} {Φ : O → Prop} {ds : List PyData} {vs : List V} (s : Sp3 F h hx H) (r : RpAll K F vs ds) (q : Φ (.lst (ds.map .fz))) : ∀ p, H p = none → PostO K F h hx Φ (.ref p) (upd H p (.lst vs)) := by
  intro p hp
  refine ⟨_, F, upd emp p (.lst vs), Same.refl _, ?_, ?_, .lst (OwnL.frozen r) rfl, q⟩
  · rw [upd_jn, emp_jn]; exact s.own hp
  · exact dj_upd emp_dj (s.o.free hp)
/-- a new tuple -/
theorem postO_tup {K : PySem.W.Frag} {F h hx H : Hp} {Φ : O → Prop} {ds : List PyData} {vs : List V} (s : Sp3 F h hx H) (r : RpAll K F vs ds) (q : Φ (.fz (.tuple ds))) : ∀ p, H p = none → PostO K F h hx Φ (.ref p) (upd H p (.tup vs)) := by
  intro p hp
  exact postO_fz (same_upd' (s.f.free hp)) (s.new hp) (.tup (SqT.of upd_same) (r.mono (same_upd' (s.f.free hp)))) q
def DOp (K : PySem.W.Frag) (r : R2) (f : D2) : Prop := ∀ {F h hx H : Hp} {x y : V} {d e : PyData} {Φ : O → Prop} {Q : VK}, Sp3 F h hx H → Rp K F x d → Rp K F y e → f d e Φ → (∀ v H', PostO K F h hx Φ v H' → Q v H') → r x y H Q
def DUn (K : PySem.W.Frag) (r : V → Hp → VK → Prop) (f : PyData → (O → Prop) → Prop) : Prop := ∀ {F h hx H : Hp} {x : V} {d : PyData} {Φ : O → Prop} {Q : VK}, Sp3 F h hx H → Rp K F x d → f d Φ → (∀ v H', PostO K F h hx Φ v H' → Q v H') → r x H Q
def DCl (K : PySem.W.Frag) (r : List V → Hp → VK → Prop) (f : List PyData → (O → Prop) → Prop) : Prop := ∀ {F h hx H : Hp} {xs : List V} {ds : List PyData} {Φ : O → Prop} {Q : VK}, Sp3 F h hx H → RpAll K F xs ds → f ds Φ → (∀ v H', PostO K F h hx Φ v H' → Q v H') → r xs H Q
def mOp (f : D2) (ma mb : TD) : TD := fun ρ Φ Ξ => mFrz ma ρ (fun x ρ1 => ∃ d, x = .fz d ∧ mFrz mb ρ1 (fun y ρ2 => ∃ e, y = .fz e ∧ f d e fun z => Φ z ρ2) Ξ) Ξ
def mUn (f : PyData → (O → Prop) → Prop) (ma : TD) : TD := fun ρ Φ Ξ => mFrz ma ρ (fun x ρ1 => ∃ d, x = .fz d ∧ f d fun z => Φ z ρ1) Ξ
theorem PostO.pe {K : PySem.W.Frag} {σ : L2.St} {F F1 h hx H : Hp} {Φ : O → EnvT → Prop} {ρ : EnvT} {v : V} (e : Same F F1) (en : EnvL K F1 ρ σ h) (p : PostO K F1 h hx (fun o => Φ o ρ) v H) : PostE K σ F hx Φ v H := by
  obtain ⟨o, F', h1, e', s, d, ow, q⟩ := p
  exact ⟨o, ρ, F', h1, h, e.trans e', s, d, en.mono e', ow, q⟩
theorem fzE {K : PySem.W.Frag} {σ : L2.St} {F hx : Hp} {R : PyData → EnvT → Prop} {v : V} {H : Hp} (p : PostE K σ F hx (fun x ρ => ∃ d, x = .fz d ∧ R d ρ) v H) : ∃ d ρ F' h, Same F F' ∧ Sp3 F' h hx H ∧ EnvL K F' ρ σ h ∧ Rp K F' v d ∧ R d ρ := by
  obtain ⟨o, ρ', F', h1, h', e, s, d, en, ow, y, rfl, q⟩ := p
  obtain ⟨rfl, r⟩ := own_emp ow
  rw [emp_jn] at s
  exact ⟨y, ρ', F', h', e, s, en, r, q⟩
theorem op_J {r : R2} {f : D2} {ma mb : TD} (ja : JE X W a ma) (jb : JE X W b mb) (o : DOp X.K r f) {σ F h hx H ρ Φ Ξ} (s3 : Sp3 F h hx H) (en : EnvL X.K F ρ σ h) (q : mOp f ma mb ρ Φ Ξ) (x : XQ X W σ F hx Ξ) {Q : VK} (kk : ∀ v H', PostE X.K σ F hx Φ v H' → Q v H') :
    tOp r (teJ X a) (teJ X b) σ H Q := by
  refine (je_frz ja).te s3 en q x fun v H1 p => ?_
  obtain ⟨d, ρ1, F1, h1, e1, s1, en1, r1, q1⟩ := fzE p
  refine (je_frz jb).te s1 en1 q1 (x.mono e1 (Same.refl _)) fun u H2 p2 => ?_
  obtain ⟨d2, ρ2, F2, h2, e2, s2, en2, r2, q2⟩ := fzE p2
  exact o s2 (r1.mono e2) r2 q2 fun _ _ p => kk _ _ (p.pe (e1.trans e2) en2)
end
end T

/-! T3: arguments; a def's contract over trees; its call; its proof. -/
namespace T
open PySem PySem.Spec PyProof.Rows L2 Z

/-- an expression as an argument: q, the slot that it is -/
structure JP (X : Cx) (W : WX) (q : Option Nat) (e : Expr) (m : TD) : Prop where
  run : ∀ {pins s σ F h hx H ρ Φ Ξ}, At X pins s σ F h hx H ρ → m ρ Φ Ξ → XQ X W σ F hx Ξ →
    wpAny (model X.prog X.w) X.A (eval e X.env) (EP X pins σ fun v H' => (∀ i, q = some i → σ[i]? = some (some v)) ∧ PostE X.K σ F hx Φ v H') X.xe s
def mNil : TL := fun ρ Φ _ => Φ [] ρ
def mCons (me : TD) (m : TL) : TL := fun ρ Φ Ξ => me ρ (fun o ρ1 => m ρ1 (fun os ρ2 => Φ (o :: os) ρ2) Ξ) Ξ
section
variable {X : Cx} {W : WX} {pr : List Nat} {e a b c : Expr} {es : List Expr} {pos : Pos} {pl : List (Option Nat)}
theorem JE.jp {m : TD} (j : JE X W e m) : JP X W none e m := ⟨fun a q x => thn (j.run a q x) fun _ _ => ep_mono fun _ _ p => ⟨fun _ z => by (cases z), p⟩⟩
theorem jp_mov (i : Nat) {x : Str} (hN : X.N[i]? = some x := by rfl) (hv : Vis X.env.scope x := by first | exact Or.inl rfl | exact Or.inr (Or.inl rfl) | exact Or.inr (Or.inr rfl)) (hd : (x == ("__debug__" : Str)) = false := by decide)
    (hcd : (x == ("__classdict__" : Str)) = false := by decide) : JP X W (some i) (.Name x pos) (mMov i) := by
  refine ⟨fun a q x => ?_⟩
  obtain ⟨o, e, hc, q⟩ := q
  obtain ⟨v, h1, h2, e1, o, en, d, rfl⟩ := a.e.pull e hc
  exact (pe_var hN hv hd hcd).run _ _ _ _ _ a.i ⟨v, e1, fun i z => by (cases z; exact e1), _, _, _, h1, h2, Same.refl _, a.s, d, en, o, q⟩
theorem ja_nil : JA X W [] [] mNil := ⟨fun pos {pins s σ F h hx H ρ Φ Ξ} a q x => (pa_nil (X := X)).run pos pins s σ H _ a.i
  ⟨rfl, fun j i z => by (simp at z), [], ρ, F, emp, h, Same.refl _, by rw [emp_jn]; exact a.s, emp_dj, a.e, .nil, q⟩⟩
theorem ja_cons {q : Option Nat} {me : TD} {m : TL} (j : JP X W q e me) (k : JA X W es pl m) (hs : starEach (e :: es) X.env = (false, eval e X.env) :: starEach es X.env := by rfl) : JA X W (e :: es) (q :: pl) (mCons me m) := by
  refine ⟨fun pos {pins s σ F h hx H ρ Φ Ξ} a g x => (pa_cons (pe_J (X := X) (e := e)) (pa_J (X := X) (es := es)) hs).run pos pins s σ H _ a.i ?_⟩
  intro pins1 s1 I1
  refine thn (j.run ⟨I1, a.s, a.e⟩ g x) fun _ _ => ep_mono ?_
  rintro v H1 ⟨hv, o, ρ1, F1, h1, h', e1, s1, d1, en1, ow1, q1⟩
  refine k.ta (s1.put d1) en1 q1 (x.mono e1 (same_r (jn_dj.mp s1.ox).1)) ?_
  rintro vs H2 ⟨hln, hvs, os, ρ2, F2, h2, h'', e2, s2, d2, en2, ow2, q2⟩
  obtain ⟨s3, d3⟩ := s2.get (jn_dj.mp s1.ox).1
  obtain ⟨d31, d32⟩ := dj_jn.mp d3
  refine ⟨by rw [List.length_cons, List.length_cons, hln], fun l i z => ?_, o :: os, ρ2, F2, jn h1 h2, h'', e1.trans e2, by rw [jn_assoc]; exact s3, jn_dj.mpr ⟨d32, d2⟩, en2, .cons (ow1.mono e2) ow2 d31, q2⟩
  cases l with
  | zero =>
    simp at z
    exact ⟨v, rfl, hv i z⟩
  | succ l =>
    obtain ⟨w, hw, hw2⟩ := hvs l i (by simpa using z)
    exact ⟨w, by simpa using hw, hw2⟩
end

/-! ### contracts -/
abbrev TSp := List O → (O → List O → Prop) → (Exn → List O → Prop) → Prop
def PostR (K : PySem.W.Frag) (F hx : Hp) (vs : List V) (pr : List Nat) (Φ : O → List O → Prop) : VK := fun v H' => ∃ o outs F' h1 h', Same F F' ∧ Sp3 F' (jn h1 h') hx H' ∧ Dj h1 h' ∧ EnvL K F' outs (pr.map fun j => vs[j]?) h' ∧ Own K F' o v h1 ∧ Φ o outs
def PostRX (K : PySem.W.Frag) (F hx : Hp) (vs : List V) (pr : List Nat) (Ξ : Exn → List O → Prop) : XK := fun c d H' => ∃ x outs F' h', Same F F' ∧ Sp3 F' h' hx H' ∧ EnvL K F' outs (pr.map fun j => vs[j]?) h' ∧ ExOk K F' x c d ∧ Ξ x outs
/-- a contract over trees, as a promise of the layer -/
def spT (K : PySem.W.Frag) (n : Nat) (pr : List Nat) (ts : TSp) : Sp := fun vs H Q E => ∃ F h hx os Φ Ξ, os.length = n ∧ Sp3 F h hx H ∧ OwnL K F os vs h ∧ ts os Φ Ξ ∧ (∀ v H', PostR K F hx vs pr Φ v H' → Q v H') ∧ ∀ c d H', PostRX K F hx vs pr Ξ c d H' → E c d H'
theorem spT_len {K : PySem.W.Frag} {n : Nat} {pr : List Nat} {ts : TSp} {vs H Q E} (h : spT K n pr ts vs H Q E) : vs.length = n := by
  obtain ⟨F, h, hx, os, Φ, Ξ, hl, _, ow, _⟩ := h
  rw [← ow.len, hl]
abbrev FnT (P : Program) (w : World) (K : PySem.W.Frag) (mg : Str → Option Value) (base : Heap) (k : Nat) (f : Addr) (fd : FuncData) (ps : List Str) (pr : List Nat) (ts : TSp) : Prop := FnG P w K mg base (L2.CX P w) k f fd ps (spT K ps.length pr ts)

def putOut : List Nat → List O → EnvT → EnvT
  | i :: ip, o :: os, ρ => putOut ip os (ρ.set i o)
  | _, _, ρ => ρ
section
variable {K : PySem.W.Frag} {F : Hp} {σ : L2.St}
theorem putOut_env : ∀ {ip : List Nat} {outs : List O} {h h' : Hp} {ρ : EnvT}, EnvL K F outs (ip.map fun i => σ.getD i none) h' → EnvL K F ρ σ h → Dj h' h → (∀ i ∈ ip, ρ[i]? = some .un ∧ (∃ v, σ[i]? = some (some v))) → ip.Nodup → EnvL K F (putOut ip outs ρ) σ (jn h' h)
  | [], _, _, _, _, r, e, _, _, _ => by cases r; rw [emp_jn]; exact e
  | i :: ip, _, h, _, ρ, r0, e, d, hi, nd => by
    obtain ⟨n1, n2⟩ := List.nodup_cons.mp nd
    obtain ⟨e0, v0, e1⟩ := hi i List.mem_cons_self
    generalize hl : (List.map (fun i => σ.getD i none) (i :: ip)) = l at r0
    cases r0 with
    | nil => cases hl
    | un x r =>
      simp only [List.map_cons] at hl
      injection hl with hl1 hl2
      subst hl2
      have es : ρ.set i .un = ρ := by
        obtain ⟨hl, e⟩ := List.getElem?_eq_some_iff.mp e0
        rw [← e]; exact List.set_getElem_self hl
      show EnvL K F (putOut ip _ (ρ.set i .un)) σ _
      rw [es]
      exact putOut_env r e d (fun j hj => hi j (List.mem_cons_of_mem _ hj)) n2
    | cons a r dj =>
      simp only [List.map_cons] at hl
      injection hl with hl1 hl2
      subst hl2
      rw [List.getD_eq_getElem?_getD, e1] at hl1
      simp only [Option.getD_some] at hl1
      cases hl1
      obtain ⟨d1, d2⟩ := jn_dj.mp d
      have p := e.push e0 a d1
      rw [set_self e1] at p
      have q := putOut_env r p (dj_jn.mpr ⟨dj.symm, d2⟩) (fun j hj => by
        have ne : i ≠ j := fun z => n1 (z ▸ hj)
        obtain ⟨y1, y2⟩ := hi j (List.mem_cons_of_mem _ hj)
        exact ⟨by rw [List.getElem?_set_ne ne]; exact y1, y2⟩) n2
      rw [← jn_assoc, jn_comm dj.symm] at q
      exact q
/-- some slots out of all -/
theorem EnvL.pick : ∀ {pr : List Nat} {ρ : EnvT} {h : Hp}, EnvL K F ρ σ h → pr.Nodup → ∃ h', EnvL K F (pr.map fun i => ρ.getD i .un) (pr.map fun i => σ.getD i none) h' ∧ Same h' h
  | [], ρ, h, e, _ => ⟨emp, .nil, fun b o z => by cases z⟩
  | i :: pr, ρ, h, e, nd => by
    obtain ⟨n1, n2⟩ := List.nodup_cons.mp nd
    have ne : ∀ j ∈ pr, i ≠ j := fun j hj z => n1 (z ▸ hj)
    by_cases q : ρ.getD i .un = .un
    · obtain ⟨h', r, s⟩ := e.pick (pr := pr) n2
      refine ⟨h', ?_, s⟩
      rw [List.map_cons, List.map_cons, q]
      exact .un _ r
    · have q1 : ρ[i]? = some (ρ.getD i .un) := by
        rw [List.getD_eq_getElem?_getD] at q ⊢
        cases z : ρ[i]? with
        | none => rw [z] at q; exact absurd rfl q
        | some o => rfl
      obtain ⟨v, h1, h2, e1, ow, en, d, rfl⟩ := e.pull q1 q
      obtain ⟨h', r, s⟩ := en.pick (pr := pr) n2
      have d' : Dj h1 h' := fun a => by
        cases z : h' a with
        | none => exact .inr rfl
        | some o => exact .inl (d.nl (s _ _ z))
      refine ⟨jn h1 h', ?_, same_jn same_l (s.trans (same_r d))⟩
      rw [List.map_cons, List.map_cons]
      have m1 : (pr.map fun j => (ρ.set i .un).getD j .un) = pr.map fun j => ρ.getD j .un := List.map_congr_left fun j hj => by
        rw [List.getD_eq_getElem?_getD, List.getD_eq_getElem?_getD, List.getElem?_set_ne (ne j hj)]
      rw [m1] at r
      have m2 : σ.getD i none = some v := by rw [List.getD_eq_getElem?_getD, e1]; rfl
      rw [m2]
      exact .cons ow r d'
end

/-! ### calls -/
def mCall (ts : TSp) (ip : List Nat) (m : TL) : TD := fun ρ Φ Ξ => m ρ (fun os ρ1 => (∀ i ∈ ip, ρ1[i]? = some .un) ∧ ts os (fun r outs => Φ r (putOut ip outs ρ1)) fun x outs => Ξ x (putOut ip outs ρ1)) Ξ
section
variable {X : Cx} {W : WX} {k : Nat} {f : Addr} {fd : FuncData} {ps : List Str} {pr ip : List Nat} {ts : TSp} {x : Str} {p pos apos : Pos} {e : Expr} {es : List Expr} {m : TL} {pl : List (Option Nat)}
theorem runT {pins : List (Addr × Obj)} {σ : L2.St} {H : Hp} {s : Shared} {Q : VK} {E : XK} {us : List Value} {vs : List V} {sp : Sp}
    (hG : X.A.guards = some []) (G : FnG X.prog X.w X.K X.mg X.base (L2.CX X.prog X.w) k f fd ps sp) (hr : Room k X.A)
    (hb : Binds X.K fd ps []) (tk : Takes X W) (I : Inv X pins σ H s) (r : Vals vs us) (h : sp vs H Q E) (hx : ∀ c d H', E c d H' → W c d σ H') :
    wpAny (model X.prog X.w) X.A (call (.ref f) us) (EP X pins σ Q) X.xe s := by
  have hl : (us ++ []).length = ps.length := by
    rw [List.append_nil, ← r.length]
    exact G.len _ _ _ _ h
  have hb' := hb s us I.kIn hl
  rw [List.append_nil] at hb'
  have c := G.run X.A X.stack s H ⟨us, []⟩ us vs Q E hG hr I.env0 hb' r h
  refine wpAny_call (codeAny_mono c ?_)
  rintro (er | fl) s' hq
  · exact tk er s' (XE.of_call I hx hq)
  · cases fl with
    | ret u => exact I.after hq
    | next | brk | cont => exact hq.elim
/-- what a caller makes of a contract's ends -/
theorem call_fin {K : PySem.W.Frag} {σ : L2.St} {F F1 hx h1 h' H1 : Hp} {ρ1 : EnvT} {Φ : O → EnvT → Prop} {Ξ : Exn → EnvT → Prop} {os : List O} {vs : List V} {n : Nat}
    (e1 : Same F F1) (s1 : Sp3 F1 (jn h1 h') hx H1) (d1 : Dj h1 h') (en1 : EnvL K F1 ρ1 σ h') (ow : OwnL K F1 os vs h1) (hn : os.length = n)
    (hv : ∀ (j i : Nat), pl[j]? = some (some i) → ∃ v, vs[j]? = some v ∧ σ[i]? = some (some v)) (hip : pr.map (fun j => pl[j]?) = ip.map fun i => some (some i)) (nd : ip.Nodup) (hu : ∀ i ∈ ip, ρ1[i]? = some .un)
    (q : ts os (fun r outs => Φ r (putOut ip outs ρ1)) fun x outs => Ξ x (putOut ip outs ρ1)) : spT K n pr ts vs H1 (PostE K σ F hx Φ) (PostX K σ F hx Ξ) := by
  have key : (pr.map fun j => vs[j]?) = (ip.map fun i => σ.getD i none) ∧ ∀ i ∈ ip, ∃ v, σ[i]? = some (some v) := by
    clear q hu nd hn ow
    induction pr generalizing ip with
    | nil =>
      cases ip with
      | nil => exact ⟨rfl, fun _ z => nomatch z⟩
      | cons i ip => cases hip
    | cons j pr ih =>
      cases ip with
      | nil => cases hip
      | cons i ip =>
        rw [List.map_cons, List.map_cons] at hip
        injection hip with z1 z2
        obtain ⟨y1, y2⟩ := ih z2
        obtain ⟨v, v1, v2⟩ := hv j i z1
        refine ⟨?_, fun l hl => ?_⟩
        · rw [List.map_cons, List.map_cons, y1, v1, List.getD_eq_getElem?_getD, v2]; rfl
        · rcases List.mem_cons.mp hl with rfl | hl
          · exact ⟨v, v2⟩
          · exact y2 l hl
  obtain ⟨key, kv⟩ := key
  refine ⟨F1, h1, jn h' hx, os, _, _, hn, ?_, ow, q, ?_, ?_⟩
  · have s2 := s1
    rw [jn_comm d1] at s2
    exact s2.put d1.symm
  · rintro v H2 ⟨o, outs, F2, g1, g', e2, s2, d2, en2, ow2, q2⟩
    rw [key] at en2
    have dx : Dj h' hx := (jn_dj.mp s1.ox).2
    obtain ⟨s3, d3⟩ := s2.get dx
    obtain ⟨d31, d32⟩ := dj_jn.mp d3
    refine ⟨o, _, F2, g1, jn g' h', e1.trans e2, ?_, dj_jn.mpr ⟨d2, d31.symm⟩, putOut_env en2 (en1.mono e2) d32.symm (fun i hi => ⟨hu i hi, kv i hi⟩) nd, ow2, q2⟩
    rw [← jn_assoc, ← jn_comm d3]; exact s3
  · rintro c d H2 ⟨x, outs, F2, g', e2, s2, en2, xo, q2⟩
    rw [key] at en2
    have dx : Dj h' hx := (jn_dj.mp s1.ox).2
    obtain ⟨s3, d3⟩ := s2.get dx
    refine ⟨x, _, F2, jn g' h', e1.trans e2, ?_, putOut_env en2 (en1.mono e2) d3.symm (fun i hi => ⟨hu i hi, kv i hi⟩) nd, xo, q2⟩
    rw [← jn_comm d3]; exact s3
theorem je_call (hG : X.A.guards = some []) (G : FnT X.prog X.w X.K X.mg X.base k f fd ps pr ts) (hr : Room k X.A) (hm : X.mg x = some (.ref f)) (hk : PySem.W.keepIn X.K (.ref f) = true) (hb : Binds X.K fd ps []) (tk : Takes X W)
    (ja : JA X W (e :: es) pl m) (hlen : pl.length = ps.length := by rfl) (hip : pr.map (fun j => pl[j]?) = ip.map (fun i => some (some i)) := by rfl) (nd : ip.Nodup := by decide) (hg : Gl X x := by rfl) (hdb : (x == ("__debug__" : Str)) = false := by decide)
    (he : starEach (e :: es) X.env = (false, eval e X.env) :: starEach es X.env := by rfl)
    (hpl : (backTo pos (starEach es X.env)).any (·.1) = false := by rfl) :
    JE X W (.Call (.Name x p) (e :: es) [] pos) (mCall ts ip m) := by
  refine ⟨fun {pins s σ F h hx H ρ Φ Ξ} a q xq => ?_⟩
  refine wpAny_Call_Name_kw (ld_glob a.i hg hm (PySem.W.callWith_K (h₀ := X.base) a.i.ok.mod.kin hk (thn (ja.run pos a q xq) fun us s1 ⟨vs, H1, I1, r, hln, hv, os, ρ1, F1, h1, h', e1, s1, d1, en1, ow, hu, q1⟩ =>
      ⟨I1.kIn, runT hG G hr hb tk I1 r (call_fin e1 s1 d1 en1 ow (ow.len.trans (hln.trans hlen)) hv hip nd hu q1) fun c d H' z => xq c d H' z⟩) he hpl) hdb)
theorem je_call0 (hG : X.A.guards = some []) (G : FnT X.prog X.w X.K X.mg X.base k f fd [] [] ts) (hr : Room k X.A) (hm : X.mg x = some (.ref f)) (hk : PySem.W.keepIn X.K (.ref f) = true) (hb : Binds X.K fd [] []) (tk : Takes X W)
    (hg : Gl X x := by rfl) (hdb : (x == ("__debug__" : Str)) = false := by decide) : JE X W (.Call (.Name x p) [] [] pos) (mCall ts [] mNil) := by
  refine ⟨fun {pins s σ F h hx H ρ Φ Ξ} a q xq => ?_⟩
  refine wpAny_Call_Name_kw (ld_glob a.i hg hm (PySem.W.callWith_K0 a.i.kIn hk (runT (us := []) hG G hr hb tk a.i .nil
    (call_fin (pl := []) (Same.refl _) (h1 := emp) (by rw [emp_jn]; exact a.s) emp_dj a.e .nil rfl (fun j i z => by (simp at z)) rfl .nil q.1 q.2) fun c d H' z => xq c d H' z)) hdb)
end

/-! ### a def -/
def outs (pr : List Nat) (ρ : EnvT) : List O := pr.map fun i => ρ.getD i .un
def fin (pr : List Nat) (Φ : O → List O → Prop) (Ξ : Exn → List O → Prop) : TEnds := { nx := fun ρ => Φ (.fz .none) (outs pr ρ), rt := fun o ρ => Φ o (outs pr ρ), ex := fun x ρ => Ξ x (outs pr ρ) }
theorem start_env {K : PySem.W.Frag} {F : Hp} {N : List Str} : ∀ {os : List O} {vs : List V} {h : Hp} (n : Nat), OwnL K F os vs h → EnvL K F (os ++ List.replicate n .un) (vs.map some ++ List.replicate n none) h
  | _, _, _, n, .nil => by
    induction n with
    | zero => exact .nil
    | succ n ih => exact .un _ ih
  | _, _, _, n, .cons a b d => .cons a (start_env (N := N) n b) d
theorem okT {P : Program} {w : World} {K : PySem.W.Frag} {mg : Str → Option Value} {base : Heap} {x qual : Str} {st : Stmt} {f : Addr} {fd : FuncData} {N ps : List Str} {k : Nat} {pr : List Nat} {ts : TSp} {m : TSD}
    (F : Fun K x qual st f fd) (S : FnScope N ps (defScope st)) (nd : pr.Nodup) (lt : pr.all (fun i => decide (i < ps.length)) = true)
    (hbody : ∀ (cdv : Value) (A : Around) (outer : List Env) (s : Shared) (H : Hp) (E : XK),
      (A.deeper (envOfC qual (defScope st) s.heap.objs.size f cdv)).guards = some [] →
      Room k (A.deeper (envOfC qual (defScope st) s.heap.objs.size f cdv)) → Takes (cxOf (L2.CX P w) P w K mg base N qual (defScope st) f cdv A outer s H E) (fun c d _ H => E c d H) →
      JSs (cxOf (L2.CX P w) P w K mg base N qual (defScope st) f cdv A outer s H E) (fun c d _ H => E c d H) pr (defBody st) m)
    (hm : ∀ os Φ Ξ, os.length = ps.length → ts os Φ Ξ → m (fin pr Φ Ξ) (os ++ List.replicate (N.length - os.length) .un)) :
    FnT P w K mg base (k + 1) f fd ps pr ts := by
  obtain ⟨oc, od, kV, doc, pm, an, cdv, ct, osl, rfl, lk, hcd⟩ := F.ex
  refine fn_ofG lk hcd S (fun vs H Q E h => spT_len h) fun A outer s H vs Q E hg hr hsp => ?_
  refine ⟨tssJ _ (defBody st), pss_J, ?_⟩
  obtain ⟨F0, h, hx, os, Φ, Ξ, hl, s3, ow, q, hQ, hE⟩ := hsp
  have j := hbody cdv A outer s H E hg hr (takes_of rfl rfl rfl rfl)
  have lv : os.length = vs.length := ow.len
  have en := start_env (N := N) (N.length - vs.length) ow
  have q' := hm os Φ Ξ hl q
  rw [lv] at q'
  have kp : ∀ {σ' : L2.St}, Keep pr (start N vs) σ' → (pr.map fun i => σ'.getD i none) = pr.map fun j => vs[j]? := fun {σ'} hk => List.map_congr_left fun i hi => by
    have hi' : i < vs.length := by
      have := List.all_eq_true.mp lt i hi
      simp only [decide_eq_true_eq] at this
      omega
    rw [List.getD_eq_getElem?_getD, hk i hi]
    show ((vs.map some ++ _)[i]?).getD none = _
    rw [List.getElem?_append_left (by rw [List.length_map]; exact hi'), List.getElem?_map]
    cases z : vs[i]? with
    | none => have := List.getElem?_eq_none_iff.mp z; omega
    | some v => rfl
  have endr : ∀ {σ' : L2.St} {v : V} {H' : Hp}, Keep pr (start N vs) σ' → PostE K σ' F0 hx (fun o ρ => Φ o (outs pr ρ)) v H' → Q v H' := by
    rintro σ' v H' hk ⟨o, ρ', F', h1, h', e, s, d, en', ow', q2⟩
    obtain ⟨h2, en2, s2⟩ := en'.pick nd
    rw [kp hk] at en2
    have d2 : Dj h1 h2 := fun a => by
      cases z : h2 a with
      | none => exact .inr rfl
      | some o => exact .inl (d.nl (s2 _ _ z))
    exact hQ v H' ⟨o, _, F', h1, h2, e, s.less (same_jn same_l (s2.trans (same_r d))), d2, en2, ow', q2⟩
  refine j.ts s3 en q' ?_ ?_ ?_ ?_ ?_
  · intro σ' hk c d H' hp
    obtain ⟨x, ρ', F', h', e, s, en', xo, q2⟩ := hp
    obtain ⟨h2, en2, s2⟩ := en'.pick nd
    rw [kp hk] at en2
    exact hE c d H' ⟨x, _, F', h2, e, s.less s2, en2, xo, q2⟩
  · rintro σ' H' ⟨ρ', F', h', hk, e, s, en', q2⟩
    exact endr hk (postE_fz (Φ := fun o ρ => Φ o (outs pr ρ)) e s en' .non q2)
  · rintro v H' ⟨σ', hk, p⟩
    exact endr hk p
  · rintro σ' H' ⟨ρ', F', h', hk, e, s, en', q2⟩
    exact q2.elim
  · rintro σ' H' ⟨ρ', F', h', hk, e, s, en', q2⟩
    exact q2.elim
end T

/-! T4: operators, tests, displays, built-ins, borrowing; what is walked; comprehensions. -/
namespace T
open PySem PySem.Spec PyProof.Rows L2 Z
theorem ifTT {A B : Prop} (h : if true = true then A else B) : A := by rw [if_pos rfl] at h; exact h
theorem ifFF {A B : Prop} (h : if false = true then A else B) : B := by rw [if_neg Bool.false_ne_true] at h; exact h
theorem bE {K : PySem.W.Frag} {σ : L2.St} {F hx : Hp} {R : Bool → EnvT → Prop} {v : V} {H : Hp} (p : PostE K σ F hx (fun x ρ => ∃ c, x = .fz (.bool c) ∧ R c ρ) v H) : ∃ c, v = .bl c ∧ PostB K σ F hx R c H := by
  obtain ⟨o, ρ', F', h1, h', e, s, d, en, ow, y, rfl, q⟩ := p
  obtain ⟨rfl, r⟩ := own_emp ow
  rw [emp_jn] at s
  cases r
  exact ⟨y, rfl, ρ', F', h', e, s, en, q⟩
theorem PostB.pe {K : PySem.W.Frag} {σ : L2.St} {F hx : Hp} {Φ : O → EnvT → Prop} {R : Bool → EnvT → Prop} {c d : Bool} {H : Hp} (p : PostB K σ F hx R c H) (k : ∀ ρ, R c ρ → Φ (.fz (.bool d)) ρ) : PostE K σ F hx Φ (.bl d) H := by
  obtain ⟨ρ', F', h', e, s, en, q⟩ := p
  exact postE_fz e s en (.bl d) (k _ q)
section
variable {X : Cx} {W : WX} {pr : List Nat} {e a b c : Expr} {es rest : List Expr} {pos : Pos} {pl : List (Option Nat)} {ma mb mc : TD}
theorem je_op {op : Operator} {r : R2} {f : D2} (o : OpR X (binaryOp op) r) (d : DOp X.K r f) (ja : JE X W a ma) (jb : JE X W b mb) : JE X W (.BinOp a op b pos) (mOp f ma mb) :=
  ⟨fun at_ q x => (pe_op o pe_J pe_J).run _ _ _ _ _ at_.i (op_J ja jb d at_.s at_.e q x fun _ _ p => p)⟩
theorem je_cmp {op : CmpOp} {r : R2} {f : D2} (o : OpR X (compareOp op) r) (d : DOp X.K r f) (ja : JE X W a ma) (jb : JE X W b mb) (hm : behindInMarks op b = false) : JE X W (.Compare a [op] [b] pos) (mOp f ma mb) :=
  ⟨fun at_ q x => (pe_cmpR o pe_J pe_J hm).run _ _ _ _ _ at_.i (op_J ja jb d at_.s at_.e q x fun _ _ p => p)⟩
theorem je_ix {r : R2} {f : D2} (o : IxR X r) (d : DOp X.K r f) (ja : JE X W a ma) (jb : JE X W b mb) (hs : PlainIx b) : JE X W (.Subscript a b pos) (mOp f ma mb) :=
  ⟨fun at_ q x => (pe_ix o pe_J pe_J hs).run _ _ _ _ _ at_.i (op_J ja jb d at_.s at_.e q x fun _ _ p => p)⟩
theorem un_J {r : V → Hp → VK → Prop} {f : PyData → (O → Prop) → Prop} (ja : JE X W a ma) (o : DUn X.K r f) {σ F h hx H ρ Φ Ξ} (s3 : Sp3 F h hx H) (en : EnvL X.K F ρ σ h) (q : mUn f ma ρ Φ Ξ) (x : XQ X W σ F hx Ξ) :
    tUn r (teJ X a) σ H (PostE X.K σ F hx Φ) := by
  refine (je_frz ja).te s3 en q x fun v H1 p => ?_
  obtain ⟨d, ρ1, F1, h1, e1, s1, en1, r1, q1⟩ := fzE p
  exact o s1 r1 q1 fun _ _ p => p.pe e1 en1
theorem je_un {op : UnaryOp} {r : V → Hp → VK → Prop} {f : PyData → (O → Prop) → Prop} (o : UnR X (unaryOp op) r) (d : DUn X.K r f) (ja : JE X W a ma) : JE X W (.UnaryOp op a pos) (mUn f ma) :=
  ⟨fun at_ q x => (pe_un o pe_J).run _ _ _ _ _ at_.i (un_J ja d at_.s at_.e q x)⟩
def dB (b : PyData) (R : Bool → Prop) : Prop := ∃ c, b = .bool c ∧ R c
/-- a bool -/
def mB (m : TD) (ρ : EnvT) (R : Bool → EnvT → Prop) (Ξ : Exn → EnvT → Prop) : Prop := m ρ (fun o ρ1 => ∃ c, o = .fz (.bool c) ∧ R c ρ1) Ξ
def mAnd (ma mb : TD) : TD := fun ρ Φ Ξ => mB ma ρ (fun c ρ1 => if c = true then mb ρ1 Φ Ξ else Φ (.fz (.bool false)) ρ1) Ξ
def mOr (ma mb : TD) : TD := fun ρ Φ Ξ => mB ma ρ (fun c ρ1 => if c = true then Φ (.fz (.bool true)) ρ1 else mb ρ1 Φ Ξ) Ξ
def mNot (ma : TD) : TD := fun ρ Φ Ξ => mB ma ρ (fun c ρ1 => Φ (.fz (.bool (!c))) ρ1) Ξ
theorem je_one {op} (ja : JE X W a ma) : JE X W (.BoolOp op [a] pos) ma := ⟨fun at_ q x => (pe_one pe_J).run _ _ _ _ _ at_.i (ja.te at_.s at_.e q x fun _ _ p => p)⟩
theorem je_and (ja : JE X W a ma) (jb : JE X W (.BoolOp .And (b :: rest) pos) mb) : JE X W (.BoolOp .And (a :: b :: rest) pos) (mAnd ma mb) := by
  refine ⟨fun at_ q x => (pe_and pe_J pe_J).run _ _ _ _ _ at_.i ?_⟩
  refine ja.te at_.s at_.e q x fun v H1 p => ?_
  obtain ⟨c, rfl, p2⟩ := bE p
  refine ⟨c, rfl, ?_⟩
  cases c with
  | true =>
    obtain ⟨ρ', F', h', e, s, en, q⟩ := p2
    refine iteT (jb.te s en (ifTT q) (x.mono e (Same.refl _)) fun _ _ p => p.mono e (Same.refl _) fun _ _ z => z)
  | false => exact iteF (p2.pe fun ρ z => by rw [if_neg Bool.false_ne_true] at z; exact z)
theorem je_or (ja : JE X W a ma) (jb : JE X W (.BoolOp .Or (b :: rest) pos) mb) : JE X W (.BoolOp .Or (a :: b :: rest) pos) (mOr ma mb) := by
  refine ⟨fun at_ q x => (pe_or pe_J pe_J).run _ _ _ _ _ at_.i ?_⟩
  refine ja.te at_.s at_.e q x fun v H1 p => ?_
  obtain ⟨c, rfl, p2⟩ := bE p
  refine ⟨c, rfl, ?_⟩
  cases c with
  | false =>
    obtain ⟨ρ', F', h', e, s, en, q⟩ := p2
    refine iteF (jb.te s en (ifFF q) (x.mono e (Same.refl _)) fun _ _ p => p.mono e (Same.refl _) fun _ _ z => z)
  | true => exact iteT (p2.pe fun ρ z => by rw [if_pos rfl] at z; exact z)
theorem je_not (ja : JE X W a ma) : JE X W (.UnaryOp .Not a pos) (mNot ma) := by
  refine ⟨fun at_ q x => (pe_not pe_J).run _ _ _ _ _ at_.i ?_⟩
  refine ja.te at_.s at_.e q x fun v H1 p => ?_
  obtain ⟨c, rfl, p2⟩ := bE p
  exact ⟨c, rfl, p2.pe fun ρ z => z⟩
/-! tests -/
variable {ta tb : TB}
def tVal (m : TD) : TB := fun ρ R Ξ => mB m ρ R Ξ
theorem jt_val (ja : JE X W a ma) (he : ∀ whole, isTrue a X.env whole = (do let v ← whole; standAt a.pos; holding [v] (truthy v)) := by intro _; rfl) : JT X W a (tVal ma) := by
  refine ⟨fun at_ q x => (pt_val pe_J he).run _ _ _ _ _ at_.i ?_⟩
  exact ja.te at_.s at_.e q x fun v H1 p => bE p
theorem jt_cmp {op : CmpOp} {r : R2} {f : D2} (o : OpR X (compareOp op) r) (d : DOp X.K r f) (ja : JE X W a ma) (jb : JE X W b mb) (hm : behindInMarks op b = false) : JT X W (.Compare a [op] [b] pos) (tVal (mOp f ma mb)) := by
  refine ⟨fun {pins s σ F h hx H ρ Φ Ξ} at_ q x => (pt_cmpR o pe_J pe_J hm).run _ _ _ _ _ at_.i ?_⟩
  exact op_J (Φ := fun o ρ1 => ∃ c, o = .fz (.bool c) ∧ Φ c ρ1) ja jb d at_.s at_.e q x fun v H p => bE p
def tNt (t : TB) : TB := fun ρ R Ξ => t ρ (fun c ρ1 => R (!c) ρ1) Ξ
def tAn (t u : TB) : TB := fun ρ R Ξ => t ρ (fun c ρ1 => if c = true then u ρ1 R Ξ else R false ρ1) Ξ
def tOrr (t u : TB) : TB := fun ρ R Ξ => t ρ (fun c ρ1 => if c = true then R true ρ1 else u ρ1 R Ξ) Ξ
theorem jt_not (ja : JT X W a ta) : JT X W (.UnaryOp .Not a pos) (tNt ta) := by
  refine ⟨fun at_ q x => (pt_not pt_J).run _ _ _ _ _ at_.i ?_⟩
  exact ja.tt at_.s at_.e q x fun v H1 p => p
theorem jw_one {op} (ja : JT X W a ta) (h : PW X (.BoolOp op [a] pos) (ttJ X a)) : JW X W (.BoolOp op [a] pos) ta := ⟨fun whole _ _ _ _ _ _ _ _ _ _ at_ q x => h.run whole _ _ _ _ _ at_.i (ja.tt at_.s at_.e q x fun _ _ p => p)⟩
theorem jw_and1 (ja : JT X W a ta) : JW X W (.BoolOp .And [a] pos) ta := jw_one ja (pw_and1 pt_J)
theorem jw_or1 (ja : JT X W a ta) : JW X W (.BoolOp .Or [a] pos) ta := jw_one ja (pw_or1 pt_J)
theorem jw_and (ja : JT X W a ta) (jb : JW X W (.BoolOp .And (b :: rest) pos) tb) : JW X W (.BoolOp .And (a :: b :: rest) pos) (tAn ta tb) := by
  refine ⟨fun whole _ _ _ _ _ _ _ _ _ _ at_ q x => (pw_and pt_J pw_J).run whole _ _ _ _ _ at_.i ?_⟩
  refine ja.tt at_.s at_.e q x fun c H1 p => ?_
  obtain ⟨ρ', F', h', e, s, en, q⟩ := p
  cases c with
  | true => exact iteT (jb.tw s en (ifTT q) (x.mono e (Same.refl _)) fun _ _ p => p.mono e (Same.refl _) fun _ _ z => z)
  | false => exact iteF ⟨ρ', F', h', e, s, en, by rw [if_neg Bool.false_ne_true] at q; exact q⟩
theorem jw_or (ja : JT X W a ta) (jb : JW X W (.BoolOp .Or (b :: rest) pos) tb) : JW X W (.BoolOp .Or (a :: b :: rest) pos) (tOrr ta tb) := by
  refine ⟨fun whole _ _ _ _ _ _ _ _ _ _ at_ q x => (pw_or pt_J pw_J).run whole _ _ _ _ _ at_.i ?_⟩
  refine ja.tt at_.s at_.e q x fun c H1 p => ?_
  obtain ⟨ρ', F', h', e, s, en, q⟩ := p
  cases c with
  | false => exact iteF (jb.tw s en (ifFF q) (x.mono e (Same.refl _)) fun _ _ p => p.mono e (Same.refl _) fun _ _ z => z)
  | true => exact iteT ⟨ρ', F', h', e, s, en, by rw [if_pos rfl] at q; exact q⟩
def mIf (t : TB) (ma mb : TD) : TD := fun ρ Φ Ξ => t ρ (fun c ρ1 => if c = true then ma ρ1 Φ Ξ else mb ρ1 Φ Ξ) Ξ
theorem je_ifExp (jt : JT X W c ta) (ja : JE X W a ma) (jb : JE X W b mb) : JE X W (.IfExp c a b pos) (mIf ta ma mb) := by
  refine ⟨fun at_ q x => (pe_ifExp pt_J pe_J pe_J).run _ _ _ _ _ at_.i ?_⟩
  refine jt.tt at_.s at_.e q x fun k H1 p => ?_
  obtain ⟨ρ', F', h', e, s, en, q⟩ := p
  cases k with
  | true => exact iteT (ja.te s en (ifTT q) (x.mono e (Same.refl _)) fun _ _ p => p.mono e (Same.refl _) fun _ _ z => z)
  | false => exact iteF (jb.te s en (ifFF q) (x.mono e (Same.refl _)) fun _ _ p => p.mono e (Same.refl _) fun _ _ z => z)
def mChain (f g : D2) (ma mb mc : TD) : TD := fun ρ Φ Ξ => mFrz ma ρ (fun x ρ1 => ∃ d, x = .fz d ∧ mFrz mb ρ1 (fun y ρ2 => ∃ e, y = .fz e ∧ f d e fun z => ∃ k, z = .fz (.bool k) ∧ if k = true then
  mFrz mc ρ2 (fun v ρ3 => ∃ c, v = .fz c ∧ g e c fun z => Φ z ρ3) Ξ else Φ (.fz (.bool false)) ρ2) Ξ) Ξ
theorem chain_J {r r' : R2} {f g : D2} (o : DOp X.K r f) (o' : DOp X.K r' g) (ja : JE X W a ma) (jb : JE X W b mb) (jc : JE X W c mc) {σ F h hx H ρ Φ Ξ} (s3 : Sp3 F h hx H) (en : EnvL X.K F ρ σ h) (q : mChain f g ma mb mc ρ Φ Ξ) (x : XQ X W σ F hx Ξ) {Q : VK} (kk : ∀ v H', PostE X.K σ F hx Φ v H' → Q v H') :
    tChain r r' (teJ X a) (teJ X b) (teJ X c) σ H Q := by
  refine (je_frz ja).te s3 en q x fun v H1 p => ?_
  obtain ⟨d1, ρ1, F1, h1, e1, s1, en1, r1, q1⟩ := fzE p
  refine (je_frz jb).te s1 en1 q1 (x.mono e1 (Same.refl _)) fun u H2 p2 => ?_
  obtain ⟨d2, ρ2, F2, h2, e2, s2, en2, r2, q2⟩ := fzE p2
  refine o s2 (r1.mono e2) r2 q2 fun z H3 p3 => ?_
  obtain ⟨o3, F3, h3, e3, s3, d3, ow3, k, rfl, q3⟩ := p3
  obtain ⟨rfl, rr⟩ := own_emp ow3
  rw [emp_jn] at s3
  cases rr
  refine ⟨k, rfl, ?_⟩
  cases k with
  | false => exact iteF (kk _ _ (postE_fz ((e1.trans e2).trans e3) s3 (en2.mono e3) (.bl false) (by rw [if_neg Bool.false_ne_true] at q3; exact q3)))
  | true =>
    rw [if_pos rfl] at q3
    refine iteT ((je_frz jc).te s3 (en2.mono e3) q3 (x.mono ((e1.trans e2).trans e3) (Same.refl _)) fun u H4 p4 => ?_)
    obtain ⟨d4, ρ4, F4, h4, e4, s4, en4, r4, q4⟩ := fzE p4
    exact o' s4 (r2.mono (e3.trans e4)) r4 q4 fun _ _ p => kk _ _ (p.pe (((e1.trans e2).trans e3).trans e4) en4)
theorem je_chain {op op' : CmpOp} {r r' : R2} {f g : D2} (ho : OpR X (compareOp op) r) (o : DOp X.K r f) (ho' : OpR X (compareOp op') r') (o' : DOp X.K r' g) (ja : JE X W a ma) (jb : JE X W b mb) (jc : JE X W c mc)
    (hm : lastMarks [op, op'] [b, c] = false := by with_unfolding_all rfl) : JE X W (.Compare a [op, op'] [b, c] pos) (mChain f g ma mb mc) :=
  ⟨fun at_ q x => (pe_chain ho ho' pe_J pe_J pe_J hm).run _ _ _ _ _ at_.i (chain_J o o' ja jb jc at_.s at_.e q x fun _ _ p => p)⟩
theorem jt_chain {op op' : CmpOp} {r r' : R2} {f g : D2} (ho : OpR X (compareOp op) r) (o : DOp X.K r f) (ho' : OpR X (compareOp op') r') (o' : DOp X.K r' g) (ja : JE X W a ma) (jb : JE X W b mb) (jc : JE X W c mc)
    (hm : lastMarks [op, op'] [b, c] = false := by with_unfolding_all rfl) : JT X W (.Compare a [op, op'] [b, c] pos) (tVal (mChain f g ma mb mc)) := by
  refine ⟨fun {pins s σ F h hx H ρ Φ Ξ} at_ q x => (pt_chain ho ho' (pe_J (X := X) (e := a)) (pe_J (X := X) (e := b)) (pe_J (X := X) (e := c)) hm).run _ _ _ _ _ at_.i ?_⟩
  exact chain_J o o' ja jb jc at_.s at_.e q x fun v H p => bE p
end
end T

/-! T5: displays, built-in calls, slices, methods of texts; borrowing; targets; what is walked; comprehensions. -/
namespace T
open PySem PySem.Spec PyProof.Rows L2 Z

theorem dj_sub {h1 h2 h3 : Hp} (d : Dj h1 h2) (s : Same h3 h2) : Dj h1 h3 := fun a => by
  cases z : h3 a with
  | none => exact .inr rfl
  | some o => exact .inl (d.nl (s _ _ z))
/-- a list has grown -/
theorem own_app {K : PySem.W.Frag} {F hD h1 : Hp} {os : List O} {o : O} {D : Addr} {v : V} (a : Own K F (.lst os) (.ref D) hD) (b : Own K F o v h1) (d : Dj hD h1) :
    ∃ vs, hD D = some (.lst vs) ∧ os.length = vs.length ∧ Own K F (.lst (os ++ [o])) (.ref D) (upd (jn hD h1) D (.lst (vs ++ [v]))) := by
  cases a with
  | @lst _ vs _ h r n =>
    have nD : h1 D = none := d.nr upd_same
    have d2 : Dj h h1 := fun x => by
      by_cases e : x = D
      · rw [e]; exact .inr nD
      · have := d x; rw [upd_ne e] at this; exact this
    refine ⟨vs, upd_same, r.len, ?_⟩
    rw [upd_jn, upd_upd]
    have := OwnL.app r (OwnL.cons b .nil (dj_emp (F := h1))) (by rw [jn_emp]; exact d2)
    rw [jn_emp] at this
    exact .lst this (jn_none.mpr ⟨n, nD⟩)
section
variable {X : Cx} {W : WX} {pr : List Nat} {e a b c : Expr} {es rest : List Expr} {pos : Pos} {pl : List (Option Nat)} {ma mb mc : TD} {m : TL}
/-! displays -/
def mLs (m : TL) : TD := fun ρ Φ Ξ => m ρ (fun os ρ1 => os.length ≤ 1000000 ∧ Φ (.lst os) ρ1) Ξ
def mTp (m : TL) : TD := fun ρ Φ Ξ => m ρ (fun os ρ1 => os.length ≤ 1000000 ∧ ∃ ds, fzL os = some ds ∧ Φ (.fz (.tuple ds)) ρ1) Ξ
theorem je_ls (ja : JA X W es pl m) : JE X W (.List es pos) (mLs m) := by
  refine ⟨fun {pins s σ F h hx H ρ Φ Ξ} at_ q x => (pe_ls (pa_J (X := X) (es := es))).run _ _ _ _ _ at_.i ?_⟩
  refine ja.ta at_.s at_.e q x ?_
  rintro vs H1 ⟨hln, hvs, os, ρ1, F1, h1, h', e1, s1, d1, en1, ow, hl, q1⟩
  refine ⟨small_le (by rw [← ow.len]; exact hl), ?_⟩
  intro p H2 hn hs hp hu
  rw [hu]
  obtain ⟨n1, n2⟩ := jn_none.mp (s1.o.free hn)
  refine ⟨_, ρ1, F1, upd h1 p (.lst vs), h', e1, ?_, dj_upd d1 n2, en1, .lst ow n1, q1⟩
  rw [upd_jn]; exact s1.own hn
theorem je_tp {k : Nat} (ja : JA X W es pl m) : JE X W (.Tuple es k pos) (mTp m) := by
  refine ⟨fun {pins s σ F h hx H ρ Φ Ξ} at_ q x => (pe_tp (pa_J (X := X) (es := es))).run _ _ _ _ _ at_.i ?_⟩
  refine ja.ta at_.s at_.e q x ?_
  rintro vs H1 ⟨hln, hvs, os, ρ1, F1, h1, h', e1, s1, d1, en1, ow, hl, ds, hd, q1⟩
  refine ⟨small_le (by rw [← ow.len]; exact hl), ?_⟩
  intro p H2 hn hs hp hu
  rw [hu]
  have r := ow.frz (dj_jn.mp s1.fo).1 hd
  have s2 := s1.frz d1
  exact postE_fz ((e1.trans same_l).trans (same_upd' (s2.f.free hn))) (s2.new hn) (en1.mono (same_l.trans (same_upd' (s2.f.free hn)))) (.tup (SqT.of upd_same) (r.mono (same_upd' (s2.f.free hn)))) q1
/-! built-ins -/
def mCB (f : List PyData → (O → Prop) → Prop) (m : TL) : TD := fun ρ Φ Ξ => m ρ (fun os ρ1 => ∃ ds, fzL os = some ds ∧ f ds fun z => Φ z ρ1) Ξ
theorem cb_J {r : List V → Hp → VK → Prop} {f : List PyData → (O → Prop) → Prop} (d : DCl X.K r f) (ja : JA X W es pl m) {σ F h hx H ρ Φ Ξ} (s3 : Sp3 F h hx H) (en : EnvL X.K F ρ σ h) (q : mCB f m ρ Φ Ξ) (x : XQ X W σ F hx Ξ) :
    tCB r (taJ X es) σ H (PostE X.K σ F hx Φ) := by
  refine ja.ta s3 en q x ?_
  rintro vs H1 ⟨hln, hvs, os, ρ1, F1, h1, h', e1, s1, d1, en1, ow, ds, hd, q1⟩
  have r := ow.frz (dj_jn.mp s1.fo).1 hd
  exact d (s1.frz d1) r q1 fun _ _ p => p.pe (e1.trans same_l) (en1.mono same_l)
theorem je_callB {id : String} {x : Str} {p : Pos} {r : List V → Hp → VK → Prop} {f : List PyData → (O → Prop) → Prop} (hc : CallR X (.builtin id) r) (d : DCl X.K r f) (hm : X.mg x = none) (hv : bootBuiltins x = some (.builtin id)) (ja : JA X W (e :: es) pl m)
    (hg : Gl X x := by rfl) (hn : x ≠ "__name__" := by decide) (hdb : (x == ("__debug__" : Str)) = false := by decide)
    (he : starEach (e :: es) X.env = (false, eval e X.env) :: starEach es X.env := by rfl) (hpl : (backTo pos (starEach es X.env)).any (·.1) = false := by rfl) : JE X W (.Call (.Name x p) (e :: es) [] pos) (mCB f m) :=
  ⟨fun at_ q x => (pe_callB hc hg hm hv (pa_J (X := X) (es := e :: es)) hn hdb he hpl).run _ _ _ _ _ at_.i (cb_J d ja at_.s at_.e q x)⟩
theorem je_callTy {Ty : String} {x : Str} {p : Pos} {r : List V → Hp → VK → Prop} {f : List PyData → (O → Prop) → Prop} (hc : CallR X (.type Ty) r) (d : DCl X.K r f) (hm : X.mg x = none) (hv : bootBuiltins x = some (.type Ty)) (ja : JA X W (e :: es) pl m)
    (hg : Gl X x := by rfl) (hn : x ≠ "__name__" := by decide) (hdb : (x == ("__debug__" : Str)) = false := by decide)
    (he : starEach (e :: es) X.env = (false, eval e X.env) :: starEach es X.env := by rfl) (hpl : (backTo pos (starEach es X.env)).any (·.1) = false := by rfl) : JE X W (.Call (.Name x p) (e :: es) [] pos) (mCB f m) :=
  ⟨fun at_ q x => (pe_callTy hc hg hm hv (pa_J (X := X) (es := e :: es)) hn hdb he hpl).run _ _ _ _ _ at_.i (cb_J d ja at_.s at_.e q x)⟩
/-! isinstance(x, T): the class is no data -/
def tyD : PyData → String
  | .none => "NoneType" | .bool _ => "bool" | .int _ => "int" | .str _ => "str" | .list _ => "list" | .tuple _ => "tuple" | .dict _ => "dict"
theorem tyx_of {K : PySem.W.Frag} {H : Hp} {x : V} {d : PyData} (h : Rp K H x d) : TyX K H x (.type (tyD d)) := by
  cases h with
  | non => exact .base .non
  | bl b => exact .base (.bl b)
  | int i => exact .base (.int i)
  | str z => exact .base (.str z)
  | lst h _ => exact tyx_lst (SqL.of h)
  | tup h _ => exact tyx_tup h
  | dct h _ => exact .base (.dK h)
def mIsi (Ty : String) (ma : TD) : TD := fun ρ Φ Ξ => mFrz ma ρ (fun o ρ1 => ∃ d, o = .fz d ∧ ∃ b, kitB (tyD d) Ty = some b ∧ Φ (.fz (.bool b)) ρ1) Ξ
theorem je_isi {Ty : String} {p : Pos} (hm : X.mg "isinstance" = none) (ja : JE X W a ma) (hb : PE X b (tC (.ty Ty))) (hg : Gl X "isinstance" := by rfl)
    (he : starEach [a, b] X.env = (false, eval a X.env) :: starEach [b] X.env := by rfl) (he2 : starEach [b] X.env = (false, eval b X.env) :: starEach [] X.env := by rfl) (hpl : (backTo pos (starEach [b] X.env)).any (·.1) = false := by rfl) : JE X W (.Call (.Name "isinstance" p) [a, b] [] pos) (mIsi Ty ma) := by
  refine ⟨fun {pins s σ F h hx H ρ Φ Ξ} at_ q x => (pe_callB call_isi hg hm bt_isinstance (pa_cons (pe_J (X := X) (e := a)) (pa_cons hb pa_nil he2) he) (by decide) (by decide) he hpl).run _ _ _ _ _ at_.i ?_⟩
  refine (je_frz ja).te at_.s at_.e q x fun v H1 p => ?_
  obtain ⟨d, ρ1, F1, h1, e1, s1, en1, r1, c, hk, q1⟩ := fzE p
  exact kIsi (tyx_of (r1.mono s1.f)) hk (postE_fz e1 s1 en1 (.bl c) q1)
/-! slices -/
abbrev TOp := EnvT → (Option Int → EnvT → Prop) → (Exn → EnvT → Prop) → Prop
structure JO (X : Cx) (W : WX) (e : Option Expr) (m : TOp) : Prop where
  ex : ∃ t : TO, PO X e t ∧ ∀ {σ F h hx H ρ Φ Ξ} {Q : Option Int → Hp → Prop}, Sp3 F h hx H → EnvL X.K F ρ σ h → m ρ Φ Ξ → XQ X W σ F hx Ξ →
    (∀ i ρ' F' h' H', Same F F' → Sp3 F' h' hx H' → EnvL X.K F' ρ' σ h' → Φ i ρ' → Q i H') → t σ H Q
def oNo : TOp := fun ρ Φ _ => Φ none ρ
def oSo (m : TD) : TOp := fun ρ Φ Ξ => m ρ (fun o ρ1 => ∃ i, o = .fz (.int i) ∧ Φ (some i) ρ1) Ξ
theorem jo_no : JO X W none oNo := ⟨_, po_none, fun s en q x k => k _ _ _ _ _ (Same.refl _) s en q⟩
theorem jo_so (ja : JE X W a ma) : JO X W (some a) (oSo ma) := by
  refine ⟨_, po_some pe_J, fun s en q x k => ?_⟩
  refine ja.te s en q x fun v H1 p => ?_
  obtain ⟨o, ρ', F', h1, h', e, s, d, en, ow, i, rfl, q⟩ := p
  obtain ⟨rfl, r⟩ := own_emp ow
  rw [emp_jn] at s
  cases r
  exact ⟨i, rfl, k _ _ _ _ _ e s en q⟩
def cutD (ds : List PyData) (lo hi : Option Int) : List PyData := (ds.drop (HT.sIx ds.length 0 lo)).take (HT.sIx ds.length ds.length hi - HT.sIx ds.length 0 lo)
theorem rp_cut {K : PySem.W.Frag} {F : Hp} {vs : List V} {ds : List PyData} (r : RpAll K F vs ds) (lo hi : Option Int) : RpAll K F (cutV vs lo hi) (cutD ds lo hi) := by
  unfold cutV cutD
  rw [r.len]
  exact (r.drop _).take _
def slD (d : PyData) (lo hi : Option Int) (Φ : O → Prop) : Prop := match d with
  | .list ds => Φ (.lst ((cutD ds lo hi).map .fz))
  | .tuple ds => Φ (.fz (.tuple (cutD ds lo hi)))
  | .str z => z.length ≤ 1000000 ∧ Φ (.fz (.str (cutS z lo hi)))
  | _ => False
theorem sl_dat {K : PySem.W.Frag} {F h hx H : Hp} {x : V} {d : PyData} {lo hi : Option Int} {Φ : O → Prop} {Q : VK} (s : Sp3 F h hx H) (r : Rp K F x d) (q : slD d lo hi Φ) (k : ∀ v H', PostO K F h hx Φ v H' → Q v H') : zSl K x lo hi H Q := by
  cases r with
  | lst hl ra => exact .inl ⟨_, _, rfl, SqL.of (s.f _ _ hl), fun p hp => k _ _ (postO_lst s (rp_cut ra lo hi) q p hp)⟩
  | tup hl ra =>
    have q : Φ (.fz (.tuple (cutD _ lo hi))) := q
    refine .inr (.inl ⟨_, _, rfl, Z.Same.seqT s.f hl, fun ⟨z1, z2⟩ => ?_, fun _ p hp => k _ _ (postO_tup s (rp_cut ra lo hi) q p hp)⟩)
    refine k _ _ (postO_fz (Same.refl _) s (.tup hl ?_) q)
    have r2 := rp_cut ra lo hi
    unfold cutV at r2
    rw [z1, z2, List.drop_zero, Nat.sub_zero, List.take_length] at r2
    exact r2
  | str z =>
    have q : z.length ≤ 1000000 ∧ Φ (.fz (.str (cutS z lo hi))) := q
    exact .inr (.inr ⟨z, rfl, small_le q.1, k _ _ (postO_fz (Same.refl _) s (.str _) q.2)⟩)
  | _ => exact q.elim
def mSl (m : TD) (ml mh : TOp) : TD := fun ρ Φ Ξ => mFrz m ρ (fun x ρ1 => ∃ d, x = .fz d ∧ ml ρ1 (fun lo ρ2 => mh ρ2 (fun hi ρ3 => slD d lo hi fun z => Φ z ρ3) Ξ) Ξ) Ξ
theorem je_slice {lo hi : Option Expr} {ml mh : TOp} {p2 : Pos} (ja : JE X W a ma) (jl : JO X W lo ml) (jh : JO X W hi mh) : JE X W (.Subscript a (.Slice lo hi none p2) pos) (mSl ma ml mh) := by
  obtain ⟨tl, pl, kl⟩ := jl.ex
  obtain ⟨th, ph, kh⟩ := jh.ex
  refine ⟨fun {pins s σ F h hx H ρ Φ Ξ} at_ q x => (pe_slice o_sl pe_J pl ph).run _ _ _ _ _ at_.i ?_⟩
  refine (je_frz ja).te at_.s at_.e q x fun v H1 p => ?_
  obtain ⟨d, ρ1, F1, h1, e1, s1, en1, r1, q1⟩ := fzE p
  refine kl s1 en1 q1 (x.mono e1 (Same.refl _)) fun lo ρ2 F2 h2 H2 e2 s2 en2 q2 => ?_
  refine kh s2 en2 q2 (x.mono (e1.trans e2) (Same.refl _)) fun hi ρ3 F3 h3 H3 e3 s3 en3 q3 => ?_
  exact sl_dat s3 (r1.mono (e2.trans e3)) q3 fun _ _ p => p.pe ((e1.trans e2).trans e3) en3
/-! methods of texts -/
def DM (K : PySem.W.Frag) (r : V → List V → Hp → VK → Prop) (f : Str → List PyData → (O → Prop) → Prop) : Prop := ∀ {F h hx H : Hp} {z : Str} {xs : List V} {ds : List PyData} {Φ : O → Prop} {Q : VK}, Sp3 F h hx H → RpAll K F xs ds → f z ds Φ → (∀ v H', PostO K F h hx Φ v H' → Q v H') → r (.str z) xs H Q
def mM0 (f : Str → List PyData → (O → Prop) → Prop) (mo : TD) : TD := fun ρ Φ Ξ => mFrz mo ρ (fun x ρ1 => ∃ z, x = .fz (.str z) ∧ f z [] fun o => Φ o ρ1) Ξ
def mM1 (f : Str → List PyData → (O → Prop) → Prop) (mo me : TD) : TD := fun ρ Φ Ξ => mFrz mo ρ (fun x ρ1 => ∃ z, x = .fz (.str z) ∧ mFrz me ρ1 (fun y ρ2 => ∃ d, y = .fz d ∧ f z [d] fun o => Φ o ρ2) Ξ) Ξ
theorem fzS {K : PySem.W.Frag} {σ : L2.St} {F hx : Hp} {R : Str → EnvT → Prop} {v : V} {H : Hp} (p : PostE K σ F hx (fun x ρ => ∃ d, x = .fz (.str d) ∧ R d ρ) v H) : ∃ d ρ F' h, v = .str d ∧ Same F F' ∧ Sp3 F' h hx H ∧ EnvL K F' ρ σ h ∧ R d ρ := by
  obtain ⟨o, ρ', F', h1, h', e, s, d, en, ow, y, rfl, q⟩ := p
  obtain ⟨rfl, r⟩ := own_emp ow
  rw [emp_jn] at s
  cases r
  exact ⟨y, ρ', F', h', rfl, e, s, en, q⟩
theorem m1_J {r : V → List V → Hp → VK → Prop} {f : Str → List PyData → (O → Prop) → Prop} (d : DM X.K r f) (ja : JE X W a ma) (jb : JE X W b mb) {σ F h hx H ρ Φ Ξ} (s3 : Sp3 F h hx H) (en : EnvL X.K F ρ σ h) (q : mM1 f ma mb ρ Φ Ξ) (x : XQ X W σ F hx Ξ) : tM1 r (teJ X a) (teJ X b) σ H (PostE X.K σ F hx Φ) := by
  refine (je_frz ja).te s3 en q x fun v H1 p => ?_
  obtain ⟨z, ρ1, F1, h1, rfl, e1, s1, en1, q1⟩ := fzS p
  refine ⟨⟨z, rfl⟩, (je_frz jb).te s1 en1 q1 (x.mono e1 (Same.refl _)) fun u H2 p2 => ?_⟩
  obtain ⟨d2, ρ2, F2, h2, e2, s2, en2, r2, q2⟩ := fzE p2
  exact d s2 (.cons r2 .nil) q2 fun _ _ p => p.pe (e1.trans e2) en2
theorem je_m1 {id : String} {name : Str} {apos : Pos} {r : V → List V → Hp → VK → Prop} {f : Str → List PyData → (O → Prop) → Prop} (slot : Slot "str" name id) (ty : typeOf (.builtin id) = pure (.type "method_descriptor")) (rule : MtR X id r) (d : DM X.K r f) (ja : JE X W a ma) (jb : JE X W b mb)
    (hs : starEach [b] X.env = [(false, eval b X.env)] := by rfl) (hbase : attributeBase a name X.env (eval a X.env) = eval a X.env := by rfl) (hline : (apos.endLine == pos.line) = true := by rfl) : JE X W (.Call (.Attribute a name apos) [b] [] pos) (mM1 f ma mb) :=
  ⟨fun at_ q x => (pe_m1 slot ty rule pe_J pe_J hs hbase hline).run _ _ _ _ _ at_.i (m1_J d ja jb at_.s at_.e q x)⟩
theorem je_m0 {id : String} {name : Str} {apos : Pos} {r : V → List V → Hp → VK → Prop} {f : Str → List PyData → (O → Prop) → Prop} (slot : Slot "str" name id) (ty : typeOf (.builtin id) = pure (.type "method_descriptor")) (rule : MtR X id r) (d : DM X.K r f) (ja : JE X W a ma)
    (hbase : attributeBase a name X.env (eval a X.env) = eval a X.env := by rfl) (hline : (apos.endLine == pos.line) = true := by rfl) : JE X W (.Call (.Attribute a name apos) [] [] pos) (mM0 f ma) := by
  refine ⟨fun at_ q x => (pe_m0 slot ty rule pe_J hbase hline).run _ _ _ _ _ at_.i ?_⟩
  refine (je_frz ja).te at_.s at_.e q x fun v H1 p => ?_
  obtain ⟨z, ρ1, F1, h1, rfl, e1, s1, en1, q1⟩ := fzS p
  exact ⟨⟨z, rfl⟩, d s1 .nil q1 fun _ _ p => p.pe e1 en1⟩
def joinD (z : Str) (ds : List PyData) (Φ : O → Prop) : Prop := ∃ ys : List Str, (ds = [.list (ys.map .str)] ∨ ds = [.tuple (ys.map .str)]) ∧ (ys.map (·.length)).sum + ys.length * z.length ≤ 1000000 ∧ Φ (.fz (.str (Txt.join z ys)))
theorem rp_strs {K : PySem.W.Frag} {F : Hp} : ∀ {ys : List Str} {vs : List V}, RpAll K F vs (ys.map .str) → vs = ys.map .str
  | [], _, h => by cases h; rfl
  | y :: ys, _, h => by
    cases h with
    | cons a b => cases a; rw [rp_strs b]; rfl
theorem rp_ints {K : PySem.W.Frag} {F : Hp} : ∀ {ys : List Int} {vs : List V}, RpAll K F vs (ys.map .int) → vs = ys.map .int
  | [], _, h => by cases h; rfl
  | y :: ys, _, h => by
    cases h with
    | cons a b => cases a; rw [rp_ints b]; rfl
theorem rp_bools {K : PySem.W.Frag} {F : Hp} : ∀ {ys : List Bool} {vs : List V}, RpAll K F vs (ys.map .bool) → vs = ys.map .bl
  | [], _, h => by cases h; rfl
  | y :: ys, _, h => by
    cases h with
    | cons a b => cases a; rw [rp_bools b]; rfl
theorem d_join {K : PySem.W.Frag} : DM K (zJoin K) joinD := by
  intro F h hx H z xs ds Φ Q s r q k
  obtain ⟨ys, hd, hl, q⟩ := q
  rcases hd with rfl | rfl
  · cases r with
    | cons a b =>
      cases b
      cases a with
      | lst hl' ra =>
        rw [rp_strs ra] at hl'
        exact ⟨z, _, ys, rfl, rfl, .inl (SqL.of (s.f _ _ hl')), Nat.le_trans hl (by decide), k _ _ (postO_fz (Same.refl _) s (.str _) q)⟩
  · cases r with
    | cons a b =>
      cases b
      cases a with
      | tup hl' ra =>
        rw [rp_strs ra] at hl'
        exact ⟨z, _, ys, rfl, rfl, .inr (Z.Same.seqT s.f hl'), Nat.le_trans hl (by decide), k _ _ (postO_fz (Same.refl _) s (.str _) q)⟩
theorem je_join {apos : Pos} (ja : JE X W a ma) (jb : JE X W b mb) (hs : starEach [b] X.env = [(false, eval b X.env)] := by rfl) (hbase : attributeBase a "join" X.env (eval a X.env) = eval a X.env := by rfl) (hline : (apos.endLine == pos.line) = true := by rfl) :
    JE X W (.Call (.Attribute a "join" apos) [b] [] pos) (mM1 joinD ma mb) :=
  ⟨fun at_ q x => (pe_joinZ pe_J pe_J hs hbase hline).run _ _ _ _ _ at_.i (m1_J d_join ja jb at_.s at_.e q x)⟩
end
end T

/-! T6: borrowing; targets; what is walked; comprehensions. -/
namespace T
open PySem PySem.Spec PyProof.Rows L2 Z

/-! ### borrowing: a whole expression over the own trees, read as frozen data -/
mutual
def noMut : PyData → Bool
  | .list _ => false
  | .dict _ => false
  | .tuple ds => noMutL ds
  | _ => true
def noMutL : List PyData → Bool
  | [] => true
  | d :: ds => noMut d && noMutL ds
end
mutual
def noMutO : O → Bool
  | .fz d => noMut d
  | .lst os => noMutOL os
  | .dct kvs => noMutOK kvs
  | .ins _ fs => noMutOF fs
  | _ => false
def noMutOL : List O → Bool
  | [] => true
  | d :: ds => noMutO d && noMutOL ds
def noMutOK : List (Key × O) → Bool
  | [] => true
  | (_, d) :: ds => noMutO d && noMutOK ds
def noMutOF : List (Str × O) → Bool
  | [] => true
  | (_, d) :: ds => noMutO d && noMutOF ds
end
def ohne (F h : Hp) : Hp := fun a => match h a with
  | some _ => none
  | none => F a
theorem ohne_same {F G h : Hp} (s : Same F G) (d : Dj F h) : Same F (ohne G h) := fun b o e => by
  unfold ohne; rw [d.nr e]; exact s _ _ e
theorem same_ohne {F h : Hp} : Same (ohne F h) F := fun b o e => by
  unfold ohne at e
  cases q : h b with
  | none => rw [q] at e; exact e
  | some u => rw [q] at e; cases e
theorem ohne_dj {F h : Hp} : Dj (ohne F h) h := fun b => by
  unfold ohne
  cases q : h b with
  | none => exact .inr rfl
  | some u => exact .inl rfl
/-- cells of lists, dicts, instances -/
def Cells (h : Hp) : Prop := ∀ a o, h a = some o → match o with
  | .lst _ => True
  | .dK _ => True
  | .ins _ _ _ => True
  | .own _ => True
  | _ => False
theorem cells_jn {h k : Hp} (a : Cells h) (b : Cells k) : Cells (jn h k) := fun x o e => by
  cases q : h x with
  | some u => rw [jn_l q] at e; cases e; exact a _ _ q
  | none => rw [jn_r q] at e; exact b _ _ e
theorem cells_upd {h : Hp} {x : Addr} {o : HO} (a : Cells h) (b : match o with
  | .lst _ => True
  | .dK _ => True
  | .ins _ _ _ => True
  | .own _ => True
  | _ => False) : Cells (upd h x o) := fun y u e => by
  by_cases q : y = x
  · subst q; rw [upd_same] at e; cases e; exact b
  · rw [upd_ne q] at e; exact a _ _ e
theorem cells_emp : Cells emp := fun _ _ e => by cases e
mutual
theorem Own.cells {K : PySem.W.Frag} {F : Hp} : ∀ {o : O} {v : V} {h : Hp}, Own K F o v h → Cells h
  | _, _, _, .fz r => cells_emp
  | _, _, _, .tok e => cells_emp
  | _, _, _, .scr e => cells_emp
  | _, _, _, .exc e => cells_emp
  | _, _, _, .exv e => cells_emp
  | _, _, _, .lst r n => cells_upd (OwnL.cells r) trivial
  | _, _, _, .dct r nd n => cells_upd (OwnK.cells r) trivial
  | _, _, _, .ins r n m e => cells_upd (cells_upd (OwnF.cells r) trivial) trivial
  | _, _, _, .lls _ _ => cells_emp
  | _, _, _, .ldc _ _ => cells_emp
  | _, _, _, .lns _ _ _ => cells_emp
theorem OwnL.cells {K : PySem.W.Frag} {F : Hp} : ∀ {o : List O} {v : List V} {h : Hp}, OwnL K F o v h → Cells h
  | _, _, _, .nil => cells_emp
  | _, _, _, .cons a b d => cells_jn (Own.cells a) (OwnL.cells b)
theorem OwnK.cells {K : PySem.W.Frag} {F : Hp} : ∀ {o : List (Key × O)} {v : List (Key × V)} {h : Hp}, OwnK K F o v h → Cells h
  | _, _, _, .nil => cells_emp
  | _, _, _, .cons a b d => cells_jn (Own.cells a) (OwnK.cells b)
theorem OwnF.cells {K : PySem.W.Frag} {F : Hp} : ∀ {o : List (Str × O)} {v : List (Str × V)} {h : Hp}, OwnF K F o v h → Cells h
  | _, _, _, .nil => cells_emp
  | _, _, _, .cons a b d => cells_jn (Own.cells a) (OwnF.cells b)
end
theorem EnvL.cells {K : PySem.W.Frag} {F : Hp} : ∀ {o : List O} {v : L2.St} {h : Hp}, EnvL K F o v h → Cells h
  | _, _, _, .nil => cells_emp
  | _, _, _, .un x r => r.cells
  | _, _, _, .cons a b d => cells_jn a.cells b.cells
section
variable {K : PySem.W.Frag} {F G h : Hp}
theorem seqT_ohne {a : Addr} {xs : List V} (c : Cells h) (s : Same h G) (q : SqT K G a xs) : SqT K (ohne G h) a xs := by
  have key : ∀ o, G a = some o → (match o with
    | .tup _ => True
    | .frz _ _ => True
    | _ => False) → ohne G h a = some o := fun o e k => by
    unfold ohne
    cases z : h a with
    | none => exact e
    | some u =>
      have e2 := s _ _ z
      rw [e] at e2; cases e2
      have := c _ _ z
      cases o <;> first | exact k.elim | exact this.elim
  rcases q with (q | ⟨o, q⟩) | q
  · exact .inl (.inl (key _ q trivial))
  · exact .inl (.inr ⟨o, key _ q trivial⟩)
  · exact .inr q
mutual
theorem rp_ohne (c : Cells h) (s : Same h G) : ∀ {v : V} {d : PyData}, Rp K G v d → noMut d = true → Rp K (ohne G h) v d
  | _, _, .non, _ => .non
  | _, _, .bl b, _ => .bl b
  | _, _, .int i, _ => .int i
  | _, _, .str x, _ => .str x
  | _, _, .lst _ _, n => by unfold noMut at n; cases n
  | _, _, .tup q r, n => by unfold noMut at n; exact .tup (seqT_ohne c s q) (rpAll_ohne c s r n)
  | _, _, .dct _ _, n => by unfold noMut at n; cases n
theorem rpAll_ohne (c : Cells h) (s : Same h G) : ∀ {v : List V} {d : List PyData}, RpAll K G v d → noMutL d = true → RpAll K (ohne G h) v d
  | _, _, .nil, _ => .nil
  | _, _, .cons a b, n => by
    unfold noMutL at n
    rw [Bool.and_eq_true] at n
    exact .cons (rp_ohne c s a n.1) (rpAll_ohne c s b n.2)
end
mutual
theorem own_ohne (c : Cells h) (s : Same h G) : ∀ {o : O} {v : V} {k : Hp}, Own K G o v k → noMutO o = true → Own K (ohne G h) o v k
  | _, _, _, .fz r, n => by unfold noMutO at n; exact .fz (rp_ohne c s r n)
  | _, _, _, .tok e, n => by unfold noMutO at n; cases n
  | _, _, _, .scr e, n => by unfold noMutO at n; cases n
  | _, _, _, .exc e, n => by unfold noMutO at n; cases n
  | _, _, _, .exv e, n => by unfold noMutO at n; cases n
  | _, _, _, .lst r m, n => by unfold noMutO at n; exact .lst (ownL_ohne c s r n) m
  | _, _, _, .dct r nd m, n => by unfold noMutO at n; exact .dct (ownK_ohne c s r n) nd m
  | _, _, _, .ins r m m2 e, n => by unfold noMutO at n; exact .ins (ownF_ohne c s r n) m m2 e
  | _, _, _, .lls _ _, n => by unfold noMutO at n; cases n
  | _, _, _, .ldc _ _, n => by unfold noMutO at n; cases n
  | _, _, _, .lns _ _ _, n => by unfold noMutO at n; cases n
theorem ownL_ohne (c : Cells h) (s : Same h G) : ∀ {o : List O} {v : List V} {k : Hp}, OwnL K G o v k → noMutOL o = true → OwnL K (ohne G h) o v k
  | _, _, _, .nil, _ => .nil
  | _, _, _, .cons a b d, n => by
    unfold noMutOL at n
    rw [Bool.and_eq_true] at n
    exact .cons (own_ohne c s a n.1) (ownL_ohne c s b n.2) d
theorem ownK_ohne (c : Cells h) (s : Same h G) : ∀ {o : List (Key × O)} {v : List (Key × V)} {k : Hp}, OwnK K G o v k → noMutOK o = true → OwnK K (ohne G h) o v k
  | _, _, _, .nil, _ => .nil
  | _, _, _, .cons a b d, n => by
    unfold noMutOK at n
    rw [Bool.and_eq_true] at n
    exact .cons (own_ohne c s a n.1) (ownK_ohne c s b n.2) d
theorem ownF_ohne (c : Cells h) (s : Same h G) : ∀ {o : List (Str × O)} {v : List (Str × V)} {k : Hp}, OwnF K G o v k → noMutOF o = true → OwnF K (ohne G h) o v k
  | _, _, _, .nil, _ => .nil
  | _, _, _, .cons a b d, n => by
    unfold noMutOF at n
    rw [Bool.and_eq_true] at n
    exact .cons (own_ohne c s a n.1) (ownF_ohne c s b n.2) d
end
theorem rpF_ohne (c : Cells h) (s : Same h G) : ∀ {vs : List (Str × V)} {ds : List (Str × PyData)}, RpF K G vs ds → noMutL (ds.map (·.2)) = true → RpF K (ohne G h) vs ds
  | _, _, .nil, _ => .nil
  | _, _, .cons a b, n => by
    rw [List.map_cons] at n
    unfold noMutL at n
    rw [Bool.and_eq_true] at n
    exact .cons (rp_ohne c s a n.1) (rpF_ohne c s b n.2)
end
/-! what borrowing sees -/
mutual
def lent : O → O
  | .lst xs => match fzO (.lst xs) with
    | some d => .fz d
    | none => .lls (lentL xs)
  | .dct kvs => match fzO (.dct kvs) with
    | some d => .fz d
    | none => .ldc (lentK kvs)
  | .ins C fs => .lns C (lentF fs)
  | o => o
def lentL : List O → List O
  | [] => []
  | o :: os => lent o :: lentL os
def lentK : List (Key × O) → List (Key × O)
  | [] => []
  | (k, o) :: os => (k, lent o) :: lentK os
def lentF : List (Str × O) → List (Str × O)
  | [] => []
  | (k, o) :: os => (k, lent o) :: lentF os
end
theorem lent_some {o : O} {d : PyData} (e : fzO o = some d) : lent o = .fz d := by
  cases o with
  | fz x => unfold fzO at e; cases e; unfold lent; rfl
  | tok => unfold fzO at e; cases e
  | scr ns => unfold fzO at e; cases e
  | exc a d x => unfold fzO at e; cases e
  | exv C fs => unfold fzO at e; cases e
  | un => unfold fzO at e; cases e
  | lst xs => unfold lent; simp only [e]
  | dct xs => unfold lent; simp only [e]
  | ins C xs => unfold fzO at e; cases e
  | lls xs => unfold fzO at e; cases e
  | ldc xs => unfold fzO at e; cases e
  | lns C xs => unfold fzO at e; cases e
mutual
theorem Own.lendO {K : PySem.W.Frag} : ∀ {o : O} {v : V} {h G : Hp}, Own K G o v h → Dj G h → Own K (jn G h) (lent o) v emp
  | _, _, _, _, .fz r, _ => by unfold lent; exact .fz (r.mono same_l)
  | _, _, _, _, .tok e, _ => by unfold lent; exact .tok (same_l _ _ e)
  | _, _, _, _, .scr e, _ => by unfold lent; exact .scr (L2.Same.seq same_l e)
  | _, _, _, _, .exc e, _ => by unfold lent; exact .exc (e.mono same_l)
  | _, _, _, _, .exv e, _ => by unfold lent; exact .exv (e.mono same_l)
  | _, _, _, G, .lst (xs := xs) (vs := vs) (a := a) (h := h) r n, d => by
    cases q : fzO (.lst xs) with
    | some dta =>
      rw [lent_some q]
      exact .fz ((Own.lst (a := a) r n).frz d q)
    | none =>
      unfold lent; simp only [q]
      have nG : G a = none := d.nl upd_same
      have d2 : Dj G h := fun b => by
        by_cases hb : b = a
        · rw [hb]; exact .inr n
        · have := d b; rw [upd_ne hb] at this; exact this
      rw [jn_upd nG]
      exact .lls ((OwnL.lendO r d2).mono (same_upd' (jn_none.mpr ⟨nG, n⟩))) upd_same
  | _, _, _, G, .dct (kvs := xs) (vs := vs) (a := a) (h := h) r nd n, d => by
    cases q : fzO (.dct xs) with
    | some dta =>
      rw [lent_some q]
      exact .fz ((Own.dct (a := a) r nd n).frz d q)
    | none =>
      unfold lent; simp only [q]
      have nG : G a = none := d.nl upd_same
      have d2 : Dj G h := fun b => by
        by_cases hb : b = a
        · rw [hb]; exact .inr n
        · have := d b; rw [upd_ne hb] at this; exact this
      rw [jn_upd nG]
      exact .ldc ((OwnK.lendO r d2).mono (same_upd' (jn_none.mpr ⟨nG, n⟩))) upd_same
  | _, _, _, G, .ins (vs := vs) (a := a) (dx := dx) (h := h) r n m e, d => by
    unfold lent
    have nG : G a = none := d.nl upd_same
    have nD : G dx = none := d.nl (by rw [upd_ne e]; exact upd_same)
    have d2 : Dj G h := fun b => by
      by_cases hb : b = a
      · rw [hb]; exact .inr n
      · by_cases hd : b = dx
        · rw [hd]; exact .inr m
        · have := d b; rw [upd_ne hb, upd_ne hd] at this; exact this
    rw [jn_upd nG, jn_upd nD]
    refine .lns ((OwnF.lendO r d2).mono ((same_upd' (jn_none.mpr ⟨nD, m⟩)).trans (same_upd' (by rw [upd_ne (Ne.symm e)]; exact jn_none.mpr ⟨nG, n⟩)))) upd_same ?_
    rw [upd_ne e]; exact upd_same
  | _, _, _, _, .lls r e, _ => by unfold lent; exact .lls (r.mono same_l) (same_l _ _ e)
  | _, _, _, _, .ldc r e, _ => by unfold lent; exact .ldc (r.mono same_l) (same_l _ _ e)
  | _, _, _, _, .lns r e e2, _ => by unfold lent; exact .lns (r.mono same_l) (same_l _ _ e) (same_l _ _ e2)
theorem OwnL.lendO {K : PySem.W.Frag} : ∀ {o : List O} {v : List V} {h G : Hp}, OwnL K G o v h → Dj G h → OwnL K (jn G h) (lentL o) v emp
  | _, _, _, _, .nil, _ => by unfold lentL; exact .nil
  | _, _, _, G, .cons (h1 := h1) (h2 := h2) a b d, dd => by
    unfold lentL
    obtain ⟨d1, d2⟩ := dj_jn.mp dd
    refine OwnL.cons (h1 := emp) (h2 := emp) ((Own.lendO a d1).mono ?_) ((OwnL.lendO b d2).mono ?_) emp_dj
    · rw [← jn_assoc]; exact same_l
    · exact same_jn same_l ((same_r d).trans (same_r dd))
theorem OwnK.lendO {K : PySem.W.Frag} : ∀ {o : List (Key × O)} {v : List (Key × V)} {h G : Hp}, OwnK K G o v h → Dj G h → OwnK K (jn G h) (lentK o) v emp
  | _, _, _, _, .nil, _ => by unfold lentK; exact .nil
  | _, _, _, G, .cons (h1 := h1) (h2 := h2) a b d, dd => by
    unfold lentK
    obtain ⟨d1, d2⟩ := dj_jn.mp dd
    refine OwnK.cons (h1 := emp) (h2 := emp) ((Own.lendO a d1).mono ?_) ((OwnK.lendO b d2).mono ?_) emp_dj
    · rw [← jn_assoc]; exact same_l
    · exact same_jn same_l ((same_r d).trans (same_r dd))
theorem OwnF.lendO {K : PySem.W.Frag} : ∀ {o : List (Str × O)} {v : List (Str × V)} {h G : Hp}, OwnF K G o v h → Dj G h → OwnF K (jn G h) (lentF o) v emp
  | _, _, _, _, .nil, _ => by unfold lentF; exact .nil
  | _, _, _, G, .cons (h1 := h1) (h2 := h2) a b d, dd => by
    unfold lentF
    obtain ⟨d1, d2⟩ := dj_jn.mp dd
    refine OwnF.cons (h1 := emp) (h2 := emp) ((Own.lendO a d1).mono ?_) ((OwnF.lendO b d2).mono ?_) emp_dj
    · rw [← jn_assoc]; exact same_l
    · exact same_jn same_l ((same_r d).trans (same_r dd))
end
theorem EnvL.lend {K : PySem.W.Frag} {F : Hp} : ∀ {ρ : EnvT} {σ : L2.St} {h G : Hp}, EnvL K F ρ σ h → Dj G h → Same F G → EnvL K (jn G h) (ρ.map lent) σ emp
  | _, _, _, G, .nil, _, _ => .nil
  | _, _, _, G, .un x r, d, s => by
    show EnvL K _ (lent .un :: _) _ _
    have : lent .un = .un := by unfold lent; rfl
    rw [this]; exact .un x (r.lend d s)
  | _, _, _, G, .cons (o := o) (h1 := h1) (h2 := h2) a b d, dd, s => by
    obtain ⟨d1, d2⟩ := dj_jn.mp dd
    have rest := b.lend (G := jn G h1) (jn_dj.mpr ⟨d2, d⟩) (s.trans same_l)
    rw [jn_assoc] at rest
    have sG : Same (jn G h1) (jn G (jn h1 h2)) := by rw [← jn_assoc]; exact same_l
    have q := EnvL.cons (((a.mono s).lendO d1).mono sG) rest emp_dj
    rw [emp_jn] at q
    exact q
section
variable {X : Cx} {W : WX} {e : Expr}
def mBor (m : TD) : TD := fun ρ Φ Ξ => m (ρ.map lent) (fun o _ => noMutO o = true ∧ Φ o ρ) fun x _ => noMutL (x.fs.map (·.2)) = true ∧ Ξ x ρ
def tBor (m : TB) : TB := fun ρ Φ Ξ => m (ρ.map lent) (fun b _ => Φ b ρ) fun x _ => noMutL (x.fs.map (·.2)) = true ∧ Ξ x ρ
theorem bor_x {σ : L2.St} {F h hx H : Hp} {ρ : EnvT} {Ξ : Exn → EnvT → Prop} (s3 : Sp3 F h hx H) (en : EnvL X.K F ρ σ h) (x : XQ X W σ F hx Ξ) : XQ X W σ (jn F h) hx fun y _ => noMutL (y.fs.map (·.2)) = true ∧ Ξ y ρ := by
  rintro c d H' ⟨y, ρ', F', h', e1, s1, en1, xo, nm, q⟩
  have sh : Same h F' := (same_r s3.fo).trans e1
  have sF : Same F (ohne F' h) := ohne_same (same_l.trans e1) s3.fo
  refine x c d H' ⟨y, ρ, ohne F' h, h, sF, ⟨same_ohne.trans s1.f, sh.trans s1.f, s1.x, ohne_dj, fun a => ?_, s3.ox⟩, en.mono sF, ?_, q⟩
  · rcases s1.fx a with z | z
    · left; unfold ohne; split <;> simp_all
    · exact .inr z
  · obtain ⟨x1, x2⟩ := xo
    refine ⟨x1, ?_⟩
    rcases x2 with x2 | ⟨dx, vs, rfl, x3, x4⟩
    · exact .inl x2
    · refine .inr ⟨dx, vs, rfl, ?_, rpF_ohne en.cells sh x4 nm⟩
      unfold ohne
      cases z : h dx with
      | none => exact x3
      | some u =>
        have e2 := sh _ _ z
        rw [x3] at e2; cases e2
        exact (en.cells _ _ z).elim
theorem bor_te {m : TD} (j : JE X W e m) {σ : L2.St} {F h hx H : Hp} {ρ : EnvT} {Φ : O → Prop} {Ξ : Exn → EnvT → Prop} {Q : VK} (s3 : Sp3 F h hx H) (en0 : EnvL X.K F ρ σ h) (q : m (ρ.map lent) (fun o _ => noMutO o = true ∧ Φ o) fun x _ => noMutL (x.fs.map (·.2)) = true ∧ Ξ x ρ) (x : XQ X W σ F hx Ξ)
    (k : ∀ v H' o F' h1, Same F F' → Sp3 F' (jn h1 h) hx H' → Dj h1 h → Own X.K F' o v h1 → Φ o → Q v H') : teJ X e σ H Q := by
  have en := en0.lend (G := F) s3.fo (Same.refl _)
  have s2 : Sp3 (jn F h) emp hx H := by
    refine Sp3.frz (h1 := h) (h := emp) (by rw [jn_emp]; exact s3) dj_emp
  refine j.te s2 en q (bor_x s3 en0 x) ?_
  rintro v H' ⟨o, ρ', F', h1, h', e1, s1, d1, en1, ow, nm, q⟩
  have sh : Same h F' := (same_r s3.fo).trans e1
  have sF : Same F (ohne F' h) := ohne_same (same_l.trans e1) s3.fo
  have d2 : Dj h1 h := (dj_sub ((dj_jn.mp s1.fo).1.symm) sh)
  refine k v H' o (ohne F' h) h1 sF ⟨same_ohne.trans s1.f, same_jn (same_l.trans s1.o) (sh.trans s1.f), s1.x, dj_jn.mpr ⟨?_, ohne_dj⟩, ?_, jn_dj.mpr ⟨(jn_dj.mp s1.ox).1, s3.ox⟩⟩ d2 (own_ohne en0.cells sh ow nm) q
  · exact (dj_sub ((dj_jn.mp s1.fo).1.symm) same_ohne).symm
  · exact (dj_sub s1.fx.symm same_ohne).symm
theorem je_bor {m : TD} (j : JE X W e m) : JE X W e (mBor m) :=
  ⟨fun {pins s σ F h hx H ρ Φ Ξ} a q x => bor_te j a.s a.e (Φ := fun o => Φ o ρ) q x (Q := PostE X.K σ F hx Φ) (fun v H' o F' h1 e1 s1 d1 ow q => ⟨o, ρ, F', h1, h, e1, s1, d1, a.e.mono e1, ow, q⟩) pins s a.i⟩
theorem jt_bor {m : TB} (j : JT X W e m) : JT X W e (tBor m) := by
  refine ⟨fun {pins s σ F h hx H ρ Φ Ξ} a q x => ?_⟩
  have en := a.e.lend (G := F) a.s.fo (Same.refl _)
  have s2 : Sp3 (jn F h) emp hx H := by
    have := a.s
    refine Sp3.frz (h1 := h) (h := emp) (by rw [jn_emp]; exact this) dj_emp
  refine thn (j.run ⟨a.i, s2, en⟩ q (bor_x a.s a.e x)) fun _ _ => tp_mono ?_
  rintro v H' ⟨ρ', F', h', e1, s1, en1, q⟩
  have sh : Same h F' := (same_r a.s.fo).trans e1
  have sF : Same F (ohne F' h) := ohne_same (same_l.trans e1) a.s.fo
  exact ⟨ρ, ohne F' h, h, sF, ⟨same_ohne.trans s1.f, sh.trans s1.f, s1.x, ohne_dj, (dj_sub s1.fx.symm same_ohne).symm, a.s.ox⟩, a.e.mono sF, q⟩
end
end T

/-! T7: targets; what is walked; comprehensions. -/
namespace T
open PySem PySem.Spec PyProof.Rows L2 Z RZ

/-! ### targets: frozen data into slots -/
abbrev TGD := PyData → EnvT → (EnvT → Prop) → Prop
abbrev TGL := List PyData → EnvT → (EnvT → Prop) → Prop
/-- what a store into the slots sl leaves -/
def Stored (K : PySem.W.Frag) (sl : List Nat) (σ : L2.St) (F h : Hp) (Φ : EnvT → Prop) (σ' : L2.St) : Prop := ∃ ρ' h', wipe σ' sl = wipe σ sl ∧ (∀ i, i ∉ sl → σ'[i]? = σ[i]?) ∧ Same h' h ∧ EnvL K F ρ' σ' h' ∧ Φ ρ'
def JG (K : PySem.W.Frag) (sl : List Nat) (g : TG) (m : TGD) : Prop := ∀ {σ F h hx H ρ v d Φ} {Q : L2.St → Hp → Prop}, Sp3 F h hx H → EnvL K F ρ σ h → Rp K F v d → m d ρ Φ → (∀ σ', Stored K sl σ F h Φ σ' → Q σ' H) → g v σ H Q
def JGL (K : PySem.W.Frag) (sl : List Nat) (g : TGs) (m : TGL) : Prop := ∀ {σ F h hx H ρ vs ds Φ} {Q : L2.St → Hp → Prop}, Sp3 F h hx H → EnvL K F ρ σ h → RpAll K F vs ds → m ds ρ Φ → (∀ σ', Stored K sl σ F h Φ σ' → Q σ' H) → g vs σ H Q
def gN (i : Nat) : TGD := fun d ρ Φ => Φ (ρ.set i (.fz d))
def gL0 : TGL := fun ds ρ Φ => ds = [] ∧ Φ ρ
def gLc (m : TGD) (ms : TGL) : TGL := fun ds ρ Φ => ∃ d r, ds = d :: r ∧ m d ρ fun ρ1 => ms r ρ1 Φ
def gT (n : Nat) (ms : TGL) : TGD := fun d ρ Φ => ∃ ds, d = .tuple ds ∧ ds.length = n ∧ ms ds ρ Φ
theorem EnvL.store {K : PySem.W.Frag} {F h h1 : Hp} {ρ : EnvT} {σ : L2.St} {o : O} {v : V} (i : Nat) (en : EnvL K F ρ σ h) (ow : Own K F o v h1) (d : Dj h1 h) (hi : i < ρ.length) : ∃ h', Same h' (jn h1 h) ∧ EnvL K F (ρ.set i o) (σ.set i (some v)) h' := by
  obtain ⟨h2, en2, s2⟩ := en.drop i
  have := en2.push (i := i) (by rw [List.getElem?_set_self hi]) ow (dj_sub d s2)
  rw [List.set_set] at this
  exact ⟨_, same_jn same_l (s2.trans (same_r d)), this⟩
theorem EnvL.store_fz {K : PySem.W.Frag} {F h : Hp} {ρ : EnvT} {σ : L2.St} {d : PyData} {v : V} (i : Nat) (en : EnvL K F ρ σ h) (r : Rp K F v d) : ∃ h', Same h' h ∧ EnvL K F (ρ.set i (.fz d)) (σ.set i (some v)) h' := by
  by_cases hi : i < ρ.length
  · obtain ⟨h', s, e⟩ := en.store i (.fz r) emp_dj hi
    rw [emp_jn] at s
    exact ⟨h', s, e⟩
  · have e1 : ρ.set i (.fz d) = ρ := List.set_eq_of_length_le (by omega)
    have e2 : σ.set i (some v) = σ := List.set_eq_of_length_le (by rw [← en.len]; omega)
    rw [e1, e2]
    exact ⟨h, Same.refl _, en⟩
theorem wipe_set {i : Nat} {x : Option V} : ∀ {sl : List Nat} {σ : L2.St}, (wipe (σ.set i x) sl).set i none = (wipe σ sl).set i none
  | [], σ => by show (σ.set i x).set i none = σ.set i none; rw [List.set_set]
  | j :: sl, σ => by
    show ((wipe (σ.set i x) sl).set j none).set i none = ((wipe σ sl).set j none).set i none
    by_cases e : i = j
    · subst e; rw [List.set_set, List.set_set]; exact wipe_set
    · rw [List.set_comm _ _ (fun z => e z.symm), wipe_set, List.set_comm _ _ (fun z => e z)]
theorem jg_name {K : PySem.W.Frag} (i : Nat) : JG K [i] (gName i) (gN i) := by
  intro σ F h hx H ρ v d Φ Q s en r q k
  obtain ⟨h', sh, en'⟩ := en.store_fz i r
  exact k _ ⟨_, h', by show (σ.set i (some v)).set i none = σ.set i none; rw [List.set_set], fun j hj => by rw [List.getElem?_set_ne]; rintro rfl; exact hj (List.mem_singleton.mpr rfl), sh, en', q⟩
theorem jgl_nil {K : PySem.W.Frag} : JGL K [] gNil gL0 := by
  intro σ F h hx H ρ vs ds Φ Q s en r q k
  obtain ⟨rfl, q⟩ := q
  cases r
  exact ⟨rfl, k _ ⟨ρ, h, rfl, fun _ _ => rfl, Same.refl _, en, q⟩⟩
theorem jgl_cons {K : PySem.W.Frag} {sl : List Nat} {gs : TGs} {ms : TGL} (i : Nat) (j : JGL K sl gs ms) : JGL K (i :: sl) (gCons (gName i) gs) (gLc (gN i) ms) := by
  intro σ F h hx H ρ vs ds Φ Q s en r q k
  obtain ⟨d, ds', rfl, q⟩ := q
  cases r with
  | @cons v vs _ _ a b =>
    obtain ⟨h', sh, en'⟩ := en.store_fz i a
    refine ⟨v, vs, rfl, j (s.less sh) en' b q ?_⟩
    rintro σ' ⟨ρ', h'', w1, w2, s2, en2, q2⟩
    refine k σ' ⟨ρ', h'', ?_, fun l hl => ?_, s2.trans sh, en2, q2⟩
    · show (wipe σ' sl).set i none = (wipe σ sl).set i none
      rw [w1, wipe_set]
    · have h1 : l ≠ i := fun z => hl (z ▸ List.mem_cons_self)
      rw [w2 l (fun z => hl (List.mem_cons_of_mem _ z)), List.getElem?_set_ne (Ne.symm h1)]
theorem jg_tup {K : PySem.W.Frag} {sl : List Nat} {gs : TGs} {ms : TGL} {n : Nat} (j : JGL K sl gs ms) : JG K sl (gTup K n gs) (gT n ms) := by
  intro σ F h hx H ρ v d Φ Q s en r q k
  obtain ⟨ds, rfl, hn, q⟩ := q
  cases r with
  | tup hq ra => exact ⟨_, _, rfl, Z.Same.seqT s.f hq, by rw [ra.len, hn], j s en ra q k⟩
theorem Stored.keep {K : PySem.W.Frag} {sl pr : List Nat} {σ : L2.St} {F h : Hp} {Φ : EnvT → Prop} {σ' : L2.St} (st : Stored K sl σ F h Φ σ') (hp : sl.all (fun i => !pr.contains i) = true) : Keep pr σ σ' := by
  obtain ⟨_, _, _, w, _⟩ := st
  intro i hi
  refine w i fun z => ?_
  have := List.all_eq_true.mp hp i z
  rw [show pr.contains i = true from List.elem_eq_true_of_mem hi] at this
  cases this

/-! ### what is walked -/
def ItOk (K : PySem.W.Frag) (F0 : Hp) (J : It) (items : List PyData) : Prop := ∀ {F h hx H : Hp} {i : Nat}, Same F0 F → Sp3 F h hx H →
  (i < items.length → J.go i H) ∧ (∀ x H', i < items.length → J.yld i H x H' → ∃ F' d, items[i]? = some d ∧ Same F F' ∧ Sp3 F' h hx H' ∧ Rp K F' x d) ∧ (i = items.length → J.stop i H)
abbrev TID := EnvT → (List PyData → EnvT → Prop) → (Exn → EnvT → Prop) → Prop
structure JI (X : Cx) (W : WX) (tg it : Expr) (m : TID) : Prop where
  ex : ∃ wi : TI, PI X tg it wi ∧ ∀ {σ F h hx H ρ Φ Ξ} {R : It → Hp → Prop}, Sp3 F h hx H → EnvL X.K F ρ σ h → m ρ Φ Ξ → XQ X W σ F hx Ξ →
    (∀ J items ρ' F' h' H', Same F F' → Sp3 F' h' hx H' → EnvL X.K F' ρ' σ h' → ItOk X.K F' J items → Φ items ρ' → R J H') → wi σ H R
def iL (m : TD) : TID := fun ρ Φ Ξ => mFrz m ρ (fun o ρ1 => ∃ ds, o = .fz (.list ds) ∧ Φ ds ρ1) Ξ
def iT (m : TD) : TID := fun ρ Φ Ξ => mFrz m ρ (fun o ρ1 => ∃ ds, o = .fz (.tuple ds) ∧ Φ ds ρ1) Ξ
def sgD (z : Str) : List PyData := z.cps.toList.map fun c => .str (one c)
def iS (m : TD) : TID := fun ρ Φ Ξ => mFrz m ρ (fun o ρ1 => ∃ z, o = .fz (.str z) ∧ Φ (sgD z) ρ1) Ξ
def rngD (lo : Int) (n : Nat) : List PyData := (List.range n).map fun (i : Nat) => .int (lo + (i : Int))
def iR1 (m : TL) : TID := fun ρ Φ Ξ => m ρ (fun os ρ1 => ∃ j, os = [.fz (.int j)] ∧ -1000000 ≤ j ∧ j ≤ 1000000 ∧ Φ (rngD 0 j.toNat) ρ1) Ξ
def iR2 (m : TL) : TID := fun ρ Φ Ξ => m ρ (fun os ρ1 => ∃ i j, os = [.fz (.int i), .fz (.int j)] ∧ -1000000 ≤ i ∧ i ≤ 1000000 ∧ -1000000 ≤ j ∧ j ≤ 1000000 ∧ Φ (rngD i (j - i).toNat) ρ1) Ξ
def enD (ds : List PyData) : List PyData := (List.range ds.length).zipWith (fun (i : Nat) d => .tuple [.int (i : Int), d]) ds
def iEn (m : TL) : TID := fun ρ Φ Ξ => m ρ (fun os ρ1 => ∃ ds, fzL os = some [.list ds] ∧ Φ (enD ds) ρ1) Ξ
def zpD (as bs : List PyData) : List PyData := as.zipWith (fun a b => .tuple [a, b]) bs
def iZL (m : TL) : TID := fun ρ Φ Ξ => m ρ (fun os ρ1 => ∃ as bs, fzL os = some [.list as, .list bs] ∧ as.length = bs.length ∧ Φ (zpD as bs) ρ1) Ξ
def iZT (m : TL) : TID := fun ρ Φ Ξ => m ρ (fun os ρ1 => ∃ as bs, fzL os = some [.tuple as, .tuple bs] ∧ as.length = bs.length ∧ Φ (zpD as bs) ρ1) Ξ
def iZS (m : TL) : TID := fun ρ Φ Ξ => m ρ (fun os ρ1 => ∃ z bs, fzL os = some [.str z, .tuple bs] ∧ z.cps.all (· < 128) = true ∧ z.length = bs.length ∧ Φ (zpD (sgD z) bs) ρ1) Ξ
section
variable {K : PySem.W.Frag} {F0 : Hp}
theorem rp_get {F : Hp} {vs : List V} {ds : List PyData} (r : RpAll K F vs ds) {i : Nat} {v : V} (e : vs[i]? = some v) : ∃ d, ds[i]? = some d ∧ Rp K F v d := r.at e
theorem itl_ok {a : Addr} {vs : List V} {ds : List PyData} (h : SqL K F0 a vs) (r : RpAll K F0 vs ds) : ItOk K F0 (Itl K a) ds := by
  intro F h' hx H i s0 s
  have hH : SqL K H a vs := L2.Same.seq (s0.trans s.f) h
  have hl := r.len
  refine ⟨fun hi => ⟨vs, vs[i]'(by omega), hH, by simp [show i < vs.length by omega]⟩, ?_, fun hi => ⟨vs, hH, by omega⟩⟩
  rintro x H' hi ⟨rfl, y⟩
  obtain ⟨d, hd, rd⟩ := r.at (y vs hH)
  exact ⟨F, d, hd, Same.refl _, s, rd.mono s0⟩
theorem itt_ok {a : Addr} {vs : List V} {ds : List PyData} (h : SqT K F0 a vs) (r : RpAll K F0 vs ds) : ItOk K F0 (Itt K a) ds := by
  intro F h' hx H i s0 s
  have hH : SqT K H a vs := Z.Same.seqT (s0.trans s.f) h
  have hl := r.len
  refine ⟨fun hi => ⟨vs, vs[i]'(by omega), hH, by simp [show i < vs.length by omega]⟩, ?_, fun hi => ⟨vs, hH, by omega⟩⟩
  rintro x H' hi ⟨rfl, y⟩
  obtain ⟨d, hd, rd⟩ := r.at (y vs hH)
  exact ⟨F, d, hd, Same.refl _, s, rd.mono s0⟩
theorem rng_len {lo : Int} {n : Nat} : (rngD lo n).length = n := by simp [rngD]
theorem rng_at {lo : Int} {n i : Nat} (h : i < n) : (rngD lo n)[i]? = some (.int (lo + (i : Int))) := by simp [rngD, h]
theorem itr_ok {lo : Int} {n : Nat} : ItOk K F0 (Itr lo n) (rngD lo n) := by
  intro F h' hx H i s0 s
  rw [rng_len]
  refine ⟨fun hi => hi, ?_, fun hi => Nat.le_of_eq hi.symm⟩
  rintro x H' hi ⟨rfl, rfl⟩
  exact ⟨F, _, rng_at hi, Same.refl _, s, .int _⟩
theorem its_ok {z : Str} : ItOk K F0 (Its z) (sgD z) := by
  intro F h' hx H i s0 s
  have hl : (sgD z).length = z.cps.size := by simp [sgD]
  rw [hl]
  refine ⟨fun hi => hi, ?_, fun hi => Nat.le_of_eq hi.symm⟩
  rintro x H' hi ⟨rfl, c, hc, rfl⟩
  refine ⟨F, .str (one c), ?_, Same.refl _, s, .str _⟩
  have : z.cps.toList[i]? = some c := by rw [Array.getElem?_toList]; exact hc
  simp [sgD, this]
theorem en_len {ds : List PyData} : (enD ds).length = ds.length := by simp [enD]
theorem en_at {ds : List PyData} {i : Nat} {d : PyData} (h : ds[i]? = some d) : (enD ds)[i]? = some (.tuple [.int (i : Int), d]) := by
  have hi : i < ds.length := (List.getElem?_eq_some_iff.mp h).1
  simp [enD, List.getElem?_zipWith, hi]
  exact (List.getElem?_eq_some_iff.mp h).2
theorem new2 {F h hx H : Hp} {T : Addr} {x y : V} {d e : PyData} (s : Sp3 F h hx H) (n : H T = none) (r1 : Rp K F x d) (r2 : Rp K F y e) :
    Same F (upd F T (.tup [x, y])) ∧ Sp3 (upd F T (.tup [x, y])) h hx (upd H T (.tup [x, y])) ∧ Rp K (upd F T (.tup [x, y])) (.ref T) (.tuple [d, e]) := by
  have sF := same_upd' (o := .tup [x, y]) (s.f.free n)
  exact ⟨sF, s.new n, .tup (SqT.of upd_same) (.cons (r1.mono sF) (.cons (r2.mono sF) .nil))⟩
theorem ite_ok {a : Addr} {vs : List V} {ds : List PyData} (h : SqL K F0 a vs) (r : RpAll K F0 vs ds) : ItOk K F0 (Ite K a) (enD ds) := by
  intro F h' hx H i s0 s
  have hH : SqL K H a vs := L2.Same.seq (s0.trans s.f) h
  have hl := r.len
  rw [en_len]
  refine ⟨fun hi => ⟨vs, vs[i]'(by omega), hH, by simp [show i < vs.length by omega]⟩, ?_, fun hi => ⟨vs, hH, by omega⟩⟩
  rintro x H' hi ⟨T, x, rfl, hT, rfl, y⟩
  obtain ⟨d, hd, rd⟩ := r.at (y vs hH)
  obtain ⟨a1, a2, a3⟩ := new2 s hT (.int (i : Int)) (rd.mono s0)
  exact ⟨_, _, en_at hd, a1, a2, a3⟩
theorem zp_len {as bs : List PyData} (h : as.length = bs.length) : (zpD as bs).length = as.length := by simp [zpD]; omega
theorem zp_at {as bs : List PyData} {i : Nat} {d e : PyData} (h : as[i]? = some d) (h2 : bs[i]? = some e) : (zpD as bs)[i]? = some (.tuple [d, e]) := by
  simp [zpD, List.getElem?_zipWith, h, h2]
theorem itz_ok {a b : Addr} {vs ws : List V} {ds es : List PyData} (h : SqL K F0 a vs) (r : RpAll K F0 vs ds) (h2 : SqL K F0 b ws) (r2 : RpAll K F0 ws es) (hl : ds.length = es.length) : ItOk K F0 (Itz K a b) (zpD ds es) := by
  intro F h' hx H i s0 s
  have hH : SqL K H a vs := L2.Same.seq (s0.trans s.f) h
  have hH2 : SqL K H b ws := L2.Same.seq (s0.trans s.f) h2
  have hl1 := r.len
  have hl2 := r2.len
  rw [zp_len hl]
  refine ⟨fun hi => ⟨vs, ws, vs[i]'(by omega), ws[i]'(by omega), hH, hH2, by simp [show i < vs.length by omega], by simp [show i < ws.length by omega]⟩, ?_, fun hi => ⟨vs, ws, hH, hH2, .inl (by omega)⟩⟩
  rintro x H' hi ⟨T, x, y, rfl, hT, rfl, y1, y2⟩
  obtain ⟨d, hd, rd⟩ := r.at (y1 vs hH)
  obtain ⟨e, he, re⟩ := r2.at (y2 ws hH2)
  obtain ⟨a1, a2, a3⟩ := new2 s hT (rd.mono s0) (re.mono s0)
  exact ⟨_, _, zp_at hd he, a1, a2, a3⟩
end
section
variable {X : Cx} {W : WX} {tg e e2 : Expr} {es : List Expr} {pl : List (Option Nat)} {me : TD} {m : TL} {p pos tpos : Pos} {elts : List Expr} {kk : Nat}
theorem ji_list (j : JE X W e me) : JI X W tg e (iL me) := by
  refine ⟨_, pi_list pe_J, fun s en q x k => ?_⟩
  refine (je_frz j).te s en q x fun v H1 p => ?_
  obtain ⟨o, ρ', F', h1, h', e1, s1, d1, en1, ow, ds, rfl, q1⟩ := p
  obtain ⟨rfl, r⟩ := own_emp ow
  rw [emp_jn] at s1
  cases r with
  | lst hl ra => exact ⟨_, rfl, ⟨_, SqL.of (s1.f _ _ hl)⟩, k _ _ _ _ _ _ e1 s1 en1 (itl_ok (SqL.of hl) ra) q1⟩
theorem ji_tup (j : JE X W e me) : JI X W tg e (iT me) := by
  refine ⟨_, pi_tup pe_J, fun s en q x k => ?_⟩
  refine (je_frz j).te s en q x fun v H1 p => ?_
  obtain ⟨o, ρ', F', h1, h', e1, s1, d1, en1, ow, ds, rfl, q1⟩ := p
  obtain ⟨rfl, r⟩ := own_emp ow
  rw [emp_jn] at s1
  cases r with
  | tup hl ra => exact ⟨_, rfl, ⟨_, Z.Same.seqT s1.f hl⟩, k _ _ _ _ _ _ e1 s1 en1 (itt_ok hl ra) q1⟩
theorem ji_str (j : JE X W e me) : JI X W tg e (iS me) := by
  refine ⟨_, pi_str pe_J, fun s en q x k => ?_⟩
  refine (je_frz j).te s en q x fun v H1 p => ?_
  obtain ⟨z, ρ1, F1, h1, rfl, e1, s1, en1, q1⟩ := fzS p
  exact ⟨z, rfl, k _ _ _ _ _ _ e1 s1 en1 its_ok q1⟩
theorem ji_rng1 {a : Expr} (hm : X.mg "range" = none) (ja : JA X W [a] pl m) (hg : Gl X "range" := by rfl) (hs : starEach [a] X.env = [(false, eval a X.env)] := by rfl) : JI X W tg (.Call (.Name "range" p) [a] [] pos) (iR1 m) := by
  refine ⟨_, pi_range1 hg hm pa_J hs, fun s en q x k => ?_⟩
  refine ja.ta s en q x ?_
  rintro vs H1 ⟨hln, hvs, os, ρ1, F1, h1, h', e1, s1, d1, en1, ow, j, rfl, l1, l2, q1⟩
  obtain ⟨r, rfl⟩ := OwnL.thaw (ds := [.int j]) ow
  rw [emp_jn] at s1
  rw [rp_ints (ys := [j]) r]
  exact ⟨j, rfl, by omega, by omega, k _ _ _ _ _ _ e1 s1 en1 itr_ok q1⟩
theorem ji_rng2 {a b : Expr} (hm : X.mg "range" = none) (ja : JA X W [a, b] pl m) (hg : Gl X "range" := by rfl) (hs : starEach [a, b] X.env = [(false, eval a X.env), (false, eval b X.env)] := by rfl) (hs2 : starEach [b] X.env = [(false, eval b X.env)] := by rfl) : JI X W tg (.Call (.Name "range" p) [a, b] [] pos) (iR2 m) := by
  refine ⟨_, pi_range2 hg hm pa_J hs hs2, fun s en q x k => ?_⟩
  refine ja.ta s en q x ?_
  rintro vs H1 ⟨hln, hvs, os, ρ1, F1, h1, h', e1, s1, d1, en1, ow, i, j, rfl, l1, l2, l3, l4, q1⟩
  obtain ⟨r, rfl⟩ := OwnL.thaw (ds := [.int i, .int j]) ow
  rw [emp_jn] at s1
  rw [rp_ints (ys := [i, j]) r]
  exact ⟨i, j, rfl, ⟨by omega, by omega, by omega, by omega⟩, k _ _ _ _ _ _ e1 s1 en1 itr_ok q1⟩
theorem ji_enum {a : Expr} (hm : X.mg "enumerate" = none) (ja : JA X W [a] pl m) (hg : Gl X "enumerate" := by rfl) (hs : starEach [a] X.env = [(false, eval a X.env)] := by rfl) : JI X W (.Tuple elts kk tpos) (.Call (.Name "enumerate" p) [a] [] pos) (iEn m) := by
  refine ⟨_, pi_enum hg hm pa_J hs, fun s en q x k => ?_⟩
  refine ja.ta s en q x ?_
  rintro vs H1 ⟨hln, hvs, os, ρ1, F1, h1, h', e1, s1, d1, en1, ow, ds, hd, q1⟩
  have r := ow.frz (dj_jn.mp s1.fo).1 hd
  cases r with
  | cons a b =>
    cases b
    cases a with
    | lst hl ra =>
      have s2 := s1.frz d1
      exact ⟨_, _, rfl, SqL.of (s2.f _ _ hl), k _ _ _ _ _ _ (e1.trans same_l) s2 (en1.mono same_l) (ite_ok (SqL.of hl) ra) q1⟩
theorem ji_zipL {a b : Expr} (hm : X.mg "zip" = none) (ja : JA X W [a, b] pl m) (hg : Gl X "zip" := by rfl) (hs : starEach [a, b] X.env = (false, eval a X.env) :: starEach [b] X.env := by rfl) (hpl : (backTo pos (starEach [b] X.env)).any (·.1) = false := by rfl) : JI X W (.Tuple elts kk tpos) (.Call (.Name "zip" p) [a, b] [] pos) (iZL m) := by
  refine ⟨_, pi_zip hg hm pa_J hs hpl, fun s en q x k => ?_⟩
  refine ja.ta s en q x ?_
  rintro vs H1 ⟨hln, hvs, os, ρ1, F1, h1, h', e1, s1, d1, en1, ow, as, bs, hd, hl, q1⟩
  have r := ow.frz (dj_jn.mp s1.fo).1 hd
  cases r with
  | cons a b =>
    cases b with
    | cons b c =>
      cases c
      cases a with
      | lst hl1 ra =>
        cases b with
        | lst hl2 rb =>
          have s2 := s1.frz d1
          exact ⟨_, _, _, _, rfl, SqL.of (s2.f _ _ hl1), SqL.of (s2.f _ _ hl2), k _ _ _ _ _ _ (e1.trans same_l) s2 (en1.mono same_l) (itz_ok (SqL.of hl1) ra (SqL.of hl2) rb hl) q1⟩
theorem itzT_ok {K : PySem.W.Frag} {F0 : Hp} {a b : Addr} {vs ws : List V} {ds es : List PyData} (h : SqT K F0 a vs) (r : RpAll K F0 vs ds) (h2 : SqT K F0 b ws) (r2 : RpAll K F0 ws es) (hl : ds.length = es.length) : ItOk K F0 (ItzT K a b) (zpD ds es) := by
  intro F h' hx H i s0 s
  have hH : SqT K H a vs := Z.Same.seqT (s0.trans s.f) h
  have hH2 : SqT K H b ws := Z.Same.seqT (s0.trans s.f) h2
  have hl1 := r.len
  have hl2 := r2.len
  rw [zp_len hl]
  refine ⟨fun hi => ⟨vs, ws, vs[i]'(by omega), ws[i]'(by omega), hH, hH2, by simp [show i < vs.length by omega], by simp [show i < ws.length by omega]⟩, ?_, fun hi => ⟨vs, ws, hH, hH2, .inl (by omega)⟩⟩
  rintro x H' hi ⟨T, x, y, rfl, hT, rfl, y1, y2⟩
  obtain ⟨d, hd, rd⟩ := r.at (y1 vs hH)
  obtain ⟨e, he, re⟩ := r2.at (y2 ws hH2)
  obtain ⟨a1, a2, a3⟩ := new2 s hT (rd.mono s0) (re.mono s0)
  exact ⟨_, _, zp_at hd he, a1, a2, a3⟩
theorem itzS_ok {K : PySem.W.Frag} {F0 : Hp} {z : Str} {b : Addr} {ws : List V} {es : List PyData} (h2 : SqT K F0 b ws) (r2 : RpAll K F0 ws es) (hl : z.length = es.length) : ItOk K F0 (ItzS K z b) (zpD (sgD z) es) := by
  intro F h' hx H i s0 s
  have hH2 : SqT K H b ws := Z.Same.seqT (s0.trans s.f) h2
  have hl2 := r2.len
  have hz : (sgD z).length = z.cps.size := by simp [sgD]
  have hz2 : z.length = z.cps.size := rfl
  rw [zp_len (by omega), hz]
  refine ⟨fun hi => ⟨ws, ws[i]'(by omega), hH2, hi, by simp [show i < ws.length by omega]⟩, ?_, fun hi => ⟨ws, hH2, ?_⟩⟩
  · rintro x H' hi ⟨T, c, y, rfl, hT, rfl, y1, y2⟩
    obtain ⟨e, he, re⟩ := r2.at (y2 ws hH2)
    obtain ⟨a1, a2, a3⟩ := new2 s hT (.str (one c)) (re.mono s0)
    refine ⟨_, _, zp_at (d := .str (one c)) ?_ he, a1, a2, a3⟩
    have : z.cps.toList[i]? = some c := by rw [Array.getElem?_toList]; exact y1
    simp [sgD, this]
  · exact .inl hi
theorem ji_zipT {a b : Expr} (hm : X.mg "zip" = none) (ja : JA X W [a, b] pl m) (hg : Gl X "zip" := by rfl) (hs : starEach [a, b] X.env = (false, eval a X.env) :: starEach [b] X.env := by rfl) (hpl : (backTo pos (starEach [b] X.env)).any (·.1) = false := by rfl) : JI X W (.Tuple elts kk tpos) (.Call (.Name "zip" p) [a, b] [] pos) (iZT m) := by
  refine ⟨_, pi_zipA hg hm pa_J hs hpl, fun s en q x k => ?_⟩
  refine ja.ta s en q x ?_
  rintro vs H1 ⟨hln, hvs, os, ρ1, F1, h1, h', e1, s1, d1, en1, ow, as, bs, hd, hl, q1⟩
  have r := ow.frz (dj_jn.mp s1.fo).1 hd
  cases r with
  | cons a b =>
    cases b with
    | cons b c =>
      cases c
      cases a with
      | tup hl1 ra =>
        cases b with
        | tup hl2 rb =>
          have s2 := s1.frz d1
          exact ⟨_, _, _, _, rfl, .inr ⟨Z.Same.seqT s2.f hl1, Z.Same.seqT s2.f hl2, k _ _ _ _ _ _ (e1.trans same_l) s2 (en1.mono same_l) (itzT_ok hl1 ra hl2 rb hl) q1⟩⟩
theorem ji_zipS {a b : Expr} (hm : X.mg "zip" = none) (ja : JA X W [a, b] pl m) (hg : Gl X "zip" := by rfl) (hs : starEach [a, b] X.env = (false, eval a X.env) :: starEach [b] X.env := by rfl) (hpl : (backTo pos (starEach [b] X.env)).any (·.1) = false := by rfl) : JI X W (.Tuple elts kk tpos) (.Call (.Name "zip" p) [a, b] [] pos) (iZS m) := by
  refine ⟨_, pi_zipS hg hm pa_J hs hpl, fun s en q x k => ?_⟩
  refine ja.ta s en q x ?_
  rintro vs H1 ⟨hln, hvs, os, ρ1, F1, h1, h', e1, s1, d1, en1, ow, z, bs, hd, hc, hl, q1⟩
  have r := ow.frz (dj_jn.mp s1.fo).1 hd
  cases r with
  | cons a b =>
    cases b with
    | cons b c =>
      cases c
      cases a
      cases b with
      | tup hl2 rb =>
        have s2 := s1.frz d1
        exact ⟨_, _, _, rfl, hc, Z.Same.seqT s2.f hl2, k _ _ _ _ _ _ (e1.trans same_l) s2 (en1.mono same_l) (itzS_ok hl2 rb hl) q1⟩
end

/-! ### comprehensions -/
def wipeE (ρ : EnvT) : List Nat → EnvT
  | [] => ρ
  | v :: vs => (wipeE ρ vs).set v .un
/-- one turn -/
def mTurn (sl : List Nat) (mg : TGD) (mt : TB) (me : TD) (x : PyData) (acc : List O) (ρ : EnvT) (N : List O → EnvT → Prop) : Prop :=
  mg x ρ fun ρ1 => mt ρ1 (fun b ρ2 => if b = true then me ρ2 (fun o ρ3 => acc.length < 100000 ∧ N (acc ++ [o]) (wipeE ρ3 sl)) (fun _ _ => False) else N acc (wipeE ρ2 sl)) (fun _ _ => False)
def mGo (sl : List Nat) (mg : TGD) (mt : TB) (me : TD) (Φ : List O → EnvT → Prop) : List PyData → List O → EnvT → Prop
  | [], acc, ρ => Φ acc ρ
  | x :: xs, acc, ρ => mTurn sl mg mt me x acc ρ (mGo sl mg mt me Φ xs)
def mLc (mi : TID) (sl : List Nat) (mg : TGD) (mt : TB) (me : TD) : TD := fun ρ Φ Ξ => mi ρ (fun items ρ1 => (∀ i ∈ sl, ρ1[i]? = some .un) ∧ mGo sl mg mt me (fun acc ρ2 => Φ (.lst acc) ρ2) items [] ρ1) Ξ
def tYs : TB := fun ρ R _ => R true ρ
structure JTs (X : Cx) (ifs : List Expr) (m : TB) : Prop where
  ex : ∃ t : TT, PTs X ifs t ∧ ∀ {σ F h hx H ρ Φ} {Q : Bool → Hp → Prop}, Sp3 F h hx H → EnvL X.K F ρ σ h → m ρ Φ (fun _ _ => False) → (∀ b H', PostB X.K σ F hx Φ b H' → Q b H') → t σ H Q
def WF : WX := fun _ _ _ _ => False
theorem xq_F {X : Cx} {W : WX} {σ : L2.St} {F hx : Hp} : XQ X W σ F hx fun _ _ => False := by
  rintro c d H' ⟨_, _, _, _, _, _, _, _, z⟩
  exact z.elim
theorem wipe_env {K : PySem.W.Frag} {F : Hp} : ∀ {sl : List Nat} {ρ : EnvT} {σ : L2.St} {h : Hp}, EnvL K F ρ σ h → ∃ h', Same h' h ∧ EnvL K F (wipeE ρ sl) (wipe σ sl) h'
  | [], _, _, h, e => ⟨h, Same.refl _, e⟩
  | v :: vs, ρ, σ, h, e => by
    obtain ⟨h1, s1, e1⟩ := wipe_env (sl := vs) e
    obtain ⟨h2, e2, s2⟩ := e1.drop v
    refine ⟨h2, s2.trans s1, ?_⟩
    by_cases hv : v < (wipeE ρ vs).length
    · exact e2.pushU (i := v) none (by rw [List.getElem?_set_self hv])
    · show EnvL K F ((wipeE ρ vs).set v .un) ((wipe σ vs).set v none) h2
      rw [List.set_eq_of_length_le (show (wipe σ vs).length ≤ v by rw [← e1.len]; omega)]
      exact e2
theorem wipe_un {K : PySem.W.Frag} {F : Hp} : ∀ {sl : List Nat} {ρ : EnvT} {σ : L2.St} {h : Hp}, EnvL K F ρ σ h → (∀ i ∈ sl, ρ[i]? = some .un) → EnvL K F ρ (wipe σ sl) h
  | [], _, _, _, e, _ => e
  | v :: vs, ρ, σ, h, e, hu => (wipe_un (sl := vs) e fun i hi => hu i (List.mem_cons_of_mem _ hi)).pushU none (hu v List.mem_cons_self)
theorem wipeE_un : ∀ {sl : List Nat} {ρ : EnvT} {i : Nat}, i ∈ sl → i < ρ.length → (wipeE ρ sl)[i]? = some .un
  | v :: vs, ρ, i, h, hl => by
    have len : ∀ sl : List Nat, (wipeE ρ sl).length = ρ.length := fun sl => by
      induction sl with
      | nil => rfl
      | cons a r ih => show ((wipeE ρ r).set a .un).length = _; rw [List.length_set, ih]
    show ((wipeE ρ vs).set v .un)[i]? = _
    by_cases e : v = i
    · subst e; rw [List.getElem?_set_self (by rw [len]; exact hl)]
    · rw [List.getElem?_set_ne e]
      rcases List.mem_cons.mp h with z | z
      · exact absurd z.symm e
      · exact wipeE_un z hl
theorem unwipe {K : PySem.W.Frag} {F : Hp} : ∀ {sl : List Nat} {ρ : EnvT} {σ : L2.St} {h : Hp}, EnvL K F ρ (wipe σ sl) h → (∀ i ∈ sl, ρ[i]? = some .un) → EnvL K F ρ σ h
  | [], _, _, _, e, _ => e
  | v :: vs, ρ, σ, h, e, hu => by
    have e : EnvL K F ρ ((wipe σ vs).set v none) h := e
    have hv := hu v List.mem_cons_self
    refine unwipe (sl := vs) ?_ fun i hi => hu i (List.mem_cons_of_mem _ hi)
    cases q : (wipe σ vs)[v]? with
    | none =>
      rw [List.set_eq_of_length_le (List.getElem?_eq_none_iff.mp q)] at e; exact e
    | some y =>
      have := e.pushU y hv
      rw [List.set_set] at this
      obtain ⟨hl, z⟩ := List.getElem?_eq_some_iff.mp q
      rw [← z, List.set_getElem_self hl] at this
      exact this
theorem wipe_idem : ∀ {sl : List Nat} {σ : L2.St}, wipe (wipe σ sl) sl = wipe σ sl
  | [], σ => rfl
  | v :: vs, σ => by
    show (wipe ((wipe σ vs).set v none) vs).set v none = (wipe σ vs).set v none
    rw [wipe_set, wipe_idem]
section
variable {X : Cx} {W : WX} {tg it elt : Expr} {ifs : List Expr} {sl : List Nat} {g : TG} {mi : TID} {mg : TGD} {mt : TB} {me : TD} {scope : Scope} {own : List (Str × Nat)} {pos : Pos}
theorem lc_J (hsl : own.map (·.2) = sl) {wi : TI}
    (ki : ∀ {σ F h hx H ρ Φ Ξ} {R : It → Hp → Prop}, Sp3 F h hx H → EnvL X.K F ρ σ h → mi ρ Φ Ξ → XQ X W σ F hx Ξ →
      (∀ J items ρ' F' h' H', Same F F' → Sp3 F' h' hx H' → EnvL X.K F' ρ' σ h' → ItOk X.K F' J items → Φ items ρ' → R J H') → wi σ H R) (hg : JG X.K sl g mg) {tt : TT}
    (kt : ∀ {σ F h hx H ρ Φ} {Q : Bool → Hp → Prop}, Sp3 F h hx H → EnvL X.K F ρ σ h → mt ρ Φ (fun _ _ => False) → (∀ b H', PostB X.K σ F hx Φ b H' → Q b H') → tt σ H Q) {te : TE}
    (ke : ∀ {σ F h hx H ρ Φ} {Q : VK}, Sp3 F h hx H → EnvL X.K F ρ σ h → me ρ Φ (fun _ _ => False) → (∀ b H', PostE X.K σ F hx Φ b H' → Q b H') → te σ H Q)
    {σ F h hx H ρ Φ Ξ} (s0 : Sp3 F h hx H) (en0 : EnvL X.K F ρ σ h) (q : mLc mi sl mg mt me ρ Φ Ξ) (x : XQ X W σ F hx Ξ) {Q : VK} (kk : ∀ v H', PostE X.K σ F hx Φ v H' → Q v H') : tLc wi g tt te (own.map (·.2)) σ H Q := by
  rw [hsl]
  refine ki s0 en0 q x ?_
  rintro J items ρ1 F1 h1 H1 e1 s1 en1 io ⟨hu, q1⟩
  intro D hD
  refine ⟨fun i m H => m = items.length - i ∧ i ≤ items.length ∧ ∃ ρ' acc F' h' hD, (∀ i ∈ sl, ρ'[i]? = some .un) ∧ Same F1 F' ∧ Sp3 F' (jn hD h') hx H ∧ Dj hD h' ∧ EnvL X.K F' ρ' (wipe σ sl) h' ∧ Own X.K F' (.lst acc) (.ref D) hD ∧ mGo sl mg mt me (fun acc ρ2 => Φ (.lst acc) ρ2) (items.drop i) acc ρ', ⟨_, rfl, Nat.zero_le _, ρ1, [], F1, h1, upd emp D (.lst []), hu, Same.refl _, ?_, ?_, wipe_un en1 hu, .lst .nil rfl, q1⟩, ?_⟩
  · rw [upd_jn, emp_jn]; exact s1.own hD
  · exact dj_upd emp_dj (s1.o.free hD)
  rintro i m H ⟨rfl, hi, ρ', acc, F', h', hD', hu', e2, s2, d2, en2, ow2, q2⟩
  obtain ⟨i1, i2, i3⟩ := io e2 s2 (i := i)
  by_cases hlt : i < items.length
  · refine .inr ⟨i1 hlt, fun H => ∃ ρ' acc F' h' hD, (∀ i ∈ sl, ρ'[i]? = some .un) ∧ Same F1 F' ∧ Sp3 F' (jn hD h') hx H ∧ Dj hD h' ∧ EnvL X.K F' ρ' (wipe σ sl) h' ∧ Own X.K F' (.lst acc) (.ref D) hD ∧ mGo sl mg mt me (fun acc ρ2 => Φ (.lst acc) ρ2) (items.drop (i + 1)) acc ρ', fun H' n => ⟨items.length - (i + 1), by omega, rfl, by omega, n⟩, ?_⟩
    intro y H' hy
    obtain ⟨F3, d, hd, e3, s3, r3⟩ := i2 y H' hlt hy
    have hdrop : items.drop i = d :: items.drop (i + 1) := by
      obtain ⟨_, z⟩ := List.getElem?_eq_some_iff.mp hd
      rw [← z]; exact List.drop_eq_getElem_cons hlt
    rw [hdrop] at q2
    have q2 : mTurn sl mg mt me d acc ρ' (mGo sl mg mt me (fun acc ρ2 => Φ (.lst acc) ρ2) (items.drop (i + 1))) := q2
    have sp := s3.put d2
    refine hg sp (en2.mono e3) r3 q2 ?_
    rintro σ' ⟨ρ4, h4, w1, w2, sh, en4, q4⟩
    have ww : wipe (wipe σ sl) sl = wipe σ sl := wipe_idem
    refine ⟨by rw [w1, ww], ?_⟩
    refine kt (sp.less sh) en4 q4 ?_
    rintro b H5 ⟨ρ5, F5, h5, e5, s5, en5, q5⟩
    have dx : Dj hD' hx := (jn_dj.mp s3.ox).1
    have ln : ∀ {ρ : EnvT} {F h : Hp}, EnvL X.K F ρ σ' h → ∀ i ∈ sl, i < ρ.length := fun {ρ F h} en i hi => by
      have l1 := en.len
      have l2 := congrArg List.length w1
      rw [wipe_length, wipe_length, wipe_length] at l2
      have l3 := en1.len
      have := (List.getElem?_eq_some_iff.mp (hu i hi)).1
      omega
    cases b with
    | false =>
      refine iteF ?_
      have q5 := ifFF q5
      obtain ⟨h6, s6, en6⟩ := wipe_env (sl := sl) en5
      rw [w1, ww] at en6
      obtain ⟨t1, t2⟩ := (s5.less s6).get dx
      exact ⟨_, acc, F5, h6, hD', fun i hi => wipeE_un hi (ln en5 i hi), (e2.trans e3).trans e5, t1, t2, en6, ow2.mono (e3.trans e5), q5⟩
    | true =>
      refine iteT ?_
      have q5 := ifTT q5
      refine ke s5 en5 q5 ?_
      rintro v H6 ⟨o, ρ6, F6, g1, h6, e6, s6, d6, en6, ow6, hl, q6⟩
      obtain ⟨t1, t2⟩ := s6.get dx
      obtain ⟨t3, t4⟩ := dj_jn.mp t2
      obtain ⟨vs, z1, z2, z3⟩ := own_app (ow2.mono ((e3.trans e5).trans e6)) ow6 t3
      obtain ⟨h7, s7, en7⟩ := wipe_env (sl := sl) en6
      rw [w1, ww] at en7
      refine ⟨vs, t1.o _ _ (jn_l z1), by rw [← z2]; exact small_lt (by omega), _, _, F6, h7, _, fun i hi => wipeE_un hi (ln en6 i hi), ((e2.trans e3).trans e5).trans e6, ?_, ?_, en7, z3, q6⟩
      · have u1 : Sp3 F6 (jn (jn hD' g1) h7) hx H6 := by
          rw [jn_assoc]
          exact t1.less (same_jn same_l ((same_jn same_l (s7.trans (same_r d6))).trans (same_r t2)))
        rw [upd_jn]
        exact u1.chg (jn_l (jn_l z1))
      · refine dj_upd (jn_dj.mpr ⟨dj_sub t4 s7, dj_sub d6 s7⟩) ?_
        exact (dj_sub t4 s7).nr z1
  · refine .inl ⟨i3 (by omega), kk _ _ ?_⟩
    rw [List.drop_eq_nil_of_le (by omega)] at q2
    exact ⟨_, ρ', F', hD', h', e1.trans e2, s2, d2, unwipe en2 hu', ow2, q2⟩
end
end T

/-! T8: comprehensions as expressions; statements. -/
namespace T
open PySem PySem.Spec PyProof.Rows L2 Z RZ
section
variable {X : Cx} {W : WX} {pr : List Nat} {e a b c tg it elt : Expr} {es rest ifs : List Expr} {sl : List Nat} {g : TG} {mi : TID} {mg : TGD} {mt : TB} {me ma mb : TD} {scope : Scope} {own : List (Str × Nat)} {pos : Pos} {pl : List (Option Nat)}
/-- a test list of a comprehension, in each block -/
def ttB (X : Cx) (scope : Scope) (ifs : List Expr) : TT := fun σ H Q => ∀ (s : Shared) (H0 : Hp) (C : Addr) (cl : List (Str × Addr)) (fp : List Addr) pins s1, Inv (X.blk s H0 scope (compEnvC scope cl C X.env) fp) pins σ H s1 →
  wpAny (model X.prog X.w) X.A (forIn ifs true fun c r => if r = true then do let ok ← isTrue c (X.blk s H0 scope (compEnvC scope cl C X.env) fp).env (eval c (X.blk s H0 scope (compEnvC scope cl C X.env) fp).env); pure (ForInStep.yield ok) else pure (ForInStep.yield r)) (TP (X.blk s H0 scope (compEnvC scope cl C X.env) fp) pins σ Q) (fun _ _ => False) s1
def teB (X : Cx) (scope : Scope) (e : Expr) : TE := fun σ H Q => ∀ (s : Shared) (H0 : Hp) (C : Addr) (cl : List (Str × Addr)) (fp : List Addr), teJ (X.blk s H0 scope (compEnvC scope cl C X.env) fp) e σ H Q
/-- a part of a block, in each block -/
abbrev EachB (X : Cx) (scope : Scope) (P : Cx → Prop) : Prop := ∀ (s : Shared) (H : Hp) (C : Addr) (cl : List (Str × Addr)) (fp : List Addr), P (X.blk s H scope (compEnvC scope cl C X.env) fp)
abbrev KT (K : PySem.W.Frag) (mt : TB) (tt : TT) : Prop := ∀ {σ F h hx H ρ Φ} {Q : Bool → Hp → Prop}, Sp3 F h hx H → EnvL K F ρ σ h → mt ρ Φ (fun _ _ => False) → (∀ b H', PostB K σ F hx Φ b H' → Q b H') → tt σ H Q
theorem kt_nil : KT X.K tYs tYes := fun s en q k => k _ _ ⟨_, _, _, Same.refl _, s, en, q⟩
theorem kt_one (j : EachB X scope fun Y => JT Y WF c mt) : KT X.K mt (ttB X scope [c]) := fun s3 en q k s H0 C cl fp pins s1 I =>
  (pts_one (pt_J (X := X.blk s H0 scope (compEnvC scope cl C X.env) fp) (e := c))).run pins s1 _ _ _ I ((j s H0 C cl fp).tt (Ξ := fun _ _ => False) s3 en q xq_F k)
theorem pts_B : EachB X scope fun Y => PTs Y [c] (ttB X scope [c]) := fun s H0 C cl fp => ⟨fun pins s1 σ H Q I h => h s H0 C cl fp pins s1 I⟩
theorem pts_0 : EachB X scope fun Y => PTs Y [] tYes := fun s H0 C cl fp => pts_nil
theorem pe_B : EachB X scope fun Y => PE Y e (teB X scope e) := fun s H0 C cl fp => ⟨fun pins s1 σ H Q I h => h s H0 C cl fp pins s1 I⟩
theorem ke_B (j : EachB X scope fun Y => JE Y WF e me) {σ F h hx H ρ Φ} {Q : VK} (s3 : Sp3 F h hx H) (en : EnvL X.K F ρ σ h) (q : me ρ Φ (fun _ _ => False)) (k : ∀ b H', PostE X.K σ F hx Φ b H' → Q b H') : teB X scope e σ H Q :=
  fun s H0 C cl fp => (j s H0 C cl fp).te (Ξ := fun _ _ => False) s3 en q xq_F k
theorem je_lc {tt : TT} (hc : X.calm = true) (hN : X.N.Nodup) (ji : JI X W tg it mi) (ok : BlkOk X.N X.env.scope scope own) (hsl : own.map (·.2) = sl) (pg : EachB X scope fun Y => PG Y tg g) (jg : JG X.K sl g mg)
    (pt : EachB X scope fun Y => PTs Y ifs tt) (kt : KT X.K mt tt) (je : EachB X scope fun Y => JE Y WF elt me) (hs : ∀ x, foldedSetIterable it X.env x = pure x := by intro _; rfl) :
    JE X W (.ListComp elt [⟨tg, it, ifs, 0⟩] scope pos) (mLc mi sl mg mt me) := by
  obtain ⟨wi, pi, ki⟩ := ji.ex
  refine ⟨fun {pins s σ F h hx H ρ Φ Ξ} at_ q x => (pe_lc hc hN pi ok pg pt pe_B hs).run _ _ _ _ _ at_.i ?_⟩
  exact lc_J hsl ki jg kt (ke_B je) at_.s at_.e q x fun _ _ p => p
/-! ### statements -/
variable {st : Stmt} {sts bp bq : List Stmt} {m u : TSD} {ml : TL}
def sNext : TSD := fun D ρ => D.nx ρ
def sSeq (m u : TSD) : TSD := fun D ρ => m { D with nx := fun ρ1 => u D ρ1 } ρ
theorem postS_now {K : PySem.W.Frag} {σ : L2.St} {F h hx H : Hp} {ρ : EnvT} {Φ : EnvT → Prop} (s : Sp3 F h hx H) (en : EnvL K F ρ σ h) (q : Φ ρ) : PostS K pr σ F hx Φ σ H := ⟨ρ, F, h, Keep.refl, Same.refl _, s, en, q⟩
theorem XS.mono {X : Cx} {W : WX} {pr : List Nat} {σ σ1 : L2.St} {F F1 hx hy : Hp} {Ξ : Exn → EnvT → Prop} (x : XS X W pr σ F hx Ξ) (k : Keep pr σ σ1) (a : Same F F1) (b : Same hx hy) : XS X W pr σ1 F1 hy Ξ := fun σ' k' => (x σ' (k.trans k')).mono a b
theorem XS.now {X : Cx} {W : WX} {pr : List Nat} {σ : L2.St} {F hx : Hp} {Ξ : Exn → EnvT → Prop} (x : XS X W pr σ F hx Ξ) : XQ X W σ F hx Ξ := x σ Keep.refl
theorem JS.ts {m : TSD} (j : JS X W pr st m) {σ : L2.St} {F h hx H : Hp} {ρ : EnvT} (s3 : Sp3 F h hx H) (en : EnvL X.K F ρ σ h) {D : TEnds} {E : Ends} (q : m D ρ) (x : XS X W pr σ F hx D.ex) (h1 : ∀ σ' H', PostS X.K pr σ F hx D.nx σ' H' → E.nx σ' H') (h2 : ∀ σ' H', PostV X.K pr σ F hx D.rt σ' H' → E.rt σ' H')
    (h3 : ∀ σ' H', PostS X.K pr σ F hx D.bk σ' H' → E.bk σ' H') (h4 : ∀ σ' H', PostS X.K pr σ F hx D.ct σ' H' → E.ct σ' H') : tsJ X st E σ H :=
  fun pins s I => thn (j.run ⟨I, s3, en⟩ q x) fun _ _ => sp_mono h1 h2 h3 h4
theorem jss_nil : JSs X W pr [] sNext := ⟨fun at_ q x => pss_nil.run _ _ _ _ _ at_.i (postS_now at_.s at_.e q)⟩
/-- how a later piece's ends are the whole's -/
theorem JSs.on {D : TEnds} {σ σ1 : L2.St} {F F1 h1 hx hy H1 : Hp} {ρ1 : EnvT} (j : JSs X W pr sts u) (kp : Keep pr σ σ1) (e : Same F F1) (ex : Same hx hy) (s : Sp3 F1 h1 hy H1) (en : EnvL X.K F1 ρ1 σ1 h1) (q : u D ρ1) (x : XS X W pr σ F hx D.ex) :
    tssJ X sts (ends X.K pr σ F hx D) σ1 H1 :=
  j.ts s en q (x.mono kp e ex) (fun _ _ p => p.mono kp e ex) (fun _ _ p => p.mono kp e ex) (fun _ _ p => p.mono kp e ex) fun _ _ p => p.mono kp e ex
theorem jss_cons (j : JS X W pr st m) (k : JSs X W pr sts u) : JSs X W pr (st :: sts) (sSeq m u) := by
  refine ⟨fun {pins s σ F h hx H ρ D} at_ q x => (pss_cons (ps_J (X := X) (st := st)) (pss_J (X := X) (sts := sts))).run _ _ _ _ _ at_.i ?_⟩
  refine j.ts at_.s at_.e q x ?_ (fun _ _ p => p) (fun _ _ p => p) (fun _ _ p => p)
  rintro σ1 H1 ⟨ρ1, F1, h1, kp, e1, s1, en1, q1⟩
  exact k.on kp e1 (Same.refl _) s1 en1 q1 x
theorem jss_one (j : JS X W pr st m) : JSs X W pr [st] m := ⟨fun at_ q x => (pss_one ps_J).run _ _ _ _ _ at_.i (j.ts at_.s at_.e q x (fun _ _ p => p) (fun _ _ p => p) (fun _ _ p => p) fun _ _ p => p)⟩
def sRet (m : TD) : TSD := fun D ρ => m ρ (fun o ρ1 => D.rt o ρ1) D.ex
theorem js_ret (ja : JE X W a ma) : JS X W pr (.Return (some a) pos) (sRet ma) :=
  ⟨fun at_ q x => (ps_ret pe_J).run _ _ _ _ _ at_.i (ja.te at_.s at_.e q x.now fun _ _ p => ⟨_, Keep.refl, p⟩)⟩
def sRetN : TSD := fun D ρ => D.rt (.fz .none) ρ
theorem js_retN : JS X W pr (.Return none pos) sRetN := ⟨fun at_ q x => ps_retN.run _ _ _ _ _ at_.i ⟨_, Keep.refl, postE_fz (Same.refl _) at_.s at_.e .non q⟩⟩
theorem js_pass : JS X W pr (.Pass pos) sNext := ⟨fun at_ q x => ps_pass.run _ _ _ _ _ at_.i (postS_now at_.s at_.e q)⟩
def sBrk : TSD := fun D ρ => D.bk ρ
def sCnt : TSD := fun D ρ => D.ct ρ
theorem js_break : JS X W pr (.Break pos) sBrk := ⟨fun at_ q x => ps_break.run _ _ _ _ _ at_.i (postS_now at_.s at_.e q)⟩
theorem js_continue : JS X W pr (.Continue pos) sCnt := ⟨fun at_ q x => ps_continue.run _ _ _ _ _ at_.i (postS_now at_.s at_.e q)⟩
def sDrop (m : TD) : TSD := fun D ρ => m ρ (fun _ ρ1 => D.nx ρ1) D.ex
theorem js_expr (ja : JE X W a ma) (hs : swapsWith a none pos.line X.env = pure false := by rfl) : JS X W pr (.Expr a pos) (sDrop ma) := by
  refine ⟨fun at_ q x => (ps_expr pe_J hs).run _ _ _ _ _ at_.i (ja.te at_.s at_.e q x.now ?_)⟩
  rintro v H1 ⟨o, ρ1, F1, h1, h', e1, s1, d1, en1, ow, q1⟩
  exact ⟨ρ1, F1, h', Keep.refl, e1, s1.less (same_r d1), en1, q1⟩
def sIf (t : TB) (m u : TSD) : TSD := fun D ρ => t ρ (fun b ρ1 => if b = true then m D ρ1 else u D ρ1) D.ex
theorem js_if (jt : JT X W c mt) (j : JSs X W pr bp m) (k : JSs X W pr bq u) : JS X W pr (.If c bp bq pos) (sIf mt m u) := by
  refine ⟨fun {pins s σ F h hx H ρ D} at_ g x => (ps_if pt_J (pss_J (X := X) (sts := bp)) (pss_J (X := X) (sts := bq))).run _ _ _ _ _ at_.i (jt.tt at_.s at_.e g x.now ?_)⟩
  rintro b H1 ⟨ρ1, F1, h1, e1, s1, en1, q1⟩
  cases b with
  | true => exact iteT (j.on Keep.refl e1 (Same.refl _) s1 en1 (ifTT q1) x)
  | false => exact iteF (k.on Keep.refl e1 (Same.refl _) s1 en1 (ifFF q1) x)
/-- name = e -/
def sSet (i : Nat) (m : TD) : TSD := fun D ρ => m ρ (fun o ρ1 => i < ρ1.length ∧ D.nx (ρ1.set i o)) D.ex
theorem set_post {K : PySem.W.Frag} {σ : L2.St} {F hx : Hp} {i : Nat} {Φ : EnvT → Prop} {v : V} {H : Hp} (hp : pr.contains i = false) (p : PostE K σ F hx (fun o ρ1 => i < ρ1.length ∧ Φ (ρ1.set i o)) v H) : PostS K pr σ F hx Φ (σ.set i (some v)) H := by
  obtain ⟨o, ρ1, F1, h1, h', e1, s1, d1, en1, ow, hi, q1⟩ := p
  obtain ⟨h2, s2, en2⟩ := en1.store i ow d1 hi
  exact ⟨_, F1, h2, Keep.set hp, e1, s1.less s2, en2, q1⟩
theorem js_set {i : Nat} {x : Str} {px : Pos} (hN : X.N.Nodup) (hi : X.N[i]? = some x) (hx : Loc X.env.scope x) (ja : JE X W a ma) (hp : pr.contains i = false := by rfl)
    (hf : X.fn x = true ∨ X.env.scope.names.lookup x = some .local := by first | exact .inl rfl | exact .inr rfl | assumption) (hs : swapsWithSole [.Name x px] a pos.line X.env = pure false := by rfl) (hw : swappedStores [.Name x px] a X.env = pure none := by rfl) :
    JS X W pr (.Assign [.Name x px] a pos) (sSet i ma) :=
  ⟨fun at_ q x => (ps_asg pe_J (pg_name hN hi hx hf) hs hw).run _ _ _ _ _ at_.i (ja.te at_.s at_.e q x.now fun _ _ p => set_post hp p)⟩
theorem js_setLc {i : Nat} {y : Str} {py spos : Pos} {tt : TT} (hc : X.calm = true) (hN : X.N.Nodup) (hy : X.N[i]? = some y) (hyl : X.env.scope.names.lookup y = some .local) (hsw : swapsWith (.ListComp elt [⟨tg, it, ifs, 0⟩] scope pos) (some (.Name y py)) spos.line X.env = pure true)
    (ji : JI X W tg it mi) (ok : BlkOk X.N X.env.scope scope own) (hsl : own.map (·.2) = sl) (pg : EachB X scope fun Y => PG Y tg g) (jg : JG X.K sl g mg)
    (pt : EachB X scope fun Y => PTs Y ifs tt) (kt : KT X.K mt tt) (je : EachB X scope fun Y => JE Y WF elt me) (hp : pr.contains i = false := by rfl) (hs : ∀ x, foldedSetIterable it X.env x = pure x := by intro _; rfl) :
    JS X W pr (.Assign [.Name y py] (.ListComp elt [⟨tg, it, ifs, 0⟩] scope pos) spos) (sSet i (mLc mi sl mg mt me)) := by
  obtain ⟨wi, pi, ki⟩ := ji.ex
  refine ⟨fun {pins s σ F h hx H ρ D} at_ q x => (ps_setLc hc hN hy hyl hsw pi ok pg pt pe_B hs).run _ _ _ _ _ at_.i ?_⟩
  exact lc_J hsl ki jg kt (ke_B je) at_.s at_.e q x.now fun _ _ p => set_post hp p
/-- a, b = .. (a target of slots) -/
def sAsg (m : TD) (mg : TGD) : TSD := fun D ρ => mFrz m ρ (fun o ρ1 => ∃ d, o = .fz d ∧ mg d ρ1 fun ρ2 => D.nx ρ2) D.ex
theorem js_asg (ja : JE X W a ma) (pg : PG X tg g) (jg : JG X.K sl g mg) (hp : sl.all (fun i => !pr.contains i) = true := by rfl) (hs : swapsWithSole [tg] a pos.line X.env = pure false := by rfl) (hw : swappedStores [tg] a X.env = pure none := by rfl) (h1 : List.map (fun x => x.snd) (assignEach [tg] X.env) = [assign tg X.env] := by rfl) :
    JS X W pr (.Assign [tg] a pos) (sAsg ma mg) := by
  refine ⟨fun {pins s σ F h hx H ρ D} at_ q x => (ps_asg pe_J pg hs hw h1).run _ _ _ _ _ at_.i ((je_frz ja).te at_.s at_.e q x.now fun v H1 p => ?_)⟩
  obtain ⟨d, ρ1, F1, h1, e1, s1, en1, r1, q1⟩ := fzE p
  refine jg s1 en1 r1 q1 ?_
  intro σ' st
  have kp := st.keep hp
  obtain ⟨ρ2, h2, _, _, s2, en2, q2⟩ := st
  exact ⟨ρ2, F1, h2, kp, e1, s1.less s2, en2, q2⟩
/-- a, b = x, y: no tuple is made -/
def sPar (i j : Nat) (m : TL) : TSD := fun D ρ => m ρ (fun os ρ1 => ∃ o1 o2, os = [o1, o2] ∧ i < ρ1.length ∧ j < ρ1.length ∧ D.nx ((ρ1.set i o1).set j o2)) D.ex
def sPar3 (i j l : Nat) (m : TL) : TSD := fun D ρ => m ρ (fun os ρ1 => ∃ o1 o2 o3, os = [o1, o2, o3] ∧ i < ρ1.length ∧ j < ρ1.length ∧ l < ρ1.length ∧ D.nx (((ρ1.set i o1).set j o2).set l o3)) D.ex
theorem par_J (ja : JA X W es pl ml) {i j : Nat} (hp : pr.contains i = false) (hq : pr.contains j = false) {σ F h hx H ρ} {D : TEnds} (s3 : Sp3 F h hx H) (en : EnvL X.K F ρ σ h) (q : sPar i j ml D ρ) (x : XS X W pr σ F hx D.ex) : tPar i j (taJ X es) (ends X.K pr σ F hx D) σ H := by
  refine ja.ta s3 en q x.now ?_
  rintro vs H1 ⟨hln, hvs, os, ρ1, F1, h1, h', e1, s1, d1, en1, ow, o1, o2, rfl, hi, hj, q1⟩
  cases ow with
  | cons a b d =>
    cases b with
    | cons b c d' =>
      cases c
      rw [jn_emp] at s1 d1 d
      obtain ⟨z1, z2⟩ := jn_dj.mp d1
      obtain ⟨g1, t1, en2⟩ := en1.store i a z1 hi
      obtain ⟨g2, t2, en3⟩ := en2.store j b (dj_sub (dj_jn.mpr ⟨d.symm, z2⟩) t1) (by rw [List.length_set]; exact hj)
      refine ⟨_, _, rfl, _, F1, g2, (Keep.set hp).trans (Keep.set hq), e1, s1.less (t2.trans (same_jn ?_ (t1.trans (same_jn ?_ ?_)))), en3, q1⟩
      · exact (same_r d).trans same_l
      · exact same_l.trans same_l
      · exact same_r d1
end
end T

/-! T9: loops, match, own lists changed. -/
namespace T
open PySem PySem.Spec PyProof.Rows L2 Z RZ
section
variable {X : Cx} {W : WX} {pr : List Nat} {e a b c tg it elt : Expr} {es rest ifs : List Expr} {sl : List Nat} {g : TG} {mi : TID} {mg : TGD} {mt : TB} {me ma mb mc mk : TD} {pos : Pos} {pl : List (Option Nat)} {sts body : List Stmt} {m u : TSD} {ml : TL} {i j l : Nat}
theorem js_par {x y : Str} {px py pt : Pos} {kt k2 pt2} (hc : X.calm = true) (hN : X.N.Nodup) (hi : X.N[i]? = some x) (hj : X.N[j]? = some y) (hij : i ≠ j)
    (hx : X.env.scope.names.lookup x = some .local) (hy : X.env.scope.names.lookup y = some .local) (ja : JA X W [a, b] pl ml)
    (hw : swappedStores [.Tuple [.Name x px, .Name y py] kt pt] (.Tuple [a, b] k2 pt2) X.env = pure (some [x, y])) (hp : pr.contains i = false := by rfl) (hq : pr.contains j = false := by rfl)
    (hs : swapsWithSole [.Tuple [.Name x px, .Name y py] kt pt] (.Tuple [a, b] k2 pt2) pos.line X.env = pure false := by rfl) :
    JS X W pr (.Assign [.Tuple [.Name x px, .Name y py] kt pt] (.Tuple [a, b] k2 pt2) pos) (sPar i j ml) :=
  ⟨fun at_ q x => (ps_par hc hN hi hj hij hx hy (pa_J (X := X) (es := [a, b])) hw hs).run _ _ _ _ _ at_.i (par_J ja hp hq at_.s at_.e q x)⟩
theorem js_par3 {x y z : Str} {px py pz pt : Pos} {kt k2 pt2} (hc : X.calm = true) (hN : X.N.Nodup) (hi : X.N[i]? = some x) (hj : X.N[j]? = some y) (hl : X.N[l]? = some z) (hij : i ≠ j) (hil : i ≠ l) (hjl : j ≠ l)
    (hx : X.env.scope.names.lookup x = some .local) (hy : X.env.scope.names.lookup y = some .local) (hz : X.env.scope.names.lookup z = some .local) (ja : JA X W [a, b, c] pl ml)
    (hw : swappedStores [.Tuple [.Name x px, .Name y py, .Name z pz] kt pt] (.Tuple [a, b, c] k2 pt2) X.env = pure (some [x, y, z])) (hp : pr.contains i = false := by rfl) (hq : pr.contains j = false := by rfl) (hr : pr.contains l = false := by rfl)
    (hs : swapsWithSole [.Tuple [.Name x px, .Name y py, .Name z pz] kt pt] (.Tuple [a, b, c] k2 pt2) pos.line X.env = pure false := by rfl) :
    JS X W pr (.Assign [.Tuple [.Name x px, .Name y py, .Name z pz] kt pt] (.Tuple [a, b, c] k2 pt2) pos) (sPar3 i j l ml) := by
  refine ⟨fun {pins s σ F h hx0 H ρ D} at_ q x => (ps_par3 hc hN hi hj hl hij hil hjl hx hy hz (pa_J (X := X) (es := [a, b, c])) hw hs).run _ _ _ _ _ at_.i ?_⟩
  refine ja.ta at_.s at_.e q x.now ?_
  rintro vs H1 ⟨hln, hvs, os, ρ1, F1, h1, h', e1, s1, d1, en1, ow, o1, o2, o3, rfl, gi, gj, gl, q1⟩
  cases ow with
  | @cons _ _ _ _ k1 _ a b d =>
    cases b with
    | @cons _ _ _ _ k2 _ b c d' =>
      cases c with
      | @cons _ _ _ _ k3 _ c c' d'' =>
        cases c'
        rw [jn_emp] at s1 d1 d d'
        obtain ⟨z1, z2⟩ := jn_dj.mp d1
        obtain ⟨z3, z4⟩ := jn_dj.mp z2
        obtain ⟨y1, y2⟩ := dj_jn.mp d
        obtain ⟨g1, t1, en2⟩ := en1.store i a z1 gi
        obtain ⟨g2, t2, en3⟩ := en2.store j b (dj_sub (dj_jn.mpr ⟨y1.symm, z3⟩) t1) (by rw [List.length_set]; exact gj)
        obtain ⟨g3, t3, en4⟩ := en3.store l c (dj_sub (dj_jn.mpr ⟨d'.symm, dj_sub (dj_jn.mpr ⟨y2.symm, z4⟩) t1⟩) t2) (by rw [List.length_set, List.length_set]; exact gl)
        refine ⟨_, _, _, rfl, _, F1, g3, ((Keep.set hp).trans (Keep.set hq)).trans (Keep.set hr), e1, s1.less ?_, en4, q1⟩
        have r1 : Same k1 (jn (jn k1 (jn k2 k3)) h') := same_l.trans same_l
        have r2 : Same k2 (jn (jn k1 (jn k2 k3)) h') := (same_l.trans (same_r d)).trans same_l
        have r3 : Same k3 (jn (jn k1 (jn k2 k3)) h') := ((same_r d').trans (same_r d)).trans same_l
        have r4 : Same h' (jn (jn k1 (jn k2 k3)) h') := same_r d1
        exact t3.trans (same_jn r3 (t2.trans (same_jn r2 (t1.trans (same_jn r1 r4)))))
/-- x op= e, ints -/
def sAug (i : Nat) (f : Int → Int → Int) (m : TD) : TSD := fun D ρ => ∃ x, ρ[i]? = some (.fz (.int x)) ∧ m ρ (fun o ρ1 => ∃ y, o = .fz (.int y) ∧ D.nx (ρ1.set i (.fz (.int (f x y))))) D.ex
theorem js_aug {op : Operator} {f : Int → Int → Int} {x : Str} {px : Pos} (hN : X.N.Nodup) (hi : X.N[i]? = some x) (hx : Loc X.env.scope x) (ja : JE X W a ma) (ho : PIp X op (ipI f)) (hp : pr.contains i = false := by rfl)
    (hf : X.fn x = true ∨ X.env.scope.names.lookup x = some .local := by first | exact .inl rfl | exact .inr rfl | assumption) : JS X W pr (.AugAssign (.Name x px) op a pos) (sAug i f ma) := by
  refine ⟨fun {pins s σ F h hy H ρ D} at_ q x => (ps_aug hN hi hx (pe_J (X := X) (e := a)) ho hf).run _ _ _ _ _ at_.i ?_⟩
  obtain ⟨n, hn, q⟩ := q
  obtain ⟨v, hv, r⟩ := at_.e.fz hn
  cases r
  refine ⟨_, hv, ja.te at_.s at_.e q x.now ?_⟩
  rintro v H1 ⟨o, ρ1, F1, h1, h', e1, s1, d1, en1, ow, y, rfl, q1⟩
  obtain ⟨rfl, r⟩ := own_emp ow
  rw [emp_jn] at s1
  cases r
  obtain ⟨h2, s2, en2⟩ := en1.store_fz i (.int (f n y))
  exact ⟨n, y, rfl, rfl, _, F1, h2, Keep.set hp, e1, s1.less s2, en2, q1⟩
/-! loops -/
def sForGo (mg : TGD) (mb : TSD) (D : TEnds) : List PyData → EnvT → Prop
  | [], ρ => D.nx ρ
  | x :: xs, ρ => mg x ρ fun ρ1 => mb { nx := sForGo mg mb D xs, rt := D.rt, ex := D.ex, bk := D.nx, ct := sForGo mg mb D xs } ρ1
def sFor (mi : TID) (mg : TGD) (mb : TSD) : TSD := fun D ρ => mi ρ (fun items ρ1 => sForGo mg mb D items ρ1) D.ex
theorem js_for (hp : PassesOwn (model X.prog X.w) X.A X.env X.xe) (hc : X.calm = true) (ji : JI X W tg it mi) (pg : PG X tg g) (jg : JG X.K sl g mg) (jb : JSs X W pr body m) (hsl : sl.all (fun i => !pr.contains i) = true := by rfl)
    (hs : ∀ x, foldedSetIterable it X.env x = pure x := by intro _; rfl) : JS X W pr (.For tg it body [] pos) (sFor mi mg m) := by
  obtain ⟨wi, pi, ki⟩ := ji.ex
  refine ⟨fun {pins s σ F h hx H ρ D} at_ q x => (ps_for hp hc pi pg (pss_J (X := X) (sts := body)) hs).run _ _ _ _ _ at_.i ?_⟩
  refine ki at_.s at_.e q x.now ?_
  rintro J items ρ1 F1 h1 H1 e1 s1 en1 io q1
  refine ⟨fun i m σ' H => m = items.length - i ∧ i ≤ items.length ∧ PostS X.K pr σ F1 hx (fun ρ => sForGo mg _ D (items.drop i) ρ) σ' H, ⟨_, rfl, Nat.zero_le _, ρ1, F1, h1, Keep.refl, Same.refl _, s1, en1, q1⟩, ?_⟩
  rintro i m σ2 H2 ⟨rfl, hi, ρ2, F2, h2, k2, e2, s2, en2, q2⟩
  obtain ⟨i1, i2, i3⟩ := io e2 s2 (i := i)
  by_cases hlt : i < items.length
  · refine .inr ⟨i1 hlt, PostS X.K pr σ F1 hx (fun ρ => sForGo mg _ D (items.drop (i + 1)) ρ), fun σ' H' n => ⟨items.length - (i + 1), by omega, rfl, by omega, n⟩, ?_⟩
    intro y H' hy
    obtain ⟨F3, d, hd, e3, s3, r3⟩ := i2 y H' hlt hy
    have hdrop : items.drop i = d :: items.drop (i + 1) := by
      obtain ⟨_, z⟩ := List.getElem?_eq_some_iff.mp hd
      rw [← z]; exact List.drop_eq_getElem_cons hlt
    rw [hdrop] at q2
    refine jg s3 (en2.mono e3) r3 q2 ?_
    intro σ' st
    have k3 := st.keep hsl
    obtain ⟨ρ4, h4, _, _, sh, en4, q4⟩ := st
    have kk := k2.trans k3
    have ee := (e1.trans e2).trans e3
    refine jb.ts (s3.less sh) en4 q4 (x.mono kk ee (Same.refl _)) ?_ ?_ ?_ ?_
    · intro _ _ p; exact p.mono kk (e2.trans e3) (Same.refl _)
    · intro _ _ p; exact p.mono kk ee (Same.refl _)
    · intro _ _ p; exact p.mono kk ee (Same.refl _)
    · intro _ _ p; exact p.mono kk (e2.trans e3) (Same.refl _)
  · have hi' : i = items.length := by omega
    refine .inl ⟨i3 hi', ?_⟩
    rw [List.drop_eq_nil_of_le (by omega)] at q2
    exact ⟨ρ2, F2, h2, k2, e1.trans e2, s2, en2, q2⟩
def sWhile (t : TB) (mb : TSD) : TSD := fun D ρ => ∃ I : Nat → EnvT → Prop, (∃ n, I n ρ) ∧ ∀ n ρ, I n ρ → t ρ (fun b ρ1 => if b = true then mb { nx := fun ρ2 => ∃ m, m < n ∧ I m ρ2, rt := D.rt, ex := D.ex, bk := D.nx, ct := fun ρ2 => ∃ m, m < n ∧ I m ρ2 } ρ1 else D.nx ρ1) D.ex
theorem js_while (hp : PassesOwn (model X.prog X.w) X.A X.env X.xe) (jt : JT X W c mt) (jb : JSs X W pr body m) : JS X W pr (.While c body [] pos) (sWhile mt m) := by
  refine ⟨fun {pins s σ F h hx H ρ D} at_ q x => (ps_while hp (pt_J (X := X) (e := c)) (pss_J (X := X) (sts := body))).run _ _ _ _ _ at_.i ?_⟩
  obtain ⟨I, ⟨n0, w0⟩, turn⟩ := q
  refine ⟨fun n σ' H' => PostS X.K pr σ F hx (I n) σ' H', ⟨n0, postS_now at_.s at_.e w0⟩, ?_⟩
  rintro n σ1 H1 ⟨ρ1, F1, h1, k1, e1, s1, en1, q1⟩
  refine jt.tt s1 en1 (turn n ρ1 q1) (x.mono k1 e1 (Same.refl _)).now ?_
  rintro b H2 ⟨ρ2, F2, h2, e2, s2, en2, q2⟩
  have ee := e1.trans e2
  cases b with
  | true =>
    refine iteT ⟨fun σ' H' => ∃ m, m < n ∧ PostS X.K pr σ F hx (I m) σ' H', fun _ _ z => z, ?_⟩
    refine jb.ts s2 en2 (ifTT q2) (x.mono k1 ee (Same.refl _)) ?_ ?_ ?_ ?_
    · rintro σ' H' ⟨ρ', F', h', k', e', s', en', m, hm, z⟩
      exact ⟨m, hm, ρ', F', h', k1.trans k', ee.trans e', s', en', z⟩
    · intro _ _ p; exact p.mono k1 ee (Same.refl _)
    · intro _ _ p; exact p.mono k1 ee (Same.refl _)
    · rintro σ' H' ⟨ρ', F', h', k', e', s', en', m, hm, z⟩
      exact ⟨m, hm, ρ', F', h', k1.trans k', ee.trans e', s', en', z⟩
  | false => exact iteF ⟨ρ2, F2, h2, k1, ee, s2, en2, ifFF q2⟩
/-! match over texts -/
abbrev TM := Str → TSD
structure JM (X : Cx) (W : WX) (pr : List Nat) (cs : List MatchCase) (m : TM) : Prop where
  ex : ∃ tm : Str → TS, PM X cs tm ∧ ∀ (z : Str) {σ F h hx H ρ} {D : TEnds} {E : Ends}, Sp3 F h hx H → EnvL X.K F ρ σ h → m z D ρ → XS X W pr σ F hx D.ex → (∀ σ' H', PostS X.K pr σ F hx D.nx σ' H' → E.nx σ' H') → (∀ σ' H', PostV X.K pr σ F hx D.rt σ' H' → E.rt σ' H') →
    (∀ σ' H', PostS X.K pr σ F hx D.bk σ' H' → E.bk σ' H') → (∀ σ' H', PostS X.K pr σ F hx D.ct σ' H' → E.ct σ' H') → tm z E σ H
def mmNil : TM := fun _ D ρ => D.nx ρ
def mmVal (c : Str) (m : TSD) (r : TM) : TM := fun z D ρ => if decide (z = c) = true then m D ρ else r z D ρ
def mmAny (m : TSD) : TM := fun _ => m
def sMatch (me : TD) (mm : TM) : TSD := fun D ρ => mFrz me ρ (fun o ρ1 => ∃ z, o = .fz (.str z) ∧ mm z D ρ1) D.ex
theorem jm_nil : JM X W pr [] mmNil := ⟨_, pm_nil, fun z {_ _ _ _ _ _ _ _} s en q x k1 k2 k3 k4 => k1 _ _ (postS_now s en q)⟩
theorem jm_any {p2 : Pos} {bl : List Stmt} {r : List MatchCase} (j : JSs X W pr bl m) : JM X W pr (⟨.MatchAs none none p2, none, bl⟩ :: r) (mmAny m) :=
  ⟨_, pm_any pss_J, fun z {_ _ _ _ _ _ _ _} s en q x k1 k2 k3 k4 => j.ts s en q x k1 k2 k3 k4⟩
theorem jm_val {k : Str} {jj : Nat} {p1 p2 : Pos} {bl : List Stmt} {r : List MatchCase} {mm : TM} (j : JSs X W pr bl m) (n : JM X W pr r mm) : JM X W pr (⟨.MatchValue (.Constant (.str k) jj p1) p2, none, bl⟩ :: r) (mmVal k m mm) := by
  obtain ⟨tm, pm, kk⟩ := n.ex
  refine ⟨_, pm_val pss_J pm, fun z {_ _ _ _ _ _ _ _} s en q x k1 k2 k3 k4 => ?_⟩
  by_cases h : decide (z = k) = true
  · exact (if_pos h).mpr (j.ts s en ((if_pos h).mp q) x k1 k2 k3 k4)
  · exact (if_neg h).mpr (kk z s en ((if_neg h).mp q) x k1 k2 k3 k4)
theorem js_match {cs : List MatchCase} {mm : TM} (ja : JE X W a ma) (jm : JM X W pr cs mm) : JS X W pr (.Match a cs pos) (sMatch ma mm) := by
  obtain ⟨tm, pm, k⟩ := jm.ex
  refine ⟨fun {pins s σ F h hx H ρ D} at_ q x => (ps_match pe_J pm).run _ _ _ _ _ at_.i ((je_frz ja).te at_.s at_.e q x.now fun v H1 p => ?_)⟩
  obtain ⟨z, ρ1, F1, h1, rfl, e1, s1, en1, q1⟩ := fzS p
  refine ⟨z, rfl, ?_⟩
  exact k z s1 en1 q1 (x.mono Keep.refl e1 (Same.refl _)) (fun _ _ p => p.mono Keep.refl e1 (Same.refl _)) (fun _ _ p => p.mono Keep.refl e1 (Same.refl _)) (fun _ _ p => p.mono Keep.refl e1 (Same.refl _)) fun _ _ p => p.mono Keep.refl e1 (Same.refl _)
/-! own lists changed -/
theorem slot_at {K : PySem.W.Frag} {F h : Hp} {ρ : EnvT} {σ : L2.St} {os : List O} (en : EnvL K F ρ σ h) (e : ρ[i]? = some (.lst os)) :
    ∃ D vs h0 h2, σ[i]? = some (some (.ref D)) ∧ OwnL K F os vs h0 ∧ h0 D = none ∧ EnvL K F (ρ.set i .un) σ h2 ∧ Dj (upd h0 D (.lst vs)) h2 ∧ h = jn (upd h0 D (.lst vs)) h2 := by
  obtain ⟨v, h1, h2, e1, ow, en2, d, rfl⟩ := en.pull e (fun z => by cases z)
  cases ow with
  | lst r n => exact ⟨_, _, _, h2, e1, r, n, en2, d, rfl⟩
/-- the list in a slot becomes another one -/
theorem slot_put {K : PySem.W.Frag} {F hh h0' h2 hx H : Hp} {ρ : EnvT} {σ : L2.St} {os' : List O} {vs vs' : List V} {D : Addr} (s : Sp3 F hh hx H) (hD : hh D = some (.lst vs)) (en2 : EnvL K F (ρ.set i .un) σ h2)
    (hi : i < ρ.length) (hv : σ[i]? = some (some (.ref D))) (ow : OwnL K F os' vs' h0') (c1 : Same h0' hh) (c2 : Same h2 hh) (d : Dj h0' h2) (n1 : h0' D = none) (n2 : h2 D = none) :
    ∃ h', Sp3 F h' hx (upd H D (.lst vs')) ∧ EnvL K F (ρ.set i (.lst os')) σ h' := by
  have p := en2.push (i := i) (by rw [List.getElem?_set_self hi]) (.lst ow n1) (dj_upd d n2)
  rw [List.set_set, set_self hv] at p
  exact ⟨_, (s.chg (p := D) (u := .lst vs') hD).less (same_jn (same_up c1) (same_over c2 n2)), p⟩
theorem lt_of_get {α : Type} {xs : List α} {i : Nat} {x : α} (e : xs[i]? = some x) : i < xs.length := (List.getElem?_eq_some_iff.mp e).1
/-- x.append(e) -/
def sApp (i : Nat) (m : TD) : TSD := fun D ρ => (∃ os, ρ[i]? = some (.lst os)) ∧ m ρ (fun o ρ1 => ∃ os, ρ1[i]? = some (.lst os) ∧ os.length ≤ 100000 ∧ D.nx (ρ1.set i (.lst (os ++ [o])))) D.ex
theorem js_append {call : Expr} (i : Nat) (hp : PE X a (teJ X a) → PE X call (tBM X.K "list" rAppend (tVar i) (tCons (teJ X a) tNil))) (ja : JE X W a ma) (hsw : swapsWith call none pos.line X.env = pure false := by rfl) :
    JS X W pr (.Expr call pos) (sApp i ma) := by
  refine ⟨fun {pins s σ F h hx H ρ D} at_ q x => (ps_expr (hp pe_J) hsw).run _ _ _ _ _ at_.i ?_⟩
  obtain ⟨⟨os0, he0⟩, q⟩ := q
  obtain ⟨D0, vs0, h00, h02, hv0, _, _, _, _, hh0⟩ := slot_at at_.e he0
  refine ⟨.ref D0, hv0, .inl ⟨rfl, vs0, SqL.of (at_.s.o _ _ (by rw [hh0]; exact jn_l upd_same))⟩, ?_⟩
  refine ja.te at_.s at_.e q x.now ?_
  rintro v H1 ⟨o, ρ1, F1, h1, h', e1, s1, d1, en1, ow, os, he, hl, q1⟩
  obtain ⟨D1, vs, h0, h2, hv1, r, n, en2, d, rfl⟩ := slot_at en1 he
  rw [hv0] at hv1
  cases hv1
  obtain ⟨d11, d12⟩ := dj_jn.mp d1
  have hD : h1 D0 = none := d11.nl upd_same
  have d01 : Dj h0 h1 := fun b => by
    by_cases z : b = D0
    · rw [z]; exact .inl n
    · have := d11.symm b; rw [upd_ne z] at this; exact this
  have d02 : Dj h0 h2 := fun b => by
    by_cases z : b = D0
    · rw [z]; exact .inl n
    · have := d b; rw [upd_ne z] at this; exact this
  have sh : Same h0 (upd h0 D0 (.lst vs)) := same_upd' n
  have dd := jn_dj.mp s1.fo.symm
  obtain ⟨h3, s3, en3⟩ := slot_put (os' := os ++ [o]) (vs' := vs ++ [v]) s1 (vs := vs) (D := D0) (by rw [jn_r hD]; exact jn_l upd_same) en2 (lt_of_get he) hv0 (OwnL.app r (by have := OwnL.cons ow .nil dj_emp; rw [jn_emp] at this; exact this) d01)
    (same_jn ((sh.trans same_l).trans (same_r d1)) same_l) ((same_r d).trans (same_r d1)) (jn_dj.mpr ⟨d02, d12⟩) (jn_none.mpr ⟨n, hD⟩) (d.nr upd_same)
  refine ⟨D0, vs, v, rfl, rfl, s1.o _ _ (by rw [jn_r hD]; exact jn_l upd_same), szlt (by rw [← r.len]; exact hl), ?_⟩
  exact ⟨_, F1, h3, Keep.refl, e1, s3, en3, q1⟩
theorem ownL_erase {K : PySem.W.Frag} {F : Hp} : ∀ {os : List O} {vs : List V} {h : Hp} {k : Nat} {o : O}, OwnL K F os vs h → os[k]? = some o → ∃ v h1 h2, vs[k]? = some v ∧ Own K F o v h1 ∧ OwnL K F (os.eraseIdx k) (vs.eraseIdx k) h2 ∧ Dj h1 h2 ∧ h = jn h1 h2
  | _, _, _, k, o, .nil, e => by simp at e
  | _, _, _, 0, o, .cons a b d, e => by
    simp at e; subst e
    exact ⟨_, _, _, rfl, a, b, d, rfl⟩
  | _, _, _, k + 1, o, .cons (h1 := g1) a b d, e => by
    obtain ⟨v, h1, h2, e1, ow, r, d', rfl⟩ := ownL_erase (k := k) b (by simpa using e)
    obtain ⟨d1, d2⟩ := dj_jn.mp d
    refine ⟨v, h1, jn g1 h2, by simpa using e1, ow, .cons a r d2, dj_jn.mpr ⟨d1.symm, d'⟩, ?_⟩
    rw [← jn_assoc, jn_comm d1, jn_assoc]
/-- x.pop(), the last -/
def mPop (i : Nat) : TD := fun ρ Φ _ => ∃ os o, ρ[i]? = some (.lst (os ++ [o])) ∧ Φ o (ρ.set i (.lst os))
theorem pop_J {K : PySem.W.Frag} {σ : L2.St} {F h hx H : Hp} {ρ : EnvT} {Φ : O → EnvT → Prop} {os : List O} {o : O} {k : Nat} (s3 : Sp3 F h hx H) (en : EnvL K F ρ σ h) (he : ρ[i]? = some (.lst os)) (ho : os[k]? = some o) (q : Φ o (ρ.set i (.lst (os.eraseIdx k)))) :
    ∃ D vs v, σ[i]? = some (some (.ref D)) ∧ H D = some (.lst vs) ∧ vs.length = os.length ∧ vs[k]? = some v ∧ PostE K σ F hx Φ v (upd H D (.lst (vs.eraseIdx k))) := by
  obtain ⟨D, vs, h0, h2, hv, r, n, en2, d, rfl⟩ := slot_at en he
  obtain ⟨v, g1, g2, hg, ow, r2, d2, rfl⟩ := ownL_erase r ho
  obtain ⟨n1, n2⟩ := jn_none.mp n
  have d0 : Dj (jn g1 g2) h2 := fun b => by
    by_cases z : b = D
    · rw [z]; exact .inl n
    · have := d b; rw [upd_ne z] at this; exact this
  obtain ⟨d3, d4⟩ := jn_dj.mp d0
  have sh : Same (jn g1 g2) (upd (jn g1 g2) D (.lst vs)) := same_upd' n
  obtain ⟨h3, s4, en3⟩ := slot_put (os' := os.eraseIdx k) (vs' := vs.eraseIdx k) s3 (vs := vs) (D := D) (jn_l upd_same) en2 (lt_of_get he) hv r2 (((same_r d2).trans sh).trans same_l) (same_r d) d4 n2 (d.nr upd_same)
  have p := en2.push (i := i) (by rw [List.getElem?_set_self (lt_of_get he)]) (.lst r2 n2) (dj_upd d4 (d.nr upd_same))
  rw [List.set_set, set_self hv] at p
  have hD : h2 D = none := d.nr upd_same
  refine ⟨D, vs, v, hv, s3.o _ _ (jn_l upd_same), r.len.symm, hg, o, _, F, g1, _, Same.refl _, ?_, ?_, p, ow, q⟩
  · refine (s3.chg (p := D) (u := .lst (vs.eraseIdx k)) (jn_l upd_same)).less (same_jn ?_ (same_jn ?_ ?_))
    · exact same_over ((same_l.trans sh).trans same_l) n1
    · exact same_up (((same_r d2).trans sh).trans same_l)
    · exact same_over (same_r d) hD
  · exact dj_jn.mpr ⟨(dj_upd d2.symm n1).symm, d3⟩
theorem je_pop {call : Expr} (i : Nat) (hp : PE X call (tBM0 X.K "list" rPop (tVar i))) : JE X W call (mPop i) := by
  refine ⟨fun {pins s σ F h hx H ρ Φ Ξ} at_ q x => hp.run _ _ _ _ _ at_.i ?_⟩
  obtain ⟨os, o, he, q⟩ := q
  obtain ⟨D, vs, v, h1, h2, h3, h4, p⟩ := pop_J (k := os.length) (o := o) at_.s at_.e he (by simp) (Φ := Φ) (by rw [show (os ++ [o]).eraseIdx os.length = os from by simp [List.eraseIdx_append_of_length_le]]; exact q)
  have hl : vs.length = os.length + 1 := by rw [h3]; simp
  refine ⟨_, h1, .inl ⟨rfl, vs, SqL.of h2⟩, D, vs, v, rfl, rfl, h2, by rw [hl]; exact h4, ?_⟩
  have e : vs.dropLast = vs.eraseIdx os.length := by rw [← List.eraseIdx_length_sub_one, hl]; rfl
  rw [e]; exact p
/-- x.pop(k) -/
def mPopAt (i : Nat) (m : TD) : TD := fun ρ Φ Ξ => (∃ os, ρ[i]? = some (.lst os)) ∧ m ρ (fun o ρ1 => ∃ k os y, o = .fz (.int k) ∧ 0 ≤ k ∧ ρ1[i]? = some (.lst os) ∧ os.length ≤ 100000 ∧ os[k.toNat]? = some y ∧ Φ y (ρ1.set i (.lst (os.eraseIdx k.toNat)))) Ξ
theorem je_popAt {call : Expr} (i : Nat) (hp : PE X a (teJ X a) → PE X call (tBM X.K "list" rPopAt (tVar i) (tCons (teJ X a) tNil))) (ja : JE X W a ma) : JE X W call (mPopAt i ma) := by
  refine ⟨fun {pins s σ F h hx H ρ Φ Ξ} at_ q x => (hp pe_J).run _ _ _ _ _ at_.i ?_⟩
  obtain ⟨⟨os0, he0⟩, q⟩ := q
  obtain ⟨D0, vs0, h00, h02, hv0, _, _, _, _, hh0⟩ := slot_at at_.e he0
  refine ⟨.ref D0, hv0, .inl ⟨rfl, vs0, SqL.of (at_.s.o _ _ (by rw [hh0]; exact jn_l upd_same))⟩, ?_⟩
  refine ja.te at_.s at_.e q x ?_
  rintro v H1 ⟨o, ρ1, F1, h1, h', e1, s1, d1, en1, ow, k, os, y, rfl, hk, he, hl, hy, q1⟩
  obtain ⟨rfl, r⟩ := own_emp ow
  rw [emp_jn] at s1
  cases r
  obtain ⟨D, vs, w, g1, g2, g3, g4, p⟩ := pop_J (k := k.toNat) s1 en1 he hy (Φ := Φ) q1
  rw [hv0] at g1
  cases g1
  have hlt := lt_of_get hy
  exact kPopAt g2 hk (by omega) (by omega) fun y' hy' => by
    rw [g4] at hy'; cases hy'
    exact p.mono e1 (Same.refl _) fun _ _ z => z
end
end T

/-! T10: operations on data. -/
namespace T
open PySem PySem.Spec PyProof.Rows L2 Z RZ

def addD : D2
  | .int i, .int j, Φ => Φ (.fz (.int (i + j)))
  | .str a, .str b, Φ => a.length + b.length ≤ 1000000 ∧ Φ (.fz (.str (a ++ b)))
  | .list xs, .list ys, Φ => xs.length + ys.length ≤ 1000000 ∧ Φ (.lst ((xs ++ ys).map .fz))
  | .tuple xs, .tuple ys, Φ => xs.length + ys.length ≤ 1000000 ∧ Φ (.fz (.tuple (xs ++ ys)))
  | _, _, _ => False
def subD : D2
  | .int i, .int j, Φ => Φ (.fz (.int (i - j)))
  | _, _, _ => False
def mulD : D2
  | .int i, .int j, Φ => CMul i j ∧ Φ (.fz (.int (i * j)))
  | .list xs, .int j, Φ => 0 ≤ j ∧ j ≤ 1000 ∧ xs.length * j.toNat ≤ 1000000 ∧ Φ (.lst ((List.replicate j.toNat xs).flatten.map .fz))
  | _, _, _ => False
def modD : D2
  | .int i, .int j, Φ => 0 < j ∧ Φ (.fz (.int (i % j)))
  | _, _, _ => False
def divD : D2
  | .int i, .int j, Φ => 0 < j ∧ j < 1073741824 ∧ Φ (.fz (.int (i / j)))
  | _, _, _ => False
def powD : D2
  | .int i, .int j, Φ => 0 ≤ j ∧ j ≤ 1000 ∧ -(2 ^ 60) < i ∧ i < 2 ^ 60 ∧ Φ (.fz (.int (i ^ j.toNat)))
  | _, _, _ => False
def negD : PyData → (O → Prop) → Prop
  | .int i, Φ => Φ (.fz (.int (-i)))
  | _, _ => False
/-- are two data equal: what == says -/
def eqB : PyData → PyData → Option Bool
  | .int i, .int j => some (decide (i = j))
  | .str a, .str b => some (decide (a = b))
  | .tuple xs, .tuple [] => some xs.isEmpty
  | d, e => if SeqAt.shaped d = true ∧ SeqAt.shaped e = true then some (PyData.eqv d e) else none
def eqD (neg : Bool) : D2 := fun d e Φ => ∃ b, eqB d e = some b ∧ Φ (.fz (.bool (if neg then !b else b)))
def ordD (f : Int → Int → Bool) (g : List Nat → List Nat → Bool) : D2
  | .int i, .int j, Φ => Φ (.fz (.bool (f i j)))
  | .str a, .str b, Φ => Φ (.fz (.bool (g a.cps.toList b.cps.toList)))
  | _, _, _ => False
def isNo : PyData → Bool
  | .none => true
  | _ => false
def isND (neg : Bool) : D2 := fun d e Φ => e = .none ∧ Φ (.fz (.bool (if neg then !isNo d else isNo d)))
def isBD (neg : Bool) : D2
  | .bool a, .bool b, Φ => Φ (.fz (.bool (if neg then !decide (a = b) else decide (a = b))))
  | _, _, _ => False
/-- a flat thing -/
def flat1 : PyData → Option V
  | .none => some .non
  | .bool b => some (.bl b)
  | .int i => some (.int i)
  | .str z => some (.str z)
  | _ => none
def flats : List PyData → Option (List V)
  | [] => some []
  | d :: ds => match flat1 d, flats ds with
    | some v, some vs => some (v :: vs)
    | _, _ => none
def keyOf : PyData → Option Key
  | .int i => some (.inl i)
  | .str z => some (.inr z)
  | _ => none
theorem keyOf_D (k : Key) : keyOf (keyD k) = some k := by cases k <;> rfl
def getK (kvs : List (PyData × PyData)) (k : Key) : Option PyData := (kvs.find? fun p => decide (keyOf p.1 = some k)).map (·.2)
theorem getK_pos {p q : PyData} {r : List (PyData × PyData)} {k : Key} (e : keyOf p = some k) : getK ((p, q) :: r) k = some q := by simp [getK, List.find?_cons, e]
theorem getK_neg {p q : PyData} {r : List (PyData × PyData)} {k : Key} (e : ¬ keyOf p = some k) : getK ((p, q) :: r) k = getK r k := by simp [getK, List.find?_cons, e]
/-- x in y -/
def inB : PyData → PyData → Option Bool
  | .str c, .str z => if c.cps.size = 1 then some (decide (c.cps.toList.getD 0 0 ∈ z.cps.toList)) else none
  | .str z, .dict kvs => some (getK kvs (.inr z)).isSome
  | .int z, .dict kvs => some (getK kvs (.inl z)).isSome
  | d, .list ds => match flat1 d, flats ds with
    | some x, some ys => some (inV x ys)
    | _, _ => none
  | d, .tuple ds => match flat1 d, flats ds with
    | some x, some ys => some (inV x ys)
    | _, _ => none
  | _, _ => none
def inD (neg : Bool) : D2 := fun d e Φ => ∃ b, inB d e = some b ∧ Φ (.fz (.bool (if neg then !b else b)))
def ixD : D2
  | .list ds, .int k, Φ => ∃ d, atI ds k = some d ∧ Φ (.fz d)
  | .tuple ds, .int k, Φ => ∃ d, atI ds k = some d ∧ Φ (.fz d)
  | .str z, .int k, Φ => z.length ≤ 1000000 ∧ ∃ c, atI z.cps.toList k = some c ∧ Φ (.fz (.str (one c)))
  | .dict kvs, .str k, Φ => ∃ d, getK kvs (.inr k) = some d ∧ Φ (.fz d)
  | .dict kvs, .int k, Φ => ∃ d, getK kvs (.inl k) = some d ∧ Φ (.fz d)
  | _, _, _ => False
section
variable {K : PySem.W.Frag} {w : World}
theorem rp_same {F H : Hp} {x : V} {d : PyData} (s : Same F H) (r : Rp K F x d) : Rp K H x d := r.mono s
theorem ra_app {F : Hp} {xs ys : List V} {ds es : List PyData} (a : RpAll K F xs ds) (b : RpAll K F ys es) : RpAll K F (xs ++ ys) (ds ++ es) := a.app b
theorem d_add : DOp K (zAdd K) addD := by
  intro F h hx H x y d e Φ Q s rx ry q k
  cases rx with
  | int i => cases ry with
    | int j => exact kAdd_I (k _ _ (postO_fz (Same.refl _) s (.int _) q))
    | _ => exact q.elim
  | str a => cases ry with
    | str b => exact kAdd_S q.1 (k _ _ (postO_fz (Same.refl _) s (.str _) q.2))
    | _ => exact q.elim
  | lst ha ra => cases ry with
    | lst hb rb =>
      have l1 := ra.len
      have l2 := rb.len
      exact .inr (.inr (.inl ⟨_, _, _, _, rfl, rfl, s.f _ _ ha, s.f _ _ hb, small_le (by have := q.1; omega), fun p hp => k _ _ (postO_lst s (ra.app rb) q.2 p hp)⟩))
    | _ => exact q.elim
  | tup ha ra => cases ry with
    | tup hb rb =>
      have l1 := ra.len
      have l2 := rb.len
      refine .inr (.inr (.inr ⟨_, _, _, _, rfl, rfl, Z.Same.seqT s.f ha, Z.Same.seqT s.f hb, small_le (by have := q.1; omega), fun z => ?_, fun _ z => ?_, fun _ _ p hp => k _ _ (postO_tup s (ra.app rb) q.2 p hp)⟩))
      · subst z; cases ra
        exact k _ _ (postO_fz (Same.refl _) s (.tup hb rb) q.2)
      · subst z; cases rb
        have q := q.2
        rw [List.append_nil] at q
        exact k _ _ (postO_fz (Same.refl _) s (.tup ha ra) q)
    | _ => exact q.elim
  | _ => cases ry <;> exact q.elim
theorem d_sub : DOp K zSub subD := by
  intro F h hx H x y d e Φ Q s rx ry q k
  cases rx with
  | int i => cases ry with
    | int j => exact kSub_I (k _ _ (postO_fz (Same.refl _) s (.int _) q))
    | _ => exact q.elim
  | _ => cases ry <;> exact q.elim
theorem ra_rep {F : Hp} {xs : List V} {ds : List PyData} (a : RpAll K F xs ds) : ∀ n : Nat, RpAll K F (List.replicate n xs).flatten (List.replicate n ds).flatten
  | 0 => .nil
  | n + 1 => by rw [List.replicate_succ, List.replicate_succ, List.flatten_cons, List.flatten_cons]; exact a.app (ra_rep a n)
theorem d_mul : DOp K zMul mulD := by
  intro F h hx H x y d e Φ Q s rx ry q k
  cases rx with
  | int i => cases ry with
    | int j => exact kMul_I q.1 (k _ _ (postO_fz (Same.refl _) s (.int _) q.2))
    | _ => exact q.elim
  | lst ha ra => cases ry with
    | int j =>
      have l1 := ra.len
      obtain ⟨q1, q2, q3, q4⟩ := q
      exact .inr ⟨_, j, _, rfl, rfl, s.f _ _ ha, by omega, by omega, small_le (by rw [l1]; exact q3), fun p hp => k _ _ (postO_lst s (ra_rep ra _) q4 p hp)⟩
    | _ => exact q.elim
  | _ => cases ry <;> exact q.elim
theorem d_mod : DOp K zMod modD := by
  intro F h hx H x y d e Φ Q s rx ry q k
  cases rx with
  | int i => cases ry with
    | int j => exact kMod_I q.1 (k _ _ (postO_fz (Same.refl _) s (.int _) q.2))
    | _ => exact q.elim
  | _ => cases ry <;> exact q.elim
theorem d_div : DOp K zDiv divD := by
  intro F h hx H x y d e Φ Q s rx ry q k
  cases rx with
  | int i => cases ry with
    | int j => exact kDiv_I q.1 q.2.1 (k _ _ (postO_fz (Same.refl _) s (.int _) q.2.2))
    | _ => exact q.elim
  | _ => cases ry <;> exact q.elim
theorem d_pow : DOp K zPow powD := by
  intro F h hx H x y d e Φ Q s rx ry q k
  cases rx with
  | int i => cases ry with
    | int j => exact kPow_I q.1 q.2.1 q.2.2.1 q.2.2.2.1 (k _ _ (postO_fz (Same.refl _) s (.int _) q.2.2.2.2))
    | _ => exact q.elim
  | _ => cases ry <;> exact q.elim
theorem d_neg : DUn K zNeg negD := by
  intro F h hx H x d Φ Q s rx q k
  cases rx with
  | int i => exact kNeg (k _ _ (postO_fz (Same.refl _) s (.int _) q))
  | _ => exact q.elim
theorem eq_dat {F H : Hp} {x y : V} {d e : PyData} {b : Bool} {Q : VK} (s : Same F H) (rx : Rp K F x d) (ry : Rp K F y e) (h : eqB d e = some b) (k : Q (.bl b) H) : zEq K x y H Q := by
  have gen : (if SeqAt.shaped d = true ∧ SeqAt.shaped e = true then some (PyData.eqv d e) else none) = some b → zEq K x y H Q := fun h => by
    split at h
    · rename_i c
      cases h
      exact kEq_D (rx.mono s) (ry.mono s) c.1 c.2 k
    · cases h
  cases rx with
  | int i => cases ry with
    | int j =>
      have h : some (decide (i = j)) = some b := h
      cases h
      exact kEq_I k
    | _ => exact gen h
  | str i => cases ry with
    | str j =>
      have h : some (decide (i = j)) = some b := h
      cases h
      exact kEq_S k
    | _ => exact gen h
  | tup ha ra => cases ry with
    | tup hb rb =>
      cases rb with
      | nil =>
        have h : some (List.isEmpty _) = some b := h
        cases h
        refine kEq_T0 (Z.Same.seqT s ha) (Z.Same.seqT s hb) ?_
        cases ra <;> exact k
      | cons _ _ => exact gen h
    | _ => exact gen h
  | _ => exact gen h
theorem d_eq : DOp K (zEq K) (eqD false) := by
  intro F h hx H x y d e Φ Q s rx ry q k
  obtain ⟨b, hb, q⟩ := q
  exact eq_dat s.f rx ry hb (k _ _ (postO_fz (Same.refl _) s (.bl b) q))
/-- != : without the case of an empty tuple -/
def neD : D2 := fun d e Φ => ∃ b, (match d, e with
  | .int i, .int j => some (decide (i = j))
  | .str a, .str b => some (decide (a = b))
  | d, e => if SeqAt.shaped d = true ∧ SeqAt.shaped e = true then some (PyData.eqv d e) else none) = some b ∧ Φ (.fz (.bool (!b)))
theorem d_ne : DOp K (zNe K) neD := by
  intro F h hx H x y d e Φ Q s rx ry q k
  obtain ⟨b, hb, q⟩ := q
  have fin := k _ _ (postO_fz (Same.refl _) s (.bl (!b)) q)
  have gen : (if SeqAt.shaped d = true ∧ SeqAt.shaped e = true then some (PyData.eqv d e) else none) = some b → zNe K x y H Q := fun h => by
    split at h
    · rename_i c
      cases h
      exact kNe_D (rx.mono s.f) (ry.mono s.f) c.1 c.2 fin
    · cases h
  cases rx with
  | int i => cases ry with
    | int j =>
      have h : some (decide (i = j)) = some b := hb
      cases h
      exact kNe_I fin
    | _ => exact gen hb
  | str i => cases ry with
    | str j =>
      have h : some (decide (i = j)) = some b := hb
      cases h
      exact kNe_S fin
    | _ => exact gen hb
  | _ => exact gen hb
theorem d_lt : DOp K zLt (ordD (fun i j => decide (i < j)) fun a b => decide (a < b)) := by
  intro F h hx H x y d e Φ Q s rx ry q k
  cases rx with
  | int i => cases ry with
    | int j => exact kLt_I (k _ _ (postO_fz (Same.refl _) s (.bl _) q))
    | _ => exact q.elim
  | str i => cases ry with
    | str j => exact kLt_S (k _ _ (postO_fz (Same.refl _) s (.bl _) q))
    | _ => exact q.elim
  | _ => cases ry <;> exact q.elim
theorem d_le : DOp K zLe (ordD (fun i j => decide (i ≤ j)) fun a b => !decide (b < a)) := by
  intro F h hx H x y d e Φ Q s rx ry q k
  cases rx with
  | int i => cases ry with
    | int j => exact kLe_I (k _ _ (postO_fz (Same.refl _) s (.bl _) q))
    | _ => exact q.elim
  | str i => cases ry with
    | str j => exact kLe_S (k _ _ (postO_fz (Same.refl _) s (.bl _) q))
    | _ => exact q.elim
  | _ => cases ry <;> exact q.elim
theorem d_gt : DOp K zGt (ordD (fun i j => decide (j < i)) fun a b => decide (b < a)) := by
  intro F h hx H x y d e Φ Q s rx ry q k
  cases rx with
  | int i => cases ry with
    | int j => exact kGt_I (k _ _ (postO_fz (Same.refl _) s (.bl _) q))
    | _ => exact q.elim
  | str i => cases ry with
    | str j => exact kGt_S (k _ _ (postO_fz (Same.refl _) s (.bl _) q))
    | _ => exact q.elim
  | _ => cases ry <;> exact q.elim
theorem d_ge : DOp K zGe (ordD (fun i j => decide (j ≤ i)) fun a b => !decide (a < b)) := by
  intro F h hx H x y d e Φ Q s rx ry q k
  cases rx with
  | int i => cases ry with
    | int j => exact kGe_I (k _ _ (postO_fz (Same.refl _) s (.bl _) q))
    | _ => exact q.elim
  | str i => cases ry with
    | str j => exact kGe_S (k _ _ (postO_fz (Same.refl _) s (.bl _) q))
    | _ => exact q.elim
  | _ => cases ry <;> exact q.elim
theorem non_iff {F : Hp} {x : V} {d : PyData} (r : Rp K F x d) : decide (x = .non) = isNo d := by cases r <;> simp [isNo]
theorem d_isN : DOp K (zIs false) (isND false) := by
  intro F h hx H x y d e Φ Q s rx ry q k
  obtain ⟨rfl, q⟩ := q
  cases ry
  refine kIs_N ?_
  rw [non_iff rx]
  exact k _ _ (postO_fz (Same.refl _) s (.bl _) q)
theorem d_notN : DOp K (zIs true) (isND true) := by
  intro F h hx H x y d e Φ Q s rx ry q k
  obtain ⟨rfl, q⟩ := q
  cases ry
  refine kNis_N ?_
  rw [non_iff rx]
  exact k _ _ (postO_fz (Same.refl _) s (.bl _) q)
theorem d_isB : DOp K zIsB (isBD false) := by
  intro F h hx H x y d e Φ Q s rx ry q k
  cases rx with
  | bl i => cases ry with
    | bl j => exact kIs_B (k _ _ (postO_fz (Same.refl _) s (.bl _) q))
    | _ => exact q.elim
  | _ => cases ry <;> exact q.elim
theorem d_notB : DOp K zNotB (isBD true) := by
  intro F h hx H x y d e Φ Q s rx ry q k
  cases rx with
  | bl i => cases ry with
    | bl j => exact kNot_B (k _ _ (postO_fz (Same.refl _) s (.bl _) q))
    | _ => exact q.elim
  | _ => cases ry <;> exact q.elim
theorem flat1_v {F : Hp} {x v : V} {d : PyData} (r : Rp K F x d) (h : flat1 d = some v) : x = v ∧ flatV x = true := by
  cases r <;> (unfold flat1 at h; first | (cases h; exact ⟨rfl, rfl⟩) | cases h)
theorem flats_v {F : Hp} : ∀ {xs vs : List V} {ds : List PyData}, RpAll K F xs ds → flats ds = some vs → xs = vs ∧ xs.all flatV = true
  | _, _, _, .nil, h => by unfold flats at h; cases h; exact ⟨rfl, rfl⟩
  | _, _, _, .cons a b, h => by
    unfold flats at h
    split at h
    · rename_i e1 e2
      cases h
      obtain ⟨rfl, f1⟩ := flat1_v a e1
      obtain ⟨rfl, f2⟩ := flats_v b e2
      exact ⟨rfl, by rw [List.all_cons, f1, f2]; rfl⟩
    · cases h
theorem valV_get {F : Hp} : ∀ {kvs : List (Key × V)} {ds : List (PyData × PyData)}, RpKv K F kvs ds → ∀ k : Key, (valV kvs k = none ∧ getK ds k = none) ∨ ∃ v d, valV kvs k = some v ∧ getK ds k = some d ∧ Rp K F v d
  | _, _, .nil, k => .inl ⟨rfl, rfl⟩
  | _, _, .cons (k := k') (v := v) (d := d) a b, k => by
    by_cases e : k' = k
    · subst e
      exact .inr ⟨v, d, valV_pos rfl, getK_pos (keyOf_D _), a⟩
    · have ne : ¬ keyOf (keyD k') = some k := fun z => by
        rw [keyOf_D] at z
        exact e (Option.some.inj z)
      rcases valV_get b k with ⟨h1, h2⟩ | ⟨v', d', h1, h2, h3⟩
      · exact .inl ⟨by rw [valV_neg e]; exact h1, by rw [getK_neg ne]; exact h2⟩
      · exact .inr ⟨v', d', by rw [valV_neg e]; exact h1, by rw [getK_neg ne]; exact h2, h3⟩
theorem in_dat {F H : Hp} {x y : V} {d e : PyData} {b neg : Bool} {Q : VK} (s : Same F H) (rx : Rp K F x d) (ry : Rp K F y e) (h : inB d e = some b) (k : Q (.bl (if neg then !b else b)) H) : zIn K w neg x y H Q := by
  have seq : ∀ {ds : List PyData} {ys : List V} {a : Addr}, (SqL K H a ys ∨ SqT K H a ys) → RpAll K F ys ds → (match flat1 d, flats ds with
    | some x, some ys => some (inV x ys)
    | _, _ => none) = some b → zIn K w neg x (.ref a) H Q := fun {ds ys a} hq ra h => by
    split at h
    · rename_i e1 e2
      cases h
      obtain ⟨rfl, f1⟩ := flat1_v rx e1
      obtain ⟨rfl, f2⟩ := flats_v ra e2
      exact .inl ⟨a, _, rfl, hq, f1, f2, k⟩
    · cases h
  cases ry with
  | lst ha ra => 
    refine seq (.inl (SqL.of (s _ _ ha))) ra ?_
    cases rx <;> exact h
  | tup ha ra =>
    refine seq (.inr (Z.Same.seqT s ha)) ra ?_
    cases rx <;> exact h
  | str z => cases rx with
    | str c =>
      have h : (if c.cps.size = 1 then some (decide (c.cps.toList.getD 0 0 ∈ z.cps.toList)) else none) = some b := h
      split at h
      · rename_i hs
        cases h
        have e : c = ⟨#[c.cps.toList.getD 0 0]⟩ := by
          obtain ⟨l⟩ := c
          obtain ⟨l⟩ := l
          match l, hs with
          | [a], _ => rfl
        exact .inr (.inl ⟨_, z, by rw [← e], rfl, k⟩)
      · cases h
    | _ => cases h
  | dct ha ra => cases rx with
    | str z =>
      have h : some (getK _ (.inr z)).isSome = some b := h
      cases h
      refine .inr (.inr (.inl ⟨_, _, rfl, DGet.k (k := .inr z) (s _ _ ha), ?_⟩))
      rcases valV_get ra (.inr z) with ⟨h1, h2⟩ | ⟨v, d, h1, h2, _⟩
      · have h2 : getK _ (.inr z) = none := h2
        rw [h1]; rw [h2] at k; exact k
      · have h2 : getK _ (.inr z) = some d := h2
        rw [h1]; rw [h2] at k; exact k
    | int z =>
      have h : some (getK _ (.inl z)).isSome = some b := h
      cases h
      refine .inr (.inr (.inl ⟨_, _, rfl, DGet.k (k := .inl z) (s _ _ ha), ?_⟩))
      rcases valV_get ra (.inl z) with ⟨h1, h2⟩ | ⟨v, d, h1, h2, _⟩
      · have h2 : getK _ (.inl z) = none := h2
        rw [h1]; rw [h2] at k; exact k
      · have h2 : getK _ (.inl z) = some d := h2
        rw [h1]; rw [h2] at k; exact k
    | _ => cases h
  | _ => cases rx <;> cases h
theorem d_in : DOp K (zIn K w false) (inD false) := by
  intro F h hx H x y d e Φ Q s rx ry q k
  obtain ⟨b, hb, q⟩ := q
  exact in_dat s.f rx ry hb (k _ _ (postO_fz (Same.refl _) s (.bl b) q))
theorem d_notIn : DOp K (zIn K w true) (inD true) := by
  intro F h hx H x y d e Φ Q s rx ry q k
  obtain ⟨b, hb, q⟩ := q
  exact in_dat s.f rx ry hb (k _ _ (postO_fz (Same.refl _) s (.bl (!b)) q))
theorem at_dat {F : Hp} {xs : List V} {ds : List PyData} {k : Int} {d : PyData} (r : RpAll K F xs ds) (h : atI ds k = some d) : ∃ v, atI xs k = some v ∧ Rp K F v d := by
  unfold atI at h ⊢
  rw [r.len]
  cases z : ixN ds.length k with
  | none => rw [z] at h; cases h
  | some j =>
    rw [z] at h
    have h : ds[j]? = some d := h
    have hl := r.len
    have hj := (List.getElem?_eq_some_iff.mp h).1
    have e : xs[j]? = some (xs[j]'(by omega)) := by simp [show j < xs.length by omega]
    obtain ⟨d', hd', r'⟩ := r.at e
    rw [h] at hd'; cases hd'
    exact ⟨_, e, r'⟩
theorem d_ix : DOp K (zIx K w) ixD := by
  intro F h hx H x y d e Φ Q s rx ry q k
  cases rx with
  | lst ha ra => cases ry with
    | int j =>
      obtain ⟨d, hd, q⟩ := q
      obtain ⟨v, hv, r⟩ := at_dat ra hd
      exact .inl (.inl ⟨_, _, _, _, rfl, rfl, SqL.of (s.f _ _ ha), hv, k _ _ (postO_fz (Same.refl _) s r q)⟩)
    | _ => exact q.elim
  | tup ha ra => cases ry with
    | int j =>
      obtain ⟨d, hd, q⟩ := q
      obtain ⟨v, hv, r⟩ := at_dat ra hd
      exact .inl (.inr (.inl ⟨_, _, _, _, rfl, rfl, Z.Same.seqT s.f ha, hv, k _ _ (postO_fz (Same.refl _) s r q)⟩))
    | _ => exact q.elim
  | str z => cases ry with
    | int j =>
      obtain ⟨hl, c, hc, q⟩ := q
      exact .inl (.inr (.inr ⟨_, _, _, rfl, rfl, small_le hl, hc, k _ _ (postO_fz (Same.refl _) s (.str _) q)⟩))
    | _ => exact q.elim
  | dct ha ra => cases ry with
    | str z =>
      obtain ⟨d, hd, q⟩ := q
      rcases valV_get ra (.inr z) with ⟨h1, h2⟩ | ⟨v, d', h1, h2, r⟩
      · have h2 : getK _ (.inr z) = none := h2
        rw [hd] at h2; cases h2
      · have h2 : getK _ (.inr z) = some d' := h2
        rw [hd] at h2; cases h2
        exact .inr (.inl ⟨_, v, rfl, by rw [← h1]; exact DGet.k (k := .inr z) (s.f _ _ ha), k _ _ (postO_fz (Same.refl _) s r q)⟩)
    | int z =>
      obtain ⟨d, hd, q⟩ := q
      rcases valV_get ra (.inl z) with ⟨h1, h2⟩ | ⟨v, d', h1, h2, r⟩
      · have h2 : getK _ (.inl z) = none := h2
        rw [hd] at h2; cases h2
      · have h2 : getK _ (.inl z) = some d' := h2
        rw [hd] at h2; cases h2
        exact .inr (.inl ⟨_, v, rfl, by rw [← h1]; exact DGet.k (k := .inl z) (s.f _ _ ha), k _ _ (postO_fz (Same.refl _) s r q)⟩)
    | _ => exact q.elim
  | _ => cases ry <;> exact q.elim
/-! built-ins -/
def lenB : PyData → Option Nat
  | .str z => if z.length ≤ 1000000 then some z.length else none
  | .list ds => some ds.length
  | .tuple ds => some ds.length
  | .dict ds => some ds.length
  | _ => none
def lenD : List PyData → (O → Prop) → Prop := fun ds Φ => ∃ d n, ds = [d] ∧ lenB d = some n ∧ Φ (.fz (.int (n : Int)))
theorem RpKv.len {F : Hp} : ∀ {kvs : List (Key × V)} {ds : List (PyData × PyData)}, RpKv K F kvs ds → kvs.length = ds.length
  | _, _, .nil => rfl
  | _, _, .cons _ b => by rw [List.length_cons, List.length_cons, RpKv.len b]
theorem rp1 {F : Hp} {xs : List V} {d : PyData} (r : RpAll K F xs [d]) : ∃ x, xs = [x] ∧ Rp K F x d := by
  cases r with
  | cons a b => cases b; exact ⟨_, rfl, a⟩
theorem d_len : DCl K (zLen K) lenD := by
  intro F h hx H xs ds Φ Q s r q k
  obtain ⟨d, n, rfl, hn, q⟩ := q
  obtain ⟨x, rfl, r1⟩ := rp1 r
  have fin := k _ _ (postO_fz (Same.refl _) s (.int (n : Int)) q)
  cases r1 with
  | str z =>
    have hn : (if z.length ≤ 1000000 then some z.length else none) = some n := hn
    split at hn
    · cases hn; exact kLen_S (by assumption) fin
    · cases hn
  | lst ha ra =>
    have e : some (List.length _) = some n := hn
    cases e
    refine kLen_L (SqL.of (s.f _ _ ha)) ?_
    rw [ra.len]; exact fin
  | tup ha ra =>
    have e : some (List.length _) = some n := hn
    cases e
    refine kLen_T (Z.Same.seqT s.f ha) ?_
    rw [ra.len]; exact fin
  | dct ha ra =>
    have e : some (List.length _) = some n := hn
    cases e
    refine kLen_D (s.f _ _ ha) ?_
    rw [RpKv.len ra]; exact fin
  | _ => cases hn
def reprD : List PyData → (O → Prop) → Prop := fun ds Φ => ∃ d, ds = [d] ∧ d.showable = true ∧ d.shown.length ≤ 1000000 ∧ d.depth ≤ 40 ∧ Φ (.fz (.str d.shown))
theorem d_repr : DCl K (rRepr K) reprD := by
  intro F h hx H xs ds Φ Q s r q k
  obtain ⟨d, rfl, q1, q2, q3, q4⟩ := q
  obtain ⟨x, rfl, r1⟩ := rp1 r
  exact ⟨_, d, rfl, r1.mono s.f, q1, small_le q2, q3, k _ _ (postO_fz (Same.refl _) s (.str _) q4)⟩
def allD : List PyData → (O → Prop) → Prop := fun ds Φ => ∃ bs : List Bool, ds = [.list (bs.map .bool)] ∧ Φ (.fz (.bool (bs.all id)))
def anyD : List PyData → (O → Prop) → Prop := fun ds Φ => ∃ bs : List Bool, ds = [.list (bs.map .bool)] ∧ Φ (.fz (.bool (bs.any id)))
theorem d_all : DCl K (rAll K) allD := by
  intro F h hx H xs ds Φ Q s r q k
  obtain ⟨bs, rfl, q⟩ := q
  obtain ⟨x, rfl, r1⟩ := rp1 r
  cases r1 with
  | lst ha ra =>
    rw [rp_bools ra] at ha
    exact ⟨_, bs, rfl, SqL.of (s.f _ _ ha), k _ _ (postO_fz (Same.refl _) s (.bl _) q)⟩
theorem d_any : DCl K (rAny K) anyD := by
  intro F h hx H xs ds Φ Q s r q k
  obtain ⟨bs, rfl, q⟩ := q
  obtain ⟨x, rfl, r1⟩ := rp1 r
  cases r1 with
  | lst ha ra =>
    rw [rp_bools ra] at ha
    exact ⟨_, bs, rfl, SqL.of (s.f _ _ ha), k _ _ (postO_fz (Same.refl _) s (.bl _) q)⟩
def absD : List PyData → (O → Prop) → Prop := fun ds Φ => ∃ i, ds = [.int i] ∧ Φ (.fz (.int (if i < 0 then -i else i)))
theorem d_abs : DCl K zAbs absD := by
  intro F h hx H xs ds Φ Q s r q k
  obtain ⟨i, rfl, q⟩ := q
  rw [rp_ints (ys := [i]) r]
  exact kAbs (k _ _ (postO_fz (Same.refl _) s (.int _) q))
def maxD : List PyData → (O → Prop) → Prop := fun ds Φ => ∃ i j, ds = [.int i, .int j] ∧ Φ (.fz (.int (if j > i then j else i)))
theorem d_max : DCl K zMax maxD := by
  intro F h hx H xs ds Φ Q s r q k
  obtain ⟨i, j, rfl, q⟩ := q
  rw [rp_ints (ys := [i, j]) r]
  exact kMax (k _ _ (postO_fz (Same.refl _) s (.int _) q))
def minD : List PyData → (O → Prop) → Prop := fun ds Φ => ∃ i j, ds = [.int i, .int j] ∧ Φ (.fz (.int (if j < i then j else i)))
theorem d_min : DCl K zMin minD := by
  intro F h hx H xs ds Φ Q s r q k
  obtain ⟨i, j, rfl, q⟩ := q
  rw [rp_ints (ys := [i, j]) r]
  exact kMin (k _ _ (postO_fz (Same.refl _) s (.int _) q))
def listD : List PyData → (O → Prop) → Prop := fun ds Φ => ∃ xs, (ds = [.list xs] ∨ ds = [.tuple xs]) ∧ Φ (.lst (xs.map .fz))
theorem d_list : DCl K (zList K) listD := by
  intro F h hx H xs ds Φ Q s r q k
  obtain ⟨ys, rfl | rfl, q⟩ := q <;> obtain ⟨x, rfl, r1⟩ := rp1 r
  · cases r1 with
    | lst ha ra => exact ⟨_, _, rfl, .inl (SqL.of (s.f _ _ ha)), fun p hp => k _ _ (postO_lst s ra q p hp)⟩
  · cases r1 with
    | tup ha ra => exact ⟨_, _, rfl, .inr (Z.Same.seqT s.f ha), fun p hp => k _ _ (postO_lst s ra q p hp)⟩
def tupleD : List PyData → (O → Prop) → Prop := fun ds Φ => ∃ xs, (ds = [.list xs] ∨ ds = [.tuple xs]) ∧ Φ (.fz (.tuple xs))
theorem d_tuple : DCl K (zTuple K) tupleD := by
  intro F h hx H xs ds Φ Q s r q k
  obtain ⟨ys, rfl | rfl, q⟩ := q <;> obtain ⟨x, rfl, r1⟩ := rp1 r
  · cases r1 with
    | lst ha ra => exact ⟨_, _, rfl, .inl ⟨SqL.of (s.f _ _ ha), fun p hp => k _ _ (postO_tup s ra q p hp)⟩⟩
  · cases r1 with
    | tup ha ra => exact ⟨_, _, rfl, .inr ⟨Z.Same.seqT s.f ha, k _ _ (postO_fz (Same.refl _) s (.tup ha ra) q)⟩⟩
end
end T

/-! T11: ghost steps; the script; contracts of defs that were proved over heaps; the way through a reading. -/
namespace T
open PySem PySem.Spec PyProof.Rows L2 Z RZ

abbrev ltD : D2 := ordD (fun i j => decide (i < j)) fun a b => decide (a < b)
abbrev leD : D2 := ordD (fun i j => decide (i ≤ j)) fun a b => !decide (b < a)
abbrev gtD : D2 := ordD (fun i j => decide (j < i)) fun a b => decide (b < a)
abbrev geD : D2 := ordD (fun i j => decide (j ≤ i)) fun a b => !decide (a < b)
section
variable {X : Cx} {W : WX} {pr : List Nat} {e a b c : Expr} {es rest : List Expr} {pos : Pos} {pl : List (Option Nat)} {ma mb mc : TD} {st : Stmt} {sts : List Stmt} {m u : TSD} {i : Nat}
/-- the tree in a slot is frozen -/
def frzAt (i : Nat) (ρ : EnvT) (R : EnvT → Prop) : Prop := ∃ o d, ρ[i]? = some o ∧ fzO o = some d ∧ R (ρ.set i (.fz d))
theorem env_frz {K : PySem.W.Frag} {F h hx H : Hp} {ρ : EnvT} {σ : L2.St} {o : O} {d : PyData} (s : Sp3 F h hx H) (en : EnvL K F ρ σ h) (e : ρ[i]? = some o) (hd : fzO o = some d) :
    ∃ F' h', Same F F' ∧ Sp3 F' h' hx H ∧ EnvL K F' (ρ.set i (.fz d)) σ h' := by
  have nu : o ≠ .un := fun z => by subst z; unfold fzO at hd; cases hd
  obtain ⟨v, h1, h2, hv, ow, en2, dj, rfl⟩ := en.pull e nu
  refine ⟨jn F h1, h2, same_l, s.frz dj, ?_⟩
  have p := (en2.mono same_l).push (i := i) (by rw [List.getElem?_set_self (lt_of_get e)]) (.fz (ow.frz (dj_jn.mp s.fo).1 hd)) emp_dj
  rw [List.set_set, set_self hv, emp_jn] at p
  exact p
def sFrz (i : Nat) (m : TSD) : TSD := fun D ρ => frzAt i ρ fun ρ1 => m D ρ1
theorem js_frzv (i : Nat) (j : JS X W pr st m) : JS X W pr st (sFrz i m) := by
  refine ⟨fun {pins s σ F h hx H ρ D} at_ q x => ?_⟩
  obtain ⟨o, d, e, hd, q⟩ := q
  obtain ⟨F', h', eF, s', en'⟩ := env_frz at_.s at_.e e hd
  exact thn (j.run ⟨at_.i, s', en'⟩ q (x.mono Keep.refl eF (Same.refl _))) fun _ _ => sp_mono (D := ends X.K pr σ F' hx D) (D' := ends X.K pr σ F hx D) (fun _ _ p => p.mono Keep.refl eF (Same.refl _)) (fun _ _ p => p.mono Keep.refl eF (Same.refl _)) (fun _ _ p => p.mono Keep.refl eF (Same.refl _)) fun _ _ p => p.mono Keep.refl eF (Same.refl _)
def sThenFrz (i : Nat) (m : TSD) : TSD := fun D ρ => m { D with nx := fun ρ1 => frzAt i ρ1 D.nx } ρ
theorem js_thenFrz (i : Nat) (j : JS X W pr st m) : JS X W pr st (sThenFrz i m) := by
  refine ⟨fun {pins s σ F h hx H ρ D} at_ q x => ?_⟩
  refine thn (j.run at_ q x) fun _ _ => sp_mono (D := ends X.K pr σ F hx { D with nx := fun ρ1 => frzAt i ρ1 D.nx }) (D' := ends X.K pr σ F hx D) ?_ (fun _ _ p => p) (fun _ _ p => p) (fun _ _ p => p)
  rintro σ' H' ⟨ρ', F', h', k, e1, s1, en1, o, d, e, hd, q⟩
  obtain ⟨F2, h2, eF, s2, en2⟩ := env_frz s1 en1 e hd
  exact ⟨_, F2, h2, k, e1.trans eF, s2, en2, q⟩
/-- a cut: what holds between two statements -/
def sMid (m u : TSD) : TSD := fun D ρ => ∃ M : EnvT → Prop, m { D with nx := M } ρ ∧ ∀ ρ1, M ρ1 → u D ρ1
theorem jss_mid (j : JS X W pr st m) (k : JSs X W pr sts u) : JSs X W pr (st :: sts) (sMid m u) := by
  refine ⟨fun {pins s σ F h hx H ρ D} at_ q x => (pss_cons (ps_J (X := X) (st := st)) (pss_J (X := X) (sts := sts))).run _ _ _ _ _ at_.i ?_⟩
  obtain ⟨M, q, hM⟩ := q
  refine j.ts at_.s at_.e q x ?_ (fun _ _ p => p) (fun _ _ p => p) (fun _ _ p => p)
  rintro σ1 H1 ⟨ρ1, F1, h1, kp, e1, s1, en1, q1⟩
  exact k.on kp e1 (Same.refl _) s1 en1 (hM _ q1) x
/-- {} -/
def mDnew : TD := fun ρ Φ _ => Φ (.dct []) ρ
theorem je_dnew {pos : Pos} : JE X W (.Dict [] [] pos) mDnew := by
  refine ⟨fun {pins s σ F h hx H ρ Φ Ξ} at_ q x => (pe_dnewK (X := X) (pos := pos)).run _ _ _ _ _ at_.i ?_⟩
  intro p hp
  refine ⟨_, ρ, F, upd emp p (.dK []), h, Same.refl _, ?_, dj_upd emp_dj (at_.s.o.free hp), at_.e, .dct .nil List.nodup_nil rfl, q⟩
  rw [upd_jn, emp_jn]; exact at_.s.own hp
/-! the script -/
theorem scr_at {K : PySem.W.Frag} {F h : Hp} {ρ : EnvT} {σ : L2.St} {ns : List Int} (en : EnvL K F ρ σ h) (e : ρ[i]? = some (.scr ns)) : ∃ a, σ[i]? = some (some (.ref a)) ∧ SqL K F a (ns.map V.int) := by
  obtain ⟨v, h1, h2, hv, ow, _⟩ := en.pull e (fun z => by cases z)
  cases ow with
  | scr q => exact ⟨_, hv, q⟩
def mScrLen (i : Nat) : TD := fun ρ Φ _ => ∃ ns : List Int, ρ[i]? = some (.scr ns) ∧ Φ (.fz (.int (ns.length : Int))) ρ
theorem je_scrLen (i : Nat) {x : Str} {p px : Pos} (hm : X.mg "len" = none) (hN : X.N[i]? = some x := by rfl) (hv : Vis X.env.scope x := by first | exact Or.inl rfl | exact Or.inr (Or.inl rfl) | exact Or.inr (Or.inr rfl)) (hd : (x == ("__debug__" : Str)) = false := by decide)
    (hcd : (x == ("__classdict__" : Str)) = false := by decide) (hg : Gl X "len" := by rfl) (hs : starEach [.Name x px] X.env = (false, eval (.Name x px) X.env) :: starEach [] X.env := by rfl) (hpl : (backTo pos (starEach [] X.env)).any (·.1) = false := by rfl) :
    JE X W (.Call (.Name "len" p) [.Name x px] [] pos) (mScrLen i) := by
  refine ⟨fun {pins s σ F h hx H ρ Φ Ξ} at_ q x => (pe_callB o_len hg hm bt_len (pa_cons (pe_var hN hv hd hcd) pa_nil hs) (by decide) (by decide) hs hpl).run _ _ _ _ _ at_.i ?_⟩
  obtain ⟨ns, e, q⟩ := q
  obtain ⟨a, hv, hq⟩ := scr_at at_.e e
  refine ⟨_, hv, ?_⟩
  refine kLen_L (L2.Same.seq at_.s.f hq) ?_
  rw [List.length_map]
  exact postE_fz (Same.refl _) at_.s at_.e (.int _) q
end
/-! contracts that were proved over heaps -/
theorem FnG.toX {P : Program} {w : World} {K : PySem.W.Frag} {mg : Str → Option Value} {base : Heap} {k : Nat} {f : Addr} {fd : FuncData} {ps : List Str} {sp sp' : Sp} (G : FnG P w K mg base CX0 k f fd ps sp)
    (h : ∀ vs H Q E, sp' vs H Q E → sp vs H Q E) : FnG P w K mg base (L2.CX P w) k f fd ps sp' := by
  refine ⟨fun vs H Q E q => G.len _ _ _ _ (h _ _ _ _ q), fun A outer s H args us vs Q E hg hr e0 hb hv q => ?_⟩
  refine codeAny_mono (G.run A outer s H args us vs Q E hg hr e0 hb hv (h _ _ _ _ q)) ?_
  rintro (er | fl) s' hq
  · exact (show False from hq).elim
  · cases fl <;> exact hq
/-- back: a contract over trees that lets nothing out, for the end -/
theorem FnT.toG {P : Program} {w : World} {K : PySem.W.Frag} {mg : Str → Option Value} {base : Heap} {k : Nat} {f : Addr} {fd : FuncData} {ps : List Str} {pr : List Nat} {ts : TSp} {sp' : Sp} (G : FnT P w K mg base k f fd ps pr ts)
    (h : ∀ vs H Q E, sp' vs H Q E → spT K ps.length pr ts vs H Q (fun _ _ _ => False)) : FnG P w K mg base CX0 k f fd ps sp' := by
  refine ⟨fun vs H Q E q => G.len _ _ _ _ (h _ _ _ _ q), fun A outer s H args us vs Q E hg hr e0 hb hv q => ?_⟩
  refine codeAny_mono (G.run A outer s H args us vs Q (fun _ _ _ => False) hg hr e0 hb hv (h _ _ _ _ q)) ?_
  rintro (er | fl) s' hq
  · obtain ⟨_, _, _, _, _, _, _, _, _, _, _, _, z⟩ := hq
    exact z.elim
  · cases fl <;> exact hq
theorem sp3_grow {F h hx H H' : Hp} (s : Sp3 F h hx H) (e : Same H H') : Sp3 F h hx H' := ⟨s.f.trans e, s.o.trans e, s.x.trans e, s.fo, s.fx, s.ox⟩
/-- a draw -/
def S_law_draw : TSp := fun os Φ _ => ∃ n : Int, os = [.tok, .fz (.int n)] ∧ 0 < n ∧ n < 10 ^ 40 ∧ ∀ d : Int, 0 ≤ d → d < n → Φ (.fz (.int d)) []
def spDraw : Sp := fun vs H Q _ => ∃ p n, vs = [.ref p, .int n] ∧ H p = some (pot p) ∧ 0 < n ∧ n < 10 ^ 40 ∧ ∀ d H', L2.Same H H' → 0 ≤ d → d < n → Q (.int d) H'
theorem draw_sp {K : PySem.W.Frag} {vs : List V} {H : Hp} {Q : VK} {E : XK} (h : spT K 2 [] S_law_draw vs H Q E) : spDraw vs H Q E := by
  obtain ⟨F, h, hx, os, Φ, Ξ, hl, s, ow, ⟨n, rfl, h0, h1, q⟩, kQ, kE⟩ := h
  cases ow with
  | cons a b d =>
    cases a with
    | tok ha =>
      cases b with
      | cons b c d' =>
        cases c
        obtain ⟨rfl, r⟩ := own_emp b
        cases r
        refine ⟨_, n, rfl, s.f _ _ ha, h0, h1, fun z H' e z0 z1 => ?_⟩
        refine kQ _ _ ⟨.fz (.int z), [], F, emp, emp, Same.refl _, ?_, emp_dj, .nil, .fz (.int z), q z z0 z1⟩
        exact (sp3_grow s e).less (fun b o z => by cases z)
/-- a new pot -/
def S_law_pot : TSp := fun os Φ _ => ∃ (ns : List Int) (i : Int), os = [.scr ns, .fz (.int i)] ∧ 0 ≤ i ∧ i < 100 ∧ ns.length ≤ 63 ∧ Φ .tok []
def spPot (K : PySem.W.Frag) : Sp := fun vs H Q _ => ∃ a i, ∃ ns : List Int, vs = [.ref a, .int i] ∧ SqL K H a (ns.map V.int) ∧ 0 ≤ i ∧ i < 100 ∧ ns.length ≤ 63 ∧ ∀ p H', L2.Same H H' → H p = none → H' p = some (pot p) → Q (.ref p) H'
theorem pot_sp {K : PySem.W.Frag} {vs : List V} {H : Hp} {Q : VK} {E : XK} (h : spT K 2 [] S_law_pot vs H Q E) : spPot K vs H Q E := by
  obtain ⟨F, h, hx, os, Φ, Ξ, hl, s, ow, ⟨ns, i, rfl, h0, h1, h2, q⟩, kQ, kE⟩ := h
  cases ow with
  | cons a b d =>
    cases a with
    | scr ha =>
      cases b with
      | cons b c d' =>
        cases c
        obtain ⟨rfl, r⟩ := own_emp b
        cases r
        refine ⟨_, i, ns, rfl, L2.Same.seq s.f ha, h0, h1, h2, fun p H' e n hp => ?_⟩
        have s2 := sp3_grow s e
        refine kQ _ _ ⟨.tok, [], upd F p (pot p), emp, emp, same_upd' (s.f.free n), ?_, emp_dj, .nil, .tok upd_same, q⟩
        refine ⟨fun b o z => ?_, fun b o z => by (cases z), s2.x, fun b => .inr rfl, dj_upd s.fx (s.x.free n), fun b => .inl rfl⟩
        by_cases hb : b = p
        · subst hb; rw [upd_same] at z; cases z; exact hp
        · rw [upd_ne hb] at z; exact s2.f _ _ z
end T

/-! T12: the way through a reading: equations for a written environment. -/
namespace T
open PySem PySem.Spec PyProof.Rows L2 Z RZ
section
variable {o : O} {ρ : EnvT} {Φ : O → EnvT → Prop} {R : Bool → EnvT → Prop} {Ξ : Exn → EnvT → Prop} {ΦL : List O → EnvT → Prop} {D : TEnds} {i : Nat} {ma mb mc : TD} {ta tb : TB} {f g : D2} {ml : TL} {n : EnvT → Prop} {rt : O → EnvT → Prop} {ex : Exn → EnvT → Prop} {bk ct : EnvT → Prop} {m u : TSD} {Φp : O → Prop}
theorem ev_var : mVar i (o :: ρ) Φ Ξ = ∃ x, (o :: ρ)[i]? = some x ∧ shr x = true ∧ Φ x (o :: ρ) := rfl
theorem ev_mov : mMov i (o :: ρ) Φ Ξ = ∃ x, (o :: ρ)[i]? = some x ∧ x ≠ .un ∧ Φ x ((o :: ρ).set i .un) := rfl
theorem ev_c {d : PyData} : mC d (o :: ρ) Φ Ξ = Φ (.fz d) (o :: ρ) := rfl
theorem ev_frz : mFrz ma (o :: ρ) Φ Ξ = ma (o :: ρ) (fun o ρ' => ∃ d, fzO o = some d ∧ Φ (.fz d) ρ') Ξ := rfl
theorem ev_op : mOp f ma mb (o :: ρ) Φ Ξ = mFrz ma (o :: ρ) (fun x ρ1 => ∃ d, x = .fz d ∧ mFrz mb ρ1 (fun y ρ2 => ∃ e, y = .fz e ∧ f d e fun z => Φ z ρ2) Ξ) Ξ := rfl
theorem ev_un {h : PyData → (O → Prop) → Prop} : mUn h ma (o :: ρ) Φ Ξ = mFrz ma (o :: ρ) (fun x ρ1 => ∃ d, x = .fz d ∧ h d fun z => Φ z ρ1) Ξ := rfl
theorem ev_and : mAnd ma mb (o :: ρ) Φ Ξ = ma (o :: ρ) (fun x ρ1 => ∃ c, x = .fz (.bool c) ∧ if c = true then mb ρ1 Φ Ξ else Φ (.fz (.bool false)) ρ1) Ξ := rfl
theorem ev_or : mOr ma mb (o :: ρ) Φ Ξ = ma (o :: ρ) (fun x ρ1 => ∃ c, x = .fz (.bool c) ∧ if c = true then Φ (.fz (.bool true)) ρ1 else mb ρ1 Φ Ξ) Ξ := rfl
theorem ev_not : mNot ma (o :: ρ) Φ Ξ = ma (o :: ρ) (fun x ρ1 => ∃ c, x = .fz (.bool c) ∧ Φ (.fz (.bool (!c))) ρ1) Ξ := rfl
theorem ev_if : mIf ta ma mb (o :: ρ) Φ Ξ = ta (o :: ρ) (fun c ρ1 => if c = true then ma ρ1 Φ Ξ else mb ρ1 Φ Ξ) Ξ := rfl
theorem ev_chain : mChain f g ma mb mc (o :: ρ) Φ Ξ = mFrz ma (o :: ρ) (fun x ρ1 => ∃ d, x = .fz d ∧ mFrz mb ρ1 (fun y ρ2 => ∃ e, y = .fz e ∧ f d e fun z => ∃ k, z = .fz (.bool k) ∧ if k = true then
  mFrz mc ρ2 (fun v ρ3 => ∃ c, v = .fz c ∧ g e c fun z => Φ z ρ3) Ξ else Φ (.fz (.bool false)) ρ2) Ξ) Ξ := rfl
theorem ev_tval : tVal ma (o :: ρ) R Ξ = ma (o :: ρ) (fun x ρ1 => ∃ c, x = .fz (.bool c) ∧ R c ρ1) Ξ := rfl
theorem ev_tnt : tNt ta (o :: ρ) R Ξ = ta (o :: ρ) (fun c ρ1 => R (!c) ρ1) Ξ := rfl
theorem ev_tan : tAn ta tb (o :: ρ) R Ξ = ta (o :: ρ) (fun c ρ1 => if c = true then tb ρ1 R Ξ else R false ρ1) Ξ := rfl
theorem ev_tor : tOrr ta tb (o :: ρ) R Ξ = ta (o :: ρ) (fun c ρ1 => if c = true then R true ρ1 else tb ρ1 R Ξ) Ξ := rfl
theorem ev_nil : mNil (o :: ρ) ΦL Ξ = ΦL [] (o :: ρ) := rfl
theorem ev_cons : mCons ma ml (o :: ρ) ΦL Ξ = ma (o :: ρ) (fun x ρ1 => ml ρ1 (fun os ρ2 => ΦL (x :: os) ρ2) Ξ) Ξ := rfl
theorem ev_ls : mLs ml (o :: ρ) Φ Ξ = ml (o :: ρ) (fun os ρ1 => os.length ≤ 1000000 ∧ Φ (.lst os) ρ1) Ξ := rfl
theorem ev_tp : mTp ml (o :: ρ) Φ Ξ = ml (o :: ρ) (fun os ρ1 => os.length ≤ 1000000 ∧ ∃ ds, fzL os = some ds ∧ Φ (.fz (.tuple ds)) ρ1) Ξ := rfl
theorem ev_cb {h : List PyData → (O → Prop) → Prop} : mCB h ml (o :: ρ) Φ Ξ = ml (o :: ρ) (fun os ρ1 => ∃ ds, fzL os = some ds ∧ h ds fun z => Φ z ρ1) Ξ := rfl
theorem ev_isi {s : String} : mIsi s ma (o :: ρ) Φ Ξ = mFrz ma (o :: ρ) (fun x ρ1 => ∃ d, x = .fz d ∧ ∃ b, kitB (tyD d) s = some b ∧ Φ (.fz (.bool b)) ρ1) Ξ := rfl
theorem ev_sl {ml mh : TOp} : mSl ma ml mh (o :: ρ) Φ Ξ = mFrz ma (o :: ρ) (fun x ρ1 => ∃ d, x = .fz d ∧ ml ρ1 (fun lo ρ2 => mh ρ2 (fun hi ρ3 => slD d lo hi fun z => Φ z ρ3) Ξ) Ξ) Ξ := rfl
theorem ev_ono {P : Option Int → EnvT → Prop} : oNo (o :: ρ) P Ξ = P none (o :: ρ) := rfl
theorem ev_oso {P : Option Int → EnvT → Prop} : oSo ma (o :: ρ) P Ξ = ma (o :: ρ) (fun x ρ1 => ∃ i, x = .fz (.int i) ∧ P (some i) ρ1) Ξ := rfl
theorem ev_m1 {h : Str → List PyData → (O → Prop) → Prop} : mM1 h ma mb (o :: ρ) Φ Ξ = mFrz ma (o :: ρ) (fun x ρ1 => ∃ z, x = .fz (.str z) ∧ mFrz mb ρ1 (fun y ρ2 => ∃ d, y = .fz d ∧ h z [d] fun o => Φ o ρ2) Ξ) Ξ := rfl
theorem ev_m0 {h : Str → List PyData → (O → Prop) → Prop} : mM0 h ma (o :: ρ) Φ Ξ = mFrz ma (o :: ρ) (fun x ρ1 => ∃ z, x = .fz (.str z) ∧ h z [] fun o => Φ o ρ1) Ξ := rfl
theorem ev_call {ts : TSp} {ip : List Nat} : mCall ts ip ml (o :: ρ) Φ Ξ = ml (o :: ρ) (fun os ρ1 => (∀ i ∈ ip, ρ1[i]? = some .un) ∧ ts os (fun r outs => Φ r (putOut ip outs ρ1)) fun x outs => Ξ x (putOut ip outs ρ1)) Ξ := rfl
theorem ev_bor : mBor ma (o :: ρ) Φ Ξ = ma ((o :: ρ).map lent) (fun x _ => noMutO x = true ∧ Φ x (o :: ρ)) fun x _ => noMutL (x.fs.map (·.2)) = true ∧ Ξ x (o :: ρ) := rfl
theorem ev_tbor : tBor ta (o :: ρ) R Ξ = ta ((o :: ρ).map lent) (fun b _ => R b (o :: ρ)) fun x _ => noMutL (x.fs.map (·.2)) = true ∧ Ξ x (o :: ρ) := rfl
theorem ev_dnew : mDnew (o :: ρ) Φ Ξ = Φ (.dct []) (o :: ρ) := rfl
theorem ev_scrLen : mScrLen i (o :: ρ) Φ Ξ = ∃ ns : List Int, (o :: ρ)[i]? = some (.scr ns) ∧ Φ (.fz (.int (ns.length : Int))) (o :: ρ) := rfl
theorem ev_pop : mPop i (o :: ρ) Φ Ξ = ∃ os x, (o :: ρ)[i]? = some (.lst (os ++ [x])) ∧ Φ x ((o :: ρ).set i (.lst os)) := rfl
/-! statements -/
theorem ev_seq : sSeq m u D (o :: ρ) = m { nx := fun ρ1 => u D ρ1, rt := D.rt, ex := D.ex, bk := D.bk, ct := D.ct } (o :: ρ) := rfl
theorem ev_next : sNext D (o :: ρ) = D.nx (o :: ρ) := rfl
theorem ev_brk : sBrk D (o :: ρ) = D.bk (o :: ρ) := rfl
theorem ev_cnt : sCnt D (o :: ρ) = D.ct (o :: ρ) := rfl
theorem ev_ret : sRet ma D (o :: ρ) = ma (o :: ρ) (fun x ρ1 => D.rt x ρ1) D.ex := rfl
theorem ev_retN : sRetN D (o :: ρ) = D.rt (.fz .none) (o :: ρ) := rfl
theorem ev_drop : sDrop ma D (o :: ρ) = ma (o :: ρ) (fun _ ρ1 => D.nx ρ1) D.ex := rfl
theorem ev_sif : sIf ta m u D (o :: ρ) = ta (o :: ρ) (fun b ρ1 => if b = true then m D ρ1 else u D ρ1) D.ex := rfl
theorem ev_set : sSet i ma D (o :: ρ) = ma (o :: ρ) (fun x ρ1 => i < ρ1.length ∧ D.nx (ρ1.set i x)) D.ex := rfl
theorem ev_asg {mg : TGD} : sAsg ma mg D (o :: ρ) = mFrz ma (o :: ρ) (fun x ρ1 => ∃ d, x = .fz d ∧ mg d ρ1 fun ρ2 => D.nx ρ2) D.ex := rfl
theorem ev_par {i j : Nat} : sPar i j ml D (o :: ρ) = ml (o :: ρ) (fun os ρ1 => ∃ o1 o2, os = [o1, o2] ∧ i < ρ1.length ∧ j < ρ1.length ∧ D.nx ((ρ1.set i o1).set j o2)) D.ex := rfl
theorem ev_par3 {i j l : Nat} : sPar3 i j l ml D (o :: ρ) = ml (o :: ρ) (fun os ρ1 => ∃ o1 o2 o3, os = [o1, o2, o3] ∧ i < ρ1.length ∧ j < ρ1.length ∧ l < ρ1.length ∧ D.nx (((ρ1.set i o1).set j o2).set l o3)) D.ex := rfl
theorem ev_aug {h : Int → Int → Int} : sAug i h ma D (o :: ρ) = ∃ x, (o :: ρ)[i]? = some (.fz (.int x)) ∧ ma (o :: ρ) (fun o ρ1 => ∃ y, o = .fz (.int y) ∧ D.nx (ρ1.set i (.fz (.int (h x y))))) D.ex := rfl
theorem ev_app : sApp i ma D (o :: ρ) = ((∃ os, (o :: ρ)[i]? = some (.lst os)) ∧ ma (o :: ρ) (fun x ρ1 => ∃ os, ρ1[i]? = some (.lst os) ∧ os.length ≤ 100000 ∧ D.nx (ρ1.set i (.lst (os ++ [x])))) D.ex) := rfl
theorem ev_sfrz : sFrz i m D (o :: ρ) = ∃ x d, (o :: ρ)[i]? = some x ∧ fzO x = some d ∧ m D ((o :: ρ).set i (.fz d)) := rfl
theorem ev_then : sThenFrz i m D (o :: ρ) = m { nx := fun ρ1 => frzAt i ρ1 D.nx, rt := D.rt, ex := D.ex, bk := D.bk, ct := D.ct } (o :: ρ) := rfl
theorem ev_frzAt {P : EnvT → Prop} : frzAt i (o :: ρ) P = ∃ x d, (o :: ρ)[i]? = some x ∧ fzO x = some d ∧ P ((o :: ρ).set i (.fz d)) := rfl
theorem ev_match {mm : TM} : sMatch ma mm D (o :: ρ) = mFrz ma (o :: ρ) (fun x ρ1 => ∃ z, x = .fz (.str z) ∧ mm z D ρ1) D.ex := rfl
theorem ev_mmVal {c z : Str} {mm : TM} : mmVal c m mm z D (o :: ρ) = if decide (z = c) = true then m D (o :: ρ) else mm z D (o :: ρ) := rfl
theorem ev_mmAny {z : Str} : mmAny m z D (o :: ρ) = m D (o :: ρ) := rfl
theorem ev_mmNil {z : Str} : mmNil z D (o :: ρ) = D.nx (o :: ρ) := rfl
theorem ev_gN {d : PyData} {P : EnvT → Prop} : gN i d (o :: ρ) P = P ((o :: ρ).set i (.fz d)) := rfl
theorem ev_gT {k : Nat} {ms : TGL} {ds : List PyData} {P : EnvT → Prop} : gT k ms (.tuple ds) (o :: ρ) P = (ds.length = k ∧ ms ds (o :: ρ) P) := by
  unfold gT
  exact propext ⟨fun ⟨x, e, h⟩ => by cases e; exact h, fun h => ⟨ds, rfl, h⟩⟩
theorem ev_gLc {mg : TGD} {ms : TGL} {d : PyData} {ds : List PyData} {P : EnvT → Prop} : gLc mg ms (d :: ds) (o :: ρ) P = mg d (o :: ρ) fun ρ1 => ms ds ρ1 P := by
  unfold gLc
  exact propext ⟨fun ⟨x, r, e, h⟩ => by cases e; exact h, fun h => ⟨d, ds, rfl, h⟩⟩
theorem ev_gL0 {P : EnvT → Prop} : gL0 [] (o :: ρ) P = P (o :: ρ) := by
  unfold gL0
  exact propext ⟨fun h => h.2, fun h => ⟨rfl, h⟩⟩
/-! operations -/
theorem ev_addI {a b : Int} : addD (.int a) (.int b) Φp = Φp (.fz (.int (a + b))) := rfl
theorem ev_addS {a b : Str} : addD (.str a) (.str b) Φp = (a.length + b.length ≤ 1000000 ∧ Φp (.fz (.str (a ++ b)))) := rfl
theorem ev_addL {a b : List PyData} : addD (.list a) (.list b) Φp = (a.length + b.length ≤ 1000000 ∧ Φp (.lst ((a ++ b).map .fz))) := rfl
theorem ev_addT {a b : List PyData} : addD (.tuple a) (.tuple b) Φp = (a.length + b.length ≤ 1000000 ∧ Φp (.fz (.tuple (a ++ b)))) := rfl
theorem ev_subI {a b : Int} : subD (.int a) (.int b) Φp = Φp (.fz (.int (a - b))) := rfl
theorem ev_mulI {a b : Int} : mulD (.int a) (.int b) Φp = (CMul a b ∧ Φp (.fz (.int (a * b)))) := rfl
theorem ev_mulL {a : List PyData} {b : Int} : mulD (.list a) (.int b) Φp = (0 ≤ b ∧ b ≤ 1000 ∧ a.length * b.toNat ≤ 1000000 ∧ Φp (.lst ((List.replicate b.toNat a).flatten.map .fz))) := rfl
theorem ev_modI {a b : Int} : modD (.int a) (.int b) Φp = (0 < b ∧ Φp (.fz (.int (a % b)))) := rfl
theorem ev_divI {a b : Int} : divD (.int a) (.int b) Φp = (0 < b ∧ b < 1073741824 ∧ Φp (.fz (.int (a / b)))) := rfl
theorem ev_powI {a b : Int} : powD (.int a) (.int b) Φp = (0 ≤ b ∧ b ≤ 1000 ∧ -(2 ^ 60) < a ∧ a < 2 ^ 60 ∧ Φp (.fz (.int (a ^ b.toNat)))) := rfl
theorem ev_negI {a : Int} : negD (.int a) Φp = Φp (.fz (.int (-a))) := rfl
theorem ev_ordI {p : Int → Int → Bool} {q : List Nat → List Nat → Bool} {a b : Int} : ordD p q (.int a) (.int b) Φp = Φp (.fz (.bool (p a b))) := rfl
theorem ev_ordS {p : Int → Int → Bool} {q : List Nat → List Nat → Bool} {a b : Str} : ordD p q (.str a) (.str b) Φp = Φp (.fz (.bool (q a.cps.toList b.cps.toList))) := rfl
theorem ev_eqI {a b : Int} : eqD false (.int a) (.int b) Φp = Φp (.fz (.bool (decide (a = b)))) := by
  unfold eqD
  exact propext ⟨fun ⟨x, e, h⟩ => by cases e; exact h, fun h => ⟨_, rfl, h⟩⟩
theorem ev_eqS {a b : Str} : eqD false (.str a) (.str b) Φp = Φp (.fz (.bool (decide (a = b)))) := by
  unfold eqD
  exact propext ⟨fun ⟨x, e, h⟩ => by cases e; exact h, fun h => ⟨_, rfl, h⟩⟩
theorem ev_eqT0 {a : List PyData} : eqD false (.tuple a) (.tuple []) Φp = Φp (.fz (.bool a.isEmpty)) := by
  unfold eqD
  exact propext ⟨fun ⟨x, e, h⟩ => by cases e; exact h, fun h => ⟨_, rfl, h⟩⟩
theorem ev_neI {a b : Int} : neD (.int a) (.int b) Φp = Φp (.fz (.bool (!decide (a = b)))) := by
  unfold neD
  exact propext ⟨fun ⟨x, e, h⟩ => by cases e; exact h, fun h => ⟨_, rfl, h⟩⟩
theorem ev_neS {a b : Str} : neD (.str a) (.str b) Φp = Φp (.fz (.bool (!decide (a = b)))) := by
  unfold neD
  exact propext ⟨fun ⟨x, e, h⟩ => by cases e; exact h, fun h => ⟨_, rfl, h⟩⟩
theorem ev_isN {d : PyData} : isND false d .none Φp = Φp (.fz (.bool (isNo d))) := propext ⟨fun h => h.2, fun h => ⟨rfl, h⟩⟩
theorem ev_notN {d : PyData} : isND true d .none Φp = Φp (.fz (.bool (!isNo d))) := propext ⟨fun h => h.2, fun h => ⟨rfl, h⟩⟩
theorem ev_isB {a b : Bool} : isBD false (.bool a) (.bool b) Φp = Φp (.fz (.bool (decide (a = b)))) := rfl
theorem ev_notB {a b : Bool} : isBD true (.bool a) (.bool b) Φp = Φp (.fz (.bool (!decide (a = b)))) := rfl
theorem ev_in1 {c : Nat} {z : Str} : inD false (.str (one c)) (.str z) Φp = Φp (.fz (.bool (decide (c ∈ z.cps.toList)))) := by
  unfold inD
  have e : inB (.str (one c)) (.str z) = some (decide (c ∈ z.cps.toList)) := by unfold inB; simp [one]
  exact propext ⟨fun ⟨x, e', h⟩ => by rw [e] at e'; cases e'; exact h, fun h => ⟨_, e, h⟩⟩
theorem ev_notIn1 {c : Nat} {z : Str} : inD true (.str (one c)) (.str z) Φp = Φp (.fz (.bool (!decide (c ∈ z.cps.toList)))) := by
  unfold inD
  have e : inB (.str (one c)) (.str z) = some (decide (c ∈ z.cps.toList)) := by unfold inB; simp [one]
  exact propext ⟨fun ⟨x, e', h⟩ => by rw [e] at e'; cases e'; exact h, fun h => ⟨_, e, h⟩⟩
theorem flats_strs : ∀ us : List Str, flats (us.map .str) = some (us.map V.str)
  | [] => by unfold flats; rfl
  | z :: us => by rw [List.map_cons]; unfold flats; rw [flats_strs us]; rfl
theorem inB_L {z : Str} {us : List Str} : inB (.str z) (.list (us.map .str)) = some (decide (z ∈ us)) := by
  show (match flat1 (.str z), flats (us.map .str) with
    | some x, some ys => some (inV x ys)
    | _, _ => none) = _
  rw [flats_strs]
  show some (inV (.str z) (us.map V.str)) = _
  rw [inV_str]
theorem inB_T {z : Str} {us : List Str} : inB (.str z) (.tuple (us.map .str)) = some (decide (z ∈ us)) := by
  show (match flat1 (.str z), flats (us.map .str) with
    | some x, some ys => some (inV x ys)
    | _, _ => none) = _
  rw [flats_strs]
  show some (inV (.str z) (us.map V.str)) = _
  rw [inV_str]
theorem ev_inL {z : Str} {us : List Str} : inD false (.str z) (.list (us.map .str)) Φp = Φp (.fz (.bool (decide (z ∈ us)))) := propext ⟨fun ⟨x, e', h⟩ => by rw [inB_L] at e'; cases e'; exact h, fun h => ⟨_, inB_L, h⟩⟩
theorem ev_notInL {z : Str} {us : List Str} : inD true (.str z) (.list (us.map .str)) Φp = Φp (.fz (.bool (!decide (z ∈ us)))) := propext ⟨fun ⟨x, e', h⟩ => by rw [inB_L] at e'; cases e'; exact h, fun h => ⟨_, inB_L, h⟩⟩
theorem ev_inT {z : Str} {us : List Str} : inD false (.str z) (.tuple (us.map .str)) Φp = Φp (.fz (.bool (decide (z ∈ us)))) := propext ⟨fun ⟨x, e', h⟩ => by rw [inB_T] at e'; cases e'; exact h, fun h => ⟨_, inB_T, h⟩⟩
theorem ev_len {d : PyData} {k : Nat} (h : lenB d = some k) : lenD [d] Φp = Φp (.fz (.int (k : Int))) := by
  unfold lenD
  exact propext ⟨fun ⟨d', n, e, hn, q⟩ => by cases e; rw [h] at hn; cases hn; exact q, fun q => ⟨d, k, rfl, h, q⟩⟩
theorem ev_lenL {ds : List PyData} : lenD [.list ds] Φp = Φp (.fz (.int (ds.length : Int))) := ev_len rfl
theorem ev_lenT {ds : List PyData} : lenD [.tuple ds] Φp = Φp (.fz (.int (ds.length : Int))) := ev_len rfl
theorem ev_lenS {z : Str} : lenD [.str z] Φp = (z.length ≤ 1000000 ∧ Φp (.fz (.int (z.length : Int)))) := by
  by_cases h : z.length ≤ 1000000
  · rw [ev_len (k := z.length) (by unfold lenB; exact if_pos h)]
    exact propext ⟨fun q => ⟨h, q⟩, fun q => q.2⟩
  · unfold lenD
    refine propext ⟨fun ⟨d', n, e, hn, q⟩ => ?_, fun q => absurd q.1 h⟩
    cases e
    have hn : (if z.length ≤ 1000000 then some z.length else none) = some n := hn
    rw [if_neg h] at hn; cases hn
theorem ev_max {a b : Int} : maxD [.int a, .int b] Φp = Φp (.fz (.int (if b > a then b else a))) := propext ⟨fun ⟨x, y, e, h⟩ => by cases e; exact h, fun h => ⟨_, _, rfl, h⟩⟩
theorem ev_min {a b : Int} : minD [.int a, .int b] Φp = Φp (.fz (.int (if b < a then b else a))) := propext ⟨fun ⟨x, y, e, h⟩ => by cases e; exact h, fun h => ⟨_, _, rfl, h⟩⟩
theorem ev_listL {ds : List PyData} : listD [.list ds] Φp = Φp (.lst (ds.map .fz)) := propext ⟨fun ⟨x, e, h⟩ => by rcases e with e | e <;> cases e; exact h, fun h => ⟨_, .inl rfl, h⟩⟩
theorem ev_listT {ds : List PyData} : listD [.tuple ds] Φp = Φp (.lst (ds.map .fz)) := propext ⟨fun ⟨x, e, h⟩ => by rcases e with e | e <;> cases e; exact h, fun h => ⟨_, .inr rfl, h⟩⟩
theorem ev_tupleL {ds : List PyData} : tupleD [.list ds] Φp = Φp (.fz (.tuple ds)) := propext ⟨fun ⟨x, e, h⟩ => by rcases e with e | e <;> cases e; exact h, fun h => ⟨_, .inl rfl, h⟩⟩
theorem ev_tupleT {ds : List PyData} : tupleD [.tuple ds] Φp = Φp (.fz (.tuple ds)) := propext ⟨fun ⟨x, e, h⟩ => by rcases e with e | e <;> cases e; exact h, fun h => ⟨_, .inr rfl, h⟩⟩
theorem ev_all {bs : List Bool} : allD [.list (bs.map .bool)] Φp = Φp (.fz (.bool (bs.all id))) := by
  refine propext ⟨fun ⟨x, e, h⟩ => ?_, fun h => ⟨bs, rfl, h⟩⟩
  have inj : ∀ {a b : List Bool}, a.map PyData.bool = b.map PyData.bool → a = b := fun {a b} h => (List.map_inj_right (fun x y z => by cases z; rfl)).mp h
  injection e with e1 _
  injection e1 with e2
  rw [inj e2]; exact h
theorem fz_fz {d : PyData} : fzO (.fz d) = some d := by unfold fzO; rfl
theorem fz_nil : fzL [] = some [] := by unfold fzL; rfl
theorem fz_cons {x : O} {xs : List O} {d : PyData} {ds : List PyData} (h : fzO x = some d) (h2 : fzL xs = some ds) : fzL (x :: xs) = some (d :: ds) := by unfold fzL; rw [h, h2]
theorem fz_consF {xs : List O} {d : PyData} : fzL (.fz d :: xs) = (fzL xs).map (d :: ·) := by
  conv => lhs; unfold fzL
  rw [fz_fz]
  cases fzL xs <;> rfl
theorem fz_lst {xs : List O} : fzO (.lst xs) = (fzL xs).map .list := by conv => lhs; unfold fzO
theorem fz_dct0 : fzO (.dct []) = some (.dict []) := by unfold fzO fzK; rfl
theorem len_fz {d : PyData} : lent (.fz d) = .fz d := by unfold lent; rfl
theorem len_tok : lent .tok = .tok := by unfold lent; rfl
theorem len_un : lent .un = .un := by unfold lent; rfl
theorem len_lst {ds : List PyData} : lent (.lst (ds.map .fz)) = .fz (.list ds) := lent_some fzO_lst
end
end T

/-! T13: types; comprehensions and loops by what they give; ends. -/
namespace T
open PySem PySem.Spec PyProof.Rows L2 Z RZ
theorem kt_NoneType_str : kitB "NoneType" "str" = some false := by decide +kernel
theorem kt_NoneType_int : kitB "NoneType" "int" = some false := by decide +kernel
theorem kt_NoneType_bool : kitB "NoneType" "bool" = some false := by decide +kernel
theorem kt_NoneType_tuple : kitB "NoneType" "tuple" = some false := by decide +kernel
theorem kt_NoneType_list : kitB "NoneType" "list" = some false := by decide +kernel
theorem kt_NoneType_dict : kitB "NoneType" "dict" = some false := by decide +kernel
theorem kt_bool_str : kitB "bool" "str" = some false := by decide +kernel
theorem kt_bool_int : kitB "bool" "int" = some true := by decide +kernel
theorem kt_bool_bool : kitB "bool" "bool" = some true := by decide +kernel
theorem kt_bool_tuple : kitB "bool" "tuple" = some false := by decide +kernel
theorem kt_bool_list : kitB "bool" "list" = some false := by decide +kernel
theorem kt_bool_dict : kitB "bool" "dict" = some false := by decide +kernel
theorem kt_int_str : kitB "int" "str" = some false := by decide +kernel
theorem kt_int_int : kitB "int" "int" = some true := by decide +kernel
theorem kt_int_bool : kitB "int" "bool" = some false := by decide +kernel
theorem kt_int_tuple : kitB "int" "tuple" = some false := by decide +kernel
theorem kt_int_list : kitB "int" "list" = some false := by decide +kernel
theorem kt_int_dict : kitB "int" "dict" = some false := by decide +kernel
theorem kt_str_str : kitB "str" "str" = some true := by decide +kernel
theorem kt_str_int : kitB "str" "int" = some false := by decide +kernel
theorem kt_str_bool : kitB "str" "bool" = some false := by decide +kernel
theorem kt_str_tuple : kitB "str" "tuple" = some false := by decide +kernel
theorem kt_str_list : kitB "str" "list" = some false := by decide +kernel
theorem kt_str_dict : kitB "str" "dict" = some false := by decide +kernel
theorem kt_list_str : kitB "list" "str" = some false := by decide +kernel
theorem kt_list_int : kitB "list" "int" = some false := by decide +kernel
theorem kt_list_bool : kitB "list" "bool" = some false := by decide +kernel
theorem kt_list_tuple : kitB "list" "tuple" = some false := by decide +kernel
theorem kt_list_list : kitB "list" "list" = some true := by decide +kernel
theorem kt_list_dict : kitB "list" "dict" = some false := by decide +kernel
theorem kt_tuple_str : kitB "tuple" "str" = some false := by decide +kernel
theorem kt_tuple_int : kitB "tuple" "int" = some false := by decide +kernel
theorem kt_tuple_bool : kitB "tuple" "bool" = some false := by decide +kernel
theorem kt_tuple_tuple : kitB "tuple" "tuple" = some true := by decide +kernel
theorem kt_tuple_list : kitB "tuple" "list" = some false := by decide +kernel
theorem kt_tuple_dict : kitB "tuple" "dict" = some false := by decide +kernel
theorem kt_dict_str : kitB "dict" "str" = some false := by decide +kernel
theorem kt_dict_int : kitB "dict" "int" = some false := by decide +kernel
theorem kt_dict_bool : kitB "dict" "bool" = some false := by decide +kernel
theorem kt_dict_tuple : kitB "dict" "tuple" = some false := by decide +kernel
theorem kt_dict_list : kitB "dict" "list" = some false := by decide +kernel
theorem kt_dict_dict : kitB "dict" "dict" = some true := by decide +kernel
section
variable {o : O} {ρ : EnvT} {Φ : O → EnvT → Prop} {Ξ : Exn → EnvT → Prop} {ΦL : List O → EnvT → Prop} {D : TEnds} {i : Nat} {ma mb mc : TD} {ml : TL} {sl : List Nat} {mg : TGD} {mt : TB} {me : TD} {mi : TID} {items : List PyData} {m : TSD} {Φp : O → Prop} {P : List PyData → EnvT → Prop}
theorem ev_lc : mLc mi sl mg mt me (o :: ρ) Φ Ξ = mi (o :: ρ) (fun items ρ1 => (∀ i ∈ sl, ρ1[i]? = some .un) ∧ mGo sl mg mt me (fun acc ρ2 => Φ (.lst acc) ρ2) items [] ρ1) Ξ := rfl
theorem ev_tys {R : Bool → EnvT → Prop} {Ξ : Exn → EnvT → Prop} : tYs (o :: ρ) R Ξ = R true (o :: ρ) := rfl
theorem ev_turn {x : PyData} {acc : List O} {N : List O → EnvT → Prop} : mTurn sl mg mt me x acc (o :: ρ) N = mg x (o :: ρ) fun ρ1 => mt ρ1 (fun b ρ2 => if b = true then me ρ2 (fun o ρ3 => acc.length < 100000 ∧ N (acc ++ [o]) (wipeE ρ3 sl)) (fun _ _ => False) else N acc (wipeE ρ2 sl)) (fun _ _ => False) := rfl
theorem ev_iS : iS ma (o :: ρ) P Ξ = mFrz ma (o :: ρ) (fun x ρ1 => ∃ z, x = .fz (.str z) ∧ P (sgD z) ρ1) Ξ := rfl
theorem ev_iL : iL ma (o :: ρ) P Ξ = mFrz ma (o :: ρ) (fun x ρ1 => ∃ ds, x = .fz (.list ds) ∧ P ds ρ1) Ξ := rfl
theorem ev_iT : iT ma (o :: ρ) P Ξ = mFrz ma (o :: ρ) (fun x ρ1 => ∃ ds, x = .fz (.tuple ds) ∧ P ds ρ1) Ξ := rfl
theorem ev_iR1 : iR1 ml (o :: ρ) P Ξ = ml (o :: ρ) (fun os ρ1 => ∃ j, os = [.fz (.int j)] ∧ -1000000 ≤ j ∧ j ≤ 1000000 ∧ P (rngD 0 j.toNat) ρ1) Ξ := rfl
theorem ev_iR2 : iR2 ml (o :: ρ) P Ξ = ml (o :: ρ) (fun os ρ1 => ∃ i j, os = [.fz (.int i), .fz (.int j)] ∧ -1000000 ≤ i ∧ i ≤ 1000000 ∧ -1000000 ≤ j ∧ j ≤ 1000000 ∧ P (rngD i (j - i).toNat) ρ1) Ξ := rfl
theorem ev_iEn : iEn ml (o :: ρ) P Ξ = ml (o :: ρ) (fun os ρ1 => ∃ ds, fzL os = some [.list ds] ∧ P (enD ds) ρ1) Ξ := rfl
theorem ev_iZL : iZL ml (o :: ρ) P Ξ = ml (o :: ρ) (fun os ρ1 => ∃ as bs, fzL os = some [.list as, .list bs] ∧ as.length = bs.length ∧ P (zpD as bs) ρ1) Ξ := rfl
theorem ev_iZT : iZT ml (o :: ρ) P Ξ = ml (o :: ρ) (fun os ρ1 => ∃ as bs, fzL os = some [.tuple as, .tuple bs] ∧ as.length = bs.length ∧ P (zpD as bs) ρ1) Ξ := rfl
theorem ev_iZS : iZS ml (o :: ρ) P Ξ = ml (o :: ρ) (fun os ρ1 => ∃ z bs, fzL os = some [.str z, .tuple bs] ∧ z.cps.all (· < 128) = true ∧ z.length = bs.length ∧ P (zpD (sgD z) bs) ρ1) Ξ := rfl
theorem ev_for : sFor mi mg m D (o :: ρ) = mi (o :: ρ) (fun items ρ1 => sForGo mg m D items ρ1) D.ex := rfl
theorem wipeE_nil : wipeE ρ [] = ρ := rfl
theorem wipeE_cons {v : Nat} {vs : List Nat} : wipeE ρ (v :: vs) = (wipeE ρ vs).set v .un := rfl
theorem fin_rt {pr : List Nat} {Φ : O → List O → Prop} {Ξ : Exn → List O → Prop} {x : O} : (fin pr Φ Ξ).rt x ρ = Φ x (outs pr ρ) := rfl
theorem fin_nx {pr : List Nat} {Φ : O → List O → Prop} {Ξ : Exn → List O → Prop} : (fin pr Φ Ξ).nx ρ = Φ (.fz .none) (outs pr ρ) := rfl
theorem fin_ex {pr : List Nat} {Φ : O → List O → Prop} {Ξ : Exn → List O → Prop} {x : Exn} : (fin pr Φ Ξ).ex x ρ = Ξ x (outs pr ρ) := rfl
theorem outs_nil : outs [] ρ = [] := rfl
theorem outs_cons {j : Nat} {pr : List Nat} : outs (j :: pr) ρ = ρ.getD j .un :: outs pr ρ := rfl
theorem getD_0 : (o :: ρ).getD 0 .un = o := rfl
theorem getD_s {j : Nat} : (o :: ρ).getD (j + 1) .un = ρ.getD j .un := by simp [List.getD]
theorem flat_one1 {α β : Type} (f : α → β) : ∀ l : List α, l.flatMap (fun x => [f x]) = l.map f
  | [] => rfl
  | a :: r => by rw [List.flatMap_cons, List.map_cons, flat_one1 f r]; rfl
/-- a comprehension whose turns give what sel says, the environment as it was -/
theorem go_sel (sel : PyData → List O) (hn : ∀ x ∈ items, (sel x).length ≤ 1) (hl : items.length ≤ 100000) (h : ∀ x ∈ items, ∀ acc N, acc.length < 100000 → N (acc ++ sel x) ρ → mTurn sl mg mt me x acc ρ N) (k : ΦL (items.flatMap sel) ρ) : mGo sl mg mt me ΦL items [] ρ := by
  have key : ∀ (xs : List PyData) (acc : List O), (∀ x ∈ xs, x ∈ items) → acc.length + xs.length ≤ 100000 → ΦL (acc ++ xs.flatMap sel) ρ → mGo sl mg mt me ΦL xs acc ρ := by
    intro xs
    induction xs with
    | nil => intro acc _ _ q; rw [List.flatMap_nil, List.append_nil] at q; exact q
    | cons x xs ih =>
      intro acc hm hl q
      show mTurn sl mg mt me x acc ρ (mGo sl mg mt me ΦL xs)
      have hx := hm x List.mem_cons_self
      refine h x hx acc _ (by simp only [List.length_cons] at hl; omega) ?_
      refine ih _ (fun y hy => hm y (List.mem_cons_of_mem _ hy)) ?_ ?_
      · have := hn x hx
        rw [List.length_append]; simp only [List.length_cons] at hl; omega
      · rw [List.flatMap_cons, ← List.append_assoc] at q; exact q
  exact key items [] (fun _ h => h) (by simpa using hl) (by simpa using k)
theorem go_map (f : PyData → O) (hl : items.length ≤ 100000) (h : ∀ x ∈ items, ∀ acc N, acc.length < 100000 → N (acc ++ [f x]) ρ → mTurn sl mg mt me x acc ρ N) (k : ΦL (items.map f) ρ) : mGo sl mg mt me ΦL items [] ρ := by
  refine go_sel (fun x => [f x]) (fun _ _ => Nat.le_refl _) hl h ?_
  rw [flat_one1]; exact k
/-- .. by an invariant of what was made, the environment as it was -/
theorem go_inv (P : Nat → List O → Prop) (h0 : P 0 []) (h : ∀ i x acc N, items[i]? = some x → P i acc → (∀ acc', P (i + 1) acc' → N acc' ρ) → mTurn sl mg mt me x acc ρ N) (k : ∀ acc, P items.length acc → ΦL acc ρ) : mGo sl mg mt me ΦL items [] ρ := by
  have key : ∀ (n : Nat) (xs : List PyData) (acc : List O), items.drop n = xs → n ≤ items.length → P n acc → mGo sl mg mt me ΦL xs acc ρ := by
    intro n xs
    induction xs generalizing n with
    | nil =>
      intro acc hd hn p
      have : n = items.length := by have := List.drop_eq_nil_iff.mp hd; omega
      subst this
      exact k acc p
    | cons x xs ih =>
      intro acc hd hn p
      have hx : items[n]? = some x := by
        have := congrArg (fun l => l[0]?) hd
        simpa using this
      have hlt := (List.getElem?_eq_some_iff.mp hx).1
      refine h n x acc _ hx p fun acc' p' => ih (n + 1) acc' ?_ hlt p'
      rw [← List.drop_drop, hd]; rfl
  exact key 0 items [] rfl (Nat.zero_le _) h0
/-- a for loop by an invariant -/
theorem for_inv (P : Nat → EnvT → Prop) (h0 : P 0 ρ) (h : ∀ i x ρ (N : EnvT → Prop), items[i]? = some x → P i ρ → (∀ ρ', P (i + 1) ρ' → N ρ') → mg x ρ fun ρ1 => m { nx := N, rt := D.rt, ex := D.ex, bk := D.nx, ct := N } ρ1) (k : ∀ ρ, P items.length ρ → D.nx ρ) : sForGo mg m D items ρ := by
  have key : ∀ (xs : List PyData) (n : Nat) (ρ : EnvT), items.drop n = xs → n ≤ items.length → P n ρ → sForGo mg m D xs ρ := by
    intro xs
    induction xs with
    | nil =>
      intro n ρ hd hn p
      have : n = items.length := by have := List.drop_eq_nil_iff.mp hd; omega
      subst this
      exact k ρ p
    | cons x xs ih =>
      intro n ρ hd hn p
      have hx : items[n]? = some x := by
        have := congrArg (fun l => l[0]?) hd
        simpa using this
      have hlt := (List.getElem?_eq_some_iff.mp hx).1
      exact h n x ρ _ hx p fun ρ' p' => ih (n + 1) ρ' (by rw [← List.drop_drop, hd]; rfl) hlt p'
  exact key items 0 ρ rfl (Nat.zero_le _) h0
theorem fzL_mapf {α : Type} (f : α → PyData) : ∀ l : List α, fzL (l.map fun x => .fz (f x)) = some (l.map f)
  | [] => by unfold fzL; rfl
  | a :: r => by rw [List.map_cons, fz_consF, fzL_mapf f r]; rfl
theorem ev_allf {α : Type} (p : α → Bool) (l : List α) : allD [.list (l.map fun x => .bool (p x))] Φp = Φp (.fz (.bool (l.all p))) := by
  have e : (l.map fun x => PyData.bool (p x)) = (l.map p).map .bool := by rw [List.map_map]; rfl
  rw [e, ev_all, List.all_map]; rfl
theorem ev_repr {d : PyData} : reprD [d] Φp = (d.showable = true ∧ d.shown.length ≤ 1000000 ∧ d.depth ≤ 40 ∧ Φp (.fz (.str d.shown))) := propext ⟨fun ⟨x, e, h⟩ => by cases e; exact h, fun h => ⟨d, rfl, h⟩⟩
theorem ev_abs {a : Int} : absD [.int a] Φp = Φp (.fz (.int (if a < 0 then -a else a))) := propext ⟨fun ⟨x, e, h⟩ => by cases e; exact h, fun h => ⟨_, rfl, h⟩⟩
theorem ev_eqG {d e : PyData} {b : Bool} (h : eqB d e = some b) : eqD false d e Φp = Φp (.fz (.bool b)) := by
  unfold eqD
  exact propext ⟨fun ⟨x, e', q⟩ => by rw [h] at e'; cases e'; exact q, fun q => ⟨_, h, q⟩⟩
theorem ev_ixL {ds : List PyData} {k : Int} : ixD (.list ds) (.int k) Φp = ∃ d, atI ds k = some d ∧ Φp (.fz d) := rfl
theorem ev_ixT {ds : List PyData} {k : Int} : ixD (.tuple ds) (.int k) Φp = ∃ d, atI ds k = some d ∧ Φp (.fz d) := rfl
theorem ev_ixS {z : Str} {k : Int} : ixD (.str z) (.int k) Φp = (z.length ≤ 1000000 ∧ ∃ c, atI z.cps.toList k = some c ∧ Φp (.fz (.str (one c)))) := rfl
theorem ev_slL {ds : List PyData} {lo hi : Option Int} : slD (.list ds) lo hi Φp = Φp (.lst ((cutD ds lo hi).map .fz)) := rfl
theorem ev_slT {ds : List PyData} {lo hi : Option Int} : slD (.tuple ds) lo hi Φp = Φp (.fz (.tuple (cutD ds lo hi))) := rfl
theorem ev_slS {z : Str} {lo hi : Option Int} : slD (.str z) lo hi Φp = (z.length ≤ 1000000 ∧ Φp (.fz (.str (cutS z lo hi)))) := rfl
theorem at_0 {α : Type} {x : α} {l : List α} : atI (x :: l) 0 = some x := by simp [atI, ixN]
theorem at_ok {α : Type} {l : List α} {k : Int} (h0 : 0 ≤ k) (h1 : k < l.length) : ∃ x, atI l k = some x ∧ x ∈ l ∧ l[k.toNat]? = some x := by
  have hk : k.toNat < l.length := by omega
  refine ⟨l[k.toNat], ?_, List.getElem_mem hk, by simp [hk]⟩
  simp [atI, ixN, h0, h1, hk]
theorem cut_1 {x : PyData} {l : List PyData} : cutD (x :: l) (some 1) none = l := by simp [cutD, HT.sIx]
theorem go_selG {α : Type} {l : List α} {g : α → PyData} (sel : α → List O) (hn : ∀ x ∈ l, (sel x).length ≤ 1) (hl : l.length ≤ 100000) (h : ∀ x ∈ l, ∀ acc N, acc.length < 100000 → N (acc ++ sel x) ρ → mTurn sl mg mt me (g x) acc ρ N) (k : ΦL (l.flatMap sel) ρ) : mGo sl mg mt me ΦL (l.map g) [] ρ := by
  have key : ∀ (xs : List α) (acc : List O), (∀ x ∈ xs, x ∈ l) → acc.length + xs.length ≤ 100000 → ΦL (acc ++ xs.flatMap sel) ρ → mGo sl mg mt me ΦL (xs.map g) acc ρ := by
    intro xs
    induction xs with
    | nil => intro acc _ _ q; rw [List.flatMap_nil, List.append_nil] at q; exact q
    | cons x xs ih =>
      intro acc hm hl q
      show mTurn sl mg mt me (g x) acc ρ (mGo sl mg mt me ΦL (xs.map g))
      have hx := hm x List.mem_cons_self
      refine h x hx acc _ (by simp only [List.length_cons] at hl; omega) ?_
      refine ih _ (fun y hy => hm y (List.mem_cons_of_mem _ hy)) ?_ ?_
      · have := hn x hx
        rw [List.length_append]; simp only [List.length_cons] at hl; omega
      · rw [List.flatMap_cons, ← List.append_assoc] at q; exact q
  exact key l [] (fun _ h => h) (by simpa using hl) (by simpa using k)
theorem go_mapG {α : Type} {l : List α} {g : α → PyData} (f : α → O) (hl : l.length ≤ 100000) (h : ∀ x ∈ l, ∀ acc N, acc.length < 100000 → N (acc ++ [f x]) ρ → mTurn sl mg mt me (g x) acc ρ N) (k : ΦL (l.map f) ρ) : mGo sl mg mt me ΦL (l.map g) [] ρ := by
  refine go_selG (fun x => [f x]) (fun _ _ => Nat.le_refl _) hl h ?_
  rw [flat_one1]; exact k
theorem sgD_def {z : Str} : sgD z = z.cps.toList.map fun c => .str (one c) := rfl
end
end T

/-! T14: f-strings; own exceptions: their __init__, raise. -/
namespace T
open PySem PySem.Spec PyProof.Rows L2 Z RZ
section
variable {X : Cx} {W : WX} {pr : List Nat} {e a b c : Expr} {es rest : List Expr} {pos : Pos} {pl : List (Option Nat)} {ma mb mc : TD} {ml : TL} {st : Stmt} {sts : List Stmt} {m u : TSD} {i : Nat}
/-! f-strings -/
def fmtD (d : PyData) (k : Str → Prop) : Prop := match d with
  | .str y => y.length ≤ 1000000 ∧ k y
  | .int i => i.natAbs.log2 < 1920 ∧ k (toString i)
  | _ => False
def fmtRD (d : PyData) (k : Str → Prop) : Prop := match d with
  | .str y => (reprText y).length ≤ 1000000 ∧ k (reprText y)
  | .int i => i.natAbs.log2 < 1920 ∧ k (toString i)
  | _ => False
def mFmt (f : PyData → (Str → Prop) → Prop) (m : TD) : TD := fun ρ Φ Ξ => mFrz m ρ (fun o ρ1 => ∃ d, o = .fz d ∧ f d fun y => Φ (.fz (.str y)) ρ1) Ξ
theorem le_line {n : Nat} (h : n ≤ 1000000) : n ≤ sizeLine := by rw [sizeLine_eq]; omega
theorem je_fmt (ja : JE X W a ma) : JE X W (.FormattedValue a (-1) none pos) (mFmt fmtD ma) := by
  refine ⟨fun {pins s σ F h hx H ρ Φ Ξ} at_ q x => (pe_fmt pe_J).run _ _ _ _ _ at_.i ((je_frz ja).te at_.s at_.e q x fun v H1 p => ?_)⟩
  obtain ⟨d, ρ1, F1, h1, e1, s1, en1, r1, q1⟩ := fzE p
  cases r1 with
  | str y => exact .inl ⟨y, rfl, le_line q1.1, postE_fz e1 s1 en1 (.str y) q1.2⟩
  | int i => exact .inr ⟨i, rfl, q1.1, postE_fz e1 s1 en1 (.str _) q1.2⟩
  | _ => exact q1.elim
theorem je_fmtR (ja : JE X W a ma) : JE X W (.FormattedValue a 114 none pos) (mFmt fmtRD ma) := by
  refine ⟨fun {pins s σ F h hx H ρ Φ Ξ} at_ q x => (pe_fmtR pe_J).run _ _ _ _ _ at_.i ((je_frz ja).te at_.s at_.e q x fun v H1 p => ?_)⟩
  obtain ⟨d, ρ1, F1, h1, e1, s1, en1, r1, q1⟩ := fzE p
  cases r1 with
  | str y => exact .inl ⟨y, rfl, le_line q1.1, postE_fz e1 s1 en1 (.str _) q1.2⟩
  | int i => exact .inr ⟨i, rfl, q1.1, postE_fz e1 s1 en1 (.str _) q1.2⟩
  | _ => exact q1.elim
def mJs : List TD → Str → TD
  | [], acc => fun ρ Φ _ => Φ (.fz (.str acc)) ρ
  | m :: ms, acc => fun ρ Φ Ξ => m ρ (fun o ρ1 => ∃ y, o = .fz (.str y) ∧ (acc ++ y).length ≤ 1000000 ∧ mJs ms (acc ++ y) ρ1 Φ Ξ) Ξ
inductive JF (X : Cx) (W : WX) : List Expr → List TD → Prop
  | nil : JF X W [] []
  | cons {e : Expr} {m : TD} {es : List Expr} {ms : List TD} : JE X W e m → JF X W es ms → JF X W (e :: es) (m :: ms)
theorem pj_J : ∀ es : List Expr, PJ X es (es.map (teJ X))
  | [] => .nil
  | e :: es => .cons pe_J (pj_J es)
theorem js_J {ms : List TD} (j : JF X W es ms) : ∀ (acc : Str) (σ : L2.St) (F h hx H : Hp) (ρ : EnvT) (Φ : O → EnvT → Prop) (Ξ : Exn → EnvT → Prop) (Q : Str → Hp → Prop), Sp3 F h hx H → EnvL X.K F ρ σ h → mJs ms acc ρ Φ Ξ → XQ X W σ F hx Ξ → (∀ out H1, PostE X.K σ F hx Φ (.str out) H1 → Q out H1) → tJs (es.map (teJ X)) acc σ H Q := by
  induction j with
  | nil =>
    intro acc σ F h hx H ρ Φ Ξ Q s en q x k
    exact k _ _ (postE_fz (Same.refl _) s en (.str acc) q)
  | @cons e m es ms je jf ih =>
    intro acc σ F h hx H ρ Φ Ξ Q s en q x k
    refine je.te s en q x ?_
    rintro v H1 ⟨o, ρ1, F1, h1, h', e1, s1, d1, en1, ow, y, rfl, hl, q1⟩
    obtain ⟨rfl, r⟩ := own_emp ow
    rw [emp_jn] at s1
    cases r
    exact ⟨y, rfl, le_line hl, ih _ _ _ _ _ _ _ _ _ _ s1 en1 q1 (x.mono e1 (Same.refl _)) fun _ _ p => k _ _ (p.mono e1 (Same.refl _) fun _ _ z => z)⟩
theorem je_fstr {v1 v2 : Expr} {ms : List TD} (j : JF X W (v1 :: v2 :: rest) ms) : JE X W (.JoinedStr (v1 :: v2 :: rest) pos) (mJs ms Str.empty) :=
  ⟨fun {pins s σ F h hx H ρ Φ Ξ} at_ q x => (pe_joined (pj_J (X := X) (v1 :: v2 :: rest))).run _ _ _ _ _ at_.i (js_J j _ _ _ _ _ _ _ _ _ (fun out H1 => PostE X.K σ F hx Φ (.str out) H1) at_.s at_.e q x fun _ _ p => p)⟩

/-! own exceptions -/
/-- B.__init__(self, ..), B an own class -/
theorem pe_binit {x : Str} {B : Addr} {p1 p2 : Pos} {e : Expr} {es : List Expr} {ta : TA} {pl : Sem Bool} (hm : X.mg x = some (.ref B)) (sg : PySem.W.specialIn X.K (.ref B) "__getattribute__" = some (some (.builtin "type.__getattribute__"))) (rd : PySem.W.readsIn X.K B (.type "type") = true)
    (fc : PySem.W.findCls X.K (.ref B) (.type "type") "__init__" = some (.val (.builtin "ValueError.__init__"))) (ha : PA X (e :: es) ta) (hg : Gl X x := by rfl) (hdb : (x == ("__debug__" : Str)) = false := by decide)
    (hc : eval (.Call (.Attribute (.Name x p1) "__init__" p2) (e :: es) [] pos) X.env = (do
      let ov ← eval (.Name x p1) X.env
      standAt p2.atName
      let (f, first) ← holding [ov] (getMethod ov "__init__" pl)
      callWith pos f first (backTo pos (starEach (e :: es) X.env)) (backToKw pos (keywordEach [] X.env))) := by rfl)
    (he : starEach (e :: es) X.env = (false, eval e X.env) :: starEach es X.env := by rfl) (hpl : (backTo pos (starEach es X.env)).any (·.1) = false := by rfl) :
    PE X (.Call (.Attribute (.Name x p1) "__init__" p2) (e :: es) [] pos) (tVeI X.K ta) := by
  refine ⟨fun pins s σ H Q I h => PySem.W.methodCall_KW (ld_glob I hg hm ?_ hdb) hc⟩
  refine PySem.W.method_cls I.kIn sg (PySem.W.cls_value I.kIn rd fc (by decide +kernel) ?_)
  show wpAny _ _ (callWith pos (Value.builtin "ValueError.__init__") [] (backTo pos (starEach (e :: es) X.env)) []) _ _ _
  refine PyProof.Rows.callWith_method1 (thn (ha.run pos pins _ σ H _ (I.tok _) h) ?_) he hpl
  rintro us s1 ⟨vs, H1, I1, r1, a, C, ws, rfl, hl, T, ea, q⟩
  cases r1 with
  | @cons _ u0 _ ur ra rw' =>
    have e0 : u0 = Value.ref a := ra
    subst e0
    exact oinit_ok T I1 ea (by rw [← Paired.length rw', sizeLine_eq]; omega) fun s' J => ⟨.non, H1, J, rfl, q⟩
end
def rz {α : Type} : List Str → List α → List (Str × α) → List (Str × α)
  | f :: fs, w :: ws, acc => rz fs ws ((f, w) :: acc)
  | _, _, acc => acc
theorem rz_rel {K : PySem.W.Frag} {F : Hp} : ∀ {fs : List Str} {ws : List V} {ds : List PyData} {as : List (Str × V)} {bs : List (Str × PyData)}, RpAll K F ws ds → RpF K F as bs → RpF K F (rz fs ws as) (rz fs ds bs)
  | [], _, _, _, _, .nil, r => r
  | [], _, _, _, _, .cons _ _, r => r
  | _ :: _, _, _, _, _, .nil, r => r
  | _ :: fs, _, _, _, _, .cons a b, r => rz_rel (fs := fs) b (.cons a r)
/-- what an own __init__ keeps: self's fields are the arguments -/
def spI (K : PySem.W.Frag) (C : Addr) (fs : List Str) (G : List PyData → Prop) : Sp := fun vs H Q _ => ∃ (a : Addr) (ws : List V) (ds : List PyData) (F : Hp), vs = .ref a :: ws ∧ ws.length = fs.length ∧ RpAll K F ws ds ∧ Same F H ∧ F a = none ∧ H a = some (exo a C none) ∧ G ds ∧
  ∀ H2 d, (∀ b o, b ≠ a → H b = some o → H2 b = some o) → H2 a = some (exo a C (some d)) → H2 d = some (exd d (rz fs ws [])) → H d = none → Q .non H2
def tOsts (K : PySem.W.Frag) : List Str → Nat → TS
  | [], _ => tNext
  | f :: fs, i => tSeq (tOst K f (tVar 0) (tVar i)) (tOsts K fs (i + 1))
section
variable {K : PySem.W.Frag} {C a d : Addr} {σ : L2.St} {D : Ends}
theorem osts_old (T : OexC K C) (e0 : σ[0]? = some (some (.ref a))) (ne : d ≠ a) : ∀ (fs : List Str) (ws : List V) (i : Nat) (acc : List (Str × V)) (H : Hp), (∀ j w, ws[j]? = some w → σ[i + j]? = some (some w)) → ws.length = fs.length → acc.length + fs.length ≤ 900 →
    (∀ f ∈ fs, PySem.W.findIn K (.ref C) f = some none) → H a = some (exo a C (some d)) → H d = some (exd d acc) →
    (∀ H2, (∀ b o, b ≠ a → b ≠ d → H b = some o → H2 b = some o) → H2 a = some (exo a C (some d)) → H2 d = some (exd d (rz fs ws acc)) → D.nx σ H2) → tOsts K fs i D σ H
  | [], [], i, acc, H, _, _, _, _, ha, hd, k => k H (fun _ _ _ _ e => e) ha hd
  | f :: fs, w :: ws, i, acc, H, hw, hl, hc, hn, ha, hd, k => by
    have w0 : σ[i]? = some (some w) := hw 0 w rfl
    refine ⟨w, w0, .ref a, e0, a, C, rfl, T, hn f List.mem_cons_self, .inr ⟨d, acc, ha, hd, ?_, ?_⟩⟩
    · simp only [List.length_cons] at hc; omega
    · refine osts_old T e0 ne fs ws (i + 1) _ _ (fun j z hz => ?_) (by simpa using hl) (by simp only [List.length_cons] at hc ⊢; omega) (fun g hg => hn g (List.mem_cons_of_mem _ hg)) (by rw [upd_ne (Ne.symm ne)]; exact ha) upd_same fun H2 h1 h2 h3 => ?_
      · have := hw (j + 1) z (by simpa using hz)
        rw [show i + 1 + j = i + (j + 1) by omega]; exact this
      · exact k H2 (fun b o hb hb2 e => h1 b o hb hb2 (by rw [upd_ne hb2]; exact e)) h2 h3
theorem osts_new (T : OexC K C) (e0 : σ[0]? = some (some (.ref a))) {f : Str} {fs : List Str} {w : V} {ws : List V} {i : Nat} {H : Hp} (hw : ∀ j v, (w :: ws)[j]? = some v → σ[i + j]? = some (some v)) (hl : ws.length = fs.length) (hc : fs.length ≤ 800)
    (hn : ∀ g ∈ f :: fs, PySem.W.findIn K (.ref C) g = some none) (ha : H a = some (exo a C none))
    (k : ∀ H2 d, (∀ b o, b ≠ a → H b = some o → H2 b = some o) → H2 a = some (exo a C (some d)) → H2 d = some (exd d (rz (f :: fs) (w :: ws) [])) → H d = none → D.nx σ H2) : tOsts K (f :: fs) i D σ H := by
  refine ⟨w, hw 0 w rfl, .ref a, e0, a, C, rfl, T, hn f List.mem_cons_self, .inl ⟨ha, fun d hd ne => ?_⟩⟩
  refine osts_old T e0 ne fs ws (i + 1) [(f, w)] _ (fun j z hz => ?_) hl (by show 0 + 1 + fs.length ≤ 900; omega) (fun g hg => hn g (List.mem_cons_of_mem _ hg)) upd_same (by rw [upd_ne ne, upd_same]) fun H2 h1 h2 h3 => ?_
  · have := hw (j + 1) z (by simpa using hz)
    rw [show i + 1 + j = i + (j + 1) by omega]; exact this
  · refine k H2 d (fun b o hb e => ?_) h2 h3 hd
    have nd : b ≠ d := ne_of_none e hd
    exact h1 b o hb nd (by rw [upd_ne hb, upd_ne nd]; exact e)
end
/-- an own exception's __init__ keeps its promise -/
theorem ini_ok {P : Program} {w : World} {K : PySem.W.Frag} {mg : Str → Option Value} {base : Heap} {qual : Str} {st : Stmt} {fI C : Addr} {fd : FuncData} {N : List Str} {f0 : Str} {fs : List Str} {k : Nat} {G : List PyData → Prop}
    (F : Fun K "__init__" qual st fI fd) (S : FnScope N ("self" :: f0 :: fs) (defScope st)) (T : OexC K C) (hn : ∀ g ∈ f0 :: fs, PySem.W.findIn K (.ref C) g = some none) (hc : fs.length ≤ 800) (hN : N.length = fs.length + 2)
    (hb : ∀ (cdv : Value) (A : Around) (outer : List Env) (s : Shared) (H : Hp) (E : XK),
      (A.deeper (envOfC qual (defScope st) s.heap.objs.size fI cdv)).guards = some [] → Room k (A.deeper (envOfC qual (defScope st) s.heap.objs.size fI cdv)) →
      ∃ (js : Expr) (mf : TD), JE (cxOf CX0 P w K mg base N qual (defScope st) fI cdv A outer s H E).nox (fun _ _ _ _ => False) js mf ∧ (∀ ds, G ds → ds.length = fs.length + 1 → mf (.un :: ds.map .fz) (fun _ _ => True) (fun _ _ => False)) ∧
        PSs (cxOf CX0 P w K mg base N qual (defScope st) fI cdv A outer s H E).nox (defBody st) (tSeq (tDrop (tVeI K (tCons (tVar 0) (tCons (teJ (cxOf CX0 P w K mg base N qual (defScope st) fI cdv A outer s H E).nox js) tNil)))) (tOsts K (f0 :: fs) 1))) :
    FnG P w K mg base CX0 (k + 1) fI fd ("self" :: f0 :: fs) (spI K C (f0 :: fs) G) := by
  refine okG F S (fun vs H Q E h => ?_) fun cdv A outer s H vs Q E hg hr h => ?_
  · obtain ⟨a, ws, ds, F0, rfl, hl, _⟩ := h
    rw [List.length_cons, hl]; rfl
  obtain ⟨js, mf, je, hG, ps⟩ := hb cdv A outer s H E hg hr
  refine ⟨_, ps, ?_⟩
  obtain ⟨a, ws, ds, F0, rfl, hl, rp, sF, nF, ha, g, kk⟩ := h
  have hst : start N (.ref a :: ws) = some (.ref a) :: ws.map some := by
    have e : N.length - (V.ref a :: ws).length = 0 := by rw [hN, List.length_cons, hl, List.length_cons]; omega
    show ((V.ref a :: ws).map some) ++ List.replicate (N.length - (V.ref a :: ws).length) none = _
    rw [e]; simp
  rw [hst]
  have e0 : (some (V.ref a) :: ws.map some)[0]? = some (some (.ref a)) := rfl
  have ew : ∀ j v, ws[j]? = some v → (some (V.ref a) :: ws.map some)[1 + j]? = some (some v) := fun j v e => by
    rw [Nat.add_comm, List.getElem?_cons_succ, List.getElem?_map, e]; rfl
  have hd : ds.length = fs.length + 1 := by rw [← rp.len, hl]; rfl
  have en : EnvL K F0 (.un :: ds.map .fz) (some (V.ref a) :: ws.map some) emp := by
    have := start_env (N := N) 0 (OwnL.frozen rp)
    simp only [List.replicate_zero, List.append_nil] at this
    exact .un _ this
  let hx : Hp := fun b => if F0 b = none then H b else none
  have hx0 : ∀ b, F0 b = none → hx b = H b := fun b z => if_pos z
  have hx1 : ∀ b, ¬ F0 b = none → hx b = none := fun b z => if_neg z
  have s3 : Sp3 F0 emp hx H := {
    f := sF
    o := fun b o e => by cases e
    x := fun b o e => by
      by_cases z : F0 b = none
      · rw [← hx0 b z]; exact e
      · rw [hx1 b z] at e; cases e
    fo := dj_emp
    fx := fun b => by
      by_cases z : F0 b = none
      · exact .inl z
      · exact .inr (hx1 b z)
    ox := emp_dj }
  have hxa : hx a = some (exo a C none) := by rw [← ha]; exact if_pos nF
  have key : ∀ b o, H b = some o → (F0 b = some o ∨ hx b = some o) := fun b o e => by
    cases z : F0 b with
    | none => exact .inr ((if_pos z).trans e)
    | some o' => exact .inl (by rw [← e, sF _ _ z])
  refine ⟨_, e0, ?_⟩
  refine je.te (Φ := fun _ _ => True) (Ξ := fun _ _ => False) s3 en (hG ds g hd) (fun c d H' p => ?_) fun v H1 p => ?_
  · obtain ⟨x, ρ', F', h', _, _, _, _, q⟩ := p; exact q
  obtain ⟨o, ρ1, F1, h1, h', e1, s1, d1, en1, ow, _⟩ := p
  have kp : ∀ b o, H b = some o → H1 b = some o := fun b o e => (key b o e).elim (fun z => s1.f _ _ (e1 _ _ z)) fun z => s1.x _ _ z
  refine ⟨a, C, [v], rfl, (by show 1 ≤ 1000; decide), T, s1.x _ _ hxa, ?_⟩
  cases ws with
  | nil => simp at hl
  | cons w ws =>
    refine osts_new T e0 (fun j v e => ew j v e) (by simpa using hl) hc hn (s1.x _ _ hxa) fun H2 d' h1 h2 h3 h4 => ?_
    refine kk H2 d' (fun b o hb e => h1 b o hb (kp b o e)) h2 h3 ?_
    cases z : H d' with
    | none => rfl
    | some o => have := kp _ _ z; rw [h4] at this; cases this
/-! raise C(e, ..) -/
/-- what a raise wants of C -/
structure IniC (X : Cx) (k : Nat) (C : Addr) (fs : List Str) (G : List PyData → Prop) : Prop where
  T : OexC X.K C
  ex : ∃ (fI : Addr) (fd : FuncData), PySem.W.findIn X.K (.ref C) "__init__" = some (some (.ref fI)) ∧ PySem.W.typeIn X.K (.ref fI) = some (.type "function") ∧ FnG X.prog X.w X.K X.mg X.base CX0 k fI fd ("self" :: fs) (spI X.K C fs G) ∧ Binds X.K fd ("self" :: fs) []
theorem make_guards {A : Around} {a : Args} (h : A.guards = some []) : (A.under (.builtin "type.__call__" a)).guards = some [] := by
  show pushGuards (Code.builtin "type.__call__" a).guards A.guards = some []
  rw [h]
  have e : (Code.builtin "type.__call__" a).guards = [] := by
    unfold Code.guards
    split
    · rename_i h; cases h
    · rfl
  rw [e]; rfl
section
variable {X : Cx} {W : WX} {pr : List Nat} {e : Expr} {es : List Expr} {pl : List (Option Nat)} {ml : TL} {x : Str} {p pos rpos : Pos} {C : Addr} {fs : List Str} {G : List PyData → Prop} {k : Nat}
def tMkE (C : Addr) (fs : List Str) (K : PySem.W.Frag) (G : List PyData → Prop) (ta : TA) : L2.St → Hp → XK → Prop := fun σ H Q => ta σ H fun ws H1 => ∃ F ds, ws.length = fs.length ∧ fs.length ≤ 900 ∧ RpAll K F ws ds ∧ Same F H1 ∧ G ds ∧ ∀ Hm d, Same H1 Hm → H1 d = none → Q (.ref C) (some d) (upd Hm d (.xd (rz fs ws [])))
theorem pmk_ini (I : IniC X k C fs G) (hG : X.A.guards = some []) (hr : Room (k + 1) X.A) (hm : X.mg x = some (.ref C)) {ta : TA} (ha : PA X (e :: es) ta) (hg : Gl X x := by rfl)
    (hdb : (x == ("__debug__" : Str)) = false := by decide) (he : starEach (e :: es) X.env = (false, eval e X.env) :: starEach es X.env := by rfl) (hpl : (backTo pos (starEach es X.env)).any (·.1) = false := by rfl) :
    PMk X (.Call (.Name x p) (e :: es) [] pos) (tMkE C fs X.K G ta) := by
  obtain ⟨T, fI, fd, iC, tI, F1, hb⟩ := I
  intro pins s σ H Q I h
  obtain ⟨nm, q, N, bs, bm, sn, sub, ab, col, dd, k0, k1, k2, k3, k5, hC, hbm⟩ := T.cls
  refine wpAny_Call_Name_kw (ld_glob I hg hm ?_ hdb)
  refine PySem.W.callWith_K (h₀ := X.base) I.ok.mod.kin T.kC (thn (ha.run pos pins s σ H _ I h) ?_) he hpl
  rintro us s1 ⟨vs, H1, I1, r1, F, ds, hl, hc, rp, sF, g, hq⟩
  refine ⟨I1.kIn, ?_⟩
  obtain ⟨hp, gs, dr, tk, os⟩ := s1
  generalize hA : hp.objs.size + 1 = A0
  have hsz : hp.objs.size ≤ A0 := by omega
  have hn : H1 A0 = none := I1.hok.fresh hsz
  have lu : us.length = fs.length := by rw [← Paired.length r1]; exact hl
  have hus : us.length ≤ sizeLine := by rw [lu, sizeLine_eq]; omega
  have up : ∀ b o, hp.get? b = some o → ((hp.push (PySem.W.kdv_tup us)).push (PySem.HandSPX.excO C hp.objs.size)).get? b = some o := fun b o z => Heap.get?_push_of_some _ (Heap.get?_push_of_some _ z)
  have at0 : ((hp.push (PySem.W.kdv_tup us)).push (PySem.HandSPX.excO C hp.objs.size)).get? A0 = some (PySem.HandSPX.excO C hp.objs.size) := by subst hA; heap_get
  have J : Inv X pins σ (upd H1 A0 (exo A0 C none)) ⟨(hp.push (PySem.W.kdv_tup us)).push (PySem.HandSPX.excO C hp.objs.size), gs, dr, tk, os⟩ := I1.laid up hsz (exo_ok at0)
  have rv : Vals (V.ref A0 :: vs) (Value.ref A0 :: us) := .cons rfl r1
  have len2 : (Value.ref A0 :: us ++ []).length = (("self" : Str) :: fs).length := by rw [List.append_nil, List.length_cons, List.length_cons, lu]
  have bnd := hb _ (Value.ref A0 :: us) J.kIn len2
  rw [List.append_nil] at bnd
  have sp : spI X.K C fs G (V.ref A0 :: vs) (upd H1 A0 (exo A0 C none)) (fun v H2 => v = .non ∧ ∃ d, H2 A0 = some (exo A0 C (some d)) ∧ H2 d = some (exd d (rz fs vs [])) ∧ H1 d = none ∧ Q (.ref C) (some d) (upd (L2.del H2 A0) d (.xd (rz fs vs [])))) (fun _ _ _ => False) := by
    refine ⟨A0, vs, ds, F, rfl, hl, rp, same_over sF (sF.free hn), sF.free hn, upd_same, g, fun H2 d h1 h2 h3 h4 => ?_⟩
    have nd : d ≠ A0 := fun z => by rw [z, upd_same] at h4; cases h4
    rw [upd_ne nd] at h4
    refine ⟨rfl, d, h2, h3, h4, hq _ d (fun b o z => ?_) h4⟩
    have nb : b ≠ A0 := ne_of_none z hn
    rw [L2.del_ne nb]
    exact h1 b o nb (by rw [upd_ne nb]; exact z)
  have run := F1.run (X.A.under (.builtin "type.__call__" ⟨.ref C :: us, []⟩)) X.stack _ _ ⟨Value.ref A0 :: us, []⟩ _ _ _ _ (make_guards hG) (hr.make C us []) (J.env0.make C us []) bnd rv sp
  refine wpAny_call (PySem.HandSPX.call_own PySem.F.excBase_ValueError (fun Y => PySem.HandSPX.refsVE_contains Y bm hbm) (I1.kIn _ _ hC) (PySem.W.looks_findIn I1.kIn iC) (fun self => PySem.W.bind_fn I1.kIn self tI) hus ?_)
  rw [hA]
  refine codeAny_mono run ?_
  rintro (er | fl) s' hq'
  · exact (show False from hq').elim
  · cases fl with
    | ret u =>
      obtain ⟨v, H2, os2, bare2, un2, hok2, rv, ev, d, ea, ed, hd1, q2⟩ := hq'
      subst ev
      obtain ⟨h2, g2, d2, t2, os'⟩ := s'
      exact ⟨rv, mk_end (raises_own T.exC T.tyC) I1 hsz up un2 hok2 os2 bare2 ea ed hd1 q2⟩
    | next | brk | cont => exact (show False from hq').elim
def sRaise (C : Addr) (fs : List Str) (G : List PyData → Prop) (m : TL) : TSD := fun D ρ => m ρ (fun os ρ1 => ∃ ds, fzL os = some ds ∧ os.length = fs.length ∧ fs.length ≤ 900 ∧ G ds ∧ D.ex ⟨.ref C, rz fs ds []⟩ ρ1) D.ex
theorem js_raise (hcm : X.calm = true) (tk : Takes X W) (I : IniC X k C fs G) (hG : X.A.guards = some []) (hr : Room (k + 1) X.A) (hm : X.mg x = some (.ref C)) (ja : JA X W (e :: es) pl ml) (hg : Gl X x := by rfl)
    (hdb : (x == ("__debug__" : Str)) = false := by decide) (he : starEach (e :: es) X.env = (false, eval e X.env) :: starEach es X.env := by rfl) (hpl : (backTo pos (starEach es X.env)).any (·.1) = false := by rfl) :
    JS X W pr (.Raise (some (.Call (.Name x p) (e :: es) [] pos)) none rpos) (sRaise C fs G ml) := by
  refine ⟨fun {pins s σ F h hx H ρ D} at_ q xs => (ps_raise hcm tk (pmk_ini I hG hr hm (pa_J (X := X) (es := e :: es)) hg hdb he hpl)).run _ _ _ _ _ at_.i (ja.ta at_.s at_.e q xs.now ?_)⟩
  rintro vs H1 ⟨hln, hvs, os, ρ1, F1, h1, h', e1, s1, d1, en1, ow, ds, hds, hl, hc, g, q1⟩
  have rp := ow.frz (dj_jn.mp s1.fo).1 hds
  have s2 := s1.frz d1
  refine ⟨jn F1 h1, ds, ow.len.symm.trans hl, hc, rp, s2.f, g, fun Hm d hs hd => xs.now _ _ _ ?_⟩
  have s3 : Sp3 (upd (jn F1 h1) d (.xd (rz fs vs []))) h' hx (upd Hm d (.xd (rz fs vs []))) :=
    ⟨same_up (s2.f.trans hs), same_over (s2.o.trans hs) (s2.o.free hd), same_over (s2.x.trans hs) (s2.x.free hd), dj_upd s2.fo (s2.o.free hd), dj_upd s2.fx (s2.x.free hd), s2.ox⟩
  have nF : jn F1 h1 d = none := s2.f.free hd
  exact ⟨_, ρ1, _, h', (e1.trans same_l).trans (same_upd' nF), s3, en1.mono (same_l.trans (same_upd' nF)), ⟨rfl, .inr ⟨d, _, rfl, upd_same, (rz_rel rp .nil).mono (same_upd' nF)⟩⟩, q1⟩
end
end T

/-! T15: exceptions caught: try .. except C as n, the fields and the kind of what is caught. -/
namespace T
open PySem PySem.Spec PyProof.Rows L2 Z RZ
section
variable {X : Cx} {W : WX} {pr : List Nat} {e a b c : Expr} {es rest : List Expr} {pos : Pos} {pl : List (Option Nat)} {ma mb mc : TD} {ml : TL} {st : Stmt} {sts : List Stmt} {m u : TSD} {i : Nat}
def suiteEnds (i : Nat) (D : TEnds) : TEnds := { nx := fun ρ2 => D.nx (ρ2.set i .un), rt := D.rt, bk := fun ρ2 => D.bk (ρ2.set i .un), ct := fun ρ2 => D.ct (ρ2.set i .un), ex := fun _ _ => False }
def sTry (K : PySem.W.Frag) (c : Value) (i : Nat) (m : TSD) (u : Addr → Value → Option Addr → TSD) : TSD := fun D ρ => m { nx := D.nx, rt := D.rt, bk := D.bk, ct := D.ct, ex := fun x ρ1 => ∃ b, PySem.W.exmOne K x.cls c = some b ∧
  (if b = true then (i < ρ1.length ∧ ∀ (a : Addr) (d : Option Addr), u a x.cls d (suiteEnds i D) (ρ1.set i (.exc a d x))) else D.ex x ρ1) } ρ
theorem postS_un {K : PySem.W.Frag} {σ σ1 σ2 : L2.St} {F F1 hx H2 : Hp} {Φ : EnvT → Prop} (hp : pr.contains i = false) (kp : Keep pr σ σ1) (e1 : Same F F1) (p : PostS K pr σ1 F1 hx (fun ρ2 => Φ (ρ2.set i .un)) σ2 H2) : PostS K pr σ F hx Φ (σ2.set i none) H2 := by
  obtain ⟨ρ2, F2, h2, k2, e2, s2, en2, q⟩ := p
  obtain ⟨h3, en3, s3⟩ := en2.drop i
  refine ⟨_, F2, h3, (kp.trans k2).trans (Keep.set hp), e1.trans e2, s2.less s3, ?_, q⟩
  by_cases hi : i < ρ2.length
  · exact en3.pushU none (by rw [List.getElem?_set_self hi])
  · have : σ2.length ≤ i := by rw [← en2.len]; omega
    rw [List.set_eq_of_length_le this]; exact en3
theorem js_tryAs {x n : Str} {c : Value} {body suite : List Stmt} {b₀ : Stmt} {np pos' : Pos} {u : Addr → Value → Option Addr → TSD} (hs : X.stack = X.env :: X.outer) (hf : X.env.frame = some X.env.locals) (hN : X.N.Nodup) (hi : X.N[i]? = some n) (hln : X.env.kindOf n = some .local) (hc : Names X x c) (tk : Takes X W) (hp : pr.contains i = false)
    (hb : ∀ (W' : WX) (pn : List (Addr × Obj)) (xe : Value → Shared → Prop), Takes (X.tr pn xe) W' → PassesOwn (model X.prog X.w) X.A X.env xe → JSs (X.tr pn xe) W' pr body m)
    (hsu : ∀ (a : Addr) (oe : Obj) (cls : Value) (d : Option Addr) (pn : List (Addr × Obj)), Zc cls d oe → (∃ vs, oe.data = .fields vs) → JSs (X.suite a ((a, oe) :: pn)) (fun _ _ _ _ => False) pr (b₀ :: suite) (u a cls d)) :
    JS X W pr (.Try body [.ExceptHandler (some (.Name x np)) (some n) (b₀ :: suite) pos'] [] [] pos) (sTry X.K c i m u) := by
  refine ⟨fun {pins s σ F h hx H ρ D} at_ q xs => (ps_try_as (tb := fun W' D σ H => ∀ pn xe, Takes (X.tr pn xe) W' → PassesOwn (model X.prog X.w) X.A X.env xe → tssJ (X.tr pn xe) body D σ H)
    (ts := fun a cls d D σ H => ∀ oe pn, Zc cls d oe → (∃ vs, oe.data = .fields vs) → tssJ (X.suite a ((a, oe) :: pn)) (b₀ :: suite) D σ H) (Wout := W) hs hf hN hi hln hc tk
    (fun W' pn xe t1 t2 => ⟨fun pins s σ H D I h => h pn xe t1 t2 pins s I⟩) (fun a oe cls d pn z1 z2 => ⟨fun pins s σ H D I h => h oe pn z1 z2 pins s I⟩)).run _ _ _ _ _ at_.i ?_⟩
  intro pn xe t1 t2
  refine (hb _ pn xe t1 t2).ts at_.s at_.e q (fun σ1 kp cls d H1 p => ?_) (fun _ _ p => p) (fun _ _ p => p) (fun _ _ p => p) fun _ _ p => p
  obtain ⟨y, ρ1, F1, h1, e1, s1, en1, ⟨rfl, xo⟩, b, hb1, qb⟩ := p
  refine ⟨b, hb1, fun hbt a na => ?_, fun hbf => ?_⟩
  · rw [if_pos hbt] at qb
    obtain ⟨hi1, qb⟩ := qb
    intro oe pn z1 z2
    obtain ⟨h2, s2, en2⟩ := en1.store i (.exc (a := a) (d := d) ⟨rfl, xo⟩) emp_dj hi1
    rw [emp_jn] at s2
    refine (hsu a oe _ d pn z1 z2).ts (s1.less s2) en2 (qb a d) (fun σ2 k2 c2 d2 H2 p2 => ?_) ?_ ?_ ?_ ?_
    · obtain ⟨_, _, _, _, _, _, _, _, f⟩ := p2; exact f
    · intro σ2 H2 p2
      exact postS_un hp (kp.trans (Keep.set hp)) e1 p2
    · intro v H2 p2
      exact p2.mono (kp.trans (Keep.set hp)) e1 (Same.refl _)
    · intro σ2 H2 p2
      exact postS_un hp (kp.trans (Keep.set hp)) e1 p2
    · intro σ2 H2 p2
      exact postS_un hp (kp.trans (Keep.set hp)) e1 p2
  · rw [hbf, if_neg Bool.false_ne_true] at qb
    exact xs σ1 kp _ _ _ ⟨y, ρ1, F1, h1, e1, s1, en1, ⟨rfl, xo⟩, qb⟩
/-! what is caught -/
structure ExC (K : PySem.W.Frag) (C : Addr) : Prop where
  ga : PySem.W.findIn K (.ref C) "__getattribute__" = some (some (.builtin "BaseException.__getattribute__"))
  gg : PySem.W.findIn K (.ref C) "__getattr__" = some none
  ex : PySem.W.subIn K (.ref C) (.type "BaseException") = some true
  dc : PySem.W.hasDictIn K C = true
  ha : PySem.W.findIn K (.ref C) "__class__" = some (some (.builtin "object.__class__"))
  hn : PySem.W.specialIn K (.builtin "object.__class__") "__get__" = some (some (.builtin "getset_descriptor.__get__"))
  ht : PySem.W.takesIn K (.builtin "object.__class__") = some true
  hm : PySem.W.mroIn K C (.type "object") = some true
theorem RpF.at {K : PySem.W.Frag} {F : Hp} {f : Str} : ∀ {vs : List (Str × V)} {ds : List (Str × PyData)} {d : PyData}, RpF K F vs ds → ds.lookup f = some d → ∃ v, vs.lookup f = some v ∧ Rp K F v d
  | _, _, _, .nil, e => by cases e
  | _, _, d, .cons (k := k) (v := v) (d := d0) (vs := vs) (ds := ds) a b, e => by
    rw [List.lookup_cons] at e
    cases q : f == k with
    | true => rw [q] at e; cases e; exact ⟨v, by rw [List.lookup_cons, q], a⟩
    | false =>
      rw [q] at e
      obtain ⟨v', h1, h2⟩ := RpF.at b e
      exact ⟨v', by rw [List.lookup_cons, q]; exact h1, h2⟩
/-- the exception in slot i, of which a, cls, d tell -/
def excAt (a : Addr) (cls : Value) (d : Option Addr) (i : Nat) (ρ : EnvT) (R : Exn → Prop) : Prop := ∃ x, ρ[i]? = some (.exc a d x) ∧ x.cls = cls ∧ R x
theorem exc_at {K : PySem.W.Frag} {F h : Hp} {ρ : EnvT} {σ : L2.St} {A0 : Addr} {d : Option Addr} {x : Exn} (en : EnvL K F ρ σ h) (e : ρ[i]? = some (.exc A0 d x)) : σ[i]? = some (some (.ref A0)) ∧ ExOk K F x x.cls d := by
  obtain ⟨v, h1, h2, hv, ow, _⟩ := en.pull e (fun z => by cases z)
  cases ow with
  | exc q => exact ⟨hv, q⟩
/-- e.f -/
def mExF (K : PySem.W.Frag) (a : Addr) (cls : Value) (d : Option Addr) (i : Nat) (f : Str) : TD := fun ρ Φ _ => excAt a cls d i ρ fun x => (∃ C, cls = .ref C ∧ ExC K C ∧ PySem.W.findIn K (.ref C) f = some none) ∧ ∃ v, x.fs.lookup f = some v ∧ Φ (.fz v) ρ
theorem je_exF {A0 : Addr} {oe : Obj} {cls : Value} {d : Option Addr} {pn : List (Addr × Obj)} {n f : Str} {px : Pos} (hz : Zc cls d oe) (hf : ∃ vs, oe.data = .fields vs) (i : Nat) (hN : X.N[i]? = some n := by rfl)
    (hv : Vis X.env.scope n := by first | exact Or.inl rfl | exact Or.inr (Or.inl rfl) | exact Or.inr (Or.inr rfl)) (hd : (n == ("__debug__" : Str)) = false := by decide) (hcd : (n == ("__classdict__" : Str)) = false := by decide)
    (hb : attributeBase (.Name n px) f X.env (eval (.Name n px) X.env) = eval (.Name n px) X.env := by rfl) :
    JE (X.suite A0 ((A0, oe) :: pn)) W (.Attribute (.Name n px) f pos) (mExF X.K A0 cls d i f) := by
  refine ⟨fun {pins s σ F h hx H ρ Φ Ξ} at_ q xq => ?_⟩
  obtain ⟨x, e, ec, ⟨C, rfl, T, no⟩, v, el, q⟩ := q
  obtain ⟨e1, _, xo⟩ := exc_at at_.e e
  refine attr_of hb (thn ((pe_var (X := X.suite A0 ((A0, oe) :: pn)) (i := i) hN hv hd hcd).run pins s σ H (fun v H1 => v = .ref A0 ∧ H1 = H) at_.i ⟨_, e1, rfl, rfl⟩) ?_)
  rintro w s1 ⟨y, H1, I1, rx, rfl, rfl⟩
  have rx' : w = Value.ref A0 := rx
  subst rx'
  obtain ⟨ha, _⟩ := I1.pin (A0, oe) (List.mem_append_left _ List.mem_cons_self)
  rcases xo with ⟨rfl, ef⟩ | ⟨dx, vs, rfl, hdx, rf⟩
  · rw [ef] at el; cases el
  obtain ⟨y, hy, ry⟩ := rf.at el
  obtain ⟨fv, hd'⟩ := hf
  obtain ⟨mA, hns, hr⟩ : ObjOk X.prog X.w H1 s1.heap dx (.xd vs) := I1.hok dx _ (at_.s.f _ _ hdx)
  obtain ⟨od, ho, hl⟩ := lookIn_ns hns
  obtain ⟨z, hz1, rz1⟩ := RelO.some_of (v := y) (o := mA f) (by rw [← hy]; exact hr f)
  have J : PySem.W.InstAt s1.heap A0 oe C (some od) := ⟨ha, hz.1, by unfold PySem.W.notCls; rw [hd'] <;> rfl, by rw [hz.2]; exact ho⟩
  exact HandSPX.exc_get I1.kIn J T.ga T.gg T.ex (PySem.W.findObj_own T.dc no rfl (by rw [hl, hz1])) (handed_of rz1) ⟨y, H1, I1.tok _, rz1, postE_fz (Same.refl _) at_.s at_.e ry q⟩
/-! isinstance(e, C), isinstance(e, (C, ..)) -/
def clU : V → Value
  | .ref a => .ref a
  | .ty n => .type n
  | _ => .none
def isCl : V → Bool
  | .ref _ => true
  | .ty _ => true
  | _ => false
theorem rel_cl {c : V} {u : Value} (h : isCl c = true) (r : RelV c u) : u = clU c := by
  cases c with
  | ref a => exact r
  | ty n => exact r
  | _ => cases h
theorem rel_cls : ∀ {cs : List V} {us : List Value}, cs.all isCl = true → Vals cs us → us = cs.map clU
  | [], _, _, .nil => rfl
  | c :: cs, _, h, .cons r rr => by
    rw [List.all_cons, Bool.and_eq_true] at h
    rw [List.map_cons, rel_cl h.1 r, rel_cls h.2 rr]
def rIsX (K : PySem.W.Frag) (A0 : Addr) (cls : Value) (d : Option Addr) : List V → Hp → VK → Prop := fun xs H Q => ∃ (C : Addr) (c : V) (b : Bool), cls = .ref C ∧ ExC K C ∧ xs = [.ref A0, c] ∧ (d = none ∨ ∃ dx vs, d = some dx ∧ H dx = some (.xd vs)) ∧
  ((isCl c = true ∧ PySem.W.kitOne K cls (clU c) = some b) ∨ ∃ p cs, c = .ref p ∧ H p = some (.tup cs) ∧ cs.all isCl = true ∧ PySem.W.kitAny K cls (cs.map clU) = some b) ∧ Q (.bl b) H
theorem call_isX {A0 : Addr} {cls : Value} {oe : Obj} {d : Option Addr} {pn : List (Addr × Obj)} (hz : Zc cls d oe) (hf : ∃ vs, oe.data = .fields vs) : CallR (X.suite A0 ((A0, oe) :: pn)) (.builtin "isinstance") (rIsX X.K A0 cls d) := by
  intro pins s σ H xs us Q I r h
  obtain ⟨C, c, b, rfl, T, rfl, hd, hc, q⟩ := h
  cases r with
  | cons rx rr =>
    cases rr with
    | cons rt rr =>
      cases rr
      cases rx
      obtain ⟨hget, _⟩ := I.pin (A0, oe) (List.mem_append.mpr (.inl List.mem_cons_self))
      obtain ⟨vs, hv⟩ := hf
      have J : ∃ od, PySem.W.InstAt s.heap A0 oe C od := by
        have no : PySem.W.notCls oe = true := by unfold PySem.W.notCls; rw [hv] <;> rfl
        rcases hd with rfl | ⟨dx, ws, rfl, hx⟩
        · exact ⟨none, hget, hz.1, no, by rw [hz.2]; trivial⟩
        · obtain ⟨mA, hns, hr⟩ : ObjOk X.prog X.w H s.heap dx (.xd ws) := I.hok dx _ hx
          obtain ⟨od, ho, _⟩ := lookIn_ns hns
          exact ⟨some od, hget, hz.1, no, by rw [hz.2]; exact ho⟩
      obtain ⟨od, J⟩ := J
      have hcl : (PySem.W.clsIn X.K C).isSome = true := by
        obtain ⟨cd, hc, _⟩ := PySem.W.any_some T.dc
        rw [hc]; rfl
      have kx := PySem.W.kitx_exc (od := od) (ox := oe) (x := A0) hcl T.ga T.gg T.ex T.ha T.hn T.ht T.hm
      rcases hc with ⟨hcv, e⟩ | ⟨p, cs, rfl, hp, hcs, e⟩
      · have ec := rel_cl hcv rt
        subst ec
        exact PySem.W.kia_one kx I.kIn J e (fun z => nomatch z) fun tk => ⟨.bl b, H, I.kept (t' := tk) fun _ _ z => z, rfl, q⟩
      · cases rt
        obtain ⟨its, rv, ⟨o, ho, hcl2, nn, hdt⟩, _⟩ := I.tuple (SqT.of hp)
        have ei := rel_cls hcs rv
        subst ei
        obtain ⟨oc, odd, oda, osl⟩ := o
        dsimp only at hcl2 hdt
        subst hcl2 hdt
        exact PySem.W.kia_tup kx I.kIn J ho e (fun z => nomatch z) fun tk => ⟨.bl b, H, I.kept (t' := tk) fun _ _ z => z, rfl, q⟩
def mIsE (K : PySem.W.Frag) (a : Addr) (cls : Value) (d : Option Addr) (i : Nat) (f : Value → Option Bool) : TD := fun ρ Φ _ => excAt a cls d i ρ fun x => (∃ C, cls = .ref C ∧ ExC K C) ∧ ∃ b, f cls = some b ∧ Φ (.fz (.bool b)) ρ
section
variable {A0 : Addr} {oe : Obj} {cls : Value} {d : Option Addr} {pn : List (Addr × Obj)} {n : Str} {px p : Pos}
theorem je_isE (hz : Zc cls d oe) (hf : ∃ vs, oe.data = .fields vs) (hm : X.mg "isinstance" = none) (i : Nat) {cv : V} (hb : PE (X.suite A0 ((A0, oe) :: pn)) b (tC cv)) (hcl : isCl cv = true) (hN : X.N[i]? = some n := by rfl)
    (hv : Vis X.env.scope n := by first | exact Or.inl rfl | exact Or.inr (Or.inl rfl) | exact Or.inr (Or.inr rfl)) (hd : (n == ("__debug__" : Str)) = false := by decide) (hcd : (n == ("__classdict__" : Str)) = false := by decide) (hg : Gl X "isinstance" := by rfl)
    (he : starEach [.Name n px, b] X.env = (false, eval (.Name n px) X.env) :: starEach [b] X.env := by rfl) (he2 : starEach [b] X.env = (false, eval b X.env) :: starEach [] X.env := by rfl) (hpl : (backTo pos (starEach [b] X.env)).any (·.1) = false := by rfl) :
    JE (X.suite A0 ((A0, oe) :: pn)) W (.Call (.Name "isinstance" p) [.Name n px, b] [] pos) (mIsE X.K A0 cls d i fun c => PySem.W.kitOne X.K c (clU cv)) := by
  refine ⟨fun {pins s σ F h hx H ρ Φ Ξ} at_ q xq => (pe_callB (X := X.suite A0 ((A0, oe) :: pn)) (call_isX hz hf) hg hm bt_isinstance (pa_cons (pe_var (X := X.suite A0 ((A0, oe) :: pn)) (i := i) hN hv hd hcd) (pa_cons hb pa_nil he2) he) (by decide) (by decide) he hpl).run _ _ _ _ _ at_.i ?_⟩
  obtain ⟨x, e, ec, ⟨C, eC, T⟩, c, hk, q⟩ := q
  obtain ⟨e1, _, xo⟩ := exc_at at_.e e
  refine ⟨_, e1, C, cv, c, eC, T, rfl, ?_, .inl ⟨hcl, hk⟩, postE_fz (Same.refl _) at_.s at_.e (.bl c) q⟩
  rcases xo with ⟨h1, _⟩ | ⟨dx, vs, h1, h2, _⟩
  · exact .inl h1
  · exact .inr ⟨dx, vs, h1, at_.s.f _ _ h2⟩
theorem je_isET {k : Nat} {ces : List Expr} {pt : Pos} {t : TA} {cs : List V} (hz : Zc cls d oe) (hf : ∃ vs, oe.data = .fields vs) (hm : X.mg "isinstance" = none) (i : Nat) (hb : PA (X.suite A0 ((A0, oe) :: pn)) ces t) (ht : ∀ σ H Q, Q cs H → t σ H Q) (hcl : cs.all isCl = true) (hln : cs.length ≤ 1000) (hN : X.N[i]? = some n := by rfl)
    (hv : Vis X.env.scope n := by first | exact Or.inl rfl | exact Or.inr (Or.inl rfl) | exact Or.inr (Or.inr rfl)) (hd : (n == ("__debug__" : Str)) = false := by decide) (hcd : (n == ("__classdict__" : Str)) = false := by decide) (hg : Gl X "isinstance" := by rfl)
    (he : starEach [.Name n px, .Tuple ces k pt] X.env = (false, eval (.Name n px) X.env) :: starEach [.Tuple ces k pt] X.env := by rfl) (he2 : starEach [.Tuple ces k pt] X.env = (false, eval (.Tuple ces k pt) X.env) :: starEach [] X.env := by rfl) (hpl : (backTo pos (starEach [.Tuple ces k pt] X.env)).any (·.1) = false := by rfl) :
    JE (X.suite A0 ((A0, oe) :: pn)) W (.Call (.Name "isinstance" p) [.Name n px, .Tuple ces k pt] [] pos) (mIsE X.K A0 cls d i fun c => PySem.W.kitAny X.K c (cs.map clU)) := by
  refine ⟨fun {pins s σ F h hx H ρ Φ Ξ} at_ q xq => (pe_callB (X := X.suite A0 ((A0, oe) :: pn)) (call_isX hz hf) hg hm bt_isinstance (pa_cons (pe_var (X := X.suite A0 ((A0, oe) :: pn)) (i := i) hN hv hd hcd) (pa_cons (pe_tp hb) pa_nil he2) he) (by decide) (by decide) he hpl).run _ _ _ _ _ at_.i ?_⟩
  obtain ⟨x, e, ec, ⟨C, eC, T⟩, c, hk, q⟩ := q
  obtain ⟨e1, _, xo⟩ := exc_at at_.e e
  refine ⟨_, e1, ht _ _ _ ⟨small_le (Nat.le_trans hln (by decide)), ?_⟩⟩
  intro p H2 hn hs hp hu
  rw [hu]
  have nF : F p = none := at_.s.f.free hn
  refine ⟨C, _, c, eC, T, rfl, ?_, .inr ⟨p, cs, rfl, upd_same, hcl, hk⟩, postE_fz (same_upd' nF) (at_.s.new hn) (at_.e.mono (same_upd' nF)) (.bl c) q⟩
  rcases xo with ⟨h1, _⟩ | ⟨dx, vs, h1, h2, _⟩
  · exact .inl h1
  · have := at_.s.f _ _ h2
    exact .inr ⟨dx, vs, h1, by rw [upd_ne (ne_of_none this hn)]; exact this⟩
end
end
end T

/-! T16: calls with keywords and with defaults. -/
namespace T
open PySem PySem.Spec PyProof.Rows L2 Z RZ
/-- how n values and the keywords ks fill the parameters -/
structure KA (K : PySem.W.Frag) (fd : FuncData) (ps : List Str) (n : Nat) (ks : List Str) (aV : List V → List V) (aD : List PyData → List PyData) : Prop where
  kb : ∃ g, KBn K fd ps n ks g fun vs zs => vs ++ aV zs
  rel : ∀ (F : Hp) (vs : List V) (ds : List PyData), vs.length = ks.length → RpAll K F vs ds → RpAll K F (aV vs) (aD ds)
  len : ∀ ds : List PyData, ds.length = ks.length → n + (aD ds).length = ps.length
theorem ka_mk {K : PySem.W.Frag} {fd : FuncData} {ps : List Str} {D : Addr} (n : Nat) (ks : List Str) (ms : List (Str × V)) (hq : ∀ q ∈ ms, ∃ u, PySem.W.nsIn K D q.1 = some (some u) ∧ RelV q.2 u) (g : {α : Type} → List α → List α → List α) {aD : List PyData → List PyData}
    (hrel : ∀ {mz zs : List V} {mv ws : List Value}, Vals mz mv → Vals zs ws → Vals (g mz zs) (g mv ws))
    (hD : ∀ (F : Hp) (vs : List V) (ds : List PyData), vs.length = ks.length → RpAll K F vs ds → RpAll K F (g (ms.map (·.2)) vs) (aD ds))
    (hlen : ∀ ds : List PyData, ds.length = ks.length → n + (aD ds).length = ps.length)
    (h : ∀ us mv ws : List Value, us.length = n → mv.length = ms.length → ws.length = ks.length → KwChain D ((ms.map (·.1)).zip mv) (bindArgs fd ⟨us, ks.zip ws⟩) (ps.zip (us ++ g mv ws))) : KA K fd ps n ks (g (ms.map (·.2))) aD := by
  obtain ⟨mv, hl, rk, hks⟩ := kwd_vals hq
  exact ⟨⟨fun us ws => us ++ g mv ws, ⟨fun s us ws X l1 l2 => BindsTo.of_looks fun M => KwChain.looks X hks (h us mv ws l1 hl l2), fun r1 r2 => r1.append (hrel rk r2)⟩⟩, hD, hlen⟩
structure JK (X : Cx) (W : WX) (kws : List Keyword) (m : TL) : Prop where
  run : ∀ (pos : Pos) {pins s σ F h hx H ρ Φ Ξ}, At X pins s σ F h hx H ρ → m ρ Φ Ξ → XQ X W σ F hx Ξ → wpAny (model X.prog X.w) X.A (evalAll ((backToKw pos (keywordEach kws X.env)).map (·.2))) (AP X pins σ fun vs H' => ∃ os ρ' F' h1 h', Same F F' ∧ Sp3 F' (jn h1 h') hx H' ∧ Dj h1 h' ∧ EnvL X.K F' ρ' σ h' ∧ OwnL X.K F' os vs h1 ∧ Φ os ρ') X.xe s
def taK (X : Cx) (kws : List Keyword) : TA := fun σ H Q => ∀ pos pins s, Inv X pins σ H s → wpAny (model X.prog X.w) X.A (evalAll ((backToKw pos (keywordEach kws X.env)).map (·.2))) (AP X pins σ Q) X.xe s
theorem pk_J {X : Cx} {kws : List Keyword} : PK X kws (taK X kws) := ⟨fun pos pins s _ _ _ I h => h pos pins s I⟩
section
variable {X : Cx} {W : WX} {k n : Nat} {f : Addr} {fd : FuncData} {ps ks : List Str} {pr ip : List Nat} {ts : TSp} {x : Str} {p pos kpos : Pos} {e : Expr} {es : List Expr} {kws : List Keyword} {m mk : TL} {me : TD} {pl : List (Option Nat)} {nm : Option Str} {aV : List V → List V} {aD : List PyData → List PyData}
theorem jk_nil : JK X W [] mNil := ⟨fun pos {pins s σ F h hx H ρ Φ Ξ} a q x => pk_nil.run pos _ _ _ _ _ a.i ⟨[], ρ, F, emp, h, Same.refl _, by rw [emp_jn]; exact a.s, emp_dj, a.e, .nil, q⟩⟩
theorem jk_cons (j : JE X W e me) (k : JK X W kws mk) : JK X W (⟨nm, e, kpos⟩ :: kws) (mCons me mk) := by
  refine ⟨fun pos {pins s σ F h hx H ρ Φ Ξ} a g x => (pk_cons (nm := nm) (kpos := kpos) (pe_J (X := X) (e := e)) (pk_J (X := X) (kws := kws))).run pos pins s σ H _ a.i ?_⟩
  refine (je_frzO j).te a.s a.e g x ?_
  rintro v H1 ⟨o, ρ1, F1, h1, h', e1, s1, d1, en1, ow1, q1⟩
  intro pos' pins' s' I'
  refine thn (k.run pos' ⟨I', s1.put d1, en1⟩ q1 (x.mono e1 (same_r (jn_dj.mp s1.ox).1))) fun _ _ => ap_mono ?_
  rintro vs H2 ⟨os, ρ2, F2, h2, h'', e2, s2, d2, en2, ow2, q2⟩
  obtain ⟨s3, d3⟩ := s2.get (jn_dj.mp s1.ox).1
  obtain ⟨d31, d32⟩ := dj_jn.mp d3
  exact ⟨o :: os, ρ2, F2, jn h1 h2, h'', e1.trans e2, by rw [jn_assoc]; exact s3, jn_dj.mpr ⟨d32, d2⟩, en2, .cons (ow1.mono e2) ow2 d31, q2⟩
where
  je_frzO {X : Cx} {W : WX} {e : Expr} {me : TD} (j : JE X W e me) : JE X W e me := j
def mCallK (ts : TSp) (n k : Nat) (ip : List Nat) (m mk : TL) (aD : List PyData → List PyData) : TD := fun ρ Φ Ξ => m ρ (fun os ρ1 => mk ρ1 (fun zs ρ2 => ∃ ds, fzL zs = some ds ∧ os.length = n ∧ ds.length = k ∧ (∀ i ∈ ip, ρ2[i]? = some .un) ∧ ts (os ++ (aD ds).map O.fz) (fun r outs => Φ r (putOut ip outs ρ2)) fun x outs => Ξ x (putOut ip outs ρ2)) Ξ) Ξ
theorem fzL_len : ∀ {os : List O} {ds : List PyData}, fzL os = some ds → os.length = ds.length
  | [], _, e => by unfold fzL at e; cases e; rfl
  | o :: os, ds, e => by
    unfold fzL at e
    split at e
    · rename_i d ds' h1 h2
      cases e
      rw [List.length_cons, List.length_cons, fzL_len h2]
    · cases e
theorem je_callK (hG : X.A.guards = some []) (G : FnT X.prog X.w X.K X.mg X.base k f fd ps pr ts) (hr : Room k X.A) (hm : X.mg x = some (.ref f)) (hk : PySem.W.keepIn X.K (.ref f) = true) (ka : KA X.K fd ps n ks aV aD) (tk : Takes X W)
    (ja : JA X W (e :: es) pl m) (jk : JK X W kws mk) (hip : pr.map (fun j => pl[j]?) = ip.map (fun i => some (some i)) := by rfl) (nd : ip.Nodup := by decide) (hg : Gl X x := by rfl) (hdb : (x == ("__debug__" : Str)) = false := by decide)
    (hall : (backToKw pos (keywordEach kws X.env)).all (·.1.isSome) = true := by rfl) (hks : (backToKw pos (keywordEach kws X.env)).filterMap (·.1) = ks := by rfl)
    (he : starEach (e :: es) X.env = (false, eval e X.env) :: starEach es X.env := by rfl)
    (hpl : ((backTo pos (starEach (e :: es) X.env)).any (·.1) || (backToKw pos (keywordEach kws X.env)).any (·.1.isNone)) = false := by rfl) :
    JE X W (.Call (.Name x p) (e :: es) kws pos) (mCallK ts n ks.length ip m mk aD) := by
  refine ⟨fun {pins s σ F h hx H ρ Φ Ξ} a q xq => ?_⟩
  refine wpAny_Call_Name_kw (ld_glob a.i hg hm ?_ hdb)
  refine PySem.W.callWith_KW (h₀ := X.base) a.i.ok.mod.kin hk hall (thn (ja.run pos a q xq) ?_) hpl he
  rintro us s1 ⟨vs, H1, I1, r, hln, hv, os, ρ1, F1, h1, h', e1, s1', d1, en1, ow, q1⟩
  refine thn (jk.run pos ⟨I1, s1'.put d1, en1⟩ q1 (xq.mono e1 (same_r (jn_dj.mp s1'.ox).1))) ?_
  rintro ws s2 ⟨zs, H2, I2, rz, ozs, ρ2, F2, g1, g', e2, s2', d2, en2, ow2, ds, hds, hos, hdl, hu, q2⟩
  refine ⟨I2.kIn, ?_⟩
  rw [hks]
  obtain ⟨s3, d3⟩ := s2'.get (jn_dj.mp s1'.ox).1
  -- the keywords' values are frozen
  have rp := ow2.frz (dj_jn.mp s2'.fo).1 hds
  have d31 : Dj h1 g1 := (dj_jn.mp d3).1
  have s3' : Sp3 F2 (jn g1 (jn h1 g')) hx H2 := by
    rw [← jn_assoc, ← jn_comm d31, jn_assoc]; exact s3
  have s4 := s3'.frz (dj_jn.mpr ⟨d31.symm, d2⟩)
  obtain ⟨gg, kb⟩ := ka.kb
  have lz : zs.length = ks.length := by rw [← ow2.len, fzL_len hds, hdl]
  have rA := ka.rel _ zs ds lz rp
  have owA : OwnL X.K (jn F2 g1) (os ++ (aD ds).map O.fz) (vs ++ aV zs) h1 := by
    have := OwnL.app (ow.mono (e2.trans same_l)) (OwnL.frozen rA) dj_emp
    rw [jn_emp] at this; exact this
  have r2 : Vals (vs ++ aV zs) (gg us ws) := kb.rel r rz
  have hvA : ∀ (j i : Nat), pl[j]? = some (some i) → ∃ v, (vs ++ aV zs)[j]? = some v ∧ σ[i]? = some (some v) := fun j i z => by
    obtain ⟨v, h1, h2⟩ := hv j i z
    have hj : j < vs.length := (List.getElem?_eq_some_iff.mp h1).1
    exact ⟨v, by rw [List.getElem?_append_left hj]; exact h1, h2⟩
  have dh : Dj h1 g' := (dj_jn.mp d3).2
  have hl : (os ++ (aD ds).map O.fz).length = ps.length := by rw [List.length_append, List.length_map, hos]; exact ka.len ds hdl
  have sp : spT X.K ps.length pr ts (vs ++ aV zs) H2 (PostE X.K σ F hx Φ) (PostX X.K σ F hx Ξ) :=
    call_fin (pl := pl) ((e1.trans e2).trans same_l) s4 dh (en2.mono same_l) owA hl hvA hip nd hu q2
  have lu : us.length = n := by rw [← hos, ow.len]; exact (Paired.length r).symm
  have lw : ws.length = ks.length := by rw [← lz]; exact (Paired.length rz).symm
  have c := G.run X.A X.stack s2 H2 ⟨us, ks.zip ws⟩ _ _ _ _ hG hr I2.env0 (kb.to s2 us ws I2.kIn lu lw) r2 sp
  refine wpAny_call (codeAny_mono c ?_)
  rintro (er | fl) s' hq
  · exact tk er s' (XE.of_call I2 (fun c d H' z => xq c d H' z) hq)
  · cases fl with
    | ret u => exact I2.after hq
    | next | brk | cont => exact hq.elim
end
end T

/-! T17: the module's dicts of texts to tuples of texts; displays of dicts; d[k] = v. -/
namespace T
open PySem PySem.Spec PyProof.Rows L2 Z RZ
/-- a module's dict of texts to tuples of texts -/
structure KF (K : PySem.W.Frag) (w : World) (a : Addr) (f : Str → Option (List Str)) : Prop where
  ex : ∃ g : Str → Option Addr, KD K w a (fun z => (g z).map V.ref) ∧ (∀ z b, g z = some b → ∃ ks, f z = some ks ∧ ∀ H, SqT K H b (ks.map V.str)) ∧ ∀ z, g z = none → f z = none
section
variable {X : Cx} {W : WX} {pr : List Nat} {e a b c : Expr} {es rest : List Expr} {pos : Pos} {ma mb mc : TD} {i : Nat} {f : Str → Option (List Str)} {A0 : Addr} {x : Str} {p : Pos} {k : Nat}
theorem RpAll.strs {K : PySem.W.Frag} {F : Hp} : ∀ ks : List Str, RpAll K F (ks.map V.str) (ks.map PyData.str)
  | [] => .nil
  | k :: ks => .cons (.str k) (RpAll.strs ks)
def mInF (neg : Bool) (f : Str → Option (List Str)) (m : TD) : TD := fun ρ Φ Ξ => mFrz m ρ (fun o ρ1 => ∃ z, o = .fz (.str z) ∧ Φ (.fz (.bool (if neg then !(f z).isSome else (f z).isSome))) ρ1) Ξ
def mIxF (f : Str → Option (List Str)) (m : TD) : TD := fun ρ Φ Ξ => mFrz m ρ (fun o ρ1 => ∃ z ks, o = .fz (.str z) ∧ f z = some ks ∧ Φ (.fz (.tuple (ks.map .str))) ρ1) Ξ
theorem inF_J {neg : Bool} (D : KF X.K X.w A0 f) (ja : JE X W a ma) {σ F h hx H ρ Φ Ξ} (s3 : Sp3 F h hx H) (en : EnvL X.K F ρ σ h) (q : mInF neg f ma ρ Φ Ξ) (xq : XQ X W σ F hx Ξ) {Q : VK} (kk : ∀ v H', PostE X.K σ F hx Φ v H' → Q v H') : tOp (zIn X.K X.w neg) (teJ X a) (tC (.ref A0)) σ H Q := by
  refine (je_frz ja).te s3 en q xq fun v H1 p => ?_
  obtain ⟨o, ρ1, F1, h1, h', e1, s1, d1, en1, ow, z, rfl, q1⟩ := p
  obtain ⟨rfl, r⟩ := own_emp ow
  rw [emp_jn] at s1
  cases r
  obtain ⟨g, kd, g1, g2⟩ := D.ex
  have ef : (f z).isSome = ((g z).map V.ref).isSome := by
    cases hz : g z with
    | none => rw [g2 z hz]; rfl
    | some b => obtain ⟨ks, e, _⟩ := g1 z b hz; rw [e]; rfl
  rw [ef] at q1
  cases neg with
  | false => exact kIn_K kd (kk _ _ (postE_fz e1 s1 en1 (.bl _) q1))
  | true => exact kNin_K kd (kk _ _ (postE_fz e1 s1 en1 (.bl _) q1))
theorem je_inF (D : KF X.K X.w A0 f) (hr : Room k X.A) (hm : X.mg x = some (.ref A0)) (ja : JE X W a ma) (hg : Gl X x := by rfl) (hd : (x == ("__debug__" : Str)) = false := by decide) (hmk : behindInMarks .In (.Name x p) = false := by rfl) : JE X W (.Compare a [.In] [.Name x p] pos) (mInF false f ma) :=
  ⟨fun at_ q xq => (pe_cmpR (o_in hr) pe_J (pe_glob (v := .ref A0) hg hm rfl hd) hmk).run _ _ _ _ _ at_.i (inF_J (neg := false) D ja at_.s at_.e q xq fun _ _ p => p)⟩
theorem je_notInF (D : KF X.K X.w A0 f) (hr : Room k X.A) (hm : X.mg x = some (.ref A0)) (ja : JE X W a ma) (hg : Gl X x := by rfl) (hd : (x == ("__debug__" : Str)) = false := by decide) (hmk : behindInMarks .NotIn (.Name x p) = false := by rfl) : JE X W (.Compare a [.NotIn] [.Name x p] pos) (mInF true f ma) :=
  ⟨fun at_ q xq => (pe_cmpR (o_notIn hr) pe_J (pe_glob (v := .ref A0) hg hm rfl hd) hmk).run _ _ _ _ _ at_.i (inF_J (neg := true) D ja at_.s at_.e q xq fun _ _ p => p)⟩
theorem jt_inF (D : KF X.K X.w A0 f) (hr : Room k X.A) (hm : X.mg x = some (.ref A0)) (ja : JE X W a ma) (hg : Gl X x := by rfl) (hd : (x == ("__debug__" : Str)) = false := by decide) (hmk : behindInMarks .In (.Name x p) = false := by rfl) : JT X W (.Compare a [.In] [.Name x p] pos) (tVal (mInF false f ma)) :=
  ⟨fun {pins s σ F h hx H ρ Φ Ξ} at_ q xq => (pt_cmpR (o_in hr) pe_J (pe_glob (v := .ref A0) hg hm rfl hd) hmk).run _ _ _ _ _ at_.i (inF_J (neg := false) (Φ := fun o ρ1 => ∃ c, o = .fz (.bool c) ∧ Φ c ρ1) D ja at_.s at_.e q xq fun v H p => bE p)⟩
theorem jt_notInF (D : KF X.K X.w A0 f) (hr : Room k X.A) (hm : X.mg x = some (.ref A0)) (ja : JE X W a ma) (hg : Gl X x := by rfl) (hd : (x == ("__debug__" : Str)) = false := by decide) (hmk : behindInMarks .NotIn (.Name x p) = false := by rfl) : JT X W (.Compare a [.NotIn] [.Name x p] pos) (tVal (mInF true f ma)) :=
  ⟨fun {pins s σ F h hx H ρ Φ Ξ} at_ q xq => (pt_cmpR (o_notIn hr) pe_J (pe_glob (v := .ref A0) hg hm rfl hd) hmk).run _ _ _ _ _ at_.i (inF_J (neg := true) (Φ := fun o ρ1 => ∃ c, o = .fz (.bool c) ∧ Φ c ρ1) D ja at_.s at_.e q xq fun v H p => bE p)⟩
theorem je_ixF (D : KF X.K X.w A0 f) (hr : Room k X.A) (hm : X.mg x = some (.ref A0)) (ja : JE X W a ma) (hs : PlainIx a) (hg : Gl X x := by rfl) (hd : (x == ("__debug__" : Str)) = false := by decide) : JE X W (.Subscript (.Name x p) a pos) (mIxF f ma) := by
  refine ⟨fun {pins s σ F h hx H ρ Φ Ξ} at_ q xq => (pe_ix (o_ix hr) (pe_glob (v := .ref A0) hg hm rfl hd) pe_J hs).run _ _ _ _ _ at_.i ?_⟩
  refine (je_frz ja).te at_.s at_.e q xq fun v H1 p => ?_
  obtain ⟨o, ρ1, F1, h1, h', e1, s1, d1, en1, ow, z, ks, rfl, hf, q1⟩ := p
  obtain ⟨rfl, r⟩ := own_emp ow
  rw [emp_jn] at s1
  cases r
  obtain ⟨g, kd, g1, g2⟩ := D.ex
  cases hz : g z with
  | none => rw [g2 z hz] at hf; cases hf
  | some b =>
    obtain ⟨ks', e, hq⟩ := g1 z b hz
    rw [hf] at e; cases e
    exact kIx_K kd (by rw [hz]; rfl) (postE_fz e1 s1 en1 (.tup (hq F1) (RpAll.strs ks)) q1)
/-! displays -/
def mPairs : List (TD × TD) → EnvT → (List (PyData × PyData) → EnvT → Prop) → (Exn → EnvT → Prop) → Prop
  | [], ρ, Q, _ => Q [] ρ
  | (mk, mv) :: r, ρ, Q, Ξ => mFrz mk ρ (fun x ρ1 => ∃ d, x = .fz d ∧ mFrz mv ρ1 (fun y ρ2 => ∃ e, y = .fz e ∧ mPairs r ρ2 (fun ps ρ3 => Q ((d, e) :: ps) ρ3) Ξ) Ξ) Ξ
inductive JP2 (X : Cx) (W : WX) : List (Option Expr) → List Expr → List (TD × TD) → Prop
  | nil : JP2 X W [] [] []
  | cons {k v : Expr} {mk mv : TD} {ks : List (Option Expr)} {vs : List Expr} {ms : List (TD × TD)} : JE X W k mk → JE X W v mv → JP2 X W ks vs ms → JP2 X W (some k :: ks) (v :: vs) ((mk, mv) :: ms)
def trJ (X : Cx) : List (Option Expr) → List Expr → List (TE × TE)
  | some k :: ks, v :: vs => (teJ X k, teJ X v) :: trJ X ks vs
  | _, _ => []
theorem JP2.pps {ks : List (Option Expr)} {vs : List Expr} {ms : List (TD × TD)} (j : JP2 X W ks vs ms) : PPs X pos ks vs (trJ X ks vs) := by
  induction j with
  | nil => exact pps_nil
  | cons _ _ _ ih => exact pps_cons pe_J pe_J ih
inductive RpP (K : PySem.W.Frag) (F : Hp) : List (V × V) → List (PyData × PyData) → Prop
  | nil : RpP K F [] []
  | cons {x y : V} {d e : PyData} {r : List (V × V)} {ds : List (PyData × PyData)} : Rp K F x d → Rp K F y e → RpP K F r ds → RpP K F ((x, y) :: r) ((d, e) :: ds)
theorem RpP.mono {K : PySem.W.Frag} {F G : Hp} (s : Same F G) : ∀ {r : List (V × V)} {ds : List (PyData × PyData)}, RpP K F r ds → RpP K G r ds
  | _, _, .nil => .nil
  | _, _, .cons a b c => .cons (a.mono s) (b.mono s) (c.mono s)
theorem pairs_J {ks : List (Option Expr)} {vs : List Expr} {ms : List (TD × TD)} (j : JP2 X W ks vs ms) : ∀ (σ : L2.St) (F h hx H : Hp) (ρ : EnvT) (Ξ : Exn → EnvT → Prop) (R : List (PyData × PyData) → EnvT → Prop) (Q : List (V × V) → Hp → Prop), Sp3 F h hx H → EnvL X.K F ρ σ h → mPairs ms ρ R Ξ → XQ X W σ F hx Ξ →
    (∀ ps ds ρ' F' h' H', Same F F' → Sp3 F' h' hx H' → EnvL X.K F' ρ' σ h' → RpP X.K F' ps ds → R ds ρ' → Q ps H') → tPairs (trJ X ks vs) σ H Q := by
  induction j with
  | nil =>
    intro σ F h hx H ρ Ξ R Q s en q x k
    exact k _ _ _ _ _ _ (Same.refl _) s en .nil q
  | @cons ek ev mk mv ks vs ms jk jv jr ih =>
    intro σ F h hx H ρ Ξ R Q s en q x k
    refine (je_frz jk).te s en q x fun v H1 p => ?_
    obtain ⟨d, ρ1, F1, h1, e1, s1, en1, r1, q1⟩ := fzE p
    refine (je_frz jv).te s1 en1 q1 (x.mono e1 (Same.refl _)) fun u H2 p2 => ?_
    obtain ⟨d2, ρ2, F2, h2, e2, s2, en2, r2, q2⟩ := fzE p2
    refine ih σ F2 h2 hx H2 ρ2 Ξ _ _ s2 en2 q2 (x.mono (e1.trans e2) (Same.refl _)) fun ps ds ρ' F' h' H' e3 s3 en3 rp q3 => ?_
    exact k _ _ _ _ _ _ ((e1.trans e2).trans e3) s3 en3 (.cons (r1.mono (e2.trans e3)) (r2.mono e3) rp) q3
def putD (kvs : List (Key × PyData)) (k : Key) (v : PyData) : List (Key × PyData) := if (kvs.any fun kv => decide (kv.1 = k)) = true then kvs.map (fun kv => if kv.1 = k then (kv.1, v) else kv) else kvs ++ [(k, v)]
def mergeD (kvs more : List (Key × PyData)) : List (Key × PyData) := more.foldl (fun acc kv => putD acc kv.1 kv.2) kvs
theorem nodup_putD {kvs : List (Key × PyData)} {k : Key} {v : PyData} (h : (kvs.map (·.1)).Nodup) : ((putD kvs k v).map (·.1)).Nodup := by
  unfold putD
  split
  · have e : (kvs.map fun kv => if kv.1 = k then (kv.1, v) else kv).map (·.1) = kvs.map (·.1) := by
      rw [List.map_map]
      refine List.map_congr_left fun p _ => ?_
      show (if p.1 = k then (p.1, v) else p).1 = p.1
      split <;> rfl
    rw [e]; exact h
  · rename_i hn
    rw [List.map_append]
    refine List.nodup_append.mpr ⟨h, by simp, ?_⟩
    intro a ha b hb
    have hb' : b = k := by simpa using hb
    subst hb'
    rintro rfl
    obtain ⟨p, hp, e⟩ := List.mem_map.mp ha
    exact hn (List.any_eq_true.mpr ⟨p, hp, by simpa using e⟩)
theorem nodup_mergeD : ∀ {more kvs : List (Key × PyData)}, (kvs.map (·.1)).Nodup → ((mergeD kvs more).map (·.1)).Nodup
  | [], _, h => h
  | p :: r, kvs, h => nodup_mergeD (more := r) (nodup_putD h)
theorem keys_fz {kvs : List (Key × PyData)} : ((kvs.map fun kv => (kv.1, O.fz kv.2)).map (·.1)) = kvs.map (·.1) := by rw [List.map_map]; rfl
/-- keyed values that stand for keyed data -/
inductive RpK (K : PySem.W.Frag) (F : Hp) : List (Key × V) → List (Key × PyData) → Prop
  | nil : RpK K F [] []
  | cons {k : Key} {v : V} {d : PyData} {r : List (Key × V)} {ds : List (Key × PyData)} : Rp K F v d → RpK K F r ds → RpK K F ((k, v) :: r) ((k, d) :: ds)
section
variable {K : PySem.W.Frag} {F G : Hp}
theorem RpK.mono (s : Same F G) : ∀ {r : List (Key × V)} {ds : List (Key × PyData)}, RpK K F r ds → RpK K G r ds
  | _, _, .nil => .nil
  | _, _, .cons a c => .cons (a.mono s) (c.mono s)
theorem RpK.app : ∀ {r r' : List (Key × V)} {ds ds' : List (Key × PyData)}, RpK K F r ds → RpK K F r' ds' → RpK K F (r ++ r') (ds ++ ds')
  | _, _, _, _, .nil, b => b
  | _, _, _, _, .cons a c, b => .cons a (c.app b)
theorem RpK.any (k : Key) : ∀ {r : List (Key × V)} {ds : List (Key × PyData)}, RpK K F r ds → (r.any fun kv => decide (kv.1 = k)) = ds.any fun kv => decide (kv.1 = k)
  | _, _, .nil => rfl
  | _, _, .cons _ c => by rw [List.any_cons, List.any_cons, c.any k]
theorem RpK.up (k : Key) {v : V} {d : PyData} (h : Rp K F v d) : ∀ {r : List (Key × V)} {ds : List (Key × PyData)}, RpK K F r ds → RpK K F (r.map fun kv => if kv.1 = k then (kv.1, v) else kv) (ds.map fun kv => if kv.1 = k then (kv.1, d) else kv)
  | _, _, .nil => .nil
  | _, _, .cons (k := k') a c => by
    rw [List.map_cons, List.map_cons]
    by_cases e : k' = k
    · rw [if_pos e, if_pos e]; exact .cons h (c.up k h)
    · rw [if_neg e, if_neg e]; exact .cons a (c.up k h)
theorem RpK.put {r : List (Key × V)} {ds : List (Key × PyData)} (k : Key) {v : V} {d : PyData} (q : RpK K F r ds) (h : Rp K F v d) : RpK K F (putK r k v) (putD ds k d) := by
  unfold putK putD
  rw [q.any k]
  split
  · exact q.up k h
  · exact q.app (.cons h .nil)
theorem RpK.merge {more : List (Key × V)} {md : List (Key × PyData)} (q : RpK K F more md) : ∀ {r : List (Key × V)} {ds : List (Key × PyData)}, RpK K F r ds → RpK K F (mergeK r more) (mergeD ds md) := by
  induction q with
  | nil => intro r ds p; exact p
  | cons a c ih => intro r ds p; exact ih (p.put _ a)
theorem RpK.own : ∀ {r : List (Key × V)} {ds : List (Key × PyData)}, RpK K F r ds → OwnK K F (ds.map fun kv => (kv.1, O.fz kv.2)) r emp
  | _, _, .nil => .nil
  | _, _, .cons (k := k) a c => by
    have := OwnK.cons (k := k) (Own.fz a) (RpK.own c) emp_dj
    rw [emp_jn] at this; exact this
theorem OwnK.thaw : ∀ {ds : List (Key × PyData)} {vs : List (Key × V)} {h : Hp}, OwnK K F (ds.map fun kv => (kv.1, O.fz kv.2)) vs h → RpK K F vs ds ∧ h = emp
  | [], _, _, h => by cases h; exact ⟨.nil, rfl⟩
  | (k, d) :: ds, _, _, h => by
    rw [List.map_cons] at h
    cases h with
    | cons a b e =>
      cases a with
      | fz r =>
        obtain ⟨r2, rfl⟩ := OwnK.thaw b
        exact ⟨.cons r r2, rfl⟩
theorem RpP.keys : ∀ {ps : List (V × V)} {kvs : List (Key × PyData)}, RpP K F ps (kvs.map fun kv => (keyD kv.1, kv.2)) → ∃ r : List (Key × V), ps = r.map (fun kv => (kV kv.1, kv.2)) ∧ RpK K F r kvs
  | _, [], h => by cases h; exact ⟨[], rfl, .nil⟩
  | _, (k, d) :: kvs, h => by
    rw [List.map_cons] at h
    cases h with
    | @cons x y _ _ _ _ a b c =>
      obtain ⟨r, rfl, q⟩ := RpP.keys c
      have ex : x = kV k := by
        cases k with
        | inl i => cases a; rfl
        | inr z => cases a; rfl
      subst ex
      exact ⟨(k, y) :: r, rfl, .cons b q⟩
theorem RpK.len : ∀ {r : List (Key × V)} {ds : List (Key × PyData)}, RpK K F r ds → r.length = ds.length
  | _, _, .nil => rfl
  | _, _, .cons _ c => by rw [List.length_cons, List.length_cons, c.len]
end
def mDisp (ms : List (TD × TD)) : TD := fun ρ Φ Ξ => mPairs ms ρ (fun ps ρ1 => ∃ kvs : List (Key × PyData), ps = kvs.map (fun kv => (keyD kv.1, kv.2)) ∧ kvs.length ≤ 15 ∧ Φ (.dct ((mergeD [] kvs).map fun kv => (kv.1, .fz kv.2))) ρ1) Ξ
theorem je_disp {ks : List (Option Expr)} {vs : List Expr} {ms : List (TD × TD)} (j : JP2 X W ks vs ms) (hall : ks.all (·.isSome) = true := by rfl) (hl : ks.length = vs.length := by rfl) (h0 : ks ≠ [] := by exact List.cons_ne_nil _ _) (h15 : ks.length ≤ 15 := by decide) : JE X W (.Dict ks vs pos) (mDisp ms) := by
  refine ⟨fun {pins s σ F h hx H ρ Φ Ξ} at_ q xq => (pe_disp j.pps hall hl h0 h15).run _ _ _ _ _ at_.i ?_⟩
  intro p hp
  have s3 : Sp3 F h (jn (upd emp p (.dK [])) hx) (upd H p (.dK [])) := by
    have s1 : Sp3 F (upd h p (.dK [])) hx (upd H p (.dK [])) := at_.s.own hp
    have e : upd h p (.dK []) = jn (upd emp p (.dK [])) h := by rw [upd_jn, emp_jn]
    rw [e] at s1
    exact s1.put (dj_upd emp_dj (at_.s.o.free hp))
  refine pairs_J j σ F h _ _ ρ Ξ _ _ s3 at_.e q (xq.mono (Same.refl _) (same_r (dj_upd emp_dj (at_.s.x.free hp)))) fun ps ds ρ' F' h' H' e1 s1 en1 rp q1 => ?_
  obtain ⟨kvs, rfl, h15', q1⟩ := q1
  obtain ⟨r, rfl, rk⟩ := rp.keys
  have hD : H' p = some (.dK []) := s1.x _ _ (jn_l upd_same)
  refine ⟨hD, r, rfl, by rw [rk.len]; exact h15', ?_⟩
  obtain ⟨s2, d2⟩ := s1.get (dj_upd emp_dj (at_.s.x.free hp))
  have nh : h' p = none := d2.nr upd_same
  have s4 : Sp3 F' (upd (jn (upd emp p (.dK [])) h') p (.dK (mergeK [] r))) hx (upd H' p (.dK (mergeK [] r))) := s2.chg (jn_l upd_same)
  refine ⟨_, ρ', F', upd emp p (.dK (mergeK [] r)), h', e1, ?_, dj_upd emp_dj nh, en1, .dct (rk.merge .nil).own (by rw [keys_fz]; exact nodup_mergeD List.nodup_nil) rfl, q1⟩
  rw [upd_jn, emp_jn]
  rw [upd_jn, emp_jn, upd_upd] at s4
  exact s4
/-- d[k] = e, d in slot i -/
def sDput (i : Nat) (mk mv : TD) : TSD := fun D ρ => mFrz mv ρ (fun y ρ1 => ∃ v kv0, y = .fz v ∧ ρ1[i]? = some (.dct kv0) ∧ mFrz mk ρ1 (fun z ρ2 => ∃ (k : Key) (kvs : List (Key × PyData)), z = .fz (keyD k) ∧ ρ2[i]? = some (.dct (kvs.map fun kv => (kv.1, O.fz kv.2))) ∧ kvs.length ≤ 100000 ∧
  D.nx (ρ2.set i (.dct ((putD kvs k v).map fun kv => (kv.1, .fz kv.2))))) D.ex) D.ex
theorem js_dput {n : Str} {np spos : Pos} (hr : Room k X.A) (i : Nat) (jk : JE X W b mb) (jv : JE X W c mc) (hN : X.N[i]? = some n := by rfl) (hv : Vis X.env.scope n := by first | exact Or.inl rfl | exact Or.inr (Or.inl rfl) | exact Or.inr (Or.inr rfl)) (hd : (n == ("__debug__" : Str)) = false := by decide)
    (hcd : (n == ("__classdict__" : Str)) = false := by decide) (hs : swapsWith c (some (.Subscript (.Name n np) b spos)) pos.line X.env = pure false := by rfl) : JS X W pr (.Assign [.Subscript (.Name n np) b spos] c pos) (sDput i mb mc) := by
  refine ⟨fun {pins s σ F h hx H ρ D} at_ q xq => (ps_dput (hu_of hr) (pe_var (i := i) hN hv hd hcd) pe_J pe_J hs).run _ _ _ _ _ at_.i ?_⟩
  refine (je_frz jv).te at_.s at_.e q xq.now fun v H1 p => ?_
  obtain ⟨o, ρ1, F1, h1, h', e1, s1, d1, en1, ow, vd, kv0, rfl, h0, q1⟩ := p
  obtain ⟨rfl, rv⟩ := own_emp ow
  rw [emp_jn] at s1
  obtain ⟨va, g1, g2, hva, owa, _⟩ := en1.pull h0 (fun z => by cases z)
  refine ⟨va, hva, ?_⟩
  refine (je_frz jk).te s1 en1 q1 (xq.now.mono e1 (Same.refl _)) fun z H2 p2 => ?_
  obtain ⟨o2, ρ2, F2, h2, h'', e2, s2, d2, en2, ow2, key, kvs, rfl, hk, hl, q2⟩ := p2
  obtain ⟨rfl, rk⟩ := own_emp ow2
  rw [emp_jn] at s2
  have ez : z = kV key := by
    cases key with
    | inl i => cases rk; rfl
    | inr y => cases rk; rfl
  subst ez
  obtain ⟨vb, f1, f2, hvb, owb, en3, dj, rfl⟩ := en2.pull hk (fun z => by cases z)
  have hab : vb = va := by rw [hva] at hvb; cases hvb; rfl
  subst hab
  cases owb with
  | @dct _ vs a hh r0 nd na =>
    obtain ⟨rK, rfl⟩ := OwnK.thaw r0
    have at0 : H2 a = some (.dK vs) := s2.o _ _ (jn_l upd_same)
    have lt := rK.len
    refine ⟨a, _, rfl, DPut.k at0 (szlt (by rw [lt]; exact hl)), ?_⟩
    have s4 : Sp3 F2 (upd (jn (upd emp a (.dK vs)) f2) a (.dK (putK vs key v))) hx (upd H2 a (.dK (putK vs key v))) := s2.chg (jn_l upd_same)
    rw [upd_jn, emp_jn, upd_upd] at s4
    have nf : f2 a = none := dj.nr upd_same
    have own2 : Own X.K F2 (.dct ((putD kvs key vd).map fun kv => (kv.1, .fz kv.2))) (.ref a) (upd emp a (.dK (putK vs key v))) := .dct (rK.put key (rv.mono e2)).own (by rw [keys_fz]; rw [keys_fz] at nd; exact nodup_putD nd) rfl
    have p := en3.push (i := i) (by rw [List.getElem?_set_self (lt_of_get hk)]) own2 (dj_upd emp_dj nf)
    rw [List.set_set, set_self hvb, upd_jn, emp_jn] at p
    exact ⟨_, F2, _, Keep.refl, e1.trans e2, s4, p, q2⟩
end
end T

/-! T18: lenses into the environment's trees. -/
namespace T
open PySem PySem.Spec PyProof.Rows L2 Z RZ
section
variable {κ α : Type} [DecidableEq κ]
def lookA : List (κ × α) → κ → Option α
  | [], _ => none
  | (k', x) :: r, k => if k' = k then some x else lookA r k
def upA (k : κ) (n : α) : List (κ × α) → List (κ × α)
  | [] => [(k, n)]
  | (k', x) :: r => if k' = k then (k', n) :: r else (k', x) :: upA k n r
theorem upA_self {k : κ} {x : α} : ∀ {l : List (κ × α)}, lookA l k = some x → upA k x l = l
  | [], e => by cases e
  | (k', y) :: r, e => by
    unfold lookA at e
    unfold upA
    by_cases h : k' = k
    · rw [if_pos h] at e ⊢; cases e; rfl
    · rw [if_neg h] at e ⊢; rw [upA_self e]
theorem lookA_up {k j : κ} {x : α} : ∀ {l : List (κ × α)}, lookA (upA k x l) j = if k = j then some x else lookA l j
  | [] => by unfold upA lookA; rfl
  | (k', y) :: r => by
    unfold upA
    by_cases h : k' = k
    · rw [if_pos h]
      unfold lookA
      subst h
      by_cases hj : k' = j
      · rw [if_pos hj, if_pos hj]
      · rw [if_neg hj, if_neg hj, if_neg hj]
    · rw [if_neg h]
      unfold lookA
      rw [lookA_up]
      by_cases hj : k' = j
      · subst hj
        rw [if_pos rfl, if_pos rfl, if_neg (Ne.symm h)]
      · rw [if_neg hj, if_neg hj]
theorem keys_up {k : κ} {x y : α} : ∀ {l : List (κ × α)}, lookA l k = some y → (upA k x l).map (·.1) = l.map (·.1)
  | [], e => by cases e
  | (k', z) :: r, e => by
    unfold lookA at e
    unfold upA
    by_cases h : k' = k
    · rw [if_pos h]; rfl
    · rw [if_neg h] at e ⊢; rw [List.map_cons, List.map_cons, keys_up e]
theorem lookA_mem {k : κ} : ∀ {l : List (κ × α)}, lookA l k = none ↔ k ∉ l.map (·.1)
  | [] => by unfold lookA; simp
  | (k', y) :: r => by
    unfold lookA
    by_cases h : k' = k
    · rw [if_pos h]; simp [h]
    · rw [if_neg h, lookA_mem, List.map_cons, List.mem_cons, not_or]
      exact ⟨fun z => ⟨fun e => h e.symm, z⟩, fun z => z.2⟩
theorem upA_new {k : κ} {x : α} : ∀ {l : List (κ × α)}, lookA l k = none → upA k x l = l ++ [(k, x)]
  | [], _ => rfl
  | (k', y) :: r, e => by
    unfold lookA at e
    unfold upA
    by_cases h : k' = k
    · rw [if_pos h] at e; cases e
    · rw [if_neg h] at e ⊢; rw [upA_new e]; rfl
theorem nodup_up {k : κ} {x : α} {l : List (κ × α)} (h : (l.map (·.1)).Nodup) : ((upA k x l).map (·.1)).Nodup := by
  cases e : lookA l k with
  | some y => rw [keys_up e]; exact h
  | none =>
    rw [upA_new e, List.map_append]
    refine List.nodup_append.mpr ⟨h, by simp, ?_⟩
    intro a ha b hb
    have hb' : b = k := by simpa using hb
    subst hb'
    rintro rfl
    exact lookA_mem.mp e ha
end
theorem lookA_F {f : Str} : ∀ {l : List (Str × V)}, l.lookup f = lookA l f
  | [] => rfl
  | (g, x) :: r => by
    unfold lookA
    rw [List.lookup_cons]
    by_cases h : g = f
    · have : (f == g) = true := beq_iff_eq.mpr h.symm
      rw [this, if_pos h]
    · have : (f == g) = false := by simpa using fun z : f = g => h z.symm
      rw [this, if_neg h, lookA_F]
theorem putF_up {f : Str} {v : V} : ∀ {l : List (Str × V)}, putF f v l = upA f v l
  | [] => rfl
  | (g, x) :: r => by unfold putF upA; rw [putF_up]
theorem valV_A {k : Key} : ∀ {l : List (Key × V)}, valV l k = lookA l k
  | [] => rfl
  | (g, x) :: r => by
    unfold lookA
    by_cases h : g = k
    · rw [if_pos h, valV_pos h]
    · rw [if_neg h, valV_neg h, valV_A]
theorem map_id_of {k : Key} {v : V} : ∀ {l : List (Key × V)}, k ∉ l.map (·.1) → (l.map fun kv => if kv.1 = k then (kv.1, v) else kv) = l
  | [], _ => rfl
  | (g, x) :: r, h => by
    rw [List.map_cons, List.mem_cons, not_or] at h
    rw [List.map_cons, if_neg (fun z => h.1 z.symm), map_id_of h.2]
theorem putK_up {k : Key} {v : V} {l : List (Key × V)} (nd : (l.map (·.1)).Nodup) : putK l k v = upA k v l := by
  unfold putK
  rw [valV_any, valV_A]
  cases e : lookA l k with
  | none => rw [upA_new e, if_neg (by simp)]
  | some y =>
    rw [if_pos (show (some y).isSome = true from rfl)]
    induction l with
    | nil => cases e
    | cons p r ih =>
      obtain ⟨g, x⟩ := p
      unfold lookA at e
      unfold upA
      rw [List.map_cons] at nd ⊢
      obtain ⟨n1, n2⟩ := List.nodup_cons.mp nd
      by_cases h : g = k
      · subst h
        rw [if_pos rfl, if_pos rfl, map_id_of n1]
      · rw [if_neg h] at e ⊢
        rw [if_neg h, ih n2 e]
/-! an item of a list of trees is taken out, and another put in -/
section
variable {K : PySem.W.Frag} {F : Hp}
theorem jn_swap {a b c : Hp} (d : Dj a b) : jn a (jn b c) = jn b (jn a c) := by rw [← jn_assoc, jn_comm d, jn_assoc]
theorem OwnF.lens {f : Str} : ∀ {fs : List (Str × O)} {vs : List (Str × V)} {h : Hp} {o : O}, OwnF K F fs vs h → lookA fs f = some o →
    ∃ v h1 hc, lookA vs f = some v ∧ Own K F o v h1 ∧ Dj h1 hc ∧ h = jn h1 hc ∧ ∀ F' o2 v2 h2, Same F F' → Own K F' o2 v2 h2 → Dj h2 hc → OwnF K F' (upA f o2 fs) (upA f v2 vs) (jn h2 hc)
  | _, _, _, _, .nil, e => by cases e
  | _, _, _, _, .cons (k := k) (o := o0) (os := os) (v := v0) (vs := vs) (h1 := g1) (h2 := g2) a b d, e => by
    unfold lookA at e
    by_cases h : k = f
    · rw [if_pos h] at e; cases e
      refine ⟨v0, g1, g2, by unfold lookA; rw [if_pos h], a, d, rfl, fun F' o2 v2 h2 s ow dj => ?_⟩
      unfold upA
      rw [if_pos h, if_pos h]
      exact .cons ow (b.mono s) dj
    · rw [if_neg h] at e
      obtain ⟨v, h1, hc, e1, ow, dj, rfl, put⟩ := OwnF.lens b e
      obtain ⟨d1, d2⟩ := dj_jn.mp d
      refine ⟨v, h1, jn g1 hc, by unfold lookA; rw [if_neg h]; exact e1, ow, dj_jn.mpr ⟨d1.symm, dj⟩, jn_swap d1, fun F' o2 v2 h2 s ow2 dj2 => ?_⟩
      obtain ⟨x1, x2⟩ := dj_jn.mp dj2
      unfold upA
      rw [if_neg h, if_neg h, jn_swap x1]
      exact .cons (a.mono s) (put F' o2 v2 h2 s ow2 x2) (dj_jn.mpr ⟨x1.symm, d2⟩)
theorem OwnF.add {f : Str} : ∀ {fs : List (Str × O)} {vs : List (Str × V)} {h : Hp}, OwnF K F fs vs h → lookA fs f = none →
    lookA vs f = none ∧ ∀ F' o2 v2 h2, Same F F' → Own K F' o2 v2 h2 → Dj h2 h → OwnF K F' (upA f o2 fs) (upA f v2 vs) (jn h2 h)
  | _, _, _, .nil, e => ⟨rfl, fun F' o2 v2 h2 s ow dj => by
      have := OwnF.cons (k := f) ow .nil (dj_emp (F := h2))
      exact this⟩
  | _, _, _, .cons (k := k) (o := o0) (os := os) (v := v0) (vs := vs) (h1 := g1) (h2 := g2) a b d, e => by
    unfold lookA at e
    by_cases h : k = f
    · rw [if_pos h] at e; cases e
    · rw [if_neg h] at e
      obtain ⟨e1, put⟩ := OwnF.add b e
      refine ⟨by unfold lookA; rw [if_neg h]; exact e1, fun F' o2 v2 h2 s ow2 dj2 => ?_⟩
      obtain ⟨x1, x2⟩ := dj_jn.mp dj2
      unfold upA
      rw [if_neg h, if_neg h, jn_swap x1]
      exact .cons (a.mono s) (put F' o2 v2 h2 s ow2 x2) (dj_jn.mpr ⟨x1.symm, d⟩)
theorem OwnK.lens {f : Key} : ∀ {fs : List (Key × O)} {vs : List (Key × V)} {h : Hp} {o : O}, OwnK K F fs vs h → lookA fs f = some o →
    ∃ v h1 hc, lookA vs f = some v ∧ Own K F o v h1 ∧ Dj h1 hc ∧ h = jn h1 hc ∧ ∀ F' o2 v2 h2, Same F F' → Own K F' o2 v2 h2 → Dj h2 hc → OwnK K F' (upA f o2 fs) (upA f v2 vs) (jn h2 hc)
  | _, _, _, _, .nil, e => by cases e
  | _, _, _, _, .cons (k := k) (o := o0) (os := os) (v := v0) (vs := vs) (h1 := g1) (h2 := g2) a b d, e => by
    unfold lookA at e
    by_cases h : k = f
    · rw [if_pos h] at e; cases e
      refine ⟨v0, g1, g2, by unfold lookA; rw [if_pos h], a, d, rfl, fun F' o2 v2 h2 s ow dj => ?_⟩
      unfold upA
      rw [if_pos h, if_pos h]
      exact .cons ow (b.mono s) dj
    · rw [if_neg h] at e
      obtain ⟨v, h1, hc, e1, ow, dj, rfl, put⟩ := OwnK.lens b e
      obtain ⟨d1, d2⟩ := dj_jn.mp d
      refine ⟨v, h1, jn g1 hc, by unfold lookA; rw [if_neg h]; exact e1, ow, dj_jn.mpr ⟨d1.symm, dj⟩, jn_swap d1, fun F' o2 v2 h2 s ow2 dj2 => ?_⟩
      obtain ⟨x1, x2⟩ := dj_jn.mp dj2
      unfold upA
      rw [if_neg h, if_neg h, jn_swap x1]
      exact .cons (a.mono s) (put F' o2 v2 h2 s ow2 x2) (dj_jn.mpr ⟨x1.symm, d2⟩)
theorem OwnK.add {f : Key} : ∀ {fs : List (Key × O)} {vs : List (Key × V)} {h : Hp}, OwnK K F fs vs h → lookA fs f = none →
    lookA vs f = none ∧ ∀ F' o2 v2 h2, Same F F' → Own K F' o2 v2 h2 → Dj h2 h → OwnK K F' (upA f o2 fs) (upA f v2 vs) (jn h2 h)
  | _, _, _, .nil, e => ⟨rfl, fun F' o2 v2 h2 s ow dj => by
      have := OwnK.cons (k := f) ow .nil (dj_emp (F := h2))
      exact this⟩
  | _, _, _, .cons (k := k) (o := o0) (os := os) (v := v0) (vs := vs) (h1 := g1) (h2 := g2) a b d, e => by
    unfold lookA at e
    by_cases h : k = f
    · rw [if_pos h] at e; cases e
    · rw [if_neg h] at e
      obtain ⟨e1, put⟩ := OwnK.add b e
      refine ⟨by unfold lookA; rw [if_neg h]; exact e1, fun F' o2 v2 h2 s ow2 dj2 => ?_⟩
      obtain ⟨x1, x2⟩ := dj_jn.mp dj2
      unfold upA
      rw [if_neg h, if_neg h, jn_swap x1]
      exact .cons (a.mono s) (put F' o2 v2 h2 s ow2 x2) (dj_jn.mpr ⟨x1.symm, d⟩)
theorem OwnK.keys : ∀ {fs : List (Key × O)} {vs : List (Key × V)} {h : Hp}, OwnK K F fs vs h → vs.map (·.1) = fs.map (·.1)
  | _, _, _, .nil => rfl
  | _, _, _, .cons _ b _ => by rw [List.map_cons, List.map_cons, b.keys]
theorem OwnF.len : ∀ {fs : List (Str × O)} {vs : List (Str × V)} {h : Hp}, OwnF K F fs vs h → fs.length = vs.length
  | _, _, _, .nil => rfl
  | _, _, _, .cons _ b _ => by rw [List.length_cons, List.length_cons, b.len]
theorem OwnK.len : ∀ {fs : List (Key × O)} {vs : List (Key × V)} {h : Hp}, OwnK K F fs vs h → fs.length = vs.length
  | _, _, _, .nil => rfl
  | _, _, _, .cons _ b _ => by rw [List.length_cons, List.length_cons, b.len]
theorem OwnL.lens : ∀ {xs : List O} {vs : List V} {h : Hp} {o : O} (n : Nat), OwnL K F xs vs h → xs[n]? = some o →
    ∃ v h1 hc, vs[n]? = some v ∧ Own K F o v h1 ∧ Dj h1 hc ∧ h = jn h1 hc ∧ ∀ F' o2 v2 h2, Same F F' → Own K F' o2 v2 h2 → Dj h2 hc → OwnL K F' (xs.set n o2) (vs.set n v2) (jn h2 hc)
  | _, _, _, _, n, .nil, e => by simp at e
  | _, _, _, _, 0, .cons (o := o0) (os := os) (v := v0) (vs := vs) (h1 := g1) (h2 := g2) a b d, e => by
    simp at e; subst e
    exact ⟨v0, g1, g2, rfl, a, d, rfl, fun F' o2 v2 h2 s ow dj => .cons ow (b.mono s) dj⟩
  | _, _, _, _, n + 1, .cons (o := o0) (os := os) (v := v0) (vs := vs) (h1 := g1) (h2 := g2) a b d, e => by
    obtain ⟨v, h1, hc, e1, ow, dj, rfl, put⟩ := OwnL.lens n b (by simpa using e)
    obtain ⟨d1, d2⟩ := dj_jn.mp d
    refine ⟨v, h1, jn g1 hc, by simpa using e1, ow, dj_jn.mpr ⟨d1.symm, dj⟩, jn_swap d1, fun F' o2 v2 h2 s ow2 dj2 => ?_⟩
    obtain ⟨x1, x2⟩ := dj_jn.mp dj2
    rw [jn_swap x1]
    exact .cons (a.mono s) (put F' o2 v2 h2 s ow2 x2) (dj_jn.mpr ⟨x1.symm, d2⟩)
end
/-! lenses into the environment -/
def Lns (K : PySem.W.Frag) (F : Hp) (σ : L2.St) (h : Hp) (k : O → EnvT) (o : O) (v : V) : Prop := ∃ h1 hc, Own K F o v h1 ∧ Dj h1 hc ∧ h = jn h1 hc ∧ ∀ F' o2 h2, Same F F' → Own K F' o2 v h2 → Dj h2 hc → EnvL K F' (k o2) σ (jn h2 hc)
section
variable {K : PySem.W.Frag} {F G h : Hp} {σ : L2.St} {k : O → EnvT} {o : O} {v : V}
theorem Lns.mono (s : Same F G) (L : Lns K F σ h k o v) : Lns K G σ h k o v := by
  obtain ⟨h1, hc, a, d, e, p⟩ := L
  exact ⟨h1, hc, a.mono s, d, e, fun F' o2 h2 s2 => p F' o2 h2 (s.trans s2)⟩
theorem lns_var {ρ : EnvT} {i : Nat} (en : EnvL K F ρ σ h) (e : ρ[i]? = some o) (nu : o ≠ .un) : ∃ v, σ[i]? = some (some v) ∧ Lns K F σ h (fun n => ρ.set i n) o v := by
  obtain ⟨v, h1, h2, e1, ow, en2, d, rfl⟩ := en.pull e nu
  refine ⟨v, e1, h1, h2, ow, d, rfl, fun F' o2 g s ow2 dj => ?_⟩
  have p := (en2.mono s).push (i := i) (by rw [List.getElem?_set_self (lt_of_get e)]) ow2 dj
  rw [List.set_set, set_self e1] at p
  exact p
theorem upd_of {a : Addr} {o u : HO} (e : h a = some u) (n : G a = none) : upd (jn G h) a o = jn G (upd h a o) := (jn_upd n).symm
theorem Lns.fld {C : Addr} {fs : List (Str × O)} {f : Str} {x : O} (L : Lns K F σ h k (.ins C fs) v) (e : lookA fs f = some x) :
    ∃ a dx vs w, v = .ref a ∧ h a = some (.ins C dx vs) ∧ lookA vs f = some w ∧ Lns K F σ h (fun n => k (.ins C (upA f n fs))) x w := by
  obtain ⟨h1, hc, a, d, rfl, p⟩ := L
  cases a with
  | @ins _ _ vs a dx g r n m ne =>
    obtain ⟨w, g1, gc, e1, ow, dj, rfl, put⟩ := r.lens e
    obtain ⟨na, nc⟩ := jn_none.mp n
    obtain ⟨ma, mc⟩ := jn_none.mp m
    refine ⟨a, dx, vs, w, rfl, jn_l upd_same, e1, g1, jn (upd (upd gc dx (.own a)) a (.ins C dx vs)) hc, ow, ?_, ?_, fun F' o2 g2 s ow2 dj2 => ?_⟩
    · refine dj_jn.mpr ⟨?_, fun b => ?_⟩
      · exact (dj_upd (dj_upd dj.symm ma) na).symm
      · rcases d b with z | z
        · left
          by_cases hb : b = a
          · rw [hb]; exact na
          · by_cases hd : b = dx
            · rw [hd]; exact ma
            · rw [upd_ne hb, upd_ne hd] at z; exact (jn_none.mp z).1
        · exact .inr z
    · rw [← jn_assoc, jn_upd na, jn_upd ma]
    · obtain ⟨x1, x2⟩ := dj_jn.mp dj2
      have n2 : g2 a = none := x1.nl upd_same
      have m2 : g2 dx = none := x1.nl (by rw [upd_ne ne]; exact upd_same)
      have x3 : Dj g2 gc := fun b => by
        by_cases hb : b = a
        · rw [hb]; exact .inl n2
        · by_cases hd : b = dx
          · rw [hd]; exact .inl m2
          · have := x1 b; rw [upd_ne hb, upd_ne hd] at this; exact this
      have nw := Own.ins (C := C) (a := a) (dx := dx) (put F' o2 w g2 s ow2 x3) (jn_none.mpr ⟨n2, nc⟩) (jn_none.mpr ⟨m2, mc⟩) ne
      rw [upA_self e1] at nw
      have q := p F' _ _ s nw ?_
      · rw [← jn_assoc, jn_upd n2, jn_upd m2]; exact q
      · intro b
        by_cases hb : b = a
        · subst hb; exact .inr (d.nr upd_same)
        · by_cases hd : b = dx
          · subst hd; exact .inr (d.nr (by rw [upd_ne ne]; exact upd_same))
          · rw [upd_ne hb, upd_ne hd]
            have z1 := d b
            rw [upd_ne hb, upd_ne hd] at z1
            rcases z1 with z1 | z1
            · rcases x2 b with z2 | z2
              · exact .inl (jn_none.mpr ⟨z2, (jn_none.mp z1).2⟩)
              · exact .inr z2
            · exact .inr z1
theorem Lns.key {kvs : List (Key × O)} {f : Key} {x : O} (L : Lns K F σ h k (.dct kvs) v) (e : lookA kvs f = some x) :
    ∃ a vs w, v = .ref a ∧ h a = some (.dK vs) ∧ lookA vs f = some w ∧ Lns K F σ h (fun n => k (.dct (upA f n kvs))) x w := by
  obtain ⟨h1, hc, a, d, rfl, p⟩ := L
  cases a with
  | @dct _ vs a g r nd n =>
    obtain ⟨w, g1, gc, e1, ow, dj, rfl, put⟩ := r.lens e
    obtain ⟨na, nc⟩ := jn_none.mp n
    refine ⟨a, vs, w, rfl, jn_l upd_same, e1, g1, jn (upd gc a (.dK vs)) hc, ow, ?_, ?_, fun F' o2 g2 s ow2 dj2 => ?_⟩
    · refine dj_jn.mpr ⟨(dj_upd dj.symm na).symm, fun b => ?_⟩
      rcases d b with z | z
      · left
        by_cases hb : b = a
        · rw [hb]; exact na
        · rw [upd_ne hb] at z; exact (jn_none.mp z).1
      · exact .inr z
    · rw [← jn_assoc, jn_upd na]
    · obtain ⟨x1, x2⟩ := dj_jn.mp dj2
      have n2 : g2 a = none := x1.nl upd_same
      have x3 : Dj g2 gc := fun b => by
        by_cases hb : b = a
        · rw [hb]; exact .inl n2
        · have := x1 b; rw [upd_ne hb] at this; exact this
      have nw := Own.dct (a := a) (put F' o2 w g2 s ow2 x3) (nodup_up nd) (jn_none.mpr ⟨n2, nc⟩)
      rw [upA_self e1] at nw
      have q := p F' _ _ s nw ?_
      · rw [← jn_assoc, jn_upd n2]; exact q
      · intro b
        by_cases hb : b = a
        · subst hb; exact .inr (d.nr upd_same)
        · rw [upd_ne hb]
          have z1 := d b
          rw [upd_ne hb] at z1
          rcases z1 with z1 | z1
          · rcases x2 b with z2 | z2
            · exact .inl (jn_none.mpr ⟨z2, (jn_none.mp z1).2⟩)
            · exact .inr z2
          · exact .inr z1
theorem Lns.ix {xs : List O} {i : Nat} {x : O} (L : Lns K F σ h k (.lst xs) v) (e : xs[i]? = some x) :
    ∃ a vs w, v = .ref a ∧ h a = some (.lst vs) ∧ vs[i]? = some w ∧ Lns K F σ h (fun n => k (.lst (xs.set i n))) x w := by
  obtain ⟨h1, hc, a, d, rfl, p⟩ := L
  cases a with
  | @lst _ vs a g r n =>
    obtain ⟨w, g1, gc, e1, ow, dj, rfl, put⟩ := r.lens i e
    obtain ⟨na, nc⟩ := jn_none.mp n
    refine ⟨a, vs, w, rfl, jn_l upd_same, e1, g1, jn (upd gc a (.lst vs)) hc, ow, ?_, ?_, fun F' o2 g2 s ow2 dj2 => ?_⟩
    · refine dj_jn.mpr ⟨(dj_upd dj.symm na).symm, fun b => ?_⟩
      rcases d b with z | z
      · left
        by_cases hb : b = a
        · rw [hb]; exact na
        · rw [upd_ne hb] at z; exact (jn_none.mp z).1
      · exact .inr z
    · rw [← jn_assoc, jn_upd na]
    · obtain ⟨x1, x2⟩ := dj_jn.mp dj2
      have n2 : g2 a = none := x1.nl upd_same
      have x3 : Dj g2 gc := fun b => by
        by_cases hb : b = a
        · rw [hb]; exact .inl n2
        · have := x1 b; rw [upd_ne hb] at this; exact this
      have nw := Own.lst (a := a) (put F' o2 w g2 s ow2 x3) (jn_none.mpr ⟨n2, nc⟩)
      have ev : vs.set i w = vs := by
        obtain ⟨hl, he⟩ := List.getElem?_eq_some_iff.mp e1
        rw [← he]; exact List.set_getElem_self hl
      rw [ev] at nw
      have q := p F' _ _ s nw ?_
      · rw [← jn_assoc, jn_upd n2]; exact q
      · intro b
        by_cases hb : b = a
        · subst hb; exact .inr (d.nr upd_same)
        · rw [upd_ne hb]
          have z1 := d b
          rw [upd_ne hb] at z1
          rcases z1 with z1 | z1
          · rcases x2 b with z2 | z2
            · exact .inl (jn_none.mpr ⟨z2, (jn_none.mp z1).2⟩)
            · exact .inr z2
          · exact .inr z1
/-! a node is changed -/
theorem OwnF.store {f : Str} {fs : List (Str × O)} {vs : List (Str × V)} {g : Hp} {oy : O} {vy : V} {hy : Hp} (r : OwnF K F fs vs g) (y : Own K F oy vy hy) (d : Dj hy g) : ∃ g', OwnF K F (upA f oy fs) (upA f vy vs) (jn hy g') ∧ Same g' g := by
  cases e : lookA fs f with
  | some x =>
    obtain ⟨w, g1, gc, e1, ow, dj, rfl, put⟩ := r.lens e
    exact ⟨gc, put F oy vy hy (Same.refl _) y (dj_jn.mp d).2, same_r dj⟩
  | none => exact ⟨g, (r.add e).2 F oy vy hy (Same.refl _) y d, Same.refl _⟩
theorem OwnK.store {f : Key} {fs : List (Key × O)} {vs : List (Key × V)} {g : Hp} {oy : O} {vy : V} {hy : Hp} (r : OwnK K F fs vs g) (y : Own K F oy vy hy) (d : Dj hy g) : ∃ g', OwnK K F (upA f oy fs) (upA f vy vs) (jn hy g') ∧ Same g' g := by
  cases e : lookA fs f with
  | some x =>
    obtain ⟨w, g1, gc, e1, ow, dj, rfl, put⟩ := r.lens e
    exact ⟨gc, put F oy vy hy (Same.refl _) y (dj_jn.mp d).2, same_r dj⟩
  | none => exact ⟨g, (r.add e).2 F oy vy hy (Same.refl _) y d, Same.refl _⟩
/-- one cell a of the node is new, the rest comes from what was -/
theorem node_same {h1 hc hy N : Hp} {a : Addr} {u old : HO} (ha : h1 a = some old) (d : Dj h1 hc) (dy : Dj hy (jn h1 hc)) (hN : ∀ b o, N b = some o → (b = a ∧ o = u) ∨ (b ≠ a ∧ (hy b = some o ∨ h1 b = some o))) :
    Dj N hc ∧ Same (jn N hc) (upd (jn hy (jn h1 hc)) a u) := by
  obtain ⟨y1, y2⟩ := dj_jn.mp dy
  refine ⟨fun b => ?_, same_jn (fun b o e => ?_) fun b o e => ?_⟩
  · cases z : N b with
    | none => exact .inl rfl
    | some o =>
      right
      rcases hN b o z with ⟨rfl, _⟩ | ⟨_, q | q⟩
      · exact d.nr ha
      · exact y2.nr q
      · exact d.nr q
  · rcases hN b o e with ⟨rfl, rfl⟩ | ⟨hb, q | q⟩
    · exact upd_same
    · rw [upd_ne hb]; exact jn_l q
    · rw [upd_ne hb, jn_r (y1.nl q)]; exact jn_l q
  · have hb : b ≠ a := fun z => by rw [z, d.nr ha] at e; cases e
    rw [upd_ne hb, jn_r (y2.nl e), jn_r (d.nl e)]; exact e
theorem Lns.setFld {C : Addr} {fs : List (Str × O)} (f : Str) {oy : O} {vy : V} {hy : Hp} (L : Lns K F σ h k (.ins C fs) v) (y : Own K F oy vy hy) (dy : Dj hy h) :
    ∃ a dx vs, v = .ref a ∧ h a = some (.ins C dx vs) ∧ fs.length = vs.length ∧ ∃ h', EnvL K F (k (.ins C (upA f oy fs))) σ h' ∧ Same h' (upd (jn hy h) a (.ins C dx (upA f vy vs))) := by
  obtain ⟨h1, hc, a, d, rfl, p⟩ := L
  cases a with
  | @ins _ _ vs a dx g r n m ne =>
    have hy1 := (dj_jn.mp dy).1
    have na : hy a = none := hy1.nl upd_same
    have ma : hy dx = none := hy1.nl (by rw [upd_ne ne]; exact upd_same)
    have dg : Dj hy g := fun b => by
      by_cases hb : b = a
      · rw [hb]; exact .inl na
      · by_cases hd : b = dx
        · rw [hd]; exact .inl ma
        · have := hy1 b; rw [upd_ne hb, upd_ne hd] at this; exact this
    obtain ⟨g', r', sg⟩ := r.store (f := f) y dg
    have ng' : g' a = none := sg.free n
    have mg' : g' dx = none := sg.free m
    have nw := Own.ins (C := C) (a := a) (dx := dx) r' (jn_none.mpr ⟨na, ng'⟩) (jn_none.mpr ⟨ma, mg'⟩) ne
    obtain ⟨dN, sN⟩ := node_same (u := .ins C dx (upA f vy vs)) (N := upd (upd (jn hy g') dx (.own a)) a (.ins C dx (upA f vy vs))) (hy := hy) upd_same d dy (fun b o e => by
      by_cases hb : b = a
      · subst hb; rw [upd_same] at e; cases e; exact .inl ⟨rfl, rfl⟩
      · refine .inr ⟨hb, ?_⟩
        rw [upd_ne hb] at e ⊢
        by_cases hd : b = dx
        · subst hd; rw [upd_same] at e ⊢; exact .inr e
        · rw [upd_ne hd] at e ⊢
          cases z : hy b with
          | some o' => rw [jn_l z] at e; exact .inl e
          | none => rw [jn_r z] at e; exact .inr (sg _ _ e))
    exact ⟨a, dx, vs, rfl, jn_l upd_same, r.len, _, p F _ _ (Same.refl _) nw dN, sN⟩
theorem Lns.setKey {kvs : List (Key × O)} (f : Key) {oy : O} {vy : V} {hy : Hp} (L : Lns K F σ h k (.dct kvs) v) (y : Own K F oy vy hy) (dy : Dj hy h) :
    ∃ a vs, v = .ref a ∧ h a = some (.dK vs) ∧ kvs.length = vs.length ∧ (vs.map (·.1)).Nodup ∧ ∃ h', EnvL K F (k (.dct (upA f oy kvs))) σ h' ∧ Same h' (upd (jn hy h) a (.dK (upA f vy vs))) := by
  obtain ⟨h1, hc, a, d, rfl, p⟩ := L
  cases a with
  | @dct _ vs a g r nd n =>
    have hy1 := (dj_jn.mp dy).1
    have na : hy a = none := hy1.nl upd_same
    have dg : Dj hy g := fun b => by
      by_cases hb : b = a
      · rw [hb]; exact .inl na
      · have := hy1 b; rw [upd_ne hb] at this; exact this
    obtain ⟨g', r', sg⟩ := r.store (f := f) y dg
    have ng' : g' a = none := sg.free n
    have nw := Own.dct (a := a) r' (nodup_up nd) (jn_none.mpr ⟨na, ng'⟩)
    obtain ⟨dN, sN⟩ := node_same (u := .dK (upA f vy vs)) (N := upd (jn hy g') a (.dK (upA f vy vs))) (hy := hy) upd_same d dy (fun b o e => by
      by_cases hb : b = a
      · subst hb; rw [upd_same] at e; cases e; exact .inl ⟨rfl, rfl⟩
      · refine .inr ⟨hb, ?_⟩
        rw [upd_ne hb] at e ⊢
        cases z : hy b with
        | some o' => rw [jn_l z] at e; exact .inl e
        | none => rw [jn_r z] at e; exact .inr (sg _ _ e))
    exact ⟨a, vs, rfl, jn_l upd_same, r.len, by rw [r.keys]; exact nd, _, p F _ _ (Same.refl _) nw dN, sN⟩
theorem Lns.app {xs : List O} {oy : O} {vy : V} {hy : Hp} (L : Lns K F σ h k (.lst xs) v) (y : Own K F oy vy hy) (dy : Dj hy h) :
    ∃ a vs, v = .ref a ∧ h a = some (.lst vs) ∧ xs.length = vs.length ∧ ∃ h', EnvL K F (k (.lst (xs ++ [oy]))) σ h' ∧ Same h' (upd (jn hy h) a (.lst (vs ++ [vy]))) := by
  obtain ⟨h1, hc, a, d, rfl, p⟩ := L
  cases a with
  | @lst _ vs a g r n =>
    have hy1 := (dj_jn.mp dy).1
    have na : hy a = none := hy1.nl upd_same
    have dg : Dj g hy := fun b => by
      by_cases hb : b = a
      · rw [hb]; exact .inr na
      · have := hy1 b; rw [upd_ne hb] at this; exact this.symm
    have nw := Own.lst (a := a) (OwnL.app r (OwnL.cons y .nil (dj_emp (F := hy))) (by rw [jn_emp]; exact dg)) (by rw [jn_emp]; exact jn_none.mpr ⟨n, na⟩)
    obtain ⟨dN, sN⟩ := node_same (u := .lst (vs ++ [vy])) (N := upd (jn g (jn hy emp)) a (.lst (vs ++ [vy]))) (hy := hy) upd_same d dy (fun b o e => by
      by_cases hb : b = a
      · subst hb; rw [upd_same] at e; cases e; exact .inl ⟨rfl, rfl⟩
      · refine .inr ⟨hb, ?_⟩
        rw [upd_ne hb] at e ⊢
        rw [jn_emp] at e
        cases z : g b with
        | some o' => rw [jn_l z] at e; exact .inr e
        | none => rw [jn_r z] at e; exact .inl e)
    exact ⟨a, vs, rfl, jn_l upd_same, r.len, _, p F _ _ (Same.refl _) nw dN, sN⟩
end
end T

/-! T19: paths into own trees: p.f, p[k]; stores, appends, deletions behind them. -/
namespace T
open PySem PySem.Spec PyProof.Rows L2 Z RZ
abbrev PthR := EnvT → ((O → EnvT) → O → Prop) → (Exn → EnvT → Prop) → Prop
/-- what a class says of a field's name -/
def ClF (K : PySem.W.Frag) (C : Addr) (f : Str) : Prop := Cls K C ∧ NoAttr K C f
structure JPt (X : Cx) (W : WX) (e : Expr) (p : PthR) : Prop where
  te : ∀ {σ F h hx H ρ Φ Ξ} {Q : VK}, Sp3 F h hx H → EnvL X.K F ρ σ h → p ρ Φ Ξ → XQ X W σ F hx Ξ → (∀ v H' F' k o, Same F F' → Sp3 F' h hx H' → Lns X.K F' σ h k o v → Φ k o → Q v H') → teJ X e σ H Q
/-- a result of a borrowed reading -/
def bor (m : TD) (ρ : EnvT) (Φ : O → Prop) (Ξ : Exn → EnvT → Prop) : Prop := m (ρ.map lent) (fun o _ => noMutO o = true ∧ Φ o) fun x _ => noMutL (x.fs.map (·.2)) = true ∧ Ξ x ρ
section
variable {X : Cx} {W : WX} {pr : List Nat} {e a b c o : Expr} {es rest : List Expr} {pos pos' tpos apos : Pos} {ma mb mc mk me : TD} {p : PthR} {i k : Nat} {f : Str}
def pVar (i : Nat) : PthR := fun ρ Φ _ => ∃ o, ρ[i]? = some o ∧ o ≠ .un ∧ Φ (fun n => ρ.set i n) o
theorem jp_var (i : Nat) {x : Str} (hN : X.N[i]? = some x := by rfl) (hv : Vis X.env.scope x := by first | exact Or.inl rfl | exact Or.inr (Or.inl rfl) | exact Or.inr (Or.inr rfl)) (hd : (x == ("__debug__" : Str)) = false := by decide)
    (hcd : (x == ("__classdict__" : Str)) = false := by decide) : JPt X W (.Name x pos) (pVar i) := by
  refine ⟨fun {σ F h hx H ρ Φ Ξ Q} s en q xq kk pins s0 I => ?_⟩
  obtain ⟨o, e, nu, q⟩ := q
  obtain ⟨v, e1, L⟩ := lns_var en e nu
  exact (pe_var hN hv hd hcd).run _ _ _ _ _ I ⟨v, e1, kk _ _ _ _ _ (Same.refl _) s L q⟩
def pFld (K : PySem.W.Frag) (p : PthR) (f : Str) : PthR := fun ρ Φ Ξ => p ρ (fun k o => ∃ C fs x, o = .ins C fs ∧ ClF K C f ∧ lookA fs f = some x ∧ Φ (fun n => k (.ins C (upA f n fs))) x) Ξ
theorem jp_fld (j : JPt X W e p) (hb : attributeBase e f X.env (eval e X.env) = eval e X.env := by rfl) : JPt X W (.Attribute e f pos) (pFld X.K p f) := by
  refine ⟨fun {σ F h hx H ρ Φ Ξ Q} s en q xq kk pins s0 I => (pe_fld pe_J hb).run _ _ _ _ _ I ?_⟩
  refine j.te s en q xq ?_
  rintro v H1 F1 k o e1 s1 L ⟨C, fs, x, rfl, ⟨hc, hn⟩, hl, q1⟩
  obtain ⟨A0, dx, vs, w, rfl, ha, hw, L2⟩ := L.fld hl
  exact ⟨A0, C, dx, vs, w, rfl, s1.o _ _ ha, hc, hn, by rw [lookA_F]; exact hw, kk _ _ _ _ _ e1 s1 L2 q1⟩
def pKey (p : PthR) (mk : TD) : PthR := fun ρ Φ Ξ => p ρ (fun k o => ∃ kvs, o = .dct kvs ∧ bor mk ρ (fun z => ∃ key x, z = .fz (keyD key) ∧ lookA kvs key = some x ∧ Φ (fun n => k (.dct (upA key n kvs))) x) Ξ) Ξ
theorem rp_key {K : PySem.W.Frag} {F : Hp} {z : V} {key : Key} (r : Rp K F z (keyD key)) : z = kV key := by
  cases key with
  | inl i => cases r; rfl
  | inr y => cases r; rfl
theorem jp_key (hr : Room k X.A) (j : JPt X W e p) (jk : JE X W a mk) (hs : NoSl a) : JPt X W (.Subscript e a pos) (pKey p mk) := by
  refine ⟨fun {σ F h hx H ρ Φ Ξ Q} s en q xq kk pins s0 I => (pe_dget (hu_of hr) pe_J pe_J hs).run _ _ _ _ _ I ?_⟩
  refine j.te s en q xq ?_
  rintro v H1 F1 k o e1 s1 L ⟨kvs, rfl, q1⟩
  refine bor_te jk s1 (en.mono e1) q1 (xq.mono e1 (Same.refl _)) ?_
  rintro z H2 oz F2 h2 e2 s2 d2 ow ⟨key, x, rfl, hl, q2⟩
  obtain ⟨rfl, r⟩ := own_emp ow
  rw [emp_jn] at s2
  have ez := rp_key r
  subst ez
  obtain ⟨A0, vs, w, rfl, ha, hw, L2⟩ := (L.mono e2).key hl
  refine ⟨A0, w, rfl, ?_, kk _ _ _ _ _ (e1.trans e2) s2 L2 q2⟩
  have := DGet.k (k := key) (s2.o _ _ ha)
  rw [valV_A, hw] at this
  exact this
/-! p.f = e -/
def sFldP (K : PySem.W.Frag) (p : PthR) (f : Str) (me : TD) : TSD := fun D ρ => me ρ (fun y ρ1 => p ρ1 (fun k o => ∃ C fs, o = .ins C fs ∧ ClF K C f ∧ fs.length ≤ 900 ∧ D.nx (k (.ins C (upA f y fs)))) D.ex) D.ex
/-- a store's end -/
theorem store_end {K : PySem.W.Frag} {σ : L2.St} {F F1 F2 h1 h' hx hq H2 : Hp} {a : Addr} {u old : HO} {Φ : EnvT → Prop} {ρ2 : EnvT} (e : Same F F2) (s : Sp3 F2 (jn h1 h') hx H2) (ha : h' a = some old) (d : Dj h1 h') (en : EnvL K F2 ρ2 σ hq) (sq : Same hq (upd (jn h1 h') a u)) (q : Φ ρ2) :
    PostS K pr σ F hx Φ σ (upd H2 a u) := by
  have s4 := s.chg (u := u) (show jn h1 h' a = some old by rw [jn_r (d.nl ha)]; exact ha)
  exact ⟨ρ2, F2, hq, Keep.refl, e, s4.less sq, en, q⟩
theorem js_fldP (jo : JPt X W o p) (jv : JE X W c me) (hs : swapsWith c (some (.Attribute o f pos')) pos.line X.env = pure false := by rfl) : JS X W pr (.Assign [.Attribute o f pos'] c pos) (sFldP X.K p f me) := by
  refine ⟨fun {pins s σ F h hx H ρ D} at_ q xs => (ps_fld pe_J pe_J hs).run _ _ _ _ _ at_.i ?_⟩
  refine jv.te at_.s at_.e q xs.now ?_
  rintro v H1 ⟨y, ρ1, F1, h1, h', e1, s1, d1, en1, ow, q1⟩
  refine jo.te (s1.put d1) en1 q1 (xs.now.mono e1 (same_r (jn_dj.mp s1.ox).1)) ?_
  rintro w H2 F2 k o e2 s2 L ⟨C, fs, rfl, ⟨hc, hn⟩, hl, q2⟩
  obtain ⟨s3, d3⟩ := s2.get (jn_dj.mp s1.ox).1
  obtain ⟨A0, dx, vs, rfl, ha, hlen, hq, en3, sq⟩ := L.setFld f (ow.mono e2) d3
  refine ⟨A0, C, dx, vs, rfl, s2.o _ _ ha, hc, hn, by omega, ?_⟩
  rw [putF_up]
  exact store_end (F1 := F) (e1.trans e2) s3 ha d3 en3 sq q2
/-! p[k] = e -/
def sPutP (p : PthR) (mk me : TD) : TSD := fun D ρ => me ρ (fun y ρ1 => p ρ1 (fun k o => ∃ kvs, o = .dct kvs ∧ bor mk ρ1 (fun z => ∃ key, z = .fz (keyD key) ∧ kvs.length ≤ 100000 ∧ D.nx (k (.dct (upA key y kvs)))) D.ex) D.ex) D.ex
theorem js_putP (hr : Room k X.A) (jo : JPt X W o p) (jk : JE X W a mk) (jv : JE X W c me) (hs : swapsWith c (some (.Subscript o a pos')) pos.line X.env = pure false := by rfl) : JS X W pr (.Assign [.Subscript o a pos'] c pos) (sPutP p mk me) := by
  refine ⟨fun {pins s σ F h hx H ρ D} at_ q xs => (ps_dput (hu_of hr) pe_J pe_J pe_J hs).run _ _ _ _ _ at_.i ?_⟩
  refine jv.te at_.s at_.e q xs.now ?_
  rintro v H1 ⟨y, ρ1, F1, h1, h', e1, s1, d1, en1, ow, q1⟩
  have xx := xs.now.mono e1 (same_r (jn_dj.mp s1.ox).1)
  refine jo.te (s1.put d1) en1 q1 xx ?_
  rintro w H2 F2 k o e2 s2 L ⟨kvs, rfl, q2⟩
  refine bor_te jk s2 (en1.mono e2) q2 (xx.mono e2 (Same.refl _)) ?_
  rintro z H3 oz F3 h3 e3 s3 d3 owz ⟨key, rfl, hl, q3⟩
  obtain ⟨rfl, r⟩ := own_emp owz
  rw [emp_jn] at s3
  have ez := rp_key r
  subst ez
  obtain ⟨s4, d4⟩ := s3.get (jn_dj.mp s1.ox).1
  obtain ⟨A0, vs, rfl, ha, hlen, nd, hq, en3, sq⟩ := (L.mono e3).setKey key (ow.mono (e2.trans e3)) d4
  refine ⟨A0, _, rfl, DPut.k (s3.o _ _ ha) (szlt (by omega)), ?_⟩
  rw [putK_up nd]
  exact store_end (F1 := F) ((e1.trans e2).trans e3) s4 ha d4 en3 sq q3
/-! p.append(e) -/
def sAppP (p : PthR) (me : TD) : TSD := fun D ρ => p ρ (fun k o => ∃ xs, o = .lst xs ∧ xs.length ≤ 100000 ∧ bor me ρ (fun y => D.nx (k (.lst (xs ++ [y])))) D.ex) D.ex
theorem js_appP {call : Expr} (jo : JPt X W o p) (hp : PE X o (teJ X o) → PE X c (teJ X c) → PE X call (tBM X.K "list" rAppend (teJ X o) (tCons (teJ X c) tNil))) (jv : JE X W c me) (hsw : swapsWith call none pos.line X.env = pure false := by rfl) :
    JS X W pr (.Expr call pos) (sAppP p me) := by
  refine ⟨fun {pins s σ F h hx H ρ D} at_ q xs => (ps_expr (hp pe_J pe_J) hsw).run _ _ _ _ _ at_.i ?_⟩
  refine jo.te at_.s at_.e q xs.now ?_
  rintro w H1 F1 k o e1 s1 L ⟨xs', rfl, hl, q1⟩
  have L0 := L
  obtain ⟨g1, gc, ow0, dg, eg, _⟩ := L0
  cases ow0 with
  | @lst _ vs0 A0 g r n =>
    have hA0 : h A0 = some (.lst vs0) := by rw [eg]; exact jn_l upd_same
    refine ⟨.inl ⟨rfl, vs0, SqL.of (s1.o _ _ hA0)⟩, ?_⟩
    refine bor_te jv s1 (at_.e.mono e1) q1 (xs.now.mono e1 (Same.refl _)) ?_
    intro z H2 y F2 h2 e2 s2 d2 owy q2
    obtain ⟨A1, vs, ea, ha, hlen, hq, en3, sq⟩ := (L.mono e2).app owy d2
    cases ea
    refine ⟨A0, vs, z, rfl, rfl, s2.o _ _ (by rw [jn_r (d2.nl ha)]; exact ha), szlt (by rw [← hlen]; exact hl), ?_⟩
    exact store_end (F1 := F) (e1.trans e2) s2 ha d2 en3 sq q2
/-! p.f op= e, ints -/
def sAugF (K : PySem.W.Frag) (p : PthR) (f : Str) (h : Int → Int → Int) (me : TD) : TSD := fun D ρ => p ρ (fun k o => ∃ C fs x, o = .ins C fs ∧ ClF K C f ∧ fs.length ≤ 900 ∧ lookA fs f = some (.fz (.int x)) ∧ bor me ρ (fun y => ∃ j, y = .fz (.int j) ∧ D.nx (k (.ins C (upA f (.fz (.int (h x j))) fs)))) D.ex) D.ex
def OpI (rd : V → V → Hp → VK → Prop) (h : Int → Int → Int) : Prop := ∀ (x y : Int) (H : Hp) (Q : VK), Q (.int (h x y)) H → rd (.int x) (.int y) H Q
theorem opi_add : OpI rAdd (fun i j => i + j) := fun x y H Q q => ⟨x, y, rfl, rfl, q⟩
theorem opi_sub : OpI rSub (fun i j => i - j) := fun x y H Q q => ⟨x, y, rfl, rfl, q⟩
theorem js_augF {op : Operator} {rd : V → V → Hp → VK → Prop} {g : Int → Int → Int} (hop : InOp X op rd) (hi : OpI rd g) (jo : JPt X W o p) (jv : JE X W c me) : JS X W pr (.AugAssign (.Attribute o f tpos) op c pos) (sAugF X.K p f g me) := by
  refine ⟨fun {pins s σ F h hx H ρ D} at_ q xs => (ps_fldaug pe_J pe_J hop).run _ _ _ _ _ at_.i ?_⟩
  refine jo.te at_.s at_.e q xs.now ?_
  rintro w H1 F1 k o e1 s1 L ⟨C, fs, x, rfl, ⟨hc, hn⟩, hl, hf, q1⟩
  obtain ⟨A0, dx, vs, u, rfl, ha, hw, L1⟩ := L.fld hf
  obtain ⟨_, _, owu, _⟩ := L1
  obtain ⟨_, ru⟩ := own_emp owu
  cases ru
  refine ⟨A0, C, dx, vs, .int x, rfl, s1.o _ _ ha, hc, hn, by rw [lookA_F]; exact hw, ?_⟩
  refine bor_te jv s1 (at_.e.mono e1) q1 (xs.now.mono e1 (Same.refl _)) ?_
  rintro z H2 y F2 h2 e2 s2 d2 owy ⟨j, rfl, q2⟩
  obtain ⟨rfl, r⟩ := own_emp owy
  rw [emp_jn] at s2
  cases r
  refine hi _ _ _ _ ?_
  obtain ⟨A1, dx1, vs1, ea, ha1, hlen, hq, en3, sq⟩ := (L.mono e2).setFld f (Own.fz (.int (g x j))) emp_dj
  cases ea
  refine ⟨dx1, vs1, s2.o _ _ ha1, by omega, ?_⟩
  rw [putF_up]
  refine store_end (F1 := F) (h1 := emp) (e1.trans e2) (by rw [emp_jn]; exact s2) ha1 emp_dj en3 sq q2
/-! p[k] op= e, ints -/
def sAugK (p : PthR) (mk : TD) (h : Int → Int → Int) (me : TD) : TSD := fun D ρ => p ρ (fun k o => ∃ kvs, o = .dct kvs ∧ bor mk ρ (fun z => ∃ key x, z = .fz (keyD key) ∧ lookA kvs key = some (.fz (.int x)) ∧ kvs.length ≤ 100000 ∧ bor me ρ (fun y => ∃ j, y = .fz (.int j) ∧ D.nx (k (.dct (upA key (.fz (.int (h x j))) kvs)))) D.ex) D.ex) D.ex
theorem js_augK {op : Operator} {rd : V → V → Hp → VK → Prop} {g : Int → Int → Int} (hr : Room k X.A) (hop : InOp X op rd) (hi : OpI rd g) (jo : JPt X W o p) (jk : JE X W a mk) (jv : JE X W c me)
    (ha : ∀ ov iv new, augStore a ov iv new = (do holding [new, ov, iv] (setItem ov iv new); release [new, ov, iv] []; pure .next) := by intros; rfl) : JS X W pr (.AugAssign (.Subscript o a tpos) op c pos) (sAugK p mk g me) := by
  refine ⟨fun {pins s σ F h hx H ρ D} at_ q xs => (ps_daug (hu_of hr) pe_J pe_J pe_J hop ha).run _ _ _ _ _ at_.i ?_⟩
  refine jo.te at_.s at_.e q xs.now ?_
  rintro w H1 F1 k o e1 s1 L ⟨kvs, rfl, q1⟩
  refine bor_te jk s1 (at_.e.mono e1) q1 (xs.now.mono e1 (Same.refl _)) ?_
  rintro z H2 oz F2 h2 e2 s2 d2 owz ⟨key, x, rfl, hf, hl, q2⟩
  obtain ⟨rfl, r⟩ := own_emp owz
  rw [emp_jn] at s2
  have ez := rp_key r
  subst ez
  obtain ⟨A0, vs, u, rfl, ha, hw, L1⟩ := (L.mono e2).key hf
  obtain ⟨_, _, owu, _⟩ := L1
  obtain ⟨_, ru⟩ := own_emp owu
  cases ru
  refine ⟨A0, .int x, rfl, ?_, ?_⟩
  · have := DGet.k (k := key) (s2.o _ _ ha)
    rw [valV_A, hw] at this
    exact this
  refine bor_te jv s2 (at_.e.mono (e1.trans e2)) q2 (xs.now.mono (e1.trans e2) (Same.refl _)) ?_
  rintro y H3 oy F3 h3 e3 s3 d3 owy ⟨j, rfl, q3⟩
  obtain ⟨rfl, r⟩ := own_emp owy
  rw [emp_jn] at s3
  cases r
  refine hi _ _ _ _ ?_
  obtain ⟨A1, vs1, ea, ha1, hlen, nd, hq, en3, sq⟩ := (L.mono (e2.trans e3)).setKey key (Own.fz (.int (g x j))) emp_dj
  cases ea
  refine ⟨_, DPut.k (s3.o _ _ ha1) (szlt (by omega)), ?_⟩
  rw [putK_up nd]
  refine store_end (F1 := F) (h1 := emp) ((e1.trans e2).trans e3) (by rw [emp_jn]; exact s3) ha1 emp_dj en3 sq q3
end
end T

/-! T20: instances: fields of lent ones, methods, making. -/
namespace T
open PySem PySem.Spec PyProof.Rows L2 Z RZ
theorem jn_emp_l {h k : Hp} (e : emp = jn h k) : h = emp := by
  funext a
  have := congrFun e a
  cases q : h a with
  | none => rfl
  | some o => rw [jn_l q] at this; cases this
theorem OwnF.at {K : PySem.W.Frag} {F : Hp} {fs : List (Str × O)} {vs : List (Str × V)} {f : Str} {x : O} (r : OwnF K F fs vs emp) (e : lookA fs f = some x) : ∃ w, lookA vs f = some w ∧ Own K F x w emp := by
  obtain ⟨w, h1, hc, e1, ow, _, eh, _⟩ := r.lens e
  have := jn_emp_l eh
  subst this
  exact ⟨w, e1, ow⟩
theorem OwnF.no {K : PySem.W.Frag} {F h : Hp} {fs : List (Str × O)} {vs : List (Str × V)} {f : Str} (r : OwnF K F fs vs h) (e : lookA fs f = none) : vs.lookup f = none := by
  rw [lookA_F]; exact (r.add e).1
section
variable {X : Cx} {W : WX} {pr ip : List Nat} {e a b c o : Expr} {es rest : List Expr} {pos apos : Pos} {ma mo : TD} {ml : TL} {p : PthR} {i k : Nat} {f : Str} {pl : List (Option Nat)}
def mFldL (K : PySem.W.Frag) (m : TD) (f : Str) : TD := fun ρ Φ Ξ => m ρ (fun o ρ1 => ∃ C fs x, o = .lns C fs ∧ ClF K C f ∧ lookA fs f = some x ∧ Φ x ρ1) Ξ
theorem je_fldL (j : JE X W e ma) (hb : attributeBase e f X.env (eval e X.env) = eval e X.env := by rfl) : JE X W (.Attribute e f pos) (mFldL X.K ma f) := by
  refine ⟨fun {pins s σ F h hx H ρ Φ Ξ} at_ q x => (pe_fld pe_J hb).run _ _ _ _ _ at_.i (j.te at_.s at_.e q x ?_)⟩
  rintro v H1 ⟨o, ρ1, F1, h1, h', e1, s1, d1, en1, ow, C, fs, y, rfl, ⟨hc, hn⟩, hl, q1⟩
  cases ow with
  | @lns _ _ vs A0 dx r ha hd =>
    obtain ⟨w, hw, ow2⟩ := r.at hl
    exact ⟨A0, C, dx, vs, w, rfl, s1.f _ _ ha, hc, hn, by rw [lookA_F]; exact hw, y, ρ1, F1, emp, h', e1, s1, d1, en1, ow2, q1⟩
/-! methods -/
section
variable {C g : Addr} {m : Str} {fd : FuncData} {ps : List Str} {ts : TSp}
/-- o.m(..), the receiver lent -/
def mMethL (C : Addr) (m : Str) (ts : TSp) (mo : TD) (ml : TL) : TD := fun ρ Φ Ξ => mo ρ (fun o ρ1 => ∃ fs, o = .lns C fs ∧ lookA fs m = none ∧ ml ρ1 (fun os ρ2 => ts (.lns C fs :: os) (fun r outs => Φ r ρ2) fun x outs => Ξ x ρ2) Ξ) Ξ
theorem je_methL {pl0 : Sem Bool} (hG : X.A.guards = some []) (hc : Cls X.K C) (hm : Meth X.K C m g) (G : FnT X.prog X.w X.K X.mg X.base k g fd ps [] ts) (hr : Room k X.A) (hb : Binds X.K fd ps []) (tk : Takes X W) (jo : JE X W o mo) (ja : JA X W (e :: es) pl ml)
    (hlen : pl.length + 1 = ps.length := by rfl) (hst : starEach (e :: es) X.env = (false, eval e X.env) :: starEach es X.env := by rfl) (hpl : (backTo pos (starEach es X.env)).any (·.1) = false := by rfl)
    (ht : eval (.Call (.Attribute o m apos) (e :: es) [] pos) X.env = (do
      let ov ← eval o X.env
      standAt apos.atName
      let (f, first) ← holding [ov] (getMethod ov m pl0)
      callWith pos f first (backTo pos (starEach (e :: es) X.env)) (backToKw pos (keywordEach [] X.env))) := by rfl) :
    JE X W (.Call (.Attribute o m apos) (e :: es) [] pos) (mMethL C m ts mo ml) := by
  refine ⟨fun {pins s σ F h hx H ρ Φ Ξ} at_ q x => PySem.W.methodCall_KW (pl := pl0) (thn (jo.run at_ q x) ?_) ht⟩
  rintro u s1 ⟨v, H1, I1, rx, o', ρ1, F1, h1, h', e1, s1', d1, en1, ow, fs, rfl, hl, q1⟩
  cases ow with
  | @lns _ _ vs A0 dx r ha hd =>
    have ru : u = Value.ref A0 := rx
    subst ru
    rw [emp_jn] at s1'
    refine getmeth_ok I1 (s1'.f _ _ ha) hc hm (r.no hl) ?_
    refine PySem.W.callWith_K (first := [.ref A0]) (h₀ := X.base) I1.ok.mod.kin hm.kp (thn (ja.run pos ⟨I1, s1', en1⟩ q1 (x.mono e1 (Same.refl _))) ?_) hst hpl
    rintro us s2 ⟨ws, H2, I2, rv, hln, hv, os, ρ2, F2, g2, g', e2, s2', d2, en2, ow2, q2⟩
    refine ⟨I2.kIn, runT (us := .ref A0 :: us) (vs := .ref A0 :: ws) hG G hr hb tk I2 (.cons rfl rv) ?_ fun c d H' z => x c d H' z⟩
    refine call_fin (pl := none :: pl) (ip := []) (os := .lns C fs :: os) (h1 := jn emp g2) (e1.trans e2) (by rw [emp_jn]; exact s2') (by rw [emp_jn]; exact d2) en2 (.cons ((Own.lns r ha hd).mono e2) ow2 emp_dj) (by rw [List.length_cons, ow2.len, hln]; exact hlen) (fun j i z => ?_) rfl .nil (fun i hi => by cases hi) q2
    cases j with
    | zero => simp at z
    | succ j => obtain ⟨w, h1, h2⟩ := hv j i (by simpa using z); exact ⟨w, by simpa using h1, h2⟩
theorem je_methL0 {pl0 : Sem Bool} (hG : X.A.guards = some []) (hc : Cls X.K C) (hm : Meth X.K C m g) (G : FnT X.prog X.w X.K X.mg X.base k g fd ps [] ts) (hr : Room k X.A) (hb : Binds X.K fd ps []) (tk : Takes X W) (jo : JE X W o mo)
    (hlen : 1 = ps.length := by rfl)
    (ht : eval (.Call (.Attribute o m apos) [] [] pos) X.env = (do
      let ov ← eval o X.env
      standAt apos.atName
      let (f, first) ← holding [ov] (getMethod ov m pl0)
      callWith pos f first (backTo pos (starEach [] X.env)) (backToKw pos (keywordEach [] X.env))) := by rfl) :
    JE X W (.Call (.Attribute o m apos) [] [] pos) (mMethL C m ts mo mNil) := by
  refine ⟨fun {pins s σ F h hx H ρ Φ Ξ} at_ q x => PySem.W.methodCall_KW (pl := pl0) (thn (jo.run at_ q x) ?_) ht⟩
  rintro u s1 ⟨v, H1, I1, rx, o', ρ1, F1, h1, h', e1, s1', d1, en1, ow, fs, rfl, hl, q1⟩
  cases ow with
  | @lns _ _ vs A0 dx r ha hd =>
    have ru : u = Value.ref A0 := rx
    subst ru
    refine getmeth_ok I1 (s1'.f _ _ ha) hc hm (r.no hl) ?_
    refine PySem.W.callWith_K0 (first := [.ref A0]) I1.kIn hm.kp (runT (us := [.ref A0]) (vs := [.ref A0]) hG G hr hb tk I1 (.cons rfl .nil) ?_ fun c d H' z => x c d H' z)
    exact call_fin (pl := [none]) (ip := []) (os := [.lns C fs]) (h1 := jn emp emp) e1 s1' d1 en1 (.cons (Own.lns r ha hd) .nil emp_dj) hlen (fun j i z => by
      cases j with
      | zero => simp at z
      | succ j => simp at z) rfl .nil (fun i hi => by cases hi) q1
/-! a path's receiver, changed -/
theorem bor_ta {m : TL} (j : JA X W es pl m) {σ : L2.St} {F h hx H : Hp} {ρ : EnvT} {Φ : List O → Prop} {Ξ : Exn → EnvT → Prop} {Q : List V → Hp → Prop} (s3 : Sp3 F h hx H) (en0 : EnvL X.K F ρ σ h) (q : m (ρ.map lent) (fun o _ => noMutOL o = true ∧ Φ o) fun x _ => noMutL (x.fs.map (·.2)) = true ∧ Ξ x ρ) (x : XQ X W σ F hx Ξ)
    (k : ∀ v H' o F' h1, v.length = pl.length → Same F F' → Sp3 F' (jn h1 h) hx H' → Dj h1 h → OwnL X.K F' o v h1 → Φ o → Q v H') : taJ X es σ H Q := by
  have en := en0.lend (G := F) s3.fo (Same.refl _)
  have s2 : Sp3 (jn F h) emp hx H := by
    refine Sp3.frz (h1 := h) (h := emp) (by rw [jn_emp]; exact s3) dj_emp
  refine j.ta s2 en q (bor_x s3 en0 x) ?_
  rintro v H' ⟨hln, hv, o, ρ', F', h1, h', e1, s1, d1, en1, ow, nm, q⟩
  have sh : Same h F' := (same_r s3.fo).trans e1
  have sF : Same F (ohne F' h) := ohne_same (same_l.trans e1) s3.fo
  have d2 : Dj h1 h := (dj_sub ((dj_jn.mp s1.fo).1.symm) sh)
  refine k v H' o (ohne F' h) h1 hln sF ⟨same_ohne.trans s1.f, same_jn (same_l.trans s1.o) (sh.trans s1.f), s1.x, dj_jn.mpr ⟨?_, ohne_dj⟩, ?_, jn_dj.mpr ⟨(jn_dj.mp s1.ox).1, s3.ox⟩⟩ d2 (ownL_ohne en0.cells sh ow nm) q
  · exact (dj_sub ((dj_jn.mp s1.fo).1.symm) same_ohne).symm
  · exact (dj_sub s1.fx.symm same_ohne).symm
def outK (k : O → EnvT) (outs : List O) (R : EnvT → Prop) : Prop := ∃ o2, outs = [o2] ∧ o2 ≠ .un ∧ R (k o2)
def mMethP (C : Addr) (m : Str) (ts : TSp) (p : PthR) (ml : TL) : TD := fun ρ Φ Ξ => p ρ (fun k o => ∃ fs, o = .ins C fs ∧ lookA fs m = none ∧ ml (ρ.map lent) (fun os _ => noMutOL os = true ∧ ts (.ins C fs :: os) (fun r outs => outK k outs (Φ r)) fun x outs => outK k outs (Ξ x)) fun x _ => noMutL (x.fs.map (·.2)) = true ∧ Ξ x ρ) Ξ
/-- what a caller makes of a contract's ends: the receiver stands behind a lens -/
theorem meth_fin {K : PySem.W.Frag} {σ : L2.St} {F F1 hx h h2 H1 : Hp} {kk : O → EnvT} {Φ : O → EnvT → Prop} {Ξ : Exn → EnvT → Prop} {os : List O} {ws : List V} {n : Nat} {fs : List (Str × O)} {v : V}
    (e1 : Same F F1) (s1 : Sp3 F1 (jn h2 h) hx H1) (d1 : Dj h2 h) (L : Lns K F1 σ h kk (.ins C fs) v) (ow : OwnL K F1 os ws h2) (hn : os.length + 1 = n)
    (q : ts (.ins C fs :: os) (fun r outs => outK kk outs (Φ r)) fun x outs => outK kk outs (Ξ x)) : spT K n [0] ts (v :: ws) H1 (PostE K σ F hx Φ) (PostX K σ F hx Ξ) := by
  obtain ⟨g1, gc, owr, dg, rfl, put⟩ := L
  obtain ⟨da, db⟩ := dj_jn.mp d1
  have sB : Sp3 F1 (jn (jn g1 h2) gc) hx H1 := by
    have : jn h2 (jn g1 gc) = jn (jn g1 h2) gc := by rw [jn_swap da, jn_assoc]
    rw [← this]; exact s1
  have dB : Dj (jn g1 h2) gc := jn_dj.mpr ⟨dg, db⟩
  have dx : Dj gc hx := (jn_dj.mp sB.ox).2
  have sC : Sp3 F1 (jn g1 h2) (jn gc hx) H1 := by
    rw [jn_comm dB] at sB
    exact sB.put dB.symm
  refine ⟨F1, jn g1 h2, jn gc hx, .ins C fs :: os, _, _, hn, sC, .cons owr ow da.symm, q, ?_, ?_⟩
  · rintro r H2 ⟨ro, outs, F2, x1, x', e2, s2, d2, en2, ow2, o2, rfl, nu, q2⟩
    obtain ⟨s3, d3⟩ := s2.get dx
    obtain ⟨d31, d32⟩ := dj_jn.mp d3
    cases en2 with
    | un _ _ => exact absurd rfl nu
    | cons owo rest dj =>
      cases rest
      simp only [jn_emp] at s3 d31 d32 d2
      have en3 := put F2 o2 _ e2 owo d32.symm
      refine ⟨ro, _, F2, x1, _, e1.trans e2, ?_, ?_, en3, ow2, q2⟩
      · rw [jn_swap d31, jn_comm d32] at s3; exact s3
      · exact dj_jn.mpr ⟨d2, d31.symm⟩
  · rintro cc d H2 ⟨xx, outs, F2, x', e2, s2, en2, xo, o2, rfl, nu, q2⟩
    obtain ⟨s3, d3⟩ := s2.get dx
    cases en2 with
    | un _ _ => exact absurd rfl nu
    | cons owo rest dj =>
      cases rest
      simp only [jn_emp] at s3 d3
      have en3 := put F2 o2 _ e2 owo d3.symm
      refine ⟨xx, _, F2, _, e1.trans e2, ?_, en3, xo, q2⟩
      rw [jn_comm d3] at s3; exact s3
theorem je_methP {pl0 : Sem Bool} (hG : X.A.guards = some []) (hc : Cls X.K C) (hm : Meth X.K C m g) (G : FnT X.prog X.w X.K X.mg X.base k g fd ps [0] ts) (hr : Room k X.A) (hb : Binds X.K fd ps []) (tk : Takes X W) (jo : JPt X W o p) (ja : JA X W (e :: es) pl ml)
    (hlen : pl.length + 1 = ps.length := by rfl) (hst : starEach (e :: es) X.env = (false, eval e X.env) :: starEach es X.env := by rfl) (hpl : (backTo pos (starEach es X.env)).any (·.1) = false := by rfl)
    (ht : eval (.Call (.Attribute o m apos) (e :: es) [] pos) X.env = (do
      let ov ← eval o X.env
      standAt apos.atName
      let (f, first) ← holding [ov] (getMethod ov m pl0)
      callWith pos f first (backTo pos (starEach (e :: es) X.env)) (backToKw pos (keywordEach [] X.env))) := by rfl) :
    JE X W (.Call (.Attribute o m apos) (e :: es) [] pos) (mMethP C m ts p ml) := by
  refine ⟨fun {pins s σ F h hx H ρ Φ Ξ} at_ q x => ?_⟩
  refine PySem.W.methodCall_KW (pl := pl0) (thn (jo.te (Q := fun v H' => ∃ F' k fs, Same F F' ∧ Sp3 F' h hx H' ∧ Lns X.K F' σ h k (.ins C fs) v ∧ lookA fs m = none ∧ ml (ρ.map lent) (fun os _ => noMutOL os = true ∧ ts (.ins C fs :: os) (fun r outs => outK k outs (Φ r)) fun x outs => outK k outs (Ξ x)) fun x _ => noMutL (x.fs.map (·.2)) = true ∧ Ξ x ρ) at_.s at_.e q x (fun v H' F' k o e1 s1 L ⟨fs, eo, hl, q1⟩ => by subst eo; exact ⟨F', k, fs, e1, s1, L, hl, q1⟩) pins s at_.i) ?_) ht
  rintro u s1 ⟨v, H1, I1, rx, F1, kk, fs, e1, s1', L, hl, q1⟩
  obtain ⟨g1, gc, owr, dg, eh, put⟩ := id L
  obtain ⟨A0, dx, vs, ev, ha, hno⟩ : ∃ A0 dx vs, v = .ref A0 ∧ g1 A0 = some (.ins C dx vs) ∧ vs.lookup m = none := by
    cases owr with
    | ins r n m2 ne => exact ⟨_, _, _, rfl, upd_same, r.no hl⟩
  subst ev
  have ru : u = Value.ref A0 := rx
  subst ru
  have hA : h A0 = some (.ins C dx vs) := by rw [eh]; exact jn_l ha
  refine getmeth_ok I1 (s1'.o _ _ hA) hc hm hno ?_
  refine PySem.W.callWith_K (first := [.ref A0]) (h₀ := X.base) I1.ok.mod.kin hm.kp (thn ((bor_ta ja s1' (at_.e.mono e1) q1 (x.mono e1 (Same.refl _)) (Q := fun ws H' => ∃ F' os h2, ws.length = pl.length ∧ Same F F' ∧ Sp3 F' (jn h2 h) hx H' ∧ Dj h2 h ∧ OwnL X.K F' os ws h2 ∧ Lns X.K F' σ h kk (.ins C fs) (.ref A0) ∧ ts (.ins C fs :: os) (fun r outs => outK kk outs (Φ r)) fun x outs => outK kk outs (Ξ x))
    (fun v H' os F' h2 hln e2 s2 d2 ow2 q2 => ⟨F', os, h2, hln, e1.trans e2, s2, d2, ow2, L.mono e2, q2⟩)) pos pins s1 I1) ?_) hst hpl
  rintro us s2 ⟨ws, H2, I2, rv, F2, os, h2, hln, e2, s2', d2, ow2, L2, q2⟩
  exact ⟨I2.kIn, runT (us := .ref A0 :: us) (vs := .ref A0 :: ws) hG G hr hb tk I2 (.cons rfl rv) (meth_fin e2 s2' d2 L2 ow2 (by rw [ow2.len, hln]; exact hlen) q2) fun c d H' z => x c d H' z⟩
theorem je_methP0 {pl0 : Sem Bool} (hG : X.A.guards = some []) (hc : Cls X.K C) (hm : Meth X.K C m g) (G : FnT X.prog X.w X.K X.mg X.base k g fd ps [0] ts) (hr : Room k X.A) (hb : Binds X.K fd ps []) (tk : Takes X W) (jo : JPt X W o p)
    (hlen : 1 = ps.length := by rfl)
    (ht : eval (.Call (.Attribute o m apos) [] [] pos) X.env = (do
      let ov ← eval o X.env
      standAt apos.atName
      let (f, first) ← holding [ov] (getMethod ov m pl0)
      callWith pos f first (backTo pos (starEach [] X.env)) (backToKw pos (keywordEach [] X.env))) := by rfl) :
    JE X W (.Call (.Attribute o m apos) [] [] pos) (mMethP C m ts p mNil) := by
  refine ⟨fun {pins s σ F h hx H ρ Φ Ξ} at_ q x => ?_⟩
  refine PySem.W.methodCall_KW (pl := pl0) (thn (jo.te (Q := fun v H' => ∃ F' k fs, Same F F' ∧ Sp3 F' h hx H' ∧ Lns X.K F' σ h k (.ins C fs) v ∧ lookA fs m = none ∧ ts [.ins C fs] (fun r outs => outK k outs (Φ r)) fun x outs => outK k outs (Ξ x)) at_.s at_.e q x (fun v H' F' k o e1 s1 L ⟨fs, eo, hl, q1⟩ => by subst eo; exact ⟨F', k, fs, e1, s1, L, hl, q1.2⟩) pins s at_.i) ?_) ht
  rintro u s1 ⟨v, H1, I1, rx, F1, kk, fs, e1, s1', L, hl, q1⟩
  obtain ⟨g1, gc, owr, dg, eh, put⟩ := id L
  obtain ⟨A0, dx, vs, ev, ha, hno⟩ : ∃ A0 dx vs, v = .ref A0 ∧ g1 A0 = some (.ins C dx vs) ∧ vs.lookup m = none := by
    cases owr with
    | ins r n m2 ne => exact ⟨_, _, _, rfl, upd_same, r.no hl⟩
  subst ev
  have ru : u = Value.ref A0 := rx
  subst ru
  have hA : h A0 = some (.ins C dx vs) := by rw [eh]; exact jn_l ha
  refine getmeth_ok I1 (s1'.o _ _ hA) hc hm hno ?_
  refine PySem.W.callWith_K0 (first := [.ref A0]) I1.kIn hm.kp (runT (us := [.ref A0]) (vs := [.ref A0]) hG G hr hb tk I1 (.cons rfl .nil) ?_ fun c d H' z => x c d H' z)
  exact meth_fin (os := []) (h2 := emp) e1 (by rw [emp_jn]; exact s1') emp_dj L .nil hlen q1
/-! making -/
def mMake (C : Addr) (ts : TSp) (ml : TL) : TD := fun ρ Φ Ξ => ml ρ (fun os ρ1 => ts (.ins C [] :: os) (fun r outs => r = .fz .none ∧ ∃ o2, outs = [o2] ∧ o2 ≠ .un ∧ Φ o2 ρ1) fun x outs => Ξ x ρ1) Ξ
theorem make_fin {K : PySem.W.Frag} {σ : L2.St} {F F1 hx h1 h' H1 : Hp} {ρ1 : EnvT} {Φ : O → EnvT → Prop} {Ξ : Exn → EnvT → Prop} {os : List O} {ws : List V} {n : Nat} {A0 dx : Addr}
    (e1 : Same F F1) (s1 : Sp3 F1 (jn h1 h') hx H1) (d1 : Dj h1 h') (en1 : EnvL K F1 ρ1 σ h') (ow : OwnL K F1 os ws h1) (hn : os.length + 1 = n) (nA : H1 A0 = none) (nD : H1 dx = none) (ne : dx ≠ A0)
    (q : ts (.ins C [] :: os) (fun r outs => r = .fz .none ∧ ∃ o2, outs = [o2] ∧ o2 ≠ .un ∧ Φ o2 ρ1) fun x outs => Ξ x ρ1) :
    spT K n [0] ts (.ref A0 :: ws) (upd (upd H1 dx (.own A0)) A0 (.ins C dx [])) (fun v H2 => v = .non ∧ PostE K σ F hx Φ (.ref A0) H2) (PostX K σ F hx Ξ) := by
  have dx' : Dj h' hx := (jn_dj.mp s1.ox).2
  have s2 : Sp3 F1 h1 (jn h' hx) H1 := by
    rw [jn_comm d1] at s1; exact s1.put d1.symm
  have nh : h1 A0 = none := s2.o.free nA
  have nd : h1 dx = none := s2.o.free nD
  have N : Own K F1 (.ins C []) (.ref A0) (upd (upd emp dx (.own A0)) A0 (.ins C dx [])) := .ins .nil rfl rfl ne
  have dN : Dj (upd (upd emp dx (.own A0)) A0 (.ins C dx [])) h1 := dj_upd (dj_upd emp_dj nd) nh
  have s3 : Sp3 F1 (jn (upd (upd emp dx (.own A0)) A0 (.ins C dx [])) h1) (jn h' hx) (upd (upd H1 dx (.own A0)) A0 (.ins C dx [])) := by
    have := (s2.own (u := .own A0) nD).own (p := A0) (u := .ins C dx []) (by rw [upd_ne (Ne.symm ne)]; exact nA)
    rw [upd_jn, upd_jn, emp_jn]; exact this
  refine ⟨F1, _, jn h' hx, .ins C [] :: os, _, _, hn, s3, .cons N ow dN, q, ?_, ?_⟩
  · rintro r H2 ⟨ro, outs, F2, x1, x', e2, s4, d2, en2, ow2, rfl, o2, rfl, nu, q2⟩
    obtain ⟨rfl, rr⟩ := own_emp ow2
    cases rr
    obtain ⟨s5, d5⟩ := s4.get dx'
    cases en2 with
    | un _ _ => exact absurd rfl nu
    | cons owo rest dj =>
      cases rest
      simp only [jn_emp, emp_jn] at s5 d5
      refine ⟨rfl, o2, ρ1, F2, _, h', e1.trans e2, ?_, d5.symm, en1.mono e2, owo, q2⟩
      rw [jn_comm d5] at s5; exact s5
  · rintro cc d H2 ⟨xx, outs, F2, x', e2, s4, en2, xo, q2⟩
    obtain ⟨s5, d5⟩ := s4.get dx'
    exact ⟨xx, ρ1, F2, h', e1.trans e2, s5.less same_l, en1.mono e2, xo, q2⟩
theorem runMake {C g : Addr} {fd : FuncData} {ps : List Str} {ts : TSp} {pins : List (Addr × Obj)} {σ : L2.St} {H : Hp} {s : Shared} {Q : VK} {E : XK} {us : List Value} {vs : List V} (hG : X.A.guards = some []) (M : Mk X.K C g) (G : FnT X.prog X.w X.K X.mg X.base k g fd ps [0] ts) (hr : Room (k + 1) X.A) (hb : Binds X.K fd ps [])
    (tk : Takes X W) (I : Inv X pins σ H s) (r : Vals vs us) (hx : ∀ c d H', E c d H' → W c d σ H')
    (h : ∀ x dx, H x = none → H dx = none → dx ≠ x → spT X.K ps.length [0] ts (.ref x :: vs) (upd (upd H dx (.own x)) x (.ins C dx [])) (fun v H2 => v = .non ∧ Q (.ref x) H2) E) :
    wpAny (model X.prog X.w) X.A (call (.ref C) us) (EP X pins σ Q) X.xe s := by
  have hq := h (s.heap.objs.size + 1) s.heap.objs.size (I.hok.fresh (Nat.le_succ _)) (I.hok.fresh (Nat.le_refl _)) (Nat.ne_of_lt (Nat.lt_succ_self _))
  have I2 := Inv.made (C := C) I
  have r2 : Vals (V.ref (s.heap.objs.size + 1) :: vs) (Value.ref (s.heap.objs.size + 1) :: us) := .cons rfl r
  have hl : (Value.ref (s.heap.objs.size + 1) :: us ++ []).length = ps.length := by
    rw [List.append_nil, ← Paired.length r2]; exact G.len _ _ _ _ hq
  have bnd := hb _ (Value.ref (s.heap.objs.size + 1) :: us) I2.kIn hl
  rw [List.append_nil] at bnd
  have run := G.run (X.A.under (.builtin "type.__call__" ⟨.ref C :: us, []⟩)) X.stack _ _ ⟨Value.ref (s.heap.objs.size + 1) :: us, []⟩ _ _ _ _ (make_guards hG) (hr.make C us []) (I2.env0.make C us []) bnd r2 hq
  refine wpAny_call (make_map (f := g) I.kIn M.makes M.init (beq_iff_eq.mp M.fn) (codeAny_mono run ?_))
  rintro (er | fl) s' hq'
  · exact tk er s' (XE.of_call I2 hx hq')
  · cases fl with
    | ret u =>
      obtain ⟨v, H', I3, rv, ev, q3⟩ := I2.after hq'
      subst ev
      exact ⟨rv, ⟨V.ref (s.heap.objs.size + 1), H', I3, rfl, q3⟩⟩
    | next | brk | cont => exact hq'.elim
theorem je_make {x : Str} {np : Pos} (hG : X.A.guards = some []) (M : Mk X.K C g) (G : FnT X.prog X.w X.K X.mg X.base k g fd ps [0] ts) (hr : Room (k + 1) X.A) (hm : X.mg x = some (.ref C)) (hb : Binds X.K fd ps []) (tk : Takes X W) (ja : JA X W (e :: es) pl ml)
    (hlen : pl.length + 1 = ps.length := by rfl) (hg : Gl X x := by rfl) (hdb : (x == ("__debug__" : Str)) = false := by decide) (he : starEach (e :: es) X.env = (false, eval e X.env) :: starEach es X.env := by rfl) (hpl : (backTo pos (starEach es X.env)).any (·.1) = false := by rfl) :
    JE X W (.Call (.Name x np) (e :: es) [] pos) (mMake C ts ml) := by
  refine ⟨fun {pins s σ F h hx H ρ Φ Ξ} at_ q xq => ?_⟩
  refine wpAny_Call_Name_kw (ld_glob at_.i hg hm ?_ hdb)
  refine PySem.W.callWith_K (h₀ := X.base) at_.i.ok.mod.kin M.kp (thn (ja.run pos at_ q xq) ?_) he hpl
  rintro us s1 ⟨vs, H1, I1, r, hln, hv, os, ρ1, F1, h1, h', e1, s1', d1, en1, ow, q1⟩
  exact ⟨I1.kIn, runMake hG M G hr hb tk I1 r (fun c d H' z => xq c d H' z) fun A0 dx n1 n2 ne => make_fin e1 s1' d1 en1 ow (by rw [ow.len, hln]; exact hlen) n1 n2 ne q1⟩
theorem je_make0 {x : Str} {np : Pos} (hG : X.A.guards = some []) (M : Mk X.K C g) (G : FnT X.prog X.w X.K X.mg X.base k g fd ps [0] ts) (hr : Room (k + 1) X.A) (hm : X.mg x = some (.ref C)) (hb : Binds X.K fd ps []) (tk : Takes X W)
    (hlen : 1 = ps.length := by rfl) (hg : Gl X x := by rfl) (hdb : (x == ("__debug__" : Str)) = false := by decide) : JE X W (.Call (.Name x np) [] [] pos) (mMake C ts mNil) := by
  refine ⟨fun {pins s σ F h hx H ρ Φ Ξ} at_ q xq => ?_⟩
  refine wpAny_Call_Name_kw (ld_glob at_.i hg hm ?_ hdb)
  exact PySem.W.callWith_K0 at_.i.kIn M.kp (runMake (us := []) hG M G hr hb tk at_.i .nil (fun c d H' z => xq c d H' z) fun A0 dx n1 n2 ne => make_fin (h1 := emp) (Same.refl _) (by rw [emp_jn]; exact at_.s) emp_dj at_.e .nil hlen n1 n2 ne q)
end
end
end T

/-! T21: comprehensions of dicts. -/
namespace T
open PySem PySem.Spec PyProof.Rows L2 Z RZ
def mTurnD (sl : List Nat) (mg : TGD) (mt : TB) (mk mv : TD) (x : PyData) (acc : List (Key × O)) (ρ : EnvT) (N : List (Key × O) → EnvT → Prop) : Prop :=
  mg x ρ fun ρ1 => mt ρ1 (fun b ρ2 => if b = true then mFrz mk ρ2 (fun z ρ3 => ∃ key, z = .fz (keyD key) ∧ mv ρ3 (fun o ρ4 => acc.length < 100000 ∧ N (upA key o acc) (wipeE ρ4 sl)) fun _ _ => False) (fun _ _ => False) else N acc (wipeE ρ2 sl)) (fun _ _ => False)
def mGoD (sl : List Nat) (mg : TGD) (mt : TB) (mk mv : TD) (Φ : List (Key × O) → EnvT → Prop) : List PyData → List (Key × O) → EnvT → Prop
  | [], acc, ρ => Φ acc ρ
  | x :: xs, acc, ρ => mTurnD sl mg mt mk mv x acc ρ (mGoD sl mg mt mk mv Φ xs)
def mDc (mi : TID) (sl : List Nat) (mg : TGD) (mt : TB) (mk mv : TD) : TD := fun ρ Φ Ξ => mi ρ (fun items ρ1 => (∀ i ∈ sl, ρ1[i]? = some .un) ∧ mGoD sl mg mt mk mv (fun acc ρ2 => Φ (.dct acc) ρ2) items [] ρ1) Ξ
theorem own_putK {K : PySem.W.Frag} {F hD h1 : Hp} {kvs : List (Key × O)} {o : O} {D : Addr} {v : V} (key : Key) (a : Own K F (.dct kvs) (.ref D) hD) (b : Own K F o v h1) (d : Dj hD h1) :
    ∃ vs hN, hD D = some (.dK vs) ∧ kvs.length = vs.length ∧ (vs.map (·.1)).Nodup ∧ Own K F (.dct (upA key o kvs)) (.ref D) hN ∧ Same hN (upd (jn hD h1) D (.dK (upA key v vs))) := by
  cases a with
  | @dct _ vs _ g r nd n =>
    have nD : h1 D = none := d.nr upd_same
    have d2 : Dj h1 g := fun b => by
      by_cases e : b = D
      · rw [e]; exact .inl nD
      · have := d b; rw [upd_ne e] at this; exact this.symm
    obtain ⟨g', r', sg⟩ := r.store (f := key) b d2
    refine ⟨vs, upd (jn h1 g') D (.dK (upA key v vs)), upd_same, r.len, by rw [r.keys]; exact nd, .dct r' (nodup_up nd) (jn_none.mpr ⟨nD, sg.free n⟩), fun b o e => ?_⟩
    by_cases hb : b = D
    · subst hb; rw [upd_same] at e ⊢; exact e
    · rw [upd_ne hb] at e ⊢
      cases z : h1 b with
      | some o' => rw [jn_l z] at e; cases e; rw [jn_r (d.nl z)]; exact z
      | none =>
        rw [jn_r z] at e
        exact jn_l (by rw [upd_ne hb]; exact sg _ _ e)
section
variable {X : Cx} {W : WX} {tg it kx vx : Expr} {ifs : List Expr} {sl : List Nat} {g : TG} {mi : TID} {mg : TGD} {mt : TB} {mk mv : TD} {scope : Scope} {own : List (Str × Nat)} {pos : Pos}
theorem dc_J (hsl : own.map (·.2) = sl) {wi : TI}
    (ki : ∀ {σ F h hx H ρ Φ Ξ} {R : It → Hp → Prop}, Sp3 F h hx H → EnvL X.K F ρ σ h → mi ρ Φ Ξ → XQ X W σ F hx Ξ →
      (∀ J items ρ' F' h' H', Same F F' → Sp3 F' h' hx H' → EnvL X.K F' ρ' σ h' → ItOk X.K F' J items → Φ items ρ' → R J H') → wi σ H R) (hg : JG X.K sl g mg) {tt : TT}
    (kt : ∀ {σ F h hx H ρ Φ} {Q : Bool → Hp → Prop}, Sp3 F h hx H → EnvL X.K F ρ σ h → mt ρ Φ (fun _ _ => False) → (∀ b H', PostB X.K σ F hx Φ b H' → Q b H') → tt σ H Q) {tk tv : TE}
    (kk1 : ∀ {σ F h hx H ρ Φ} {Q : VK}, Sp3 F h hx H → EnvL X.K F ρ σ h → mFrz mk ρ Φ (fun _ _ => False) → (∀ b H', PostE X.K σ F hx Φ b H' → Q b H') → tk σ H Q)
    (kv : ∀ {σ F h hx H ρ Φ} {Q : VK}, Sp3 F h hx H → EnvL X.K F ρ σ h → mv ρ Φ (fun _ _ => False) → (∀ b H', PostE X.K σ F hx Φ b H' → Q b H') → tv σ H Q)
    {σ F h hx H ρ Φ Ξ} (s0 : Sp3 F h hx H) (en0 : EnvL X.K F ρ σ h) (q : mDc mi sl mg mt mk mv ρ Φ Ξ) (x : XQ X W σ F hx Ξ) {Q : VK} (kk : ∀ v H', PostE X.K σ F hx Φ v H' → Q v H') : tDc wi g tt tk tv (own.map (·.2)) σ H Q := by
  rw [hsl]
  refine ki s0 en0 q x ?_
  rintro J items ρ1 F1 h1 H1 e1 s1 en1 io ⟨hu, q1⟩
  intro D hD
  refine ⟨fun i m H => m = items.length - i ∧ i ≤ items.length ∧ ∃ ρ' acc F' h' hD, (∀ i ∈ sl, ρ'[i]? = some .un) ∧ Same F1 F' ∧ Sp3 F' (jn hD h') hx H ∧ Dj hD h' ∧ EnvL X.K F' ρ' (wipe σ sl) h' ∧ Own X.K F' (.dct acc) (.ref D) hD ∧ mGoD sl mg mt mk mv (fun acc ρ2 => Φ (.dct acc) ρ2) (items.drop i) acc ρ', ⟨_, rfl, Nat.zero_le _, ρ1, [], F1, h1, upd emp D (.dK []), hu, Same.refl _, ?_, ?_, wipe_un en1 hu, .dct .nil List.nodup_nil rfl, q1⟩, ?_⟩
  · rw [upd_jn, emp_jn]; exact s1.own hD
  · exact dj_upd emp_dj (s1.o.free hD)
  rintro i m H ⟨rfl, hi, ρ', acc, F', h', hD', hu', e2, s2, d2, en2, ow2, q2⟩
  obtain ⟨i1, i2, i3⟩ := io e2 s2 (i := i)
  by_cases hlt : i < items.length
  · refine .inr ⟨i1 hlt, fun H => ∃ ρ' acc F' h' hD, (∀ i ∈ sl, ρ'[i]? = some .un) ∧ Same F1 F' ∧ Sp3 F' (jn hD h') hx H ∧ Dj hD h' ∧ EnvL X.K F' ρ' (wipe σ sl) h' ∧ Own X.K F' (.dct acc) (.ref D) hD ∧ mGoD sl mg mt mk mv (fun acc ρ2 => Φ (.dct acc) ρ2) (items.drop (i + 1)) acc ρ', fun H' n => ⟨items.length - (i + 1), by omega, rfl, by omega, n⟩, ?_⟩
    intro y H' hy
    obtain ⟨F3, d, hd, e3, s3, r3⟩ := i2 y H' hlt hy
    have hdrop : items.drop i = d :: items.drop (i + 1) := by
      obtain ⟨_, z⟩ := List.getElem?_eq_some_iff.mp hd
      rw [← z]; exact List.drop_eq_getElem_cons hlt
    rw [hdrop] at q2
    have q2 : mTurnD sl mg mt mk mv d acc ρ' (mGoD sl mg mt mk mv (fun acc ρ2 => Φ (.dct acc) ρ2) (items.drop (i + 1))) := q2
    have sp := s3.put d2
    refine hg sp (en2.mono e3) r3 q2 ?_
    rintro σ' ⟨ρ4, h4, w1, w2, sh, en4, q4⟩
    have ww : wipe (wipe σ sl) sl = wipe σ sl := wipe_idem
    refine ⟨by rw [w1, ww], ?_⟩
    refine kt (sp.less sh) en4 q4 ?_
    rintro b H5 ⟨ρ5, F5, h5, e5, s5, en5, q5⟩
    have dx : Dj hD' hx := (jn_dj.mp s3.ox).1
    have ln : ∀ {ρ : EnvT} {F h : Hp}, EnvL X.K F ρ σ' h → ∀ i ∈ sl, i < ρ.length := fun {ρ F h} en i hi => by
      have l1 := en.len
      have l2 := congrArg List.length w1
      rw [wipe_length, wipe_length, wipe_length] at l2
      have l3 := en1.len
      have := (List.getElem?_eq_some_iff.mp (hu i hi)).1
      omega
    cases b with
    | false =>
      refine iteF ?_
      have q5 := ifFF q5
      obtain ⟨h6, s6, en6⟩ := wipe_env (sl := sl) en5
      rw [w1, ww] at en6
      obtain ⟨t1, t2⟩ := (s5.less s6).get dx
      exact ⟨_, acc, F5, h6, hD', fun i hi => wipeE_un hi (ln en5 i hi), (e2.trans e3).trans e5, t1, t2, en6, ow2.mono (e3.trans e5), q5⟩
    | true =>
      refine iteT ?_
      have q5 := ifTT q5
      refine kk1 s5 en5 q5 ?_
      rintro z H5' ⟨oz, ρ5', F5', gz, h5', e5', s5', d5', en5', owz, key, rfl, q5'⟩
      obtain ⟨rfl, rz'⟩ := own_emp owz
      rw [emp_jn] at s5'
      have ez := rp_key rz'
      subst ez
      refine kv s5' en5' q5' ?_
      rintro v H6 ⟨o, ρ6, F6, g1, h6, e6, s6, d6, en6, ow6, hl, q6⟩
      obtain ⟨t1, t2⟩ := s6.get dx
      obtain ⟨t3, t4⟩ := dj_jn.mp t2
      obtain ⟨vs, hN, z1, z2, znd, z3, z4⟩ := own_putK key (ow2.mono (((e3.trans e5).trans e5').trans e6)) ow6 t3
      obtain ⟨h7, s7, en7⟩ := wipe_env (sl := sl) en6
      rw [w1, ww] at en7
      refine ⟨vs, key, rfl, t1.o _ _ (jn_l z1), by rw [← z2]; exact small_lt (by omega), _, _, F6, h7, hN, fun i hi => wipeE_un hi (ln en6 i hi), (((e2.trans e3).trans e5).trans e5').trans e6, ?_, ?_, en7, z3, q6⟩
      · have u1 : Sp3 F6 (jn (jn hD' g1) h7) hx H6 := by
          rw [jn_assoc]
          exact t1.less (same_jn same_l ((same_jn same_l (s7.trans (same_r d6))).trans (same_r t2)))
        rw [putK_up znd]
        have u2 := u1.chg (u := .dK (upA key v vs)) (jn_l (jn_l z1))
        rw [← upd_jn] at u2
        have dj7 : Dj (upd (jn hD' g1) D (.dK (upA key v vs))) h7 := by
          refine dj_upd (jn_dj.mpr ⟨dj_sub t4 s7, dj_sub d6 s7⟩) ?_
          exact (dj_sub t4 s7).nr z1
        exact u2.less (same_jn (z4.trans same_l) (same_r dj7))
      · have dj7 : Dj (upd (jn hD' g1) D (.dK (upA key v vs))) h7 := by
          refine dj_upd (jn_dj.mpr ⟨dj_sub t4 s7, dj_sub d6 s7⟩) ?_
          exact (dj_sub t4 s7).nr z1
        exact (dj_sub dj7.symm z4).symm
  · refine .inl ⟨i3 (by omega), kk _ _ ?_⟩
    rw [List.drop_eq_nil_of_le (by omega)] at q2
    exact ⟨_, ρ', F', hD', h', e1.trans e2, s2, d2, unwipe en2 hu', ow2, q2⟩
theorem je_dc {tt : TT} (hc : X.calm = true) (hN : X.N.Nodup) (ji : JI X W tg it mi) (ok : BlkOk X.N X.env.scope scope own) (hsl : own.map (·.2) = sl) (pg : EachB X scope fun Y => PG Y tg g) (jg : JG X.K sl g mg)
    (pt : EachB X scope fun Y => PTs Y ifs tt) (kt : KT X.K mt tt) (jk : EachB X scope fun Y => JE Y WF kx mk) (jv : EachB X scope fun Y => JE Y WF vx mv) (hs : ∀ x, foldedSetIterable it X.env x = pure x := by intro _; rfl) :
    JE X W (.DictComp kx vx [⟨tg, it, ifs, 0⟩] scope pos) (mDc mi sl mg mt mk mv) := by
  obtain ⟨wi, pi, ki⟩ := ji.ex
  refine ⟨fun {pins s σ F h hx H ρ Φ Ξ} at_ q x => (pe_dc hc hN pi ok pg pt pe_B pe_B hs).run _ _ _ _ _ at_.i ?_⟩
  exact dc_J hsl ki jg kt (ke_B fun s H0 C cl fp => je_frz (jk s H0 C cl fp)) (ke_B jv) at_.s at_.e q x fun _ _ p => p
end
end T

/-! T22: len of an instance, methods called with keywords, dict(d), int(b), two stores by one tuple, what is never reached. -/
namespace T
open PySem PySem.Spec PyProof.Rows L2 Z RZ
section
variable {X : Cx} {W : WX} {pr ip : List Nat} {e a b c o : Expr} {es rest : List Expr} {pos apos : Pos} {ma mo mb : TD} {ml mk : TL} {p : PthR} {i k : Nat} {f : Str} {pl : List (Option Nat)} {st : Stmt}
/-! never reached -/
theorem js_never : JS X W pr st fun _ _ => False := ⟨fun at_ q xs => q.elim⟩
def sNever : TSD := fun _ _ => False
theorem js_nev : JS X W pr st sNever := js_never
/-! dict(d), int(b) -/
def dictD : List PyData → (O → Prop) → Prop := fun ds Φ => ∃ kvs : List (Key × PyData), ds = [.dict (kvs.map fun kv => (keyD kv.1, kv.2))] ∧ (kvs.map (·.1)).Nodup ∧ Φ (.dct (kvs.map fun kv => (kv.1, .fz kv.2)))
theorem keyD_inj {a b : Key} (h : keyD a = keyD b) : a = b := by
  cases a <;> cases b <;> simp [keyD] at h <;> simp [h]
theorem rpkv_k {K : PySem.W.Frag} {F : Hp} : ∀ {vs : List (Key × V)} {kvs : List (Key × PyData)}, RpKv K F vs (kvs.map fun kv => (keyD kv.1, kv.2)) → RpK K F vs kvs
  | _, [], h => by cases h; exact .nil
  | _, (k, d) :: kvs, h => by
    rw [List.map_cons] at h
    generalize hk : keyD k = kd at h
    cases h with
    | @cons k' v r _ _ a b =>
      have := keyD_inj hk
      subst this
      exact .cons a (rpkv_k b)
theorem d_dict {K : PySem.W.Frag} : DCl K (fun xs H Q => ∃ (a : Addr) (kvs : List (Key × V)), xs = [.ref a] ∧ Rd H a (.dK kvs) ∧ ∀ p, H p = none → Q (.ref p) (upd H p (.dK kvs))) dictD := by
  intro F h hx H xs ds Φ Q s r q k
  obtain ⟨kvs, rfl, nd, q⟩ := q
  obtain ⟨x, rfl, r1⟩ := rp1 r
  cases r1 with
  | dct ha rk =>
    refine ⟨_, _, rfl, .inl (s.f _ _ ha), fun p hp => k _ _ ?_⟩
    have rk' := rpkv_k rk
    refine ⟨_, F, upd emp p (.dK _), Same.refl _, ?_, dj_upd emp_dj (s.o.free hp), .dct rk'.own (by rw [keys_fz]; exact nd) rfl, q⟩
    rw [upd_jn, emp_jn]; exact s.own hp
theorem o_dict : CallR X (.type "dict") (fun xs H Q => ∃ (a : Addr) (kvs : List (Key × V)), xs = [.ref a] ∧ Rd H a (.dK kvs) ∧ ∀ p, H p = none → Q (.ref p) (upd H p (.dK kvs))) := call_dictD
def intD : List PyData → (O → Prop) → Prop := fun ds Φ => (∃ i, ds = [.int i] ∧ Φ (.fz (.int i))) ∨ ∃ c, ds = [.bool c] ∧ Φ (.fz (.int (if c then 1 else 0)))
theorem d_int {K : PySem.W.Frag} : DCl K (fun xs H Q => (∃ i, xs = [.int i] ∧ Q (.int i) H) ∨ ∃ k, xs = [.bl k] ∧ Q (.int (if k then 1 else 0)) H) intD := by
  intro F h hx H xs ds Φ Q s r q k
  rcases q with ⟨i, rfl, q⟩ | ⟨c, rfl, q⟩
  · obtain ⟨x, rfl, r1⟩ := rp1 r
    cases r1
    exact .inl ⟨i, rfl, k _ _ (postO_fz (Same.refl _) s (.int i) q)⟩
  · obtain ⟨x, rfl, r1⟩ := rp1 r
    cases r1
    exact .inr ⟨c, rfl, k _ _ (postO_fz (Same.refl _) s (.int _) q)⟩
theorem o_int : CallR X (.type "int") (fun xs H Q => (∃ i, xs = [.int i] ∧ Q (.int i) H) ∨ ∃ k, xs = [.bl k] ∧ Q (.int (if k then 1 else 0)) H) := call_int1
/-! len(x), x an instance -/
section
variable {C g : Addr} {m : Str} {fd : FuncData} {ps : List Str} {ts : TSp}
def mLenI (C : Addr) (ts : TSp) (m : TD) : TD := fun ρ Φ Ξ => m ρ (fun o ρ1 => ∃ fs, o = .lns C fs ∧ ts [.lns C fs] (fun r _ => ∃ n : Nat, r = .fz (.int (n : Int)) ∧ n ≤ 1000000 ∧ Φ (.fz (.int (n : Int))) ρ1) fun _ _ => False) Ξ
def rLenI (K : PySem.W.Frag) (C : Addr) (n : Nat) (ts : TSp) : List V → Hp → VK → Prop := fun xs H Q => ∃ (a dx : Addr) (vs : List (Str × V)), xs = [.ref a] ∧ H a = some (.ins C dx vs) ∧ spT K n [] ts [.ref a] H (fun v H' => ∃ n : Nat, v = .int (n : Int) ∧ n ≤ 1000000 ∧ Q (.int (n : Int)) H') fun _ _ _ => False
theorem call_lenI (hG : X.A.guards = some []) (hl : PySem.W.findIn X.K (.ref C) "__len__" = some (some (.ref g))) (hf : PySem.W.isFn X.K (.ref g) = true) (G : FnT X.prog X.w X.K X.mg X.base k g fd ps [] ts) (hr : Room (k + 1) X.A) (hb : Binds X.K fd ps []) :
    CallR X (.builtin "len") (rLenI X.K C ps.length ts) := by
  intro pins s σ H xs us Q I r h
  obtain ⟨A0, dx, vs, rfl, ha, sp⟩ := h
  obtain ⟨u, rfl, rx⟩ := vals1 r
  have ru : u = Value.ref A0 := rx
  subst ru
  obtain ⟨m, fr⟩ := I.fr
  obtain ⟨mA, O, _, _, _, _⟩ := ins_get I.hok ha
  obtain ⟨od, J, _⟩ := O.look
  have hlen : ([Value.ref A0] ++ []).length = ps.length := by rw [List.append_nil, ← spT_len sp]; rfl
  have bnd := hb s [Value.ref A0] I.kIn hlen
  rw [List.append_nil] at bnd
  have run := G.run X.A.in1 X.stack s H ⟨[.ref A0], []⟩ [.ref A0] [.ref A0] _ _ hG hr.in1 I.env0.in1 bnd (.cons rfl .nil) sp
  refine PySem.W.len_K fr I.ok.mod.kin J hl hf (wpAny_call (codeAny_mono run ?_))
  rintro (er | fl) s' hq
  · exact (takes0 (X := X) er s' (XE.of_call I (W := fun _ _ _ _ => False) (fun _ _ _ z => z) hq))
  · cases fl with
    | ret u =>
      obtain ⟨v, H', I3, rv, n, ev, hn, q3⟩ := I.after hq
      subst ev
      obtain ⟨t, rfl⟩ := rv
      exact ⟨⟨by omega, by omega⟩, ⟨.int (n : Int), H', I3.tok _, ⟨_, rfl⟩, q3⟩⟩
    | next | brk | cont => exact hq.elim
theorem je_lenI {np : Pos} (hG : X.A.guards = some []) (hl : PySem.W.findIn X.K (.ref C) "__len__" = some (some (.ref g))) (hf : PySem.W.isFn X.K (.ref g) = true) (G : FnT X.prog X.w X.K X.mg X.base k g fd ps [] ts) (hr : Room (k + 1) X.A) (hb : Binds X.K fd ps []) (hps : ps.length = 1 := by rfl)
    (hm : X.mg "len" = none) (jo : JE X W e mo) (hg : Gl X "len" := by rfl) (hs : starEach [e] X.env = (false, eval e X.env) :: starEach [] X.env := by rfl) (hpl : (backTo pos (starEach [] X.env)).any (·.1) = false := by rfl) :
    JE X W (.Call (.Name "len" np) [e] [] pos) (mLenI C ts mo) := by
  refine ⟨fun {pins s σ F h hx H ρ Φ Ξ} at_ q x => (pe_callB (call_lenI hG hl hf G hr hb) hg hm bt_len (pa_cons pe_J pa_nil hs) (by decide) (by decide) hs hpl).run _ _ _ _ _ at_.i ?_⟩
  refine jo.te at_.s at_.e q x ?_
  rintro v H1 ⟨o', ρ1, F1, h1, h', e1, s1, d1, en1, ow, fs, rfl, q1⟩
  cases ow with
  | @lns _ _ vs A0 dx r ha hd =>
    refine ⟨A0, dx, vs, rfl, s1.f _ _ ha, F1, emp, jn h' hx, [.lns C fs], _, _, hps.symm, ?_, .cons (Own.lns r ha hd) .nil emp_dj, q1, ?_, fun _ _ _ ⟨_, _, _, _, _, _, _, _, z⟩ => z⟩
    · have s1' : Sp3 F1 (jn h' emp) hx H1 := by rw [jn_emp]; exact s1
      exact s1'.put dj_emp
    · rintro w H2 ⟨ro, outs, F2, g1, g', e2, s2, d2, en2, ow2, n, rfl, hn, q2⟩
      obtain ⟨rfl, rr⟩ := own_emp ow2
      cases rr
      cases en2
      rw [emp_jn] at s2
      obtain ⟨s3, _⟩ := s2.get (jn_dj.mp s1.ox).2
      rw [jn_emp] at s3
      exact ⟨n, rfl, hn, postE_fz (e1.trans e2) s3 (en1.mono e2) (.int _) q2⟩
/-! methods called with keywords alone, the receiver behind a path -/
theorem bor_tk {kws : List Keyword} {m : TL} (j : JK X W kws m) {σ : L2.St} {F h hx H : Hp} {ρ : EnvT} {Φ : List O → Prop} {Ξ : Exn → EnvT → Prop} {Q : List V → Hp → Prop} (s3 : Sp3 F h hx H) (en0 : EnvL X.K F ρ σ h) (q : m (ρ.map lent) (fun o _ => noMutOL o = true ∧ Φ o) fun x _ => noMutL (x.fs.map (·.2)) = true ∧ Ξ x ρ) (x : XQ X W σ F hx Ξ)
    (k : ∀ v H' o F' h1, Same F F' → Sp3 F' (jn h1 h) hx H' → Dj h1 h → OwnL X.K F' o v h1 → Φ o → Q v H') : taK X kws σ H Q := by
  have en := en0.lend (G := F) s3.fo (Same.refl _)
  have s2 : Sp3 (jn F h) emp hx H := by
    refine Sp3.frz (h1 := h) (h := emp) (by rw [jn_emp]; exact s3) dj_emp
  intro pos pins s I
  refine thn (j.run pos ⟨I, s2, en⟩ q (bor_x s3 en0 x)) fun _ _ => ap_mono ?_
  rintro v H' ⟨o, ρ', F', h1, h', e1, s1, d1, en1, ow, nm, q⟩
  have sh : Same h F' := (same_r s3.fo).trans e1
  have sF : Same F (ohne F' h) := ohne_same (same_l.trans e1) s3.fo
  have d2 : Dj h1 h := (dj_sub ((dj_jn.mp s1.fo).1.symm) sh)
  refine k v H' o (ohne F' h) h1 sF ⟨same_ohne.trans s1.f, same_jn (same_l.trans s1.o) (sh.trans s1.f), s1.x, dj_jn.mpr ⟨?_, ohne_dj⟩, ?_, jn_dj.mpr ⟨(jn_dj.mp s1.ox).1, s3.ox⟩⟩ d2 (ownL_ohne en0.cells sh ow nm) q
  · exact (dj_sub ((dj_jn.mp s1.fo).1.symm) same_ohne).symm
  · exact (dj_sub s1.fx.symm same_ohne).symm
def mMethPK (C : Addr) (m : Str) (ts : TSp) (kn : Nat) (p : PthR) (mk : TL) (aD : List PyData → List PyData) : TD := fun ρ Φ Ξ => p ρ (fun k o => ∃ fs, o = .ins C fs ∧ lookA fs m = none ∧ mk (ρ.map lent) (fun zs _ => noMutOL zs = true ∧ ∃ ds, zs = ds.map .fz ∧ ds.length = kn ∧ ts (.ins C fs :: (aD ds).map .fz) (fun r outs => outK k outs (Φ r)) fun x outs => outK k outs (Ξ x)) fun x _ => noMutL (x.fs.map (·.2)) = true ∧ Ξ x ρ) Ξ
theorem je_methPK {kws : List Keyword} {ks : List Str} {aV : List V → List V} {aD : List PyData → List PyData} {pl0 : Sem Bool} (hG : X.A.guards = some []) (hc : Cls X.K C) (hm : Meth X.K C m g) (G : FnT X.prog X.w X.K X.mg X.base k g fd ps [0] ts) (hr : Room k X.A) (ka : KA X.K fd ps 1 ks aV aD) (tk : Takes X W) (jo : JPt X W o p) (jk : JK X W kws mk)
    (hall : (backToKw pos (keywordEach kws X.env)).all (·.1.isSome) = true := by rfl) (hks : (backToKw pos (keywordEach kws X.env)).filterMap (·.1) = ks := by rfl)
    (hpl : ((backTo pos (starEach [] X.env)).any (·.1) || (backToKw pos (keywordEach kws X.env)).any (·.1.isNone)) = false := by rfl)
    (ht : eval (.Call (.Attribute o m apos) [] kws pos) X.env = (do
      let ov ← eval o X.env
      standAt apos.atName
      let (f, first) ← holding [ov] (getMethod ov m pl0)
      callWith pos f first (backTo pos (starEach [] X.env)) (backToKw pos (keywordEach kws X.env))) := by rfl) :
    JE X W (.Call (.Attribute o m apos) [] kws pos) (mMethPK C m ts ks.length p mk aD) := by
  refine ⟨fun {pins s σ F h hx H ρ Φ Ξ} at_ q x => ?_⟩
  refine PySem.W.methodCall_KW (pl := pl0) (thn (jo.te (Q := fun v H' => ∃ F' kk fs, Same F F' ∧ Sp3 F' h hx H' ∧ Lns X.K F' σ h kk (.ins C fs) v ∧ lookA fs m = none ∧ mk (ρ.map lent) (fun zs _ => noMutOL zs = true ∧ ∃ ds, zs = ds.map .fz ∧ ds.length = ks.length ∧ ts (.ins C fs :: (aD ds).map .fz) (fun r outs => outK kk outs (Φ r)) fun x outs => outK kk outs (Ξ x)) fun x _ => noMutL (x.fs.map (·.2)) = true ∧ Ξ x ρ) at_.s at_.e q x (fun v H' F' k o e1 s1 L ⟨fs, eo, hl, q1⟩ => by subst eo; exact ⟨F', k, fs, e1, s1, L, hl, q1⟩) pins s at_.i) ?_) ht
  rintro u s1 ⟨v, H1, I1, rx, F1, kk, fs, e1, s1', L, hl, q1⟩
  obtain ⟨g1, gc, owr, dg, eh, put⟩ := id L
  obtain ⟨A0, dx, vs, ev, ha, hno⟩ : ∃ A0 dx vs, v = .ref A0 ∧ g1 A0 = some (.ins C dx vs) ∧ vs.lookup m = none := by
    cases owr with
    | ins r n m2 ne => exact ⟨_, _, _, rfl, upd_same, r.no hl⟩
  subst ev
  have ru : u = Value.ref A0 := rx
  subst ru
  have hA : h A0 = some (.ins C dx vs) := by rw [eh]; exact jn_l ha
  refine getmeth_ok I1 (s1'.o _ _ hA) hc hm hno ?_
  refine PySem.W.callWith_KW0 (first := [.ref A0]) (h₀ := X.base) I1.ok.mod.kin hm.kp hall (thn ((bor_tk jk s1' (at_.e.mono e1) q1 (x.mono e1 (Same.refl _)) (Q := fun ws H' => ∃ F' ds, Same F F' ∧ Sp3 F' h hx H' ∧ RpAll X.K F' ws ds ∧ Lns X.K F' σ h kk (.ins C fs) (.ref A0) ∧ ds.length = ks.length ∧ ts (.ins C fs :: (aD ds).map .fz) (fun r outs => outK kk outs (Φ r)) fun x outs => outK kk outs (Ξ x))
    (fun v H' zs F' h2 e2 s2 d2 ow2 ⟨ds, ez, hdl, q2⟩ => by
      subst ez
      obtain ⟨rp, rfl⟩ := ow2.thaw
      rw [emp_jn] at s2
      exact ⟨F', ds, e1.trans e2, s2, rp, L.mono e2, hdl, q2⟩)) pos pins s1 I1) ?_) hpl
  rintro ws s2 ⟨zs, H2, I2, rz, F2, ds, e2, s2', rp, L2, hdl, q2⟩
  refine ⟨I2.kIn, ?_⟩
  rw [hks]
  obtain ⟨gg, kb⟩ := ka.kb
  have lz : zs.length = ks.length := by rw [rp.len, hdl]
  have rA := ka.rel _ zs ds lz rp
  have r2 : Vals ([V.ref A0] ++ aV zs) (gg [.ref A0] ws) := kb.rel (.cons rfl .nil) rz
  have hlen : ((aD ds).map O.fz).length + 1 = ps.length := by rw [List.length_map, Nat.add_comm]; exact ka.len ds hdl
  have sp := meth_fin (Φ := Φ) (Ξ := Ξ) (n := ps.length) (h2 := emp) e2 (by rw [emp_jn]; exact s2') emp_dj L2 (OwnL.frozen rA) hlen q2
  have lw : ws.length = ks.length := by rw [← lz]; exact (Paired.length rz).symm
  have run := G.run X.A X.stack s2 H2 ⟨[.ref A0], ks.zip ws⟩ _ _ _ _ hG hr I2.env0 (kb.to s2 [.ref A0] ws I2.kIn rfl lw) r2 sp
  refine wpAny_call (codeAny_mono run ?_)
  rintro (er | fl) s' hq
  · exact tk er s' (XE.of_call I2 (fun c d H' z => x c d H' z) hq)
  · cases fl with
    | ret u => exact I2.after hq
    | next | brk | cont => exact hq.elim
end
/-! p[k], p'[k'] = e: a tuple of two -/
def put1 (p : PthR) (mk : TD) (y : O) (ρ : EnvT) (R : EnvT → Prop) (Ξ : Exn → EnvT → Prop) : Prop := p ρ (fun k o => ∃ kvs, o = .dct kvs ∧ bor mk ρ (fun z => ∃ key, z = .fz (keyD key) ∧ kvs.length ≤ 100000 ∧ R (k (.dct (upA key y kvs)))) Ξ) Ξ
theorem put1_J {X : Cx} {W : WX} {o a : Expr} {p : PthR} {mk : TD} (jo : JPt X W o p) (jk : JE X W a mk) {σ : L2.St} {F h hx H : Hp} {ρ : EnvT} {R : EnvT → Prop} {Ξ : Exn → EnvT → Prop} {Q : L2.St → Hp → Prop} {v : V} {d : PyData} (s : Sp3 F h hx H) (en : EnvL X.K F ρ σ h) (r : Rp X.K F v d) (q : put1 p mk (.fz d) ρ R Ξ) (x : XQ X W σ F hx Ξ)
    (k : ∀ H' ρ2 F' h', Same F F' → Sp3 F' h' hx H' → EnvL X.K F' ρ2 σ h' → R ρ2 → Q σ H') : gSub (teJ X o) (teJ X a) rSetD v σ H Q := by
  refine jo.te s en q x ?_
  rintro w H1 F1 kk o e1 s1 L ⟨kvs, rfl, q1⟩
  refine bor_te jk s1 (en.mono e1) q1 (x.mono e1 (Same.refl _)) ?_
  rintro z H2 oz F2 h2 e2 s2 d2 owz ⟨key, rfl, hl, q2⟩
  obtain ⟨rfl, rz⟩ := own_emp owz
  rw [emp_jn] at s2
  have ez := rp_key rz
  subst ez
  obtain ⟨A0, vs, rfl, ha, hlen, nd, hq, en3, sq⟩ := (L.mono e2).setKey key (Own.fz (r.mono (e1.trans e2))) emp_dj
  refine ⟨A0, _, rfl, DPut.k (s2.o _ _ ha) (szlt (by omega)), ?_⟩
  rw [putK_up nd]
  rw [emp_jn] at sq
  exact k _ _ F2 hq (e1.trans e2) ((s2.chg ha).less sq) en3 q2
def sPut2 (p : PthR) (mk : TD) (p' : PthR) (mk' me : TD) : TSD := fun D ρ => mFrz me ρ (fun o ρ1 => ∃ x y, o = .fz (.tuple [x, y]) ∧ put1 p mk (.fz x) ρ1 (fun ρ2 => put1 p' mk' (.fz y) ρ2 D.nx D.ex) D.ex) D.ex
theorem js_put2 {X : Cx} {W : WX} {pr : List Nat} {o a o' a' c : Expr} {p p' : PthR} {mk mk' me : TD} {k : Nat} {q1 q2 q3 pos : Pos} {kt} (hcm : X.calm = true) (hr : Room k X.A) (jo : JPt X W o p) (jk : JE X W a mk) (jo' : JPt X W o' p') (jk' : JE X W a' mk') (jv : JE X W c me)
    (h1 : ∀ v, assign (.Subscript o a q1) X.env v = (do
      let ov ← holding [v] (eval o X.env)
      let iv ← holding [v, ov] (eval a X.env)
      standAt q1
      holding [v, ov, iv] (setItem ov iv v)
      release [v, ov, iv] []) := by intro _; rfl)
    (h2 : ∀ v, assign (.Subscript o' a' q2) X.env v = (do
      let ov ← holding [v] (eval o' X.env)
      let iv ← holding [v, ov] (eval a' X.env)
      standAt q2
      holding [v, ov, iv] (setItem ov iv v)
      release [v, ov, iv] []) := by intro _; rfl)
    (hn : (assignEach [.Subscript o a q1, .Subscript o' a' q2] X.env).length = 2 := by rfl) (hst : (assignEach [.Subscript o a q1, .Subscript o' a' q2] X.env).findIdx? (·.1) = none := by rfl)
    (hs : swapsWithSole [.Tuple [.Subscript o a q1, .Subscript o' a' q2] kt q3] c pos.line X.env = pure false := by rfl) (hw : swappedStores [.Tuple [.Subscript o a q1, .Subscript o' a' q2] kt q3] c X.env = pure none := by rfl)
    (h3 : List.map (fun x => x.snd) (assignEach [.Tuple [.Subscript o a q1, .Subscript o' a' q2] kt q3] X.env) = [assign (.Tuple [.Subscript o a q1, .Subscript o' a' q2] kt q3) X.env] := by rfl) :
    JS X W pr (.Assign [.Tuple [.Subscript o a q1, .Subscript o' a' q2] kt q3] c pos) (sPut2 p mk p' mk' me) := by
  refine ⟨fun {pins s σ F h hx H ρ D} at_ q xs => (ps_asg pe_J (pg_tup hcm (pgs_cons (pg_sub pe_J pe_J (set_dict (hu_of hr)) h1) (pgs_cons (pg_sub pe_J pe_J (set_dict (hu_of hr)) h2) pgs_nil)) hn hst) hs hw h3).run _ _ _ _ _ at_.i ?_⟩
  refine (je_frz jv).te at_.s at_.e q xs.now ?_
  rintro v H1 ⟨oo, ρ1, F1, g1, h', e1, s1, d1, en1, ow, x, y, rfl, q1⟩
  obtain ⟨rfl, r⟩ := own_emp ow
  rw [emp_jn] at s1
  cases r with
  | tup hq rp =>
    cases rp with
    | cons rx rp =>
      cases rp with
      | cons ry rp =>
        cases rp
        refine ⟨_, _, rfl, Z.Same.seqT s1.f hq, (by rfl), _, _, (by rfl), ?_⟩
        refine put1_J jo jk s1 en1 rx q1 (xs.now.mono e1 (Same.refl _)) fun H2 ρ2 F2 h2' e2 s2 en2 q2 => ?_
        refine ⟨_, _, (by rfl), ?_⟩
        refine put1_J jo' jk' s2 en2 (ry.mono e2) q2 (xs.now.mono (e1.trans e2) (Same.refl _)) fun H3 ρ3 F3 h3' e3 s3 en3 q3 => ?_
        exact ⟨rfl, ρ3, F3, h3', Keep.refl, (e1.trans e2).trans e3, s3, en3, q3⟩
end
end T

/-! T23: the way through a reading: paths, instances, dicts, calls with keywords, exceptions. -/
namespace T
open PySem PySem.Spec PyProof.Rows L2 Z RZ
section
variable {K : PySem.W.Frag} {o : O} {ρ : EnvT} {Φ : O → EnvT → Prop} {R : Bool → EnvT → Prop} {Ξ : Exn → EnvT → Prop} {ΦL : List O → EnvT → Prop} {D : TEnds} {i n kn : Nat} {ma mb mc mk me : TD} {ml mkl : TL} {p p' : PthR} {Φp : (O → EnvT) → O → Prop} {Φ1 : O → Prop} {f m : Str} {C : Addr} {ts : TSp} {aD : List PyData → List PyData} {ip : List Nat} {ff : Str → Option (List Str)}
theorem ev_pVar : pVar i (o :: ρ) Φp Ξ = ∃ x, (o :: ρ)[i]? = some x ∧ x ≠ .un ∧ Φp (fun n => (o :: ρ).set i n) x := rfl
theorem ev_pFld : pFld K p f (o :: ρ) Φp Ξ = p (o :: ρ) (fun k x => ∃ C fs y, x = .ins C fs ∧ ClF K C f ∧ lookA fs f = some y ∧ Φp (fun n => k (.ins C (upA f n fs))) y) Ξ := rfl
theorem ev_pKey : pKey p mk (o :: ρ) Φp Ξ = p (o :: ρ) (fun k x => ∃ kvs, x = .dct kvs ∧ bor mk (o :: ρ) (fun z => ∃ key y, z = .fz (keyD key) ∧ lookA kvs key = some y ∧ Φp (fun n => k (.dct (upA key n kvs))) y) Ξ) Ξ := rfl
theorem ev_borr : bor ma (o :: ρ) Φ1 Ξ = ma ((o :: ρ).map lent) (fun x _ => noMutO x = true ∧ Φ1 x) fun x _ => noMutL (x.fs.map (·.2)) = true ∧ Ξ x (o :: ρ) := rfl
theorem ev_fldP : sFldP K p f me D (o :: ρ) = me (o :: ρ) (fun y ρ1 => p ρ1 (fun k x => ∃ C fs, x = .ins C fs ∧ ClF K C f ∧ fs.length ≤ 900 ∧ D.nx (k (.ins C (upA f y fs)))) D.ex) D.ex := rfl
theorem ev_putP : sPutP p mk me D (o :: ρ) = me (o :: ρ) (fun y ρ1 => p ρ1 (fun k x => ∃ kvs, x = .dct kvs ∧ bor mk ρ1 (fun z => ∃ key, z = .fz (keyD key) ∧ kvs.length ≤ 100000 ∧ D.nx (k (.dct (upA key y kvs)))) D.ex) D.ex) D.ex := rfl
theorem ev_appP : sAppP p me D (o :: ρ) = p (o :: ρ) (fun k x => ∃ xs, x = .lst xs ∧ xs.length ≤ 100000 ∧ bor me (o :: ρ) (fun y => D.nx (k (.lst (xs ++ [y])))) D.ex) D.ex := rfl
theorem ev_augF {h : Int → Int → Int} : sAugF K p f h me D (o :: ρ) = p (o :: ρ) (fun k x => ∃ C fs y, x = .ins C fs ∧ ClF K C f ∧ fs.length ≤ 900 ∧ lookA fs f = some (.fz (.int y)) ∧ bor me (o :: ρ) (fun z => ∃ j, z = .fz (.int j) ∧ D.nx (k (.ins C (upA f (.fz (.int (h y j))) fs)))) D.ex) D.ex := rfl
theorem ev_augK {h : Int → Int → Int} : sAugK p mk h me D (o :: ρ) = p (o :: ρ) (fun k x => ∃ kvs, x = .dct kvs ∧ bor mk (o :: ρ) (fun z => ∃ key y, z = .fz (keyD key) ∧ lookA kvs key = some (.fz (.int y)) ∧ kvs.length ≤ 100000 ∧ bor me (o :: ρ) (fun u => ∃ j, u = .fz (.int j) ∧ D.nx (k (.dct (upA key (.fz (.int (h y j))) kvs)))) D.ex) D.ex) D.ex := rfl
theorem ev_put2 {mk' : TD} : sPut2 p mk p' mk' me D (o :: ρ) = mFrz me (o :: ρ) (fun u ρ1 => ∃ x y, u = .fz (.tuple [x, y]) ∧ put1 p mk (.fz x) ρ1 (fun ρ2 => put1 p' mk' (.fz y) ρ2 D.nx D.ex) D.ex) D.ex := rfl
theorem ev_put1 {y : O} {N : EnvT → Prop} : put1 p mk y (o :: ρ) N Ξ = p (o :: ρ) (fun k x => ∃ kvs, x = .dct kvs ∧ bor mk (o :: ρ) (fun z => ∃ key, z = .fz (keyD key) ∧ kvs.length ≤ 100000 ∧ N (k (.dct (upA key y kvs)))) Ξ) Ξ := rfl
theorem ev_fldL : mFldL K ma f (o :: ρ) Φ Ξ = ma (o :: ρ) (fun x ρ1 => ∃ C fs y, x = .lns C fs ∧ ClF K C f ∧ lookA fs f = some y ∧ Φ y ρ1) Ξ := rfl
theorem ev_methL : mMethL C m ts ma ml (o :: ρ) Φ Ξ = ma (o :: ρ) (fun x ρ1 => ∃ fs, x = .lns C fs ∧ lookA fs m = none ∧ ml ρ1 (fun os ρ2 => ts (.lns C fs :: os) (fun r outs => Φ r ρ2) fun x outs => Ξ x ρ2) Ξ) Ξ := rfl
theorem ev_methP : mMethP C m ts p ml (o :: ρ) Φ Ξ = p (o :: ρ) (fun k x => ∃ fs, x = .ins C fs ∧ lookA fs m = none ∧ ml ((o :: ρ).map lent) (fun os _ => noMutOL os = true ∧ ts (.ins C fs :: os) (fun r outs => outK k outs (Φ r)) fun x outs => outK k outs (Ξ x)) fun x _ => noMutL (x.fs.map (·.2)) = true ∧ Ξ x (o :: ρ)) Ξ := rfl
theorem ev_methPK : mMethPK C m ts kn p mkl aD (o :: ρ) Φ Ξ = p (o :: ρ) (fun k x => ∃ fs, x = .ins C fs ∧ lookA fs m = none ∧ mkl ((o :: ρ).map lent) (fun zs _ => noMutOL zs = true ∧ ∃ ds, zs = ds.map .fz ∧ ds.length = kn ∧ ts (.ins C fs :: (aD ds).map .fz) (fun r outs => outK k outs (Φ r)) fun x outs => outK k outs (Ξ x)) fun x _ => noMutL (x.fs.map (·.2)) = true ∧ Ξ x (o :: ρ)) Ξ := rfl
theorem ev_outK {k : O → EnvT} {x : O} {N : EnvT → Prop} : outK k [x] N = (x ≠ .un ∧ N (k x)) := propext ⟨fun ⟨y, e, nu, q⟩ => by cases e; exact ⟨nu, q⟩, fun ⟨nu, q⟩ => ⟨x, rfl, nu, q⟩⟩
theorem ev_make : mMake C ts ml (o :: ρ) Φ Ξ = ml (o :: ρ) (fun os ρ1 => ts (.ins C [] :: os) (fun r outs => r = .fz .none ∧ ∃ o2, outs = [o2] ∧ o2 ≠ .un ∧ Φ o2 ρ1) fun x outs => Ξ x ρ1) Ξ := rfl
theorem ev_lenI : mLenI C ts ma (o :: ρ) Φ Ξ = ma (o :: ρ) (fun x ρ1 => ∃ fs, x = .lns C fs ∧ ts [.lns C fs] (fun r _ => ∃ n : Nat, r = .fz (.int (n : Int)) ∧ n ≤ 1000000 ∧ Φ (.fz (.int (n : Int))) ρ1) fun _ _ => False) Ξ := rfl
theorem ev_callK : mCallK ts n kn ip ml mkl aD (o :: ρ) Φ Ξ = ml (o :: ρ) (fun os ρ1 => mkl ρ1 (fun zs ρ2 => ∃ ds, fzL zs = some ds ∧ os.length = n ∧ ds.length = kn ∧ (∀ i ∈ ip, ρ2[i]? = some .un) ∧ ts (os ++ (aD ds).map .fz) (fun r outs => Φ r (putOut ip outs ρ2)) fun x outs => Ξ x (putOut ip outs ρ2)) Ξ) Ξ := rfl
theorem ev_inF {neg : Bool} : mInF neg ff ma (o :: ρ) Φ Ξ = mFrz ma (o :: ρ) (fun x ρ1 => ∃ z, x = .fz (.str z) ∧ Φ (.fz (.bool (if neg then !(ff z).isSome else (ff z).isSome))) ρ1) Ξ := rfl
theorem ev_ixF : mIxF ff ma (o :: ρ) Φ Ξ = mFrz ma (o :: ρ) (fun x ρ1 => ∃ z ks, x = .fz (.str z) ∧ ff z = some ks ∧ Φ (.fz (.tuple (ks.map .str))) ρ1) Ξ := rfl
theorem ev_disp {ms : List (TD × TD)} : mDisp ms (o :: ρ) Φ Ξ = mPairs ms (o :: ρ) (fun ps ρ1 => ∃ kvs : List (Key × PyData), ps = kvs.map (fun kv => (keyD kv.1, kv.2)) ∧ kvs.length ≤ 15 ∧ Φ (.dct ((mergeD [] kvs).map fun kv => (kv.1, .fz kv.2))) ρ1) Ξ := rfl
theorem ev_pairs0 {Q : List (PyData × PyData) → EnvT → Prop} : mPairs [] (o :: ρ) Q Ξ = Q [] (o :: ρ) := rfl
theorem ev_pairs {Q : List (PyData × PyData) → EnvT → Prop} {r : List (TD × TD)} : mPairs ((mk, me) :: r) (o :: ρ) Q Ξ = mFrz mk (o :: ρ) (fun x ρ1 => ∃ d, x = .fz d ∧ mFrz me ρ1 (fun y ρ2 => ∃ e, y = .fz e ∧ mPairs r ρ2 (fun ps ρ3 => Q ((d, e) :: ps) ρ3) Ξ) Ξ) Ξ := rfl
theorem ev_never : sNever D (o :: ρ) = False := rfl
theorem ev_raise {fs : List Str} {G : List PyData → Prop} : sRaise C fs G ml D (o :: ρ) = ml (o :: ρ) (fun os ρ1 => ∃ ds, fzL os = some ds ∧ os.length = fs.length ∧ fs.length ≤ 900 ∧ G ds ∧ D.ex ⟨.ref C, rz fs ds []⟩ ρ1) D.ex := rfl
theorem ev_dc {mi : TID} {sl : List Nat} {mg : TGD} {mt : TB} : mDc mi sl mg mt mk me (o :: ρ) Φ Ξ = mi (o :: ρ) (fun items ρ1 => (∀ i ∈ sl, ρ1[i]? = some .un) ∧ mGoD sl mg mt mk me (fun acc ρ2 => Φ (.dct acc) ρ2) items [] ρ1) Ξ := rfl
theorem ev_goD0 {sl : List Nat} {mg : TGD} {mt : TB} {N : List (Key × O) → EnvT → Prop} {acc : List (Key × O)} : mGoD sl mg mt mk me N [] acc (o :: ρ) = N acc (o :: ρ) := rfl
theorem ev_goD {sl : List Nat} {mg : TGD} {mt : TB} {N : List (Key × O) → EnvT → Prop} {acc : List (Key × O)} {x : PyData} {xs : List PyData} : mGoD sl mg mt mk me N (x :: xs) acc (o :: ρ) = mg x (o :: ρ) fun ρ1 => mt ρ1 (fun b ρ2 => if b = true then mFrz mk ρ2 (fun z ρ3 => ∃ key, z = .fz (keyD key) ∧ me ρ3 (fun o ρ4 => acc.length < 100000 ∧ mGoD sl mg mt mk me N xs (upA key o acc) (wipeE ρ4 sl)) fun _ _ => False) (fun _ _ => False) else mGoD sl mg mt mk me N xs acc (wipeE ρ2 sl)) (fun _ _ => False) := rfl
theorem ev_int1 {j : Int} : intD [.int j] Φ1 = Φ1 (.fz (.int j)) := by
  unfold intD
  refine propext ⟨?_, fun h => .inl ⟨j, rfl, h⟩⟩
  rintro (⟨i, e, h⟩ | ⟨c, e, h⟩)
  · cases e; exact h
  · cases e
theorem ev_int2 {c : Bool} : intD [.bool c] Φ1 = Φ1 (.fz (.int (if c then 1 else 0))) := by
  unfold intD
  refine propext ⟨?_, fun h => .inr ⟨c, rfl, h⟩⟩
  rintro (⟨i, e, h⟩ | ⟨c', e, h⟩)
  · cases e
  · cases e; exact h
theorem key_str {z : Str} {k : Key} : (O.fz (.str z) = O.fz (keyD k)) = (k = .inr z) := by
  refine propext ⟨fun e => ?_, fun e => by rw [e]; rfl⟩
  cases k with
  | inl i => injection e with e; cases e
  | inr y => injection e with e; injection e with e; rw [e]
theorem key_int {j : Int} {k : Key} : (O.fz (.int j) = O.fz (keyD k)) = (k = .inl j) := by
  refine propext ⟨fun e => ?_, fun e => by rw [e]; rfl⟩
  cases k with
  | inl i => injection e with e; injection e with e; rw [e]
  | inr y => injection e with e; cases e
theorem fz_mapE {ds : List PyData} {os : List O} : fzL (ds.map O.fz) = some ds := fzL_map ds
theorem mapfz_nil {ds : List PyData} : ([] = ds.map O.fz) = (ds = []) := by cases ds <;> simp
theorem mapfz_cons {d : PyData} {os : List O} {ds : List PyData} : (O.fz d :: os = ds.map O.fz) = ∃ r, ds = d :: r ∧ os = r.map O.fz := by
  cases ds with
  | nil => simp
  | cons a r =>
    refine propext ⟨fun e => ?_, fun ⟨r', e, h⟩ => ?_⟩
    · rw [List.map_cons] at e
      injection e with e1 e2
      injection e1 with e1
      exact ⟨r, by rw [e1], e2⟩
    · injection e with e1 e2
      rw [List.map_cons, e1, e2, h]
end
end T

/-! T24: displays of dicts whose values are own. -/
namespace T
open PySem PySem.Spec PyProof.Rows L2 Z RZ
section
variable {X : Cx} {W : WX} {pos : Pos} {o : O} {ρ : EnvT} {Ξ : Exn → EnvT → Prop} {Φ : O → EnvT → Prop}
def mPairsO : List (TD × TD) → EnvT → (List (Key × O) → EnvT → Prop) → (Exn → EnvT → Prop) → Prop
  | [], ρ, Q, _ => Q [] ρ
  | (mk, mv) :: r, ρ, Q, Ξ => mFrz mk ρ (fun x ρ1 => ∃ k, x = .fz (keyD k) ∧ mv ρ1 (fun o ρ2 => mPairsO r ρ2 (fun ps ρ3 => Q ((k, o) :: ps) ρ3) Ξ) Ξ) Ξ
theorem pairs_JO {ks : List (Option Expr)} {vs : List Expr} {ms : List (TD × TD)} (j : JP2 X W ks vs ms) : ∀ (σ : L2.St) (F h hx H : Hp) (ρ : EnvT) (Ξ : Exn → EnvT → Prop) (R : List (Key × O) → EnvT → Prop) (Q : List (V × V) → Hp → Prop), Sp3 F h hx H → EnvL X.K F ρ σ h → mPairsO ms ρ R Ξ → XQ X W σ F hx Ξ →
    (∀ (r : List (Key × V)) kvs ρ' F' h1 h' H', Same F F' → Sp3 F' (jn h1 h') hx H' → Dj h1 h' → EnvL X.K F' ρ' σ h' → OwnK X.K F' kvs r h1 → R kvs ρ' → Q (r.map fun kv => (kV kv.1, kv.2)) H') → tPairs (trJ X ks vs) σ H Q := by
  induction j with
  | nil =>
    intro σ F h hx H ρ Ξ R Q s en q x k
    exact k [] [] ρ F emp h H (Same.refl _) (by rw [emp_jn]; exact s) emp_dj en .nil q
  | @cons ek ev mk mv ks vs ms jk jv jr ih =>
    intro σ F h hx H ρ Ξ R Q s en q x k
    refine (je_frz jk).te s en q x ?_
    rintro v H1 ⟨o1, ρ1, F1, h1, h', e1, s1, d1, en1, ow1, key, rfl, q1⟩
    obtain ⟨rfl, rk⟩ := own_emp ow1
    rw [emp_jn] at s1
    have ez := rp_key rk
    subst ez
    refine jv.te s1 en1 q1 (x.mono e1 (Same.refl _)) ?_
    rintro u H2 ⟨o2, ρ2, F2, h2, h'', e2, s2, d2, en2, ow2, q2⟩
    refine ih σ F2 h'' (jn h2 hx) H2 ρ2 Ξ _ _ (s2.put d2) en2 q2 (x.mono (e1.trans e2) (same_r (jn_dj.mp s2.ox).1)) ?_
    intro r kvs ρ' F' h3 h4 H' e3 s3 d3 en3 ok q3
    obtain ⟨s4, d4⟩ := s3.get (jn_dj.mp s2.ox).1
    obtain ⟨d41, d42⟩ := dj_jn.mp d4
    refine k ((key, u) :: r) ((key, o2) :: kvs) ρ' F' (jn h2 h3) h4 H' ((e1.trans e2).trans e3) (by rw [jn_assoc]; exact s4) (jn_dj.mpr ⟨d42, d3⟩) en3 (.cons (ow2.mono e3) ok d41) q3
theorem mergeK_nodup : ∀ {r acc : List (Key × V)}, ((acc ++ r).map (·.1)).Nodup → mergeK acc r = acc ++ r
  | [], acc, _ => by rw [List.append_nil]; rfl
  | (k, v) :: r, acc, nd => by
    show mergeK (putK acc k v) r = _
    have nk : k ∉ acc.map (·.1) := by
      rw [List.map_append, List.map_cons] at nd
      intro hk
      exact (List.nodup_append.mp nd).2.2 k hk k List.mem_cons_self rfl
    have ndA : (acc.map (·.1)).Nodup := by
      rw [List.map_append] at nd; exact (List.nodup_append.mp nd).1
    rw [putK_up ndA, upA_new (lookA_mem.mpr nk), mergeK_nodup (by rw [List.append_assoc]; exact nd), List.append_assoc]; rfl
def mDispO (ms : List (TD × TD)) : TD := fun ρ Φ Ξ => mPairsO ms ρ (fun kvs ρ1 => (kvs.map (·.1)).Nodup ∧ kvs.length ≤ 15 ∧ Φ (.dct kvs) ρ1) Ξ
theorem je_dispO {ks : List (Option Expr)} {vs : List Expr} {ms : List (TD × TD)} (j : JP2 X W ks vs ms) (hall : ks.all (·.isSome) = true := by rfl) (hl : ks.length = vs.length := by rfl) (h0 : ks ≠ [] := by exact List.cons_ne_nil _ _) (h15 : ks.length ≤ 15 := by decide) : JE X W (.Dict ks vs pos) (mDispO ms) := by
  refine ⟨fun {pins s σ F h hx H ρ Φ Ξ} at_ q xq => (pe_disp j.pps hall hl h0 h15).run _ _ _ _ _ at_.i ?_⟩
  intro p hp
  have s3 : Sp3 F h (jn (upd emp p (.dK [])) hx) (upd H p (.dK [])) := by
    have s1 : Sp3 F (upd h p (.dK [])) hx (upd H p (.dK [])) := at_.s.own hp
    have e : upd h p (.dK []) = jn (upd emp p (.dK [])) h := by rw [upd_jn, emp_jn]
    rw [e] at s1
    exact s1.put (dj_upd emp_dj (at_.s.o.free hp))
  refine pairs_JO j σ F h _ _ ρ Ξ _ _ s3 at_.e q (xq.mono (Same.refl _) (same_r (dj_upd emp_dj (at_.s.x.free hp)))) fun r kvs ρ' F' h1 h' H' e1 s1 d1 en1 ok q1 => ?_
  obtain ⟨nd, h15', q1⟩ := q1
  have hD : H' p = some (.dK []) := s1.x _ _ (jn_l upd_same)
  have kr := ok.keys
  have lr := ok.len
  refine ⟨hD, r, rfl, by rw [← lr]; exact h15', ?_⟩
  rw [mergeK_nodup (r := r) (acc := []) (by rw [List.nil_append, kr]; exact nd), List.nil_append]
  obtain ⟨s2, d2⟩ := s1.get (dj_upd emp_dj (at_.s.x.free hp))
  obtain ⟨d21, d22⟩ := dj_jn.mp d2
  have nh : h' p = none := d22.nr upd_same
  have n1 : h1 p = none := d21.nr upd_same
  have s4 : Sp3 F' (upd (jn (upd emp p (.dK [])) (jn h1 h')) p (.dK r)) hx (upd H' p (.dK r)) := s2.chg (jn_l upd_same)
  refine ⟨_, ρ', F', upd h1 p (.dK r), h', e1, ?_, dj_upd d1 nh, en1, .dct ok nd n1, q1⟩
  rw [upd_jn, emp_jn, upd_upd] at s4
  rw [upd_jn]
  exact s4
theorem ev_dispO {ms : List (TD × TD)} : mDispO ms (o :: ρ) Φ Ξ = mPairsO ms (o :: ρ) (fun kvs ρ1 => (kvs.map (·.1)).Nodup ∧ kvs.length ≤ 15 ∧ Φ (.dct kvs) ρ1) Ξ := rfl
theorem ev_pairsO0 {Q : List (Key × O) → EnvT → Prop} : mPairsO [] (o :: ρ) Q Ξ = Q [] (o :: ρ) := rfl
theorem ev_pairsO {mk me : TD} {Q : List (Key × O) → EnvT → Prop} {r : List (TD × TD)} : mPairsO ((mk, me) :: r) (o :: ρ) Q Ξ = mFrz mk (o :: ρ) (fun x ρ1 => ∃ k, x = .fz (keyD k) ∧ me ρ1 (fun y ρ2 => mPairsO r ρ2 (fun ps ρ3 => Q ((k, y) :: ps) ρ3) Ξ) Ξ) Ξ := rfl
end
end T

/-! T25: what is shown of dicts; texts of letters; more equations. -/
namespace T
open PySem PySem.Spec PyProof.Rows L2 Z RZ
theorem sm_kv {k n : Nat} : ∀ {kvs : List (PyData × PyData)}, (∀ kv ∈ kvs, Sm k n kv.1 ∧ Sm k n kv.2) → PyData.showableKv kvs = true ∧ piled (PyData.shownKv kvs) ≤ kvs.length * (2 * n + 4) ∧ PyData.depthKv kvs ≤ k
  | [], _ => ⟨rfl, Nat.zero_le _, Nat.zero_le _⟩
  | (a, b) :: r, h => by
    obtain ⟨x, y, z⟩ := sm_kv (fun q hq => h q (List.mem_cons_of_mem _ hq))
    obtain ⟨s1, s2⟩ := h (a, b) List.mem_cons_self
    have s1 : Sm k n a := s1
    have s2 : Sm k n b := s2
    refine ⟨?_, ?_, ?_⟩
    · show (a.showable && b.showable && PyData.showableKv r) = true
      rw [s1.sh, s2.sh, x] <;> rfl
    · show piled ((a.shown ++ ": " ++ b.shown) :: PyData.shownKv r) ≤ (r.length + 1) * (2 * n + 4)
      rw [piled_cons, strLen_append, strLen_append, Nat.succ_mul]
      have e : (Str.ofString ": ").length = 2 := by decide +kernel
      have := s1.ln
      have := s2.ln
      omega
    · show max (max a.depth b.depth) (PyData.depthKv r) ≤ k
      have := s1.dp
      have := s2.dp
      omega
theorem sm_dict {k n m : Nat} {kvs : List (PyData × PyData)} (h : ∀ kv ∈ kvs, Sm k n kv.1 ∧ Sm k n kv.2) (hl : kvs.length ≤ m) : Sm (k + 1) (m * (2 * n + 4) + 2) (.dict kvs) := by
  obtain ⟨a, b, c⟩ := sm_kv h
  refine ⟨a, Nat.le_trans (dictText_le _) ?_, Nat.succ_le_succ c⟩
  have := Nat.mul_le_mul_right (2 * n + 4) hl
  omega
theorem joinD_ones {Φ : O → Prop} {cs : List Nat} (h : cs.length ≤ 1000000) (k : Φ (.fz (.str ⟨cs.toArray⟩))) : joinD "" [.list (cs.map fun c => .str (one c))] Φ := by
  refine ⟨cs.map one, .inl (by rw [List.map_map]; rfl), ?_, by rw [Z.join_ones]; exact k⟩
  rw [sum_ones]
  show cs.length + (cs.map one).length * 0 ≤ 1000000
  omega
theorem len_lstf {α : Type} (f : α → PyData) (l : List α) : lent (.lst (l.map fun x => .fz (f x))) = .fz (.list (l.map f)) :=
  lent_some (by unfold fzO; rw [fzL_mapf]; rfl)
theorem flat_filter {α : Type} (p : α → Bool) (f : α → O) : ∀ l : List α, l.flatMap (fun x => if p x = true then [f x] else []) = (l.filter p).map f
  | [] => rfl
  | a :: r => by
    rw [List.flatMap_cons, flat_filter p f r]
    by_cases h : p a = true
    · rw [if_pos h, List.filter_cons_of_pos h]; rfl
    · rw [if_neg h, List.filter_cons_of_neg h]; rfl
theorem lay_strs : ∀ {us : List Str}, (∀ z ∈ us, PyData.strOk z = true) → PyData.canLayAll0 (us.map .str) = true ∧ PyData.depthAll (us.map PyData.str) = 0
  | [], _ => ⟨rfl, rfl⟩
  | a :: r, h => by
    obtain ⟨x, y⟩ := lay_strs (us := r) fun z hz => h z (List.mem_cons_of_mem _ hz)
    refine ⟨?_, ?_⟩
    · show (PyData.strOk a && PyData.canLayAll0 (r.map .str)) = true
      rw [x, h a List.mem_cons_self] <;> rfl
    · show max 0 (PyData.depthAll (r.map .str)) = 0
      rw [y] <;> rfl
theorem sh_strs {us : List Str} (h : ∀ z ∈ us, PyData.strOk z = true) : SeqAt.shaped (.list (us.map .str)) = true := by
  obtain ⟨x, y⟩ := lay_strs h
  show (PyData.canLayAll0 (us.map .str) && decide (PyData.depthAll (us.map PyData.str) + 1 ≤ 64)) = true
  rw [x, y] <;> rfl
theorem eqB_strs0 {us : List Str} (h : ∀ z ∈ us, PyData.strOk z = true) : eqB (.list (us.map .str)) (.list []) = some us.isEmpty := by
  show (if _ then _ else _) = _
  rw [if_pos ⟨sh_strs h, rfl⟩]
  cases us <;> rfl
theorem ev_neL0 {us : List Str} {Φp : O → Prop} (h : ∀ z ∈ us, PyData.strOk z = true) : neD (.list (us.map .str)) (.list []) Φp = Φp (.fz (.bool (!us.isEmpty))) := by
  have e : (if SeqAt.shaped (.list (us.map .str)) = true ∧ SeqAt.shaped (.list []) = true then some (PyData.eqv (.list (us.map .str)) (.list [])) else none) = some us.isEmpty := eqB_strs0 h
  unfold neD
  refine propext ⟨fun ⟨x, e', h⟩ => ?_, fun h => ⟨_, e, h⟩⟩
  have e'' := e.symm.trans e'
  cases e''
  exact h
theorem ev_inI2 {i a b : Int} {Φp : O → Prop} : inD false (.int i) (.tuple [.int a, .int b]) Φp = Φp (.fz (.bool (decide (i = a ∨ i = b)))) := by
  have e : inB (.int i) (.tuple [.int a, .int b]) = some (decide (i = a ∨ i = b)) := by
    show some (inV (.int i) [.int a, .int b]) = _
    show some ((a == i) || ((b == i) || false)) = _
    rw [show (a == i) = decide (i = a) from decide_eq_decide.mpr ⟨Eq.symm, Eq.symm⟩, show (b == i) = decide (i = b) from decide_eq_decide.mpr ⟨Eq.symm, Eq.symm⟩, Bool.or_false, Bool.decide_or]
  unfold inD
  exact propext ⟨fun ⟨x, e', h⟩ => by rw [e] at e'; cases e'; exact h, fun h => ⟨_, e, h⟩⟩
end T

/-! T26: the end: what the top has written, put into the layer's records; the law's own contract. -/
namespace T
open PySem PySem.Spec PyProof.Rows L2 Z RZ
/-- what fills a parameter: the j-th keyword, or a keyword-only default -/
inductive KwS where
  | k (j : Nat)
  | d (x : Str) (v : V) (dt : PyData)
def aVof : List KwS → List V → List V
  | [], _ => []
  | .k j :: r, zs => zs.getD j .non :: aVof r zs
  | .d _ v _ :: r, zs => v :: aVof r zs
def aDof : List KwS → List PyData → List PyData
  | [], _ => []
  | .k j :: r, zs => zs.getD j .none :: aDof r zs
  | .d _ _ dt :: r, zs => dt :: aDof r zs
def dfOf : List KwS → List (Str × V)
  | [] => []
  | .k _ :: r => dfOf r
  | .d x v _ :: r => (x, v) :: dfOf r
def fillOf : List KwS → List Value → List Value → List Value
  | [], _, _ => []
  | .k j :: r, mv, ws => ws.getD j .none :: fillOf r mv ws
  | .d _ _ _ :: r, mv, ws => mv.headD .none :: fillOf r mv.tail ws
def okOf (K : PySem.W.Frag) : List KwS → Prop
  | [] => True
  | .k _ :: r => okOf K r
  | .d _ v dt :: r => (∀ F : Hp, Rp K F v dt) ∧ okOf K r
theorem vals_getD : ∀ {zs : List V} {ws : List Value}, Vals zs ws → ∀ j, RelV (zs.getD j .non) (ws.getD j .none)
  | _, _, .nil, j => rfl
  | _, _, .cons a r, 0 => a
  | _, _, .cons a r, j + 1 => by
    have := vals_getD r j
    simpa [List.getD] using this
theorem rpAll_getD {K : PySem.W.Frag} {F : Hp} : ∀ {zs : List V} {ds : List PyData}, RpAll K F zs ds → ∀ j, Rp K F (zs.getD j .non) (ds.getD j .none)
  | _, _, .nil, j => .non
  | _, _, .cons a r, 0 => a
  | _, _, .cons a r, j + 1 => by
    have := rpAll_getD r j
    simpa [List.getD] using this
theorem fill_rel : ∀ {l : List KwS} {mv : List Value} {zs : List V} {ws : List Value}, Vals ((dfOf l).map (·.2)) mv → Vals zs ws → Vals (aVof l zs) (fillOf l mv ws)
  | [], _, _, _, _, _ => .nil
  | .k j :: r, _, _, _, a, b => .cons (vals_getD b j) (fill_rel (l := r) a b)
  | .d x v dt :: r, _, _, _, .cons a a2, b => .cons a (fill_rel (l := r) a2 b)
theorem fill_dat {K : PySem.W.Frag} {F : Hp} : ∀ {l : List KwS} {vs : List V} {ds : List PyData}, okOf K l → RpAll K F vs ds → RpAll K F (aVof l vs) (aDof l ds)
  | [], _, _, _, _ => .nil
  | .k j :: r, _, _, h, b => .cons (rpAll_getD b j) (fill_dat (l := r) h b)
  | .d x v dt :: r, _, _, h, b => .cons (h.1 F) (fill_dat (l := r) h.2 b)
theorem aDof_len : ∀ {l : List KwS} {ds : List PyData}, (aDof l ds).length = l.length
  | [], _ => rfl
  | .k j :: r, ds => by show (aDof r ds).length + 1 = r.length + 1; rw [aDof_len]
  | .d x v dt :: r, ds => by show (aDof r ds).length + 1 = r.length + 1; rw [aDof_len]
theorem ka_mkS {K : PySem.W.Frag} {fd : FuncData} {ps : List Str} {D : Addr} (n : Nat) (ks : List Str) (l : List KwS) (ho : okOf K l) (hq : ∀ q ∈ dfOf l, ∃ u, PySem.W.nsIn K D q.1 = some (some u) ∧ RelV q.2 u) (hlen : n + l.length = ps.length)
    (h : ∀ us mv ws : List Value, us.length = n → mv.length = (dfOf l).length → ws.length = ks.length → KwChain D (((dfOf l).map (·.1)).zip mv) (bindArgs fd ⟨us, ks.zip ws⟩) (ps.zip (us ++ fillOf l mv ws))) : KA K fd ps n ks (aVof l) (aDof l) := by
  obtain ⟨mv, hl, rk, hks⟩ := kwd_vals hq
  refine ⟨⟨fun us ws => us ++ fillOf l mv ws, ⟨fun s us ws X l1 l2 => BindsTo.of_looks fun M => KwChain.looks X hks (h us mv ws l1 hl l2), fun r1 r2 => r1.append (fill_rel rk r2)⟩⟩, fun F vs ds _ r => fill_dat ho r, fun ds _ => ?_⟩
  rw [aDof_len]; exact hlen
/-- a module's dict of texts to tuples of texts -/
def tabF : List (Str × Addr × List Str) → Str → Option (List Str)
  | [], _ => none
  | (k, _, ks) :: r, z => if z = k then some ks else tabF r z
theorem tab_fo {z : Str} : ∀ {t : List (Str × Addr × List Str)} {b : Addr}, foL (t.map fun x => (x.1, x.2.1)) z = some b → ∃ ks, tabF t z = some ks ∧ ∃ x ∈ t, x.2.1 = b ∧ x.2.2 = ks
  | [], _, h => by cases h
  | (k, a, ks) :: r, b, h => by
    have h : (if k = z then some a else foL (r.map fun x => (x.1, x.2.1)) z) = some b := h
    by_cases e : k = z
    · rw [if_pos e] at h; cases h
      exact ⟨ks, if_pos e.symm, _, List.mem_cons_self, rfl, rfl⟩
    · rw [if_neg e] at h
      obtain ⟨ks', h1, x, hx, h2⟩ := tab_fo h
      exact ⟨ks', (if_neg fun e2 => e e2.symm).trans h1, x, List.mem_cons_of_mem _ hx, h2⟩
theorem tab_no {z : Str} : ∀ {t : List (Str × Addr × List Str)}, foL (t.map fun x => (x.1, x.2.1)) z = none → tabF t z = none
  | [], h => rfl
  | (k, a, ks) :: r, h => by
    have h : (if k = z then some a else foL (r.map fun x => (x.1, x.2.1)) z) = none := h
    by_cases e : k = z
    · rw [if_pos e] at h; cases h
    · rw [if_neg e] at h
      exact (if_neg fun e2 => e e2.symm).trans (tab_no h)
theorem kf_mk {K : PySem.W.Frag} {w : World} {a : Addr} {es : Array DictEntry} {n : Nat} (t : List (Str × Addr × List Str)) (hl : K.lookup a = some ⟨.type "dict", none, .dict es n, #[]⟩) (hk : PySem.W.KeysLit w.params es.toList) (low : (a == sysModules) = false)
    (hp : KP es.toList (t.map fun x => (x.1, x.2.1))) (hs : ∀ x ∈ t, ∀ H, SqT K H x.2.1 (x.2.2.map V.str)) : KF K w a (tabF t) := by
  refine ⟨_, kd_mk hl hk low hp, fun z b h => ?_, fun z h => tab_no h⟩
  obtain ⟨ks, h1, x, hx, h2, h3⟩ := tab_fo h
  subst h2 h3
  exact ⟨_, h1, hs x hx⟩
/-! the law -/
def S_law63 : TSp := fun os Φ _ => ∃ ns : List Int, os = [.scr ns] ∧ ns.length ≤ 63 ∧ Φ (.fz (.bool true)) []
def sp_law63 (K : PySem.W.Frag) (w : World) : Sp := fun vs H Q _ => ∃ a, ∃ ns : List Int, vs = [.ref a] ∧ SqL K H a (ns.map V.int) ∧ ns.length ≤ 63 ∧ ∀ H', Q (.bl true) H'
theorem law_spT {K : PySem.W.Frag} {w : World} {vs : List V} {H : Hp} {Q : VK} {E : XK} (h : sp_law63 K w vs H Q E) : spT K 1 [] S_law63 vs H Q fun _ _ _ => False := by
  obtain ⟨a, ns, rfl, hq, hl, k⟩ := h
  refine ⟨H, emp, emp, [.scr ns], fun o _ => o = .fz (.bool true), fun _ _ => False, rfl, ⟨Same.refl _, fun b o z => (by cases z), fun b o z => (by cases z), dj_emp, dj_emp, dj_emp⟩, ?_, ⟨ns, rfl, hl, rfl⟩, ?_, ?_⟩
  · have := OwnL.cons (Own.scr (K := K) hq) OwnL.nil dj_emp
    rw [emp_jn] at this; exact this
  · rintro v H' ⟨o, outs, F', h1, h', e, s, d, en, ow, rfl⟩
    obtain ⟨_, r⟩ := own_emp ow
    cases r
    exact k H'
  · rintro c d H' ⟨x, outs, F', h', e, s, en, xo, z⟩
    exact z
/-! small help for the head -/
theorem qs_nil {K : PySem.W.Frag} {D : Addr} : ∀ q ∈ ([] : List (Str × V)), ∃ u, PySem.W.nsIn K D q.1 = some (some u) ∧ RelV q.2 u := fun q h => nomatch h
theorem qs_cons {K : PySem.W.Frag} {D : Addr} {x : Str} {v : V} {u : Value} {l : List (Str × V)} (h : PySem.W.nsIn K D x = some (some u)) (e : RelV v u) (r : ∀ q ∈ l, ∃ u, PySem.W.nsIn K D q.1 = some (some u) ∧ RelV q.2 u) : ∀ q ∈ (x, v) :: l, ∃ u, PySem.W.nsIn K D q.1 = some (some u) ∧ RelV q.2 u := fun q hq => by
  rcases List.mem_cons.mp hq with rfl | hq
  · exact ⟨u, h, e⟩
  · exact r q hq
theorem ts_nil {K : PySem.W.Frag} : ∀ x ∈ ([] : List (Str × Addr × List Str)), ∀ H, SqT K H x.2.1 (x.2.2.map V.str) := fun q h => nomatch h
theorem ts_cons {K : PySem.W.Frag} {k : Str} {a : Addr} {ks : List Str} {r : List (Str × Addr × List Str)} (h : ∀ H, SqT K H a (ks.map V.str)) (q : ∀ x ∈ r, ∀ H, SqT K H x.2.1 (x.2.2.map V.str)) : ∀ x ∈ (k, a, ks) :: r, ∀ H, SqT K H x.2.1 (x.2.2.map V.str) := fun x hx => by
  rcases List.mem_cons.mp hx with rfl | hx
  · exact h
  · exact q x hx
theorem len0 {α : Type} {l : List α} (h : l.length = 0) : l = [] := List.eq_nil_of_length_eq_zero h
theorem len1 {α : Type} {l : List α} (h : l.length = 1) : ∃ a, l = [a] := match l, h with | [a], _ => ⟨a, rfl⟩
theorem len2 {α : Type} {l : List α} (h : l.length = 2) : ∃ a b, l = [a, b] := match l, h with | [a, b], _ => ⟨a, b, rfl⟩
theorem len3 {α : Type} {l : List α} (h : l.length = 3) : ∃ a b c, l = [a, b, c] := match l, h with | [a, b, c], _ => ⟨a, b, c, rfl⟩
theorem len4 {α : Type} {l : List α} (h : l.length = 4) : ∃ a b c d, l = [a, b, c, d] := match l, h with | [a, b, c, d], _ => ⟨a, b, c, d, rfl⟩
end T

/-! T27: own exceptions over any built-in base: made, their fields stored, raised. -/
namespace T
open PySem PySem.Spec PyProof.Rows L2 Z RZ
/-- a built-in exception: its name, what makes it, what begins it, its line of classes -/
structure Bs where
  B : String
  new : String
  ini : String
  tl : List Value
structure BsOk (b : Bs) : Prop where
  N : ∃ Bn inN tln, ExcBaseFacts Bn b.new inN tln ∧ b.tl.contains (.type Bn) = true
  noA : b.tl.contains (.type "AttributeError") = false
  noN : b.tl.contains (.type "NameError") = false
  hasB : b.tl.contains (.type b.B) = true
  star : (b.B != "*") = true
  iK : builtinKind b.ini = some .slot
  iS : splitId b.ini = some (b.B, "__init__")
  iR : Manifest.signature? b.ini = some ⟨.positional, "*", b.B, .self, [⟨"args", .varPos, false⟩]⟩
  iE : entryFor table b.ini = some Builtin.«BaseException.__init__»
  iP : plainId b.ini = true
  S : StoreFacts b.B b.tl "object.__setattr__" "object"
theorem BsOk.of {b : Bs} (F : ExcBaseFacts b.B b.new b.ini b.tl) (S : StoreFacts b.B b.tl "object.__setattr__" "object") : BsOk b :=
  ⟨⟨_, _, _, F, F.hasB⟩, F.noAttr, F.noName, F.hasB, F.noStar, F.initKind, F.initSplit, F.initRow, F.initEntry, F.init.plain, S⟩
abbrev bRT : Bs := ⟨"RuntimeError", "RuntimeError.__new__", "RuntimeError.__init__", [.type "RuntimeError", .type "Exception", .type "BaseException", .type "object"]⟩
abbrev bVE : Bs := ⟨"ValueError", "ValueError.__new__", "ValueError.__init__", [.type "ValueError", .type "Exception", .type "BaseException", .type "object"]⟩
abbrev bLE : Bs := ⟨"LookupError", "LookupError.__new__", "LookupError.__init__", [.type "LookupError", .type "Exception", .type "BaseException", .type "object"]⟩
theorem bs_RT : BsOk bRT := .of (PySem.F.excBase_RuntimeError) PySem.F.store_RuntimeError
theorem bs_VE : BsOk bVE := .of (PySem.F.excBase_ValueError) PySem.F.store_ValueError
theorem bs_LE : BsOk bLE := .of (PySem.F.excBase_LookupError) PySem.F.store_LookupError
end T
namespace PySem
namespace OEG
open Builtin Builtin.ObjectAttr
section
variable {prog : Program} {w : World} {A : Around} {E : Value → Shared → Prop} {R : Result → Shared → Prop} {h : Heap} {g : Array GenState} {d : Drawn} {t : Nat} {os : OsState}
variable {nm q : Str} {C N : Addr} {bs bm : List Value} {hdct : Bool} {sn : List Str} {sub : List Value} {ab : Bool} {col : Option Bool} {dd : Option Addr} {k0 k1 k2 k3 k5 : Option Value} {b : T.Bs}
/-- C's object -/
theorem newG (O : T.BsOk b) (hT : ∀ Y : String, bm.contains (.type Y) = b.tl.contains (.type Y)) {rest : List Value} (hC : h.get? C = some (excClassObj nm q C N bs bm hdct sn sub ab col dd k0 k1 k2 k3 k5 b.new))
    (hq : R (.ok (.ret (.ref (h.objs.size + 1)))) ⟨(h.push (W.kdv_tup rest)).push (HandSPX.excO C h.objs.size), g, d, t, os⟩) (hrest : rest.length ≤ sizeLine) : codeAny (model prog w) A (.builtin b.new ⟨.ref C :: rest, []⟩) R ⟨h, g, d, t, os⟩ := by
  obtain ⟨⟨Bn, inN, tln, Fn, hBn⟩, noA, noN, _, _, _, _, _, _, _, _⟩ := O
  have c1 : (Value.ref C :: bm).contains (.type Bn) = true := by (rw [List.contains_cons, hT, hBn, Bool.or_true])
  have c2 : (Value.ref C :: bm).contains (.type "AttributeError") = false := by (rw [List.contains_cons, hT, noA]; rfl)
  have c3 : (Value.ref C :: bm).contains (.type "NameError") = false := by (rw [List.contains_cons, hT, noN]; rfl)
  have hends := Fn.ends
  refine codeAny_builtinAt Fn.entry ?_
  unfold Builtin.«BaseException.__new__»
  refine wpAt_bind ?_
  show wpAt _ _ _ (stack >>= _) _ _ _
  refine wpAt_bind (wpAt_stack fun p below => wpAt_of_wpAny ?_)
  wp_walk
  refine wpAt_of_wpAny ?_
  rw [Fn.owner]
  repeat (first | (with_reducible refine wpAny_madeHere_exc Fn.canon hC ?_) | (with_reducible refine wpAny_loadPart_at hC ?_) | (with_reducible refine wpAny_isSubtype_exc hC ?_; first | rw [c1] | rw [c2] | rw [c3]) | wp_step)
  show R _ _
  rw [Heap.size_push]
  exact hq
/-- C's object is made, then C's own __init__ is called -/
theorem callG (O : T.BsOk b) (hT : ∀ Y : String, bm.contains (.type Y) = b.tl.contains (.type Y)) {rest : List Value} {fI : Addr} (hC : h.get? C = some (excClassObj nm q C N bs bm hdct sn sub ab col dd k0 k1 k2 k3 k5 b.new))
    (hi : W.Looks (model prog w) h (typeLookup (.ref C) "__init__") (some (.ref fI))) (hb : ∀ self, W.Looks (model prog w) h (bindSpecial (.ref fI) self) (.ref fI, [self])) (hrest : rest.length ≤ sizeLine)
    (hq : codeAny (model prog w) (A.under (.builtin "type.__call__" ⟨.ref C :: rest, []⟩)) (.call (.ref fI) ⟨.ref (h.objs.size + 1) :: rest, []⟩) (W.InitBack (h.objs.size + 1) R)
      ⟨(h.push (W.kdv_tup rest)).push (HandSPX.excO C h.objs.size), g, d, t, os⟩) : codeAny (model prog w) A (.call (.ref C) ⟨rest, []⟩) R ⟨h, g, d, t, os⟩ := by
  obtain ⟨Bn, inN, tln, Fn, hBn⟩ := O.N
  have c1 : (Value.ref C :: bm).contains (.type Bn) = true := by (rw [List.contains_cons, hT, hBn, Bool.or_true])
  have hstar := Fn.noStar
  have hTy : (⟨h, g, d, t, os⟩ : Shared).TypeIs (.ref C) "type" := ⟨_, hC, rfl⟩
  have z1 := tc_lookup
  have z2 := tc_bind (.ref C)
  refine codeAny_of_tree ?_
  show wpAny _ _ (callAny (.ref C) _) _ _ _
  repeat (any_goals (first | assumption | (with_reducible refine wpAny_loadPart_at hC ?_) | wp_step))
  refine ⟨rfl, ?_⟩
  refine codeAny_call_builtin_at (Code.quiet_builtin _ (by decide +kernel)) entry_typeCall (wpAny_check_type_call_sub hC ?_)
  repeat (first | (with_reducible refine wpAny_loadPart_at hC ?_) | (with_reducible refine wpAny_madeBy_exc hC ?_) | wp_step)
  refine codeAny_call_builtin_code (Code.quiet_builtin _ Fn.quiet) ?_
  simp only [checkBuiltinCall, Fn.newKind, Fn.newSplit, Fn.newRow]
  repeat (first | (refine wpAny_loadPart_at hC ?_) | (refine wpAny_isSubtype_exc hC ?_; rw [c1]) | (refine wpAny_staticBase_exc hC ?_) | (refine wpAny_madeBy_exc hC ?_) | (simp only [bne_self_eq_false, Bool.false_eq_true, if_false]) | wp_step)
  refine newG O hT hC ?_ hrest
  show wpAny _ _ _ _ _ _
  have kk : ∀ c o, h.get? c = some o → ((h.push (W.kdv_tup rest)).push (HandSPX.excO C h.objs.size)).get? c = some o := fun c o e => Heap.get?_push_of_some _ (Heap.get?_push_of_some _ e)
  have hC1 := kk _ _ hC
  have at1 : ((h.push (W.kdv_tup rest)).push (HandSPX.excO C h.objs.size)).get? (h.objs.size + 1) = some (HandSPX.excO C h.objs.size) := by heap_get
  have cC : (Value.ref C :: bm).contains (.ref C) = true := by simp
  have i1 := hi.keeps kk
  have b1 := (hb (.ref (h.objs.size + 1))).keeps kk
  unfold isInstance
  simp only [List.append_eq, List.nil_append]
  repeat (first | (with_reducible refine wpAny_loadPart_at at1 ?_) | (with_reducible refine wpAny_isSubtype_exc hC1 ?_; rw [cC]) | wp_step)
  show wpAny _ _ (typeLookup (.ref C) _) _ _ _
  refine i1.at ?_
  refine wpAny_holding (wpAny_bind (b1.at ?_))
  refine wpAny_bind (wpAny_call (codeAny_mono hq fun r s' z => ?_))
  rcases r with er | (v | _ | _ | _) <;> (first | exact z | exact z.elim | skip)
  obtain ⟨ev, z⟩ := z
  subst ev
  first | exact wpAny_pure (wpAny_pure z) | (wp_walk; exact z)
/-- the base's __init__ on it: its arguments are laid anew -/
theorem initG (O : T.BsOk b) (hT : ∀ Y : String, bm.contains (.type Y) = b.tl.contains (.type Y)) {e t0 : Addr} {rest : List Value} (hC : h.get? C = some (excClassObj nm q C N bs bm hdct sn sub ab col dd k0 k1 k2 k3 k5 b.new)) (he : h.get? e = some (HandSPX.excO C t0)) (hrest : rest.length ≤ sizeLine)
    (hq : ∀ h' t1, (∀ c o, c ≠ e → h.get? c = some o → h'.get? c = some o) → h'.get? e = some (HandSPX.excO C t1) → R (.ok (.ret .none)) ⟨h', g, d, t, os⟩) : codeAny (model prog w) A (.call (.builtin b.ini) ⟨.ref e :: rest, []⟩) R ⟨h, g, d, t, os⟩ := by
  have c1 : (Value.ref C :: bm).contains (.type b.B) = true := by (rw [List.contains_cons, hT, O.hasB, Bool.or_true])
  have hshort := O.star
  refine codeAny_call_builtin O.iP O.iE ?_
  simp only [checkBuiltinCall, O.iK, O.iS, O.iR]
  repeat (first | (with_reducible refine wpAny_loadPart_at he ?_) | (with_reducible refine wpAny_loadPart_at hC ?_) | (with_reducible refine wpAny_isSubtype_exc hC ?_; rw [c1]) | wp_step)
  refine wpAny_onRaise ?_
  rw [show ∀ (x y : String) (n : Nat), Bind.check ⟨.positional, "*", b.B, .self, [⟨"args", .varPos, false⟩]⟩ x y n (List.map (fun z => z.fst) ({ pos := Value.ref e :: rest } : Args).kw) = pure () from (fun x y n => check_star_args _ _ _ _ _ _)]
  refine wpAny_pure ?_
  wp_walk
  refine hq _ h.objs.size (fun c o hc ho => ?_) ?_
  · rw [Heap.get?_update_other _ _ (Ne.symm hc)]
    exact Heap.get?_push_of_some _ ho
  · rw [Heap.get?_update_self _ (Heap.get?_push_of_some _ he) rfl]
    rfl
end
end OEG
end PySem
namespace T
open PySem PySem.Spec PyProof.Rows L2 Z RZ PySem.OEG
structure OexB (K : PySem.W.Frag) (b : Bs) (C : Addr) : Prop where
  ok : BsOk b
  cls : ∃ nm q N bs bm sn sub ab col dd k0 k1 k2 k3 k5, K.lookup C = some (excClassObj nm q C N bs bm true sn sub ab col dd k0 k1 k2 k3 k5 b.new) ∧ PySem.W.excTail b.tl bm = true
  sa : PySem.W.findIn K (.ref C) "__setattr__" = some (some (.builtin "object.__setattr__"))
  exC : PySem.W.subIn K (.ref C) (.type "BaseException") = some true
  tyC : PySem.W.typeIn K (.ref C) = some (.type "type")
  kC : PySem.W.keepIn K (.ref C) = true
theorem OexB.over {K : PySem.W.Frag} {b : Bs} {C : Addr} (T : OexB K b C) : ∃ cd, PySem.W.clsIn K C = some cd ∧ cd.hasDict = true ∧ PySem.W.excOver K C b.tl = true := by
  obtain ⟨nm, q, N, bs, bm, sn, sub, ab, col, dd, k0, k1, k2, k3, k5, hC, ht⟩ := T.cls
  have hcl : PySem.W.clsIn K C = some { name := nm, bases := bs, mro := .ref C :: bm, ns := N, qualname := q, hasDict := true, slotNames := sn, subclasses := sub, abstract := ab, collection := col, hasDel := false } := by
    unfold PySem.W.clsIn; rw [hC] <;> rfl
  refine ⟨_, hcl, rfl, ?_⟩
  unfold PySem.W.excOver
  rw [hcl]
  show (C == C && PySem.W.excTail b.tl bm) = true
  rw [ht, Bool.and_true]; exact beq_self_eq_true C
section
variable {X : Cx} {pins : List (Addr × Obj)} {σ : L2.St} {H : Hp} {s : Shared} {b : Bs} {a C dx : Addr} {f : Str} {y : V} {u : Value} {fs : List (Str × V)} {Q : Unit → Shared → Prop} {E : Value → Shared → Prop} {A : Around}
/-- the first field: the dict is made -/
theorem stB_new (T : OexB X.K b C) (I : Inv X pins σ H s) (e : H a = some (exo a C none)) (no : PySem.W.findIn X.K (.ref C) f = some none) (ry : RelV y u)
    (h : ∀ dx s', H dx = none → dx ≠ a → Inv X pins σ (upd (upd H dx (exd dx [(f, y)])) a (exo a C (some dx))) s' → Q () s') : wpAny (model X.prog X.w) A (setAttr (.ref a) f u) Q E s := by
  obtain ⟨cd, hcl, hd, hov⟩ := T.over
  obtain ⟨t1, ho⟩ := exo_at I.hok e
  obtain ⟨hp, g, d, t, os⟩ := s
  have hlt : a < hp.objs.size := Heap.lt_size ho
  have has : a ≠ hp.objs.size := Nat.ne_of_lt hlt
  refine PySem.W.set_plain I.kIn (ox := PySem.W.excObj C t1 none .none) (od := none) ⟨ho, rfl, rfl, trivial⟩ T.sa ?_
  refine PySem.W.osa_openX T.ok.S I.kIn (ox := PySem.W.excObj C t1 none .none) (od := none) ⟨ho, rfl, rfl, trivial⟩ hov (NoAttr.taker no) fun bb => ?_
  refine wpAny_bind (wpAny_pure (wpAny_bind (PySem.W.instanceDict_exc ho (PySem.W.looks_clsIn I.kIn hcl) hd ?_)))
  show wpAny _ _ (Builtin.ObjectAttr.storeInDict hp.objs.size (.str f _) f u) _ _ _
  have hx1 : (hp.push { cls := .type "dict", data := .dict #[] }).get? a = some (PySem.W.excObj C t1 none .none) := Heap.get?_push_of_some _ ho
  refine PySem.HandSPX.store_in_new ⟨_, #[], _, (Heap.get?_update_ne _ _ _ _ has.symm).trans (Heap.get?_push_at rfl rfl), rfl, fun e he => absurd he (by simp), fun _ => rfl⟩ fun h' tk' hn hs => ?_
  have keep : ∀ c o, c ≠ a → hp.get? c = some o → h'.get? c = some o := fun c o hc hco => (hs.2 c (Nat.ne_of_lt (Heap.lt_size hco))).trans ((Heap.get?_update_ne _ _ _ _ hc).trans (Heap.get?_push_of_some _ hco))
  have hx : h'.get? a = some (PySem.W.excObj C t1 (some hp.objs.size) .none) := (hs.2 a has).trans (Heap.get?_update_self _ hx1 rfl)
  have hnd : H hp.objs.size = none := I.hok.fresh (Nat.le_refl _)
  have nd : ∀ {c : Addr} {o : Obj}, hp.get? c = some o → c ≠ hp.objs.size := fun {c o} q => Nat.ne_of_lt (Heap.lt_size q)
  have na : ∀ {c : Addr}, H c = none → c ≠ a := fun {c} n => (ne_of_none e n).symm
  have U : Un X.fs [] H (upd (upd H hp.objs.size (exd hp.objs.size [(f, y)])) a (exo a C (some hp.objs.size))) hp h' :=
    ⟨fun c o q n _ _ => keep c o (na n) q, fun c o q n _ _ => ⟨o.slots, keep c o (na n) q⟩, fun c o q n _ => by (rw [upd_ne (na n), upd_ne (nd q)]; exact n),
      fun c o q _ => by
        by_cases hc : c = a
        · subst hc; exact ⟨_, hx⟩
        · exact ⟨o, keep c o hc q⟩,
      fun c xs q => by (rw [upd_ne (at_ne e q exo_tup), upd_ne (ne_of_none q hnd)]; exact q), fun c o v q => by (rw [upd_ne (at_ne e q exo_frz), upd_ne (ne_of_none q hnd)]; exact q),
      fun c ps q => ⟨#[], by (rw [upd_ne (at_ne e q exo_tbl), upd_ne (ne_of_none q hnd), q]; simp)⟩⟩
  refine h hp.objs.size _ hnd has.symm (I.un (t' := tk') U fun c o q => ?_)
  by_cases hc : c = a
  · subst hc; rw [upd_same] at q; cases q; exact exo_ok hx
  rw [upd_ne hc] at q
  by_cases hd2 : c = hp.objs.size
  · subst hd2; rw [upd_same] at q; cases q; exact exd_ok hn (relO_put (fs := []) ry fun g => True.intro)
  rw [upd_ne hd2] at q
  refine (I.hok c o q).stay (fun c2 v hc2 z => keep c2 v ?_ z) (fun c2 h2 => by (rw [upd_ne (at_ne e h2 exo_own), upd_ne (ne_of_none h2 hnd)]; exact h2)) fun c2 xs h2 => by (rw [upd_ne (at_ne e h2 exo_tup), upd_ne (ne_of_none h2 hnd)]; exact h2)
  rcases hc2 with rfl | hc2
  · exact hc
  · exact at_ne e hc2 exo_own
/-- a further field -/
theorem stB_old (T : OexB X.K b C) (I : Inv X pins σ H s) (e : H a = some (exo a C (some dx))) (ed : H dx = some (exd dx fs)) (hl : fs.length ≤ 900) (no : PySem.W.findIn X.K (.ref C) f = some none) (ry : RelV y u)
    (h : ∀ s', Inv X pins σ (upd H dx (exd dx ((f, y) :: fs))) s' → Q () s') : wpAny (model X.prog X.w) A (setAttr (.ref a) f u) Q E s := by
  obtain ⟨cd, hcl, hd, hov⟩ := T.over
  obtain ⟨t1, ho⟩ := exo_at I.hok e
  obtain ⟨mA, hns, rel⟩ := exd_at I.hok ed
  have hw := within_of rel
  obtain ⟨hp, g, d, t, os⟩ := s
  obtain ⟨oD, _, _, hoD, _, _⟩ := hns.count hw
  refine PySem.W.set_plain I.kIn (ox := PySem.W.excObj C t1 (some dx) .none) (od := some oD) ⟨ho, rfl, rfl, hoD⟩ T.sa ?_
  refine PySem.W.osa_openX T.ok.S I.kIn (ox := PySem.W.excObj C t1 (some dx) .none) (od := some oD) ⟨ho, rfl, rfl, hoD⟩ hov (NoAttr.taker no) fun bb => ?_
  refine wpAny_bind (wpAny_pure (wpAny_bind (wpAny_bind (wpAny_loadPart ho (wpAny_bind ((PySem.W.looks_clsIn I.kIn hcl).at ?_))))))
  rw [hd]
  refine wpAny_pure (a := some dx) ?_
  refine PySem.OEX.store_in_old hns hw (by rw [List.length_map]; omega) fun h' tk' hn hs => ?_
  have there : ∃ o, h'.get? dx = some o := by
    obtain ⟨o, _, _, e', _⟩ := hn
    exact ⟨o, e'⟩
  exact h _ (I.write (t' := tk') (x := dx) (e := dx) (o := exd dx ((f, y) :: fs)) (by rw [ed]; exact True.intro) (.inl rfl) (fun c o hc hco => (hs.2 c hc).trans hco) there (exd_ok hn (relO_put ry rel)))
/-- the base's own __init__ -/
theorem inB_ok {us : List Value} {Q : Value → Shared → Prop} (T : OexB X.K b C) (I : Inv X pins σ H s) (e : H a = some (exo a C none)) (hl : us.length ≤ sizeLine) (h : ∀ s', Inv X pins σ H s' → Q .none s') : wpAny (model X.prog X.w) A (call (.builtin b.ini) (.ref a :: us)) Q E s := by
  obtain ⟨nm, q, N, bs, bm, sn, sub, ab, col, dd, k0, k1, k2, k3, k5, hC, ht⟩ := T.cls
  obtain ⟨t1, ho⟩ := exo_at I.hok e
  obtain ⟨hp, g, d, t, os⟩ := s
  refine wpAny_call (initG T.ok (fun Y => PySem.W.excTail_contains Y bm ht) (I.kIn _ _ hC) ho hl fun h' t2 k hx => ?_)
  have J := I.write (t' := t) (x := a) (e := a) (o := exo a C none) (by rw [e]; exact True.intro) (.inl rfl) k ⟨_, hx⟩ (exo_ok hx)
  have eu : upd H a (exo a C none) = H := by
    funext c
    by_cases hc : c = a
    · rw [hc, upd_same, e]
    · rw [upd_ne hc]
  rw [eu] at J
  exact h _ J
end
/-- B.__init__(self, ..), B the built-in or an own class over it -/
def tBini (K : PySem.W.Frag) (b : Bs) (ta : TA) : TE := fun σ H Q => ta σ H fun vs H1 => ∃ (a C : Addr) (ws : List V), vs = .ref a :: ws ∧ ws.length ≤ 1000 ∧ OexB K b C ∧ H1 a = some (exo a C none) ∧ Q .non H1
def tBst (K : PySem.W.Frag) (b : Bs) (f : Str) (to te : TE) : TS := fun D σ H => te σ H fun y H1 => to σ H1 fun x H2 => ∃ a C : Addr, x = .ref a ∧ OexB K b C ∧ PySem.W.findIn K (.ref C) f = some none ∧
  ((H2 a = some (exo a C none) ∧ ∀ dx, H2 dx = none → dx ≠ a → D.nx σ (upd (upd H2 dx (exd dx [(f, y)])) a (exo a C (some dx)))) ∨
    ∃ (dx : Addr) (fs : List (Str × V)), H2 a = some (exo a C (some dx)) ∧ H2 dx = some (exd dx fs) ∧ fs.length ≤ 900 ∧ D.nx σ (upd H2 dx (exd dx ((f, y) :: fs))))
section
variable {X : Cx} {o e : Expr} {es : List Expr} {to te : TE} {ta : TA} {f x : Str} {p p' p1 p2 pos : Pos} {b : Bs}
theorem ps_bst (ho : PE X o to) (he : PE X e te) (hs : swapsWith e (some (.Attribute o f p')) pos.line X.env = pure false := by rfl) : PS X (.Assign [.Attribute o f p'] e pos) (tBst X.K b f to te) := by
  refine ⟨fun pins s σ H D I h => plainObj_wpAny_Assign_Attribute (thn (he.run pins s σ H _ I h) fun v s1 ⟨y, H1, I1, r1, q1⟩ => thn (ho.run pins s1 σ H1 _ I1 q1) fun u s2 ⟨x, H2, I2, r2, a, C, ex, T, no, q⟩ => ?_) hs⟩
  subst ex
  have r2' : u = Value.ref a := r2
  subst r2'
  rcases q with ⟨ea, q⟩ | ⟨dx, fs, ea, ed, hl, q⟩
  · exact stB_new T I2 ea no r1 fun dx s' n ne J => ⟨σ, _, J, q dx n ne⟩
  · exact stB_old T I2 ea ed hl no r1 fun s' J => ⟨σ, _, J, q⟩
/-- an own class stands at B's place: LoaderError.__init__(self, ..) -/
theorem pe_binV {B0 : Addr} {pl : Sem Bool} (hm : X.mg x = some (.ref B0)) (sg : PySem.W.specialIn X.K (.ref B0) "__getattribute__" = some (some (.builtin "type.__getattribute__"))) (rd : PySem.W.readsIn X.K B0 (.type "type") = true)
    (fc : PySem.W.findCls X.K (.ref B0) (.type "type") "__init__" = some (.val (.builtin bVE.ini))) (ha : PA X (e :: es) ta) (hg : Gl X x := by rfl) (hdb : (x == ("__debug__" : Str)) = false := by decide)
    (hc : eval (.Call (.Attribute (.Name x p1) "__init__" p2) (e :: es) [] pos) X.env = (eval (.Name x p1) X.env >>= fun ov => standAt p2.atName >>= fun _ => holding [ov] (getMethod ov "__init__" pl) >>= fun ff => callWith pos ff.1 ff.2 (backTo pos (starEach (e :: es) X.env)) (backToKw pos (keywordEach [] X.env))) := by rfl)
    (he : starEach (e :: es) X.env = (false, eval e X.env) :: starEach es X.env := by rfl) (hpl : (backTo pos (starEach es X.env)).any (·.1) = false := by rfl) :
    PE X (.Call (.Attribute (.Name x p1) "__init__" p2) (e :: es) [] pos) (tBini X.K bVE ta) := by
  refine ⟨fun pins s σ H Q I h => PySem.W.methodCall_KW (ld_glob I hg hm (PySem.W.method_cls I.kIn sg (PySem.W.cls_value I.kIn rd fc (by decide +kernel) ?_)) hdb) hc⟩
  refine PyProof.Rows.callWith_method1 (id := bVE.ini) (thn (ha.run pos pins _ σ H _ (I.tok _) h) ?_) he hpl
  rintro us s1 ⟨vs, H1, I1, r1, a, C, ws, rfl, hl, T, ea, q⟩
  cases r1 with
  | @cons _ u0 _ ur ra rw' =>
    have e0 : u0 = Value.ref a := ra
    subst e0
    exact inB_ok T I1 ea (by rw [← Paired.length rw', sizeLine_eq]; omega) fun s' J => ⟨.non, H1, J, rfl, q⟩
theorem typ_RT : typeOf (.type "RuntimeError") = pure (.type "type") := by kernel_rfl
theorem typ_LE : typeOf (.type "LookupError") = pure (.type "type") := by kernel_rfl
/-- RuntimeError.__init__(self, ..) -/
theorem pe_binR {pl : Sem Bool} (hm : X.mg "RuntimeError" = none) (fc : PySem.W.findCls X.K (.type "RuntimeError") (.type "type") "__init__" = some (.val (.builtin bRT.ini))) (ha : PA X (e :: es) ta) (hg : Gl X "RuntimeError" := by rfl)
    (hc : eval (.Call (.Attribute (.Name "RuntimeError" p1) "__init__" p2) (e :: es) [] pos) X.env = (eval (.Name "RuntimeError" p1) X.env >>= fun ov => standAt p2.atName >>= fun _ => holding [ov] (getMethod ov "__init__" pl) >>= fun ff => callWith pos ff.1 ff.2 (backTo pos (starEach (e :: es) X.env)) (backToKw pos (keywordEach [] X.env))) := by rfl)
    (he : starEach (e :: es) X.env = (false, eval e X.env) :: starEach es X.env := by rfl) (hpl : (backTo pos (starEach es X.env)).any (·.1) = false := by rfl) :
    PE X (.Call (.Attribute (.Name "RuntimeError" p1) "__init__" p2) (e :: es) [] pos) (tBini X.K bRT ta) := by
  refine ⟨fun pins s σ H Q I h => PySem.W.methodCall_KW (ld_blt I hg hm PyProof.Rows.Boot.RuntimeError ?_ (by decide) (by decide)) hc⟩
  obtain ⟨m, fr⟩ := I.fr
  refine PySem.W.method_type fr I.ok.mod.kin typ_RT (by decide +kernel) fc (by decide +kernel) ?_
  refine PyProof.Rows.callWith_method1 (id := bRT.ini) (thn (ha.run pos pins _ σ H _ (I.tok _) h) ?_) he hpl
  rintro us s1 ⟨vs, H1, I1, r1, a, C, ws, rfl, hl, T, ea, q⟩
  cases r1 with
  | @cons _ u0 _ ur ra rw' =>
    have e0 : u0 = Value.ref a := ra
    subst e0
    exact inB_ok T I1 ea (by rw [← Paired.length rw', sizeLine_eq]; omega) fun s' J => ⟨.non, H1, J, rfl, q⟩
end
def tBsts (K : PySem.W.Frag) (b : Bs) : List Str → Nat → TS
  | [], _ => tNext
  | f :: fs, i => tSeq (tBst K b f (tVar 0) (tVar i)) (tBsts K b fs (i + 1))
section
variable {K : PySem.W.Frag} {b : Bs} {C a d : Addr} {σ : L2.St} {D : Ends}
theorem bsts_old (T : OexB K b C) (e0 : σ[0]? = some (some (.ref a))) (ne : d ≠ a) : ∀ (fs : List Str) (ws : List V) (i : Nat) (acc : List (Str × V)) (H : Hp), (∀ j w, ws[j]? = some w → σ[i + j]? = some (some w)) → ws.length = fs.length → acc.length + fs.length ≤ 900 →
    (∀ f ∈ fs, PySem.W.findIn K (.ref C) f = some none) → H a = some (exo a C (some d)) → H d = some (exd d acc) →
    (∀ H2, (∀ b o, b ≠ a → b ≠ d → H b = some o → H2 b = some o) → H2 a = some (exo a C (some d)) → H2 d = some (exd d (rz fs ws acc)) → D.nx σ H2) → tBsts K b fs i D σ H
  | [], [], i, acc, H, _, _, _, _, ha, hd, k => k H (fun _ _ _ _ e => e) ha hd
  | f :: fs, w :: ws, i, acc, H, hw, hl, hc, hn, ha, hd, k => by
    have w0 : σ[i]? = some (some w) := hw 0 w rfl
    refine ⟨w, w0, .ref a, e0, a, C, rfl, T, hn f List.mem_cons_self, .inr ⟨d, acc, ha, hd, ?_, ?_⟩⟩
    · simp only [List.length_cons] at hc; omega
    · refine bsts_old T e0 ne fs ws (i + 1) _ _ (fun j z hz => ?_) (by simpa using hl) (by simp only [List.length_cons] at hc ⊢; omega) (fun g hg => hn g (List.mem_cons_of_mem _ hg)) (by rw [upd_ne (Ne.symm ne)]; exact ha) upd_same fun H2 h1 h2 h3 => ?_
      · have := hw (j + 1) z (by simpa using hz)
        rw [show i + 1 + j = i + (j + 1) by omega]; exact this
      · exact k H2 (fun b o hb hb2 e => h1 b o hb hb2 (by rw [upd_ne hb2]; exact e)) h2 h3
theorem bsts_new (T : OexB K b C) (e0 : σ[0]? = some (some (.ref a))) {f : Str} {fs : List Str} {w : V} {ws : List V} {i : Nat} {H : Hp} (hw : ∀ j v, (w :: ws)[j]? = some v → σ[i + j]? = some (some v)) (hl : ws.length = fs.length) (hc : fs.length ≤ 800)
    (hn : ∀ g ∈ f :: fs, PySem.W.findIn K (.ref C) g = some none) (ha : H a = some (exo a C none))
    (k : ∀ H2 d, (∀ b o, b ≠ a → H b = some o → H2 b = some o) → H2 a = some (exo a C (some d)) → H2 d = some (exd d (rz (f :: fs) (w :: ws) [])) → H d = none → D.nx σ H2) : tBsts K b (f :: fs) i D σ H := by
  refine ⟨w, hw 0 w rfl, .ref a, e0, a, C, rfl, T, hn f List.mem_cons_self, .inl ⟨ha, fun d hd ne => ?_⟩⟩
  refine bsts_old T e0 ne fs ws (i + 1) [(f, w)] _ (fun j z hz => ?_) hl (by show 0 + 1 + fs.length ≤ 900; omega) (fun g hg => hn g (List.mem_cons_of_mem _ hg)) upd_same (by rw [upd_ne ne, upd_same]) fun H2 h1 h2 h3 => ?_
  · have := hw (j + 1) z (by simpa using hz)
    rw [show i + 1 + j = i + (j + 1) by omega]; exact this
  · refine k H2 d (fun b o hb e => ?_) h2 h3 hd
    have nd : b ≠ d := ne_of_none e hd
    exact h1 b o hb nd (by rw [upd_ne hb, upd_ne nd]; exact e)
end
/-- an own exception's __init__ keeps its promise -/
theorem ini_okB {P : Program} {w : World} {K : PySem.W.Frag} {mg : Str → Option Value} {base : Heap} {b : Bs} {qual : Str} {st : Stmt} {fI C : Addr} {fd : FuncData} {N : List Str} {f0 : Str} {fs : List Str} {k : Nat} {G : List PyData → Prop}
    (F : Fun K "__init__" qual st fI fd) (S : FnScope N ("self" :: f0 :: fs) (defScope st)) (T : OexB K b C) (hn : ∀ g ∈ f0 :: fs, PySem.W.findIn K (.ref C) g = some none) (hc : fs.length ≤ 800) (hN : N.length = fs.length + 2)
    (hb : ∀ (cdv : Value) (A : Around) (outer : List Env) (s : Shared) (H : Hp) (E : XK),
      (A.deeper (envOfC qual (defScope st) s.heap.objs.size fI cdv)).guards = some [] → Room k (A.deeper (envOfC qual (defScope st) s.heap.objs.size fI cdv)) →
      ∃ (js : Expr) (mf : TD), JE (cxOf CX0 P w K mg base N qual (defScope st) fI cdv A outer s H E).nox (fun _ _ _ _ => False) js mf ∧ (∀ ds, G ds → ds.length = fs.length + 1 → mf (.un :: ds.map .fz) (fun _ _ => True) (fun _ _ => False)) ∧
        PSs (cxOf CX0 P w K mg base N qual (defScope st) fI cdv A outer s H E).nox (defBody st) (tSeq (tDrop (tBini K b (tCons (tVar 0) (tCons (teJ (cxOf CX0 P w K mg base N qual (defScope st) fI cdv A outer s H E).nox js) tNil)))) (tBsts K b (f0 :: fs) 1))) :
    FnG P w K mg base CX0 (k + 1) fI fd ("self" :: f0 :: fs) (spI K C (f0 :: fs) G) := by
  refine okG F S (fun vs H Q E h => ?_) fun cdv A outer s H vs Q E hg hr h => ?_
  · obtain ⟨a, ws, ds, F0, rfl, hl, _⟩ := h
    rw [List.length_cons, hl]; rfl
  obtain ⟨js, mf, je, hG, ps⟩ := hb cdv A outer s H E hg hr
  refine ⟨_, ps, ?_⟩
  obtain ⟨a, ws, ds, F0, rfl, hl, rp, sF, nF, ha, g, kk⟩ := h
  have hst : start N (.ref a :: ws) = some (.ref a) :: ws.map some := by
    have e : N.length - (V.ref a :: ws).length = 0 := by rw [hN, List.length_cons, hl, List.length_cons]; omega
    show ((V.ref a :: ws).map some) ++ List.replicate (N.length - (V.ref a :: ws).length) none = _
    rw [e]; simp
  rw [hst]
  have e0 : (some (V.ref a) :: ws.map some)[0]? = some (some (.ref a)) := rfl
  have ew : ∀ j v, ws[j]? = some v → (some (V.ref a) :: ws.map some)[1 + j]? = some (some v) := fun j v e => by
    rw [Nat.add_comm, List.getElem?_cons_succ, List.getElem?_map, e]; rfl
  have hd : ds.length = fs.length + 1 := by rw [← rp.len, hl]; rfl
  have en : EnvL K F0 (.un :: ds.map .fz) (some (V.ref a) :: ws.map some) emp := by
    have := start_env (N := N) 0 (OwnL.frozen rp)
    simp only [List.replicate_zero, List.append_nil] at this
    exact .un _ this
  let hx : Hp := fun b => if F0 b = none then H b else none
  have hx0 : ∀ b, F0 b = none → hx b = H b := fun b z => if_pos z
  have hx1 : ∀ b, ¬ F0 b = none → hx b = none := fun b z => if_neg z
  have s3 : Sp3 F0 emp hx H := {
    f := sF
    o := fun b o e => by cases e
    x := fun b o e => by
      by_cases z : F0 b = none
      · rw [← hx0 b z]; exact e
      · rw [hx1 b z] at e; cases e
    fo := dj_emp
    fx := fun b => by
      by_cases z : F0 b = none
      · exact .inl z
      · exact .inr (hx1 b z)
    ox := emp_dj }
  have hxa : hx a = some (exo a C none) := by rw [← ha]; exact if_pos nF
  have key : ∀ b o, H b = some o → (F0 b = some o ∨ hx b = some o) := fun b o e => by
    cases z : F0 b with
    | none => exact .inr ((if_pos z).trans e)
    | some o' => exact .inl (by rw [← e, sF _ _ z])
  refine ⟨_, e0, ?_⟩
  refine je.te (Φ := fun _ _ => True) (Ξ := fun _ _ => False) s3 en (hG ds g hd) (fun c d H' p => ?_) fun v H1 p => ?_
  · obtain ⟨x, ρ', F', h', _, _, _, _, q⟩ := p; exact q
  obtain ⟨o, ρ1, F1, h1, h', e1, s1, d1, en1, ow, _⟩ := p
  have kp : ∀ b o, H b = some o → H1 b = some o := fun b o e => (key b o e).elim (fun z => s1.f _ _ (e1 _ _ z)) fun z => s1.x _ _ z
  refine ⟨a, C, [v], rfl, (by show 1 ≤ 1000; decide), T, s1.x _ _ hxa, ?_⟩
  cases ws with
  | nil => simp at hl
  | cons w ws =>
    refine bsts_new T e0 (fun j v e => ew j v e) (by simpa using hl) hc hn (s1.x _ _ hxa) fun H2 d' h1 h2 h3 h4 => ?_
    refine kk H2 d' (fun b o hb e => h1 b o hb (kp b o e)) h2 h3 ?_
    cases z : H d' with
    | none => rfl
    | some o => have := kp _ _ z; rw [h4] at this; cases this
/-! raise C(e, ..) -/
/-- what a raise wants of C -/
structure IniB (X : Cx) (b : Bs) (k : Nat) (C : Addr) (fs : List Str) (G : List PyData → Prop) : Prop where
  T : OexB X.K b C
  ex : ∃ (fI : Addr) (fd : FuncData), PySem.W.findIn X.K (.ref C) "__init__" = some (some (.ref fI)) ∧ PySem.W.typeIn X.K (.ref fI) = some (.type "function") ∧ FnG X.prog X.w X.K X.mg X.base CX0 k fI fd ("self" :: fs) (spI X.K C fs G) ∧ Binds X.K fd ("self" :: fs) []
section
variable {X : Cx} {W : WX} {pr : List Nat} {e : Expr} {es : List Expr} {pl : List (Option Nat)} {ml : TL} {x : Str} {p pos rpos : Pos} {C : Addr} {b : Bs} {fs : List Str} {G : List PyData → Prop} {k : Nat}
theorem pmk_iniB (I : IniB X b k C fs G) (hG : X.A.guards = some []) (hr : Room (k + 1) X.A) (hm : X.mg x = some (.ref C)) {ta : TA} (ha : PA X (e :: es) ta) (hg : Gl X x := by rfl)
    (hdb : (x == ("__debug__" : Str)) = false := by decide) (he : starEach (e :: es) X.env = (false, eval e X.env) :: starEach es X.env := by rfl) (hpl : (backTo pos (starEach es X.env)).any (·.1) = false := by rfl) :
    PMk X (.Call (.Name x p) (e :: es) [] pos) (tMkE C fs X.K G ta) := by
  obtain ⟨T, fI, fd, iC, tI, F1, hb⟩ := I
  intro pins s σ H Q I h
  obtain ⟨nm, q, N, bs, bm, sn, sub, ab, col, dd, k0, k1, k2, k3, k5, hC, hbm⟩ := T.cls
  refine wpAny_Call_Name_kw (ld_glob I hg hm ?_ hdb)
  refine PySem.W.callWith_K (h₀ := X.base) I.ok.mod.kin T.kC (thn (ha.run pos pins s σ H _ I h) ?_) he hpl
  rintro us s1 ⟨vs, H1, I1, r1, F, ds, hl, hc, rp, sF, g, hq⟩
  refine ⟨I1.kIn, ?_⟩
  obtain ⟨hp, gs, dr, tk, os⟩ := s1
  generalize hA : hp.objs.size + 1 = A0
  have hsz : hp.objs.size ≤ A0 := by omega
  have hn : H1 A0 = none := I1.hok.fresh hsz
  have lu : us.length = fs.length := by rw [← Paired.length r1]; exact hl
  have hus : us.length ≤ sizeLine := by rw [lu, sizeLine_eq]; omega
  have up : ∀ b o, hp.get? b = some o → ((hp.push (PySem.W.kdv_tup us)).push (PySem.HandSPX.excO C hp.objs.size)).get? b = some o := fun b o z => Heap.get?_push_of_some _ (Heap.get?_push_of_some _ z)
  have at0 : ((hp.push (PySem.W.kdv_tup us)).push (PySem.HandSPX.excO C hp.objs.size)).get? A0 = some (PySem.HandSPX.excO C hp.objs.size) := by subst hA; heap_get
  have J : Inv X pins σ (upd H1 A0 (exo A0 C none)) ⟨(hp.push (PySem.W.kdv_tup us)).push (PySem.HandSPX.excO C hp.objs.size), gs, dr, tk, os⟩ := I1.laid up hsz (exo_ok at0)
  have rv : Vals (V.ref A0 :: vs) (Value.ref A0 :: us) := .cons rfl r1
  have len2 : (Value.ref A0 :: us ++ []).length = (("self" : Str) :: fs).length := by rw [List.append_nil, List.length_cons, List.length_cons, lu]
  have bnd := hb _ (Value.ref A0 :: us) J.kIn len2
  rw [List.append_nil] at bnd
  have sp : spI X.K C fs G (V.ref A0 :: vs) (upd H1 A0 (exo A0 C none)) (fun v H2 => v = .non ∧ ∃ d, H2 A0 = some (exo A0 C (some d)) ∧ H2 d = some (exd d (rz fs vs [])) ∧ H1 d = none ∧ Q (.ref C) (some d) (upd (L2.del H2 A0) d (.xd (rz fs vs [])))) (fun _ _ _ => False) := by
    refine ⟨A0, vs, ds, F, rfl, hl, rp, same_over sF (sF.free hn), sF.free hn, upd_same, g, fun H2 d h1 h2 h3 h4 => ?_⟩
    have nd : d ≠ A0 := fun z => by rw [z, upd_same] at h4; cases h4
    rw [upd_ne nd] at h4
    refine ⟨rfl, d, h2, h3, h4, hq _ d (fun b o z => ?_) h4⟩
    have nb : b ≠ A0 := ne_of_none z hn
    rw [L2.del_ne nb]
    exact h1 b o nb (by rw [upd_ne nb]; exact z)
  have run := F1.run (X.A.under (.builtin "type.__call__" ⟨.ref C :: us, []⟩)) X.stack _ _ ⟨Value.ref A0 :: us, []⟩ _ _ _ _ (make_guards hG) (hr.make C us []) (J.env0.make C us []) bnd rv sp
  refine wpAny_call (callG T.ok (fun Y => PySem.W.excTail_contains Y bm hbm) (I1.kIn _ _ hC) (PySem.W.looks_findIn I1.kIn iC) (fun self => PySem.W.bind_fn I1.kIn self tI) hus ?_)
  rw [hA]
  refine codeAny_mono run ?_
  rintro (er | fl) s' hq'
  · exact (show False from hq').elim
  · cases fl with
    | ret u =>
      obtain ⟨v, H2, os2, bare2, un2, hok2, rv, ev, d, ea, ed, hd1, q2⟩ := hq'
      subst ev
      obtain ⟨h2, g2, d2, t2, os'⟩ := s'
      exact ⟨rv, mk_end (raises_own T.exC T.tyC) I1 hsz up un2 hok2 os2 bare2 ea ed hd1 q2⟩
    | next | brk | cont => exact (show False from hq').elim
theorem js_raiseB (hcm : X.calm = true) (tk : Takes X W) (I : IniB X b k C fs G) (hG : X.A.guards = some []) (hr : Room (k + 1) X.A) (hm : X.mg x = some (.ref C)) (ja : JA X W (e :: es) pl ml) (hg : Gl X x := by rfl)
    (hdb : (x == ("__debug__" : Str)) = false := by decide) (he : starEach (e :: es) X.env = (false, eval e X.env) :: starEach es X.env := by rfl) (hpl : (backTo pos (starEach es X.env)).any (·.1) = false := by rfl) :
    JS X W pr (.Raise (some (.Call (.Name x p) (e :: es) [] pos)) none rpos) (sRaise C fs G ml) := by
  refine ⟨fun {pins s σ F h hx H ρ D} at_ q xs => (ps_raise hcm tk (pmk_iniB I hG hr hm (pa_J (X := X) (es := e :: es)) hg hdb he hpl)).run _ _ _ _ _ at_.i (ja.ta at_.s at_.e q xs.now ?_)⟩
  rintro vs H1 ⟨hln, hvs, os, ρ1, F1, h1, h', e1, s1, d1, en1, ow, ds, hds, hl, hc, g, q1⟩
  have rp := ow.frz (dj_jn.mp s1.fo).1 hds
  have s2 := s1.frz d1
  refine ⟨jn F1 h1, ds, ow.len.symm.trans hl, hc, rp, s2.f, g, fun Hm d hs hd => xs.now _ _ _ ?_⟩
  have s3 : Sp3 (upd (jn F1 h1) d (.xd (rz fs vs []))) h' hx (upd Hm d (.xd (rz fs vs []))) :=
    ⟨same_up (s2.f.trans hs), same_over (s2.o.trans hs) (s2.o.free hd), same_over (s2.x.trans hs) (s2.x.free hd), dj_upd s2.fo (s2.o.free hd), dj_upd s2.fx (s2.x.free hd), s2.ox⟩
  have nF : jn F1 h1 d = none := s2.f.free hd
  exact ⟨_, ρ1, _, h', (e1.trans same_l).trans (same_upd' nF), s3, en1.mono (same_l.trans (same_upd' nF)), ⟨rfl, .inr ⟨d, _, rfl, upd_same, (rz_rel rp .nil).mono (same_upd' nF)⟩⟩, q1⟩
end
theorem bx_RuntimeError : bootBuiltins "RuntimeError" = some (.type "RuntimeError") := PyProof.Rows.Boot.RuntimeError
theorem bx_LookupError : bootBuiltins "LookupError" = some (.type "LookupError") := PyProof.Rows.Boot.LookupError
theorem bx_ValueError : bootBuiltins "ValueError" = some (.type "ValueError") := PyProof.Rows.Boot.ValueError
theorem al_cons {K : PySem.W.Frag} {C : Addr} {f : Str} {fs : List Str} (h : PySem.W.findIn K (.ref C) f = some none) (r : ∀ g ∈ fs, PySem.W.findIn K (.ref C) g = some none) : ∀ g ∈ f :: fs, PySem.W.findIn K (.ref C) g = some none := fun g hg => (List.mem_cons.mp hg).elim (fun e => e ▸ h) (r g)
section
variable {K : PySem.W.Frag} {o : O} {ρ : EnvT} {Φ : O → EnvT → Prop} {Ξ : Exn → EnvT → Prop} {D : TEnds} {i : Nat} {m : TSD} {u : Addr → Value → Option Addr → TSD} {c cls : Value} {a : Addr} {d : Option Addr} {f : Str} {R : Exn → Prop} {g : Value → Option Bool} {x : Exn}
theorem ev_try : sTry K c i m u D (o :: ρ) = m { nx := D.nx, rt := D.rt, bk := D.bk, ct := D.ct, ex := fun x ρ1 => ∃ b, PySem.W.exmOne K x.cls c = some b ∧
  (if b = true then (i < ρ1.length ∧ ∀ (a : Addr) (d : Option Addr), u a x.cls d (suiteEnds i D) (ρ1.set i (.exc a d x))) else D.ex x ρ1) } (o :: ρ) := rfl
theorem ev_exF : mExF K a cls d i f (o :: ρ) Φ Ξ = excAt a cls d i (o :: ρ) fun x => (∃ C, cls = .ref C ∧ ExC K C ∧ PySem.W.findIn K (.ref C) f = some none) ∧ ∃ v, x.fs.lookup f = some v ∧ Φ (.fz v) (o :: ρ) := rfl
theorem ev_isE : mIsE K a cls d i g (o :: ρ) Φ Ξ = excAt a cls d i (o :: ρ) fun x => (∃ C, cls = .ref C ∧ ExC K C) ∧ ∃ b, g cls = some b ∧ Φ (.fz (.bool b)) (o :: ρ) := rfl
theorem ev_excAt : excAt a cls d i (o :: ρ) R = ∃ x, (o :: ρ)[i]? = some (.exc a d x) ∧ x.cls = cls ∧ R x := rfl
theorem se_nx : (suiteEnds i D).nx ρ = D.nx (ρ.set i .un) := rfl
theorem se_rt : (suiteEnds i D).rt o ρ = D.rt o ρ := rfl
theorem se_ex : (suiteEnds i D).ex x ρ = False := rfl
theorem len_exc {x : Exn} : lent (.exc a d x) = .exc a d x := by unfold lent; rfl
theorem exc_inj {a' : Addr} {d' : Option Addr} {x' : Exn} : (O.exc a d x = .exc a' d' x') = (a = a' ∧ d = d' ∧ x = x') := propext ⟨fun e => by cases e; exact ⟨rfl, rfl, rfl⟩, fun ⟨e1, e2, e3⟩ => by rw [e1, e2, e3]⟩
end
end T

/-! T28: which exception a clause names, of which class a caught one is: out of what the head finds. -/
namespace T
open PySem PySem.Spec PyProof.Rows L2 Z RZ
section
variable {K : PySem.W.Frag} {C D : Addr} {B : String} {b : Bool}
theorem kcls_ref (h2 : PySem.W.isClsIn K D = true) (h3 : PySem.W.typeIn K (.ref D) = some (.type "type")) (h4 : PySem.W.subIn K (.ref C) (.ref D) = some b) : PySem.W.kitCls K (.ref C) (.ref D) = some b := by
  have h2' : (PySem.W.clsIn K D).isSome = true := h2
  have e2 : ((PySem.W.clsIn K D).isSome && PySem.W.typeIn K (.ref D) == some (.type "type")) = true := by rw [h2', h3] <;> rfl
  show (if _ then _ else _) = _
  rw [if_pos e2]; exact h4
theorem kcls_ty (m : PySem.W.kitMeta B = true) (h4 : PySem.W.subIn K (.ref C) (.type B) = some b) : PySem.W.kitCls K (.ref C) (.type B) = some b := by
  show (if _ then _ else _) = _
  rw [if_pos m]; exact h4
theorem exm_ref (h1 : PySem.W.subIn K (.ref D) (.type "BaseException") = some true) (h2 : PySem.W.isClsIn K D = true) (h3 : PySem.W.typeIn K (.ref D) = some (.type "type")) (h4 : PySem.W.subIn K (.ref C) (.ref D) = some b) : PySem.W.exmOne K (.ref C) (.ref D) = some b := by
  have e1 : (PySem.W.subIn K (.ref D) (.type "BaseException") == some true) = true := by rw [h1] <;> rfl
  show (if _ then _ else _) = _
  rw [if_pos e1]; exact kcls_ref h2 h3 h4
theorem kit_ref (h2 : PySem.W.isClsIn K D = true) (h3 : PySem.W.typeIn K (.ref D) = some (.type "type")) (h4 : PySem.W.subIn K (.ref C) (.ref D) = some b) (h5 : C = D → b = true) : PySem.W.kitOne K (.ref C) (.ref D) = some b := by
  unfold PySem.W.kitOne
  by_cases e : C = D
  · rw [h5 e, e, if_pos (beq_self_eq_true _)]
  · rw [if_neg (by simpa using e)]; exact kcls_ref h2 h3 h4
theorem kit_ty (m : PySem.W.kitMeta B = true) (h4 : PySem.W.subIn K (.ref C) (.type B) = some b) : PySem.W.kitOne K (.ref C) (.type B) = some b := by
  unfold PySem.W.kitOne
  rw [if_neg (by simp)]; exact kcls_ty m h4
end
end T

/-! T29: f-strings of any data; exceptions held as values. -/
namespace T
open PySem PySem.Spec PyProof.Rows L2 Z RZ
section
variable {X : Cx} {W : WX} {pr : List Nat} {e a b : Expr} {es : List Expr} {pos : Pos} {pl : List (Option Nat)} {ma me : TD} {ml : TL}
/-- what is shown of a datum -/
def fmtRG (d : PyData) (k : Str → Prop) : Prop := d.showable = true ∧ d.shown.length ≤ 1000000 ∧ d.depth ≤ 40 ∧ k d.shown
theorem je_fmtRG {n : Nat} (hG : X.A.guards = some []) (hr : Room n X.A) (hS : SysB X.base) (ja : JE X W a ma) : JE X W (.FormattedValue a 114 none pos) (mFmt fmtRG ma) := by
  refine ⟨fun {pins s σ F h hx H ρ Φ Ξ} at_ q x => ?_⟩
  refine wpAny_FormattedValue_repr (thn ((je_frz ja).run at_ q x) fun v s1 hv => ?_)
  obtain ⟨y, H1, I1, r1, p⟩ := hv
  obtain ⟨d, ρ1, F1, h1, e1, s3, en1, rd, sh, sz, dp, q1⟩ := fzE p
  obtain ⟨as, ra, ns⟩ := (rd.mono s3.f).reads I1 hS r1
  have hu := hr.units
  have fin : ∀ (h' : Heap) (u : Tok) (tk : Nat), (∀ b o, s1.heap.get? b = some o → h'.get? b = some o) → wpAny (model X.prog X.w) X.A (formatField (.str d.shown u) Str.empty) (EP X pins σ (PostE X.K σ F hx Φ)) X.xe { s1 with heap := h', toks := tk } := fun h' u tk kk =>
    wpAny_formatField_str ⟨.str d.shown, H1, I1.kept kk, ⟨u, rfl⟩, postE_fz e1 s3 en1 (.str _) q1⟩ ⟨.str d.shown, H1, (I1.kept (t' := tk) kk).tok _, ⟨_, rfl⟩, postE_fz e1 s3 en1 (.str _) q1⟩ (le_line sz)
  cases rd with
  | non => cases r1; exact pyReprObj_none (fin s1.heap _ _ fun _ _ e => e)
  | bl c => cases r1; exact pyReprObj_bool (fin s1.heap _ _ fun _ _ e => e)
  | int i => obtain ⟨t, rfl⟩ := r1; exact pyReprObj_int (of_decide_eq_true sh) (fin s1.heap _ _ fun _ _ e => e)
  | str z => obtain ⟨t, rfl⟩ := r1; exact pyReprObj_str (fin s1.heap _ _ fun _ _ e => e) (le_line sz)
  | lst _ _ => cases r1; exact pyReprObj_of_reads ra sh (fun _ => ns) hG (by omega) (fun _ _ e => e) (fun h' t tk kk => fin h' t tk kk) (le_line sz)
  | tup _ _ => cases r1; exact pyReprObj_of_reads ra sh (fun _ => ns) hG (by omega) (fun _ _ e => e) (fun h' t tk kk => fin h' t tk kk) (le_line sz)
  | dct _ _ => cases r1; exact pyReprObj_of_reads ra sh (fun _ => ns) hG (by omega) (fun _ _ e => e) (fun h' t tk kk => fin h' t tk kk) (le_line sz)
/-- {x}: a text, an int, a list -/
def fmtG (d : PyData) (k : Str → Prop) : Prop := match d with
  | .str y => y.length ≤ 1000000 ∧ k y
  | .int i => i.natAbs.log2 < 1920 ∧ k (toString i)
  | .list ds => fmtRG (.list ds) k
  | _ => False
theorem je_fmtG {n : Nat} (hG : X.A.guards = some []) (hr : Room n X.A) (hS : SysB X.base) (ja : JE X W a ma) : JE X W (.FormattedValue a (-1) none pos) (mFmt fmtG ma) := by
  refine ⟨fun {pins s σ F h hx H ρ Φ Ξ} at_ q x => ?_⟩
  refine wpAny_FormattedValue_plain (thn ((je_frz ja).run at_ q x) fun v s1 hv => ?_)
  obtain ⟨y, H1, I1, r1, p⟩ := hv
  obtain ⟨d, ρ1, F1, h1, e1, s3, en1, rd, q1⟩ := fzE p
  have hu := hr.units
  have ra := (rd.mono s3.f).reads I1 hS r1
  cases rd with
  | str z => obtain ⟨t, rfl⟩ := r1; exact wpAny_formatField_str ⟨.str z, H1, I1, ⟨t, rfl⟩, postE_fz e1 s3 en1 (.str _) q1.2⟩ ⟨.str z, H1, I1.tok _, ⟨_, rfl⟩, postE_fz e1 s3 en1 (.str _) q1.2⟩ (le_line q1.1)
  | int i => obtain ⟨t, rfl⟩ := r1; exact wpAny_formatField_int q1.1 ⟨.str (toString i), H1, I1.tok _, ⟨_, rfl⟩, postE_fz e1 s3 en1 (.str _) q1.2⟩
  | lst _ _ =>
    cases r1
    obtain ⟨as, ra, ns⟩ := ra
    obtain ⟨sh, sz, dp, q1⟩ := q1
    exact formatField_of_reads ra sh (fun _ => ns) hG (by omega) (fun _ _ e => e) (fun h' u tk kk => ⟨.str _, H1, I1.kept kk, ⟨u, rfl⟩, postE_fz e1 s3 en1 (.str _) q1⟩) (le_line sz)
  | _ => exact q1.elim
/-! e.f, e an exception held as a value -/
def mXvF (K : PySem.W.Frag) (m : TD) (f : Str) : TD := fun ρ Φ Ξ => m ρ (fun o ρ1 => ∃ C fs v, o = .exv C fs ∧ (ExC K C ∧ PySem.W.findIn K (.ref C) f = some none) ∧ fs.lookup f = some v ∧ Φ (.fz v) ρ1) Ξ
theorem xv_inst {pins : List (Addr × Obj)} {σ : L2.St} {H : Hp} {s : Shared} {a0 C : Addr} {d : Option Addr} (I : Inv X pins σ H s) (ha : H a0 = some (exo a0 C d)) (hd : d = none ∨ ∃ dx vs, d = some dx ∧ H dx = some (exd dx vs)) :
    ∃ (t1 : Addr) (od : Option Obj), PySem.W.InstAt s.heap a0 (PySem.W.excObj C t1 d .none) C od := by
  obtain ⟨t1, ho⟩ := exo_at I.hok ha
  rcases hd with rfl | ⟨dx, vs, rfl, hx⟩
  · exact ⟨t1, none, ho, rfl, rfl, trivial⟩
  · obtain ⟨mA, hns, rel⟩ := exd_at I.hok hx
    obtain ⟨oD, _, _, hoD, _, _⟩ := hns.count (within_of rel)
    exact ⟨t1, some oD, ho, rfl, rfl, hoD⟩
theorem je_xvF {f : Str} (ja : JE X W e me) (hb : attributeBase e f X.env (eval e X.env) = eval e X.env := by rfl) : JE X W (.Attribute e f pos) (mXvF X.K me f) := by
  refine ⟨fun {pins s σ F h hx H ρ Φ Ξ} at_ q xq => attr_of hb (thn (ja.run at_ q xq) ?_)⟩
  rintro w s1 ⟨y, H1, I1, rx, o, ρ1, F1, h1, h', e1, s3, d1, en1, ow, C, fs, v, rfl, ⟨T, no⟩, el, q1⟩
  cases ow with
  | @exv a0 _ d _ ok =>
    obtain ⟨ha, hd⟩ := ok
    have rx' : w = Value.ref a0 := rx
    subst rx'
    rcases hd with ⟨_, ef⟩ | ⟨dx, vs, rfl, hdx, rf⟩
    · rw [ef] at el; cases el
    obtain ⟨t1, ho⟩ := exo_at I1.hok (s3.f _ _ ha)
    obtain ⟨mA, hns, hr⟩ := exd_at I1.hok (s3.f _ _ hdx)
    obtain ⟨od, ho2, hl⟩ := lookIn_ns hns
    obtain ⟨y2, hy, ry⟩ := rf.at el
    obtain ⟨z, hz1, rz1⟩ := RelO.some_of (v := y2) (o := mA f) (by rw [← hy]; exact hr f)
    have J : PySem.W.InstAt s1.heap a0 (PySem.W.excObj C t1 (some dx) .none) C (some od) := ⟨ho, rfl, rfl, ho2⟩
    have s4 : Sp3 F1 h' hx H1 := s3.less (same_r d1)
    exact HandSPX.exc_get I1.kIn J T.ga T.gg T.ex (PySem.W.findObj_own T.dc no rfl (by rw [hl, hz1])) (handed_of rz1) ⟨y2, H1, I1.tok _, rz1, postE_fz e1 s4 en1 ry q1⟩
/-! isinstance(e, C) of such -/
def rIsV (K : PySem.W.Frag) : List V → Hp → VK → Prop := fun xs H Q => ∃ (a0 C : Addr) (d : Option Addr) (c : V) (r : Bool), xs = [.ref a0, c] ∧ H a0 = some (exo a0 C d) ∧ (d = none ∨ ∃ dx vs, d = some dx ∧ H dx = some (exd dx vs)) ∧ ExC K C ∧ isCl c = true ∧
  PySem.W.kitOne K (.ref C) (clU c) = some r ∧ Q (.bl r) H
theorem call_isV : CallR X (.builtin "isinstance") (rIsV X.K) := by
  intro pins s σ H xs us Q I r h
  obtain ⟨a0, C, d, c, r0, rfl, ha, hd, T, hcv, ek, q⟩ := h
  cases r with
  | cons rx rr =>
    cases rr with
    | cons rt rr =>
      cases rr
      cases rx
      obtain ⟨t1, od, J⟩ := xv_inst I ha hd
      have hcl : (PySem.W.clsIn X.K C).isSome = true := by
        obtain ⟨cd, hc, _⟩ := PySem.W.any_some T.dc
        rw [hc]; rfl
      have kx := PySem.W.kitx_exc (od := od) (ox := PySem.W.excObj C t1 d .none) (x := a0) hcl T.ga T.gg T.ex T.ha T.hn T.ht T.hm
      have ec := rel_cl hcv rt
      subst ec
      exact PySem.W.kia_one kx I.kIn J ek (fun z => nomatch z) fun tk => ⟨.bl r0, H, I.kept (t' := tk) fun _ _ z => z, rfl, q⟩
def mXvI (K : PySem.W.Frag) (f : Value → Option Bool) (m : TD) : TD := fun ρ Φ Ξ => m ρ (fun o ρ1 => ∃ C fs, o = .exv C fs ∧ ExC K C ∧ ∃ r, f (.ref C) = some r ∧ Φ (.fz (.bool r)) ρ1) Ξ
theorem je_xvI {p : Pos} {cv : V} (hm : X.mg "isinstance" = none) (ja : JE X W a ma) (hb : PE X b (tC cv)) (hcl : isCl cv = true) (hg : Gl X "isinstance" := by rfl)
    (he : starEach [a, b] X.env = (false, eval a X.env) :: starEach [b] X.env := by rfl) (he2 : starEach [b] X.env = (false, eval b X.env) :: starEach [] X.env := by rfl) (hpl : (backTo pos (starEach [b] X.env)).any (·.1) = false := by rfl) :
    JE X W (.Call (.Name "isinstance" p) [a, b] [] pos) (mXvI X.K (fun c => PySem.W.kitOne X.K c (clU cv)) ma) := by
  refine ⟨fun {pins s σ F h hx H ρ Φ Ξ} at_ q x => (pe_callB call_isV hg hm bt_isinstance (pa_cons (pe_J (X := X) (e := a)) (pa_cons hb pa_nil he2) he) (by decide) (by decide) he hpl).run _ _ _ _ _ at_.i ?_⟩
  refine ja.te at_.s at_.e q x fun v H1 p => ?_
  obtain ⟨o, ρ1, F1, h1, h', e1, s3, d1, en1, ow, C, fs, rfl, T, r, ek, q1⟩ := p
  cases ow with
  | @exv a0 _ d _ ok =>
    obtain ⟨ha, hd⟩ := ok
    have s4 : Sp3 F1 h' hx H1 := s3.less (same_r d1)
    refine ⟨a0, C, d, cv, r, rfl, s3.f _ _ ha, ?_, T, hcl, ek, postE_fz e1 s4 en1 (.bl r) q1⟩
    rcases hd with ⟨h1, _⟩ | ⟨dx, vs, h1, h2, _⟩
    · exact .inl h1
    · exact .inr ⟨dx, vs, h1, s3.f _ _ h2⟩
/-! C(e, ..) as a value -/
def mMkV (C : Addr) (fs : List Str) (G : List PyData → Prop) (m : TL) : TD := fun ρ Φ Ξ => m ρ (fun os ρ1 => ∃ ds, fzL os = some ds ∧ os.length = fs.length ∧ fs.length ≤ 900 ∧ G ds ∧ Φ (.exv C (rz fs ds [])) ρ1) Ξ
def tMkV (C : Addr) (fs : List Str) (K : PySem.W.Frag) (G : List PyData → Prop) (ta : TA) : TE := fun σ H Q => ta σ H fun ws H1 => ∃ F ds, ws.length = fs.length ∧ fs.length ≤ 900 ∧ RpAll K F ws ds ∧ Same F H1 ∧ G ds ∧
  ∀ H2 a0 d, H1 a0 = none → H1 d = none → d ≠ a0 → Same H1 H2 → H2 a0 = some (exo a0 C (some d)) → H2 d = some (exd d (rz fs ws [])) → Q (.ref a0) H2
end
section
variable {X : Cx} {W : WX} {e : Expr} {es : List Expr} {pl : List (Option Nat)} {ma : TD} {ml : TL} {ta : TA} {te : TE} {x : Str} {p p1 p2 pos : Pos} {C : Addr} {b : Bs} {fs : List Str} {G : List PyData → Prop} {k : Nat}
theorem pe_mkv (I : IniB X b k C fs G) (hG : X.A.guards = some []) (hr : Room (k + 1) X.A) (hm : X.mg x = some (.ref C)) (ha : PA X (e :: es) ta) (hg : Gl X x := by rfl) (hdb : (x == ("__debug__" : Str)) = false := by decide)
    (he : starEach (e :: es) X.env = (false, eval e X.env) :: starEach es X.env := by rfl) (hpl : (backTo pos (starEach es X.env)).any (·.1) = false := by rfl) : PE X (.Call (.Name x p) (e :: es) [] pos) (tMkV C fs X.K G ta) := by
  obtain ⟨T, fI, fd, iC, tI, F1, hb⟩ := I
  refine ⟨fun pins s σ H Q I h => ?_⟩
  obtain ⟨nm, q, N, bs, bm, sn, sub, ab, col, dd, k0, k1, k2, k3, k5, hC, hbm⟩ := T.cls
  refine wpAny_Call_Name_kw (ld_glob I hg hm (PySem.W.callWith_K (h₀ := X.base) I.ok.mod.kin T.kC (thn (ha.run pos pins s σ H _ I h) ?_) he hpl) hdb)
  rintro us s1 ⟨vs, H1, I1, r1, F, ds, hl, hc, rp, sF, g, hq⟩
  refine ⟨I1.kIn, ?_⟩
  obtain ⟨hp, gs, dr, tk, os⟩ := s1
  generalize hA : hp.objs.size + 1 = A0
  have hsz : hp.objs.size ≤ A0 := by omega
  have hn : H1 A0 = none := I1.hok.fresh hsz
  have lu : us.length = fs.length := by rw [← Paired.length r1]; exact hl
  have up : ∀ c o, hp.get? c = some o → ((hp.push (PySem.W.kdv_tup us)).push (PySem.HandSPX.excO C hp.objs.size)).get? c = some o := fun c o z => Heap.get?_push_of_some _ (Heap.get?_push_of_some _ z)
  have at0 : ((hp.push (PySem.W.kdv_tup us)).push (PySem.HandSPX.excO C hp.objs.size)).get? A0 = some (PySem.HandSPX.excO C hp.objs.size) := by subst hA; heap_get
  have J : Inv X pins σ (upd H1 A0 (exo A0 C none)) ⟨(hp.push (PySem.W.kdv_tup us)).push (PySem.HandSPX.excO C hp.objs.size), gs, dr, tk, os⟩ := I1.laid up hsz (exo_ok at0)
  have bnd := hb _ (Value.ref A0 :: us) J.kIn (by rw [List.append_nil, List.length_cons, List.length_cons, lu])
  rw [List.append_nil] at bnd
  have rv0 : Vals (V.ref A0 :: vs) (Value.ref A0 :: us) := .cons rfl r1
  have hus : us.length ≤ sizeLine := by rw [lu, sizeLine_eq]; omega
  have sp : spI X.K C fs G (V.ref A0 :: vs) (upd H1 A0 (exo A0 C none)) (fun v H2 => v = .non ∧ Q (.ref A0) H2) (fun _ _ _ => False) := by
    refine ⟨A0, vs, ds, F, rfl, hl, rp, same_over sF (sF.free hn), sF.free hn, upd_same, g, fun H2 d h1 h2 h3 h4 => ?_⟩
    have nd : d ≠ A0 := fun z => by rw [z, upd_same] at h4; cases h4
    rw [upd_ne nd] at h4
    exact ⟨rfl, hq H2 A0 d hn h4 nd (fun c o z => h1 c o (ne_of_none z hn) (by rw [upd_ne (ne_of_none z hn)]; exact z)) h2 h3⟩
  have run := F1.run (X.A.under (.builtin "type.__call__" ⟨.ref C :: us, []⟩)) X.stack _ _ ⟨Value.ref A0 :: us, []⟩ _ _ _ _ (make_guards hG) (hr.make C us []) (J.env0.make C us []) bnd rv0 sp
  refine wpAny_call (OEG.callG T.ok (fun Y => PySem.W.excTail_contains Y bm hbm) (I1.kIn _ _ hC) (PySem.W.looks_findIn I1.kIn iC) (fun self => PySem.W.bind_fn I1.kIn self tI) hus ?_)
  rw [hA]
  refine codeAny_mono run ?_
  rintro (er | fl) s' hq'
  · exact (show False from hq').elim
  · cases fl with
    | ret u =>
      obtain ⟨v, H2, os2, bare2, un2, hok2, rv, ev, q2⟩ := hq'
      subst ev
      obtain ⟨h2, g2, d2, t2, os'⟩ := s'
      have nha : ∀ {c : Addr} {o : Obj}, hp.get? c = some o → c ≠ A0 := fun {c o} z => Nat.ne_of_lt (Nat.lt_of_lt_of_le (Heap.lt_size z) hsz)
      have upn : ∀ {c : Addr}, c ≠ A0 → H1 c = none → upd H1 A0 (exo A0 C none) c = none := fun {c} hc n => by rw [upd_ne hc]; exact n
      have U : Un (frs X.stack) [] H1 H2 hp h2 :=
        ⟨fun c o z n hf hx => un2.keep c o (up c o z) (upn (nha z) n) hf hx, fun c o z n hf hx => un2.slot c o (up c o z) (upn (nha z) n) hf hx, fun c o z n hx => un2.free c o (up c o z) (upn (nha z) n) hx, fun c o z hx => un2.there c o (up c o z) hx,
          fun c xs z => un2.tups c xs (by (rw [upd_ne (ne_of_none z hn)]; exact z)), fun c o v z => un2.frzs c o v (by (rw [upd_ne (ne_of_none z hn)]; exact z)), fun c ps z => un2.tbls c ps (by (rw [upd_ne (ne_of_none z hn)]; exact z))⟩
      exact ⟨rv, .ref A0, H2, I1.call' (ch := []) os2 U hok2 bare2 (fun c z => absurd z (by simp)), rfl, q2⟩
    | next | brk | cont => exact (show False from hq').elim
theorem xv_frz {F1 h' hx H1 H2 : Hp} {a0 d : Addr} {fs : List (Str × V)} (s2 : Sp3 F1 h' hx H1) (sm : Same H1 H2) (na : H1 a0 = none) (nd : H1 d = none) (ne : d ≠ a0) (ha : H2 a0 = some (exo a0 C (some d))) (hd : H2 d = some (exd d fs)) :
    ∃ F2, Same F1 F2 ∧ Sp3 F2 h' hx H2 ∧ F2 a0 = some (exo a0 C (some d)) ∧ F2 d = some (exd d fs) := by
  refine ⟨upd (upd F1 d (exd d fs)) a0 (exo a0 C (some d)), ?_, ⟨?_, s2.o.trans sm, s2.x.trans sm, ?_, ?_, s2.ox⟩, upd_same, by rw [upd_ne ne, upd_same]⟩
  · exact (same_upd' (s2.f.free nd)).trans (same_upd' (by rw [upd_ne (Ne.symm ne)]; exact s2.f.free na))
  · intro c o z
    by_cases h1 : c = a0
    · subst h1; rw [upd_same] at z; cases z; exact ha
    rw [upd_ne h1] at z
    by_cases h2 : c = d
    · subst h2; rw [upd_same] at z; cases z; exact hd
    rw [upd_ne h2] at z
    exact sm _ _ (s2.f _ _ z)
  · exact dj_upd (dj_upd s2.fo (s2.o.free nd)) (s2.o.free na)
  · exact dj_upd (dj_upd s2.fx (s2.x.free nd)) (s2.x.free na)
theorem je_mkv (I : IniB X b k C fs G) (hG : X.A.guards = some []) (hr : Room (k + 1) X.A) (hm : X.mg x = some (.ref C)) (ja : JA X W (e :: es) pl ml) (hg : Gl X x := by rfl) (hdb : (x == ("__debug__" : Str)) = false := by decide)
    (he : starEach (e :: es) X.env = (false, eval e X.env) :: starEach es X.env := by rfl) (hpl : (backTo pos (starEach es X.env)).any (·.1) = false := by rfl) : JE X W (.Call (.Name x p) (e :: es) [] pos) (mMkV C fs G ml) := by
  refine ⟨fun {pins s σ F h hx H ρ Φ Ξ} at_ q xq => (pe_mkv I hG hr hm (pa_J (X := X) (es := e :: es)) hg hdb he hpl).run _ _ _ _ _ at_.i (ja.ta at_.s at_.e q xq ?_)⟩
  rintro vs H1 ⟨hln, hvs, os, ρ1, F1, h1, h', e1, s1, d1, en1, ow, ds, hds, hl, hc, g, q1⟩
  have rp := ow.frz (dj_jn.mp s1.fo).1 hds
  have s2 := s1.frz d1
  refine ⟨jn F1 h1, ds, ow.len.symm.trans hl, hc, rp, s2.f, g, fun H2 a0 d na nd ne sm ha hd => ?_⟩
  obtain ⟨F2, e2, s3, f1, f2⟩ := xv_frz s2 sm na nd ne ha hd
  exact ⟨_, ρ1, F2, emp, h', (e1.trans same_l).trans e2, by rw [emp_jn]; exact s3, emp_dj, en1.mono (same_l.trans e2), .exv ⟨f1, .inr ⟨d, _, rfl, f2, (rz_rel rp .nil).mono e2⟩⟩, q1⟩
/-- C(e), C without an own __init__ -/
def mMkV0 (C : Addr) (m : TD) : TD := fun ρ Φ Ξ => m ρ (fun _ ρ1 => Φ (.exv C []) ρ1) Ξ
theorem je_mkv0 {bmB : List Value} {B newId initId : String} (F : ExcBaseFacts B newId initId bmB) (q : PySem.W.excIn X.K C bmB newId = true) (gC : X.mg x = some (.ref C)) (kC : PySem.W.keepIn X.K (.ref C) = true) (ja : JE X W e ma) (hg : Gl X x := by rfl)
    (hs : starEach [e] X.env = (false, eval e X.env) :: starEach [] X.env := by rfl) (hdb : (x == ("__debug__" : Str)) = false := by decide) : JE X W (.Call (.Name x p) [e] [] pos) (mMkV0 C ma) := by
  refine ⟨fun {pins s σ F0 h hx H ρ Φ Ξ} at_ qq xq => wpAny_Call_Name_kw (ld_glob at_.i hg gC (PySem.W.callWith_K (h₀ := X.base) at_.i.ok.mod.kin kC ?_ hs (by rfl)) hdb)⟩
  rw [hs]
  refine Calls.spliced_cons (thn (ja.run at_ qq xq) fun u s1 ⟨v, H1, I1, r1, o, ρ1, F1, h1, h', e1, s3, d1, en1, ow, q1⟩ => Calls.spliced_nil ⟨I1.kIn, ?_⟩)
  show wpAny _ _ (call (.ref C) [u]) _ _ _
  obtain ⟨bm, N, nm, qn, bs, hdct, sn, sub, ab, col, dd, k0, k1, k2, k3, k5, mN, hC, hN, hni, T⟩ := exc_obj I1.kIn q
  refine wpAny_call_exc_subT F T hC hN hni (fun hh a0 hmk => ?_) (by show 1 ≤ sizeLine; rw [sizeLine_eq]; omega)
  have hn : H1 a0 = none := I1.hok.gone hmk.new
  obtain ⟨t, ht, _, _⟩ := hmk.there
  have s4 : Sp3 F1 h' hx H1 := s3.less (same_r d1)
  have nF : F1 a0 = none := s4.f.free hn
  exact ⟨.ref a0, upd H1 a0 (exo a0 C none), I1.laidN hmk.keeps hmk.new hn (exo_ok ht), rfl, _, ρ1, upd F1 a0 (exo a0 C none), emp, h', e1.trans (same_upd' nF), by rw [emp_jn]; exact s4.new hn, emp_dj, en1.mono (same_upd' nF), .exv ⟨upd_same, .inl ⟨rfl, rfl⟩⟩, q1⟩
/-- B.__init__(self, ..), B built in -/
theorem pe_binG {pl : Sem Bool} (hm : X.mg x = none) (hbt : bootBuiltins x = some (.type b.B)) (hty : typeOf (.type b.B) = pure (.type "type")) (hst : Manifest.isStub b.B = false) (hnd : PySem.W.handedIn (.builtin b.ini) = true) (fc : PySem.W.findCls X.K (.type b.B) (.type "type") "__init__" = some (.val (.builtin b.ini)))
    (ha : PA X (e :: es) ta) (hg : Gl X x := by rfl) (hn : x ≠ "__name__" := by decide) (hdb : (x == ("__debug__" : Str)) = false := by decide)
    (hc : eval (.Call (.Attribute (.Name x p1) "__init__" p2) (e :: es) [] pos) X.env = (eval (.Name x p1) X.env >>= fun ov => standAt p2.atName >>= fun _ => holding [ov] (getMethod ov "__init__" pl) >>= fun ff => callWith pos ff.1 ff.2 (backTo pos (starEach (e :: es) X.env)) (backToKw pos (keywordEach [] X.env))) := by rfl)
    (he : starEach (e :: es) X.env = (false, eval e X.env) :: starEach es X.env := by rfl) (hpl : (backTo pos (starEach es X.env)).any (·.1) = false := by rfl) :
    PE X (.Call (.Attribute (.Name x p1) "__init__" p2) (e :: es) [] pos) (tBini X.K b ta) := by
  refine ⟨fun pins s σ H Q I h => PySem.W.methodCall_KW (ld_blt I hg hm hbt ?_ hn hdb) hc⟩
  obtain ⟨m, fr⟩ := I.fr
  refine PySem.W.method_type fr I.ok.mod.kin hty hst fc hnd ?_
  refine PyProof.Rows.callWith_method1 (id := b.ini) (thn (ha.run pos pins _ σ H _ (I.tok _) h) ?_) he hpl
  rintro us s1 ⟨vs, H1, I1, r1, a, C, ws, rfl, hl, T, ea, q⟩
  cases r1 with
  | @cons _ u0 _ ur ra rw' =>
    have e0 : u0 = Value.ref a := ra
    subst e0
    exact inB_ok T I1 ea (by rw [← Paired.length rw', sizeLine_eq]; omega) fun s' J => ⟨.non, H1, J, rfl, q⟩
end
end T

/-! T30: KeyError, ArithmeticError as bases. -/
namespace PySem.F
theorem storeKE : StoreFacts "KeyError" [.type "KeyError", .type "LookupError", .type "Exception", .type "BaseException", .type "object"] "object.__setattr__" "object" :=
  { mro := (by kernel_rfl)
    slot := .of (owner := "object") (n := "__setattr__") (by (rw [typeLookup_type, builtinLookup_eq_fast]; kernel_rfl)) (by decide +kernel) (by decide +kernel) (by decide +kernel) (by first | exact (.inl (by decide +kernel)) | exact (.inr (by decide +kernel))) (by (rw [isSubtype_type]; kernel_rfl))
    entry := entry_object_sa, kind := (by decide +kernel), split := (by decide +kernel), hasOwner := (by decide +kernel), args := (fun x y z => by (unfold argsOk; kernel_rfl)), passes := (fun self => by kernel_rfl) }
end PySem.F
namespace T
open PySem PySem.Spec PyProof.Rows L2 Z RZ
abbrev bKE : Bs := ⟨"KeyError", "LookupError.__new__", "KeyError.__init__", [.type "KeyError", .type "LookupError", .type "Exception", .type "BaseException", .type "object"]⟩
abbrev bAE : Bs := ⟨"ArithmeticError", "ArithmeticError.__new__", "ArithmeticError.__init__", [.type "ArithmeticError", .type "Exception", .type "BaseException", .type "object"]⟩
theorem bs_KE : BsOk bKE :=
  ⟨⟨_, _, _, PySem.F.excBase_LookupError, by decide +kernel⟩, by decide +kernel, by decide +kernel, by decide +kernel, by decide +kernel, by decide +kernel, by decide +kernel, by kernel_rfl, excClass_KeyError.initEntry, by decide +kernel, PySem.F.storeKE⟩
theorem bs_AE : BsOk bAE := .of PySem.F.excBase_ArithmeticError PySem.F.store_ArithmeticError
theorem bx_KeyError : bootBuiltins "KeyError" = some (.type "KeyError") := by decide +kernel
theorem bx_ArithmeticError : bootBuiltins "ArithmeticError" = some (.type "ArithmeticError") := by decide +kernel
theorem ty_KeyErr : typeOf (.type bKE.B) = pure (.type "type") := by kernel_rfl
theorem ty_ArithErr : typeOf (.type bAE.B) = pure (.type "type") := by kernel_rfl
theorem ty_LookErr : typeOf (.type bLE.B) = pure (.type "type") := by kernel_rfl
theorem ty_RunErr : typeOf (.type bRT.B) = pure (.type "type") := by kernel_rfl
/-- the line of classes behind C -/
def MroOf (K : PySem.W.Frag) (C : Addr) (bm : List Value) : Prop := ∃ cd, PySem.W.clsIn K C = some cd ∧ cd.mro = .ref C :: bm
theorem mro_of {K : PySem.W.Frag} {nm q : Str} {C N : Addr} {bs bm : List Value} {hdct : Bool} {sn : List Str} {sub : List Value} {ab : Bool} {col : Option Bool} {dd : Option Addr} {k0 k1 k2 k3 k5 : Option Value} {nw : String} (h : K.lookup C = some (excClassObj nm q C N bs bm hdct sn sub ab col dd k0 k1 k2 k3 k5 nw)) : MroOf K C bm :=
  ⟨{ name := nm, bases := bs, mro := .ref C :: bm, ns := N, qualname := q, hasDict := hdct, slotNames := sn, subclasses := sub, abstract := ab, collection := col, hasDel := false }, by unfold PySem.W.clsIn; rw [h] <;> rfl, rfl⟩
theorem MroOf.sub {K : PySem.W.Frag} {C : Addr} {bm : List Value} (m : MroOf K C bm) (x : Value) : PySem.W.subIn K (.ref C) x = some ((Value.ref C :: bm).contains x) := by
  obtain ⟨cd, hc, hm⟩ := m
  show PySem.W.mroIn K C x = _
  unfold PySem.W.mroIn
  rw [hc, Option.bind_some, hm, if_neg (show ¬ (Value.ref C :: bm).isEmpty = true from by simp)]
theorem MroOf.kitR {K : PySem.W.Frag} {C D : Addr} {bm : List Value} (m : MroOf K C bm) (h2 : PySem.W.isClsIn K D = true) (h3 : PySem.W.typeIn K (.ref D) = some (.type "type")) : PySem.W.kitOne K (.ref C) (clU (.ref D)) = some ((Value.ref C :: bm).contains (.ref D)) := by
  show PySem.W.kitOne K (.ref C) (.ref D) = _
  unfold PySem.W.kitOne
  by_cases e : C = D
  · subst e
    rw [if_pos (beq_self_eq_true (Value.ref C)), List.contains_cons, beq_self_eq_true (Value.ref C)]; rfl
  · rw [if_neg (by simpa using e)]; exact kcls_ref h2 h3 (m.sub _)
theorem MroOf.kitT {K : PySem.W.Frag} {C : Addr} {bm : List Value} {B : String} (m : MroOf K C bm) (h : PySem.W.kitMeta B = true) : PySem.W.kitOne K (.ref C) (clU (.ty B)) = some ((Value.ref C :: bm).contains (.type B)) := kit_ty h (m.sub _)
/-! a list into two names -/
def gTL (n : Nat) (ms : TGL) : TGD := fun d ρ Φ => ∃ ds, d = .list ds ∧ ds.length = n ∧ ms ds ρ Φ
theorem jg_lst {K : PySem.W.Frag} {sl : List Nat} {gs : TGs} {ms : TGL} {n : Nat} (j : JGL K sl gs ms) : JG K sl (gLst K n gs) (gTL n ms) := by
  intro σ F h hx H ρ v d Φ Q s en r q k
  obtain ⟨ds, rfl, hn, q⟩ := q
  cases r with
  | lst hq ra => exact ⟨_, _, rfl, SqL.of (s.f _ _ hq), by rw [ra.len, hn], j s en ra q k⟩
theorem ev_gTL {k : Nat} {ms : TGL} {ds : List PyData} {o : O} {ρ : EnvT} {P : EnvT → Prop} : gTL k ms (.list ds) (o :: ρ) P = (ds.length = k ∧ ms ds (o :: ρ) P) := by
  unfold gTL
  exact propext ⟨fun ⟨x, e, h⟩ => by cases e; exact h, fun h => ⟨ds, rfl, h⟩⟩
/-! i in (i1, ..) -/
theorem flats_ints : ∀ ns : List Int, flats (ns.map .int) = some (ns.map V.int)
  | [] => by unfold flats; rfl
  | z :: ns => by rw [List.map_cons]; unfold flats; rw [flats_ints ns]; rfl
theorem inV_int {i : Int} : ∀ ns : List Int, inV (.int i) (ns.map V.int) = decide (i ∈ ns)
  | [] => rfl
  | z :: ns => by
    show ((z == i) || inV (.int i) (ns.map V.int)) = _
    rw [inV_int ns, show (z == i) = decide (i = z) from decide_eq_decide.mpr ⟨Eq.symm, Eq.symm⟩, ← Bool.decide_or]
    exact decide_eq_decide.mpr List.mem_cons.symm
theorem ev_inIs {i : Int} (ns : List Int) {Φp : O → Prop} : inD false (.int i) (.tuple (ns.map .int)) Φp = Φp (.fz (.bool (decide (i ∈ ns)))) := by
  have e : inB (.int i) (.tuple (ns.map .int)) = some (decide (i ∈ ns)) := by
    show (match flat1 (.int i), flats (ns.map .int) with
      | some x, some ys => some (inV x ys)
      | _, _ => none) = _
    rw [flats_ints]
    show some (inV (.int i) (ns.map V.int)) = _
    rw [inV_int]
  unfold inD
  exact propext ⟨fun ⟨x, e', h⟩ => by rw [e] at e'; cases e'; exact h, fun h => ⟨_, e, h⟩⟩
section
variable {i a b c d e f g : Int} {Φp : O → Prop}
theorem ev_in2 : inD false (.int i) (.tuple [.int a, .int b]) Φp = Φp (.fz (.bool (decide (i ∈ [a, b])))) := ev_inIs [a, b]
theorem ev_in3 : inD false (.int i) (.tuple [.int a, .int b, .int c]) Φp = Φp (.fz (.bool (decide (i ∈ [a, b, c])))) := ev_inIs [a, b, c]
theorem ev_in4 : inD false (.int i) (.tuple [.int a, .int b, .int c, .int d]) Φp = Φp (.fz (.bool (decide (i ∈ [a, b, c, d])))) := ev_inIs [a, b, c, d]
theorem ev_in7 : inD false (.int i) (.tuple [.int a, .int b, .int c, .int d, .int e, .int f, .int g]) Φp = Φp (.fz (.bool (decide (i ∈ [a, b, c, d, e, f, g])))) := ev_inIs [a, b, c, d, e, f, g]
end
/-! messages -/
section
variable {ms : List TD} {ρ : EnvT} {Φ : O → EnvT → Prop} {Ξ : Exn → EnvT → Prop} {L k n i : Nat} {d : PyData} {z : Str} {j : Int}
theorem mj_nil (h : ∀ o, Φ o ρ) : ∀ acc : Str, acc.length ≤ L → mJs [] acc ρ Φ Ξ := fun acc _ => h _
theorem mj_c (hz : z.length ≤ 1000) (hL : L ≤ 900000) (r : ∀ acc : Str, acc.length ≤ L + 1000 → mJs ms acc ρ Φ Ξ) : ∀ acc : Str, acc.length ≤ L → mJs (mC (.str z) :: ms) acc ρ Φ Ξ := fun acc h => by
  have hl : (acc ++ z).length ≤ L + 1000 := by rw [strLen_append]; omega
  exact ⟨z, rfl, by omega, r _ hl⟩
theorem mj_R (e : ρ[i]? = some (.fz d)) (s : Sm k n d) (hk : k ≤ 40) (hn : n ≤ 50000) (hL : L ≤ 900000) (r : ∀ acc : Str, acc.length ≤ L + 50000 → mJs ms acc ρ Φ Ξ) : ∀ acc : Str, acc.length ≤ L → mJs (mFmt fmtRG (mVar i) :: ms) acc ρ Φ Ξ := fun acc h => by
  have hl : (acc ++ d.shown).length ≤ L + 50000 := by rw [strLen_append]; have := s.ln; omega
  exact ⟨_, e, rfl, d, fz_fz, d, rfl, s.sh, by have := s.ln; omega, Nat.le_trans s.dp hk, _, rfl, by omega, r _ hl⟩
theorem mj_I (e : ρ[i]? = some (.fz (.int j))) (s : Sm k n (.int j)) (hn : n ≤ 50000) (hL : L ≤ 900000) (r : ∀ acc : Str, acc.length ≤ L + 50000 → mJs ms acc ρ Φ Ξ) : ∀ acc : Str, acc.length ≤ L → mJs (mFmt fmtG (mVar i) :: ms) acc ρ Φ Ξ := fun acc h => by
  have hs : (Str.ofString (toString j)).length ≤ n := s.ln
  have hl : (acc ++ Str.ofString (toString j)).length ≤ L + 50000 := by rw [strLen_append]; omega
  refine ⟨.fz (.int j), e, rfl, .int j, fz_fz, .int j, rfl, of_decide_eq_true s.sh, _, rfl, by omega, r _ hl⟩
theorem mj_S (e : ρ[i]? = some (.fz (.str z))) (hz : z.length ≤ 50000) (hL : L ≤ 900000) (r : ∀ acc : Str, acc.length ≤ L + 50000 → mJs ms acc ρ Φ Ξ) : ∀ acc : Str, acc.length ≤ L → mJs (mFmt fmtG (mVar i) :: ms) acc ρ Φ Ξ := fun acc h => by
  have hl : (acc ++ z).length ≤ L + 50000 := by rw [strLen_append]; omega
  refine ⟨.fz (.str z), e, rfl, .str z, fz_fz, .str z, rfl, by omega, _, rfl, by omega, r _ hl⟩
theorem mj_L {ds : List PyData} (e : ρ[i]? = some (.fz (.list ds))) (s : Sm k n (.list ds)) (hk : k ≤ 40) (hn : n ≤ 50000) (hL : L ≤ 900000) (r : ∀ acc : Str, acc.length ≤ L + 50000 → mJs ms acc ρ Φ Ξ) : ∀ acc : Str, acc.length ≤ L → mJs (mFmt fmtG (mVar i) :: ms) acc ρ Φ Ξ := fun acc h => by
  have hl : (acc ++ (PyData.list ds).shown).length ≤ L + 50000 := by rw [strLen_append]; have := s.ln; omega
  refine ⟨.fz (.list ds), e, rfl, .list ds, fz_fz, .list ds, rfl, s.sh, by have := s.ln; omega, Nat.le_trans s.dp hk, _, rfl, by omega, r _ hl⟩
end
/-! lists of bools -/
theorem bools_eqv : ∀ bs : List Bool, PyData.eqvAll (bs.map .bool) (bs.map .bool) = true ∧ PyData.canLayAll0 (bs.map .bool) = true ∧ PyData.depthAll (bs.map PyData.bool) = 0
  | [] => ⟨rfl, rfl, rfl⟩
  | b :: bs => by
    obtain ⟨x, y, z⟩ := bools_eqv bs
    refine ⟨?_, ?_, ?_⟩
    · show ((b == b) && PyData.eqvAll (bs.map .bool) (bs.map .bool)) = true
      rw [x, beq_self_eq_true]; rfl
    · show (true && PyData.canLayAll0 (bs.map .bool)) = true
      rw [y]; rfl
    · show max 0 (PyData.depthAll (bs.map .bool)) = 0
      rw [z]; rfl
theorem ev_ne2 {as bs : List Bool} {Φp : O → Prop} : neD (.list [.list (as.map .bool), .list (bs.map .bool)]) (.list [.list (as.map .bool), .list (bs.map .bool)]) Φp = Φp (.fz (.bool false)) := by
  obtain ⟨x1, y1, z1⟩ := bools_eqv as
  obtain ⟨x2, y2, z2⟩ := bools_eqv bs
  have sh : SeqAt.shaped (.list [.list (as.map .bool), .list (bs.map .bool)]) = true := by
    show ((PyData.canLayAll0 (as.map .bool) && (PyData.canLayAll0 (bs.map .bool) && true)) && decide (max (PyData.depthAll (as.map PyData.bool) + 1) (max (PyData.depthAll (bs.map PyData.bool) + 1) 0) + 1 ≤ 64)) = true
    rw [y1, y2, z1, z2]; rfl
  have eq : PyData.eqv (.list [.list (as.map .bool), .list (bs.map .bool)]) (.list [.list (as.map .bool), .list (bs.map .bool)]) = true := by
    show (PyData.eqvAll (as.map .bool) (as.map .bool) && (PyData.eqvAll (bs.map .bool) (bs.map .bool) && true)) = true
    rw [x1, x2]; rfl
  have e : (if SeqAt.shaped (.list [.list (as.map .bool), .list (bs.map .bool)]) = true ∧ SeqAt.shaped (.list [.list (as.map .bool), .list (bs.map .bool)]) = true then some (PyData.eqv (.list [.list (as.map .bool), .list (bs.map .bool)]) (.list [.list (as.map .bool), .list (bs.map .bool)])) else none) = some true := by
    rw [if_pos ⟨sh, sh⟩, eq]
  unfold neD
  refine propext ⟨fun ⟨x, e', h⟩ => ?_, fun h => ⟨_, e, h⟩⟩
  have e'' := e.symm.trans e'
  cases e''
  exact h
section
variable {K : PySem.W.Frag} {o : O} {ρ : EnvT} {Φ : O → EnvT → Prop} {Ξ : Exn → EnvT → Prop} {C : Addr} {fs : List Str} {G : List PyData → Prop} {ml : TL} {ma : TD} {f : Str} {g : Value → Option Bool}
theorem ev_mkV : mMkV C fs G ml (o :: ρ) Φ Ξ = ml (o :: ρ) (fun os ρ1 => ∃ ds, fzL os = some ds ∧ os.length = fs.length ∧ fs.length ≤ 900 ∧ G ds ∧ Φ (.exv C (rz fs ds [])) ρ1) Ξ := rfl
theorem ev_mkV0 : mMkV0 C ma (o :: ρ) Φ Ξ = ma (o :: ρ) (fun _ ρ1 => Φ (.exv C []) ρ1) Ξ := rfl
theorem ev_xvF : mXvF K ma f (o :: ρ) Φ Ξ = ma (o :: ρ) (fun o ρ1 => ∃ C fs v, o = .exv C fs ∧ (ExC K C ∧ PySem.W.findIn K (.ref C) f = some none) ∧ fs.lookup f = some v ∧ Φ (.fz v) ρ1) Ξ := rfl
theorem ev_xvI : mXvI K g ma (o :: ρ) Φ Ξ = ma (o :: ρ) (fun o ρ1 => ∃ C fs, o = .exv C fs ∧ ExC K C ∧ ∃ r, g (.ref C) = some r ∧ Φ (.fz (.bool r)) ρ1) Ξ := rfl
theorem len_exv {gs : List (Str × PyData)} : lent (.exv C gs) = .exv C gs := by unfold lent; rfl
end
end T

/-! T31: sets of texts; set comprehensions with two clauses; sorted of such. -/
namespace SX
open PySem PySem.Spec PyProof.Rows L2 PySem.Froz
def kX (e : Int × Value) : Str := match e.2 with
  | .str k _ => k
  | _ => Str.empty
/-- the set's payload holds the texts l, and can be walked -/
structure Ok (P : Program) (w : World) (D : SD) (l : List Str) : Prop where
  tx : TxOk P w D l
  ris : Ris D.2.2.place.toList
  led : w.params.followText "set-order" = true ∨ D.2.2.led = true
  ks : (D.1.toList.map kX).Perm l
  vs : ∀ e ∈ D.1.toList, ∃ k u, e.2 = Value.str k u
def ins (k : Str) (l : List Str) : List Str := if k ∈ l then l else k :: l
section
variable {P : Program} {w : World} {A : Around} {E : Value → Shared → Prop} {s : Shared}
theorem Ok.add {D : SD} {l : List Str} {k : Str} (u : Tok) (F : Ok P w D l) : Ok P w (addTx (hashStr w k) (.str k u) D) (k :: l) := by
  suffices z : Ris (addTx (hashStr w k) (.str k u) D).2.2.place.toList ∧ (w.params.followText "set-order" = true ∨ (addTx (hashStr w k) (.str k u) D).2.2.led = true) ∧ ((addTx (hashStr w k) (.str k u) D).1.toList.map kX).Perm (k :: l) ∧ ∀ e ∈ (addTx (hashStr w k) (.str k u) D).1.toList, ∃ k u, e.2 = Value.str k u from ⟨add_ok u F.tx, z.1, z.2.1, z.2.2.1, z.2.2.2⟩
  obtain ⟨es, ep, t⟩ := D
  have p1 := layNew_perm t es (hashStr w k) (.str k u)
  have r1 := layNew_ris t es (hashStr w k) (.str k u) F.ris
  have l1 := layNew_led t es (hashStr w k) (.str k u)
  have fl := F.led
  have fk := F.ks
  have fv := F.vs
  unfold addTx
  dsimp only
  generalize layNew t es (hashStr w k) (.str k u) = L at p1 r1 l1 ⊢
  obtain ⟨es1, t1, wd, gv⟩ := L
  dsimp only at p1 r1 l1 fl fk fv ⊢
  rw [Array.toList_push] at p1
  have q1 : (es1.toList.map kX).Perm (k :: l) := by
    refine (p1.map kX).trans ?_
    rw [List.map_append]
    exact (List.perm_append_comm).trans (List.Perm.cons _ fk)
  have v1 : ∀ e ∈ es1.toList, ∃ k u, e.2 = Value.str k u := fun e he => by
    rcases List.mem_append.mp (p1.mem_iff.mp he) with h | h
    · exact fv e h
    · rw [List.mem_singleton.mp h]; exact ⟨_, _, rfl⟩
  have r2 : Ris (if t1.plain = true then { t1 with plain := false } else t1).place.toList := by split <;> exact r1
  have l2 : w.params.followText "set-order" = true ∨ (if t1.plain = true then { t1 with plain := false } else t1).led = true := fl.imp id fun z => by
    have : t1.led = true := by rw [l1]; exact z
    split <;> exact this
  generalize (if t1.plain = true then { t1 with plain := false } else t1) = t2 at r2 l2 ⊢
  unfold tailTx
  split
  · have p2 := relayAll_perm t2 es1 (SetTable.grown es1.size)
    exact ⟨relayAll_ris t2 es1 _, l2.imp id fun z => (relayAll_led t2 es1 _).trans z, (p2.map kX).trans q1, fun e he => v1 e (p2.mem_iff.mp he)⟩
  · exact ⟨r2, l2, q1, v1⟩
theorem old_x {a : Addr} {T : String} {D : SD} {l : List Str} {k : Str} {u : Tok} {Q : Bool → Shared → Prop} (ho : s.heap.get? a = some (sObj T D)) (F : TxOk P w D l) (hk : k ∈ l) (hb : l.length < scanBound)
    (h : Q false s) : wpAny (model P w) A (setAddHashed a (.str k u) (hashStr w k)) Q E s := by
  obtain ⟨es, ep, t⟩ := D
  have fit : t.fits es.size = true := F.fit
  have el : ElemsOf (strKind P w) es.toList := F.el
  have sz : es.size < scanBound := by have z : es.size = l.length := F.sz; omega
  obtain ⟨e, he, q⟩ := (F.mem k).mp hk
  unfold setAddHashed setAddHashedIn
  refine wpAny_holding (wpAny_bind (wpAny_setState_of ho rfl fit ?_))
  dsimp only
  rw [byScan_of (show (Value.str k u).scannable = true from rfl) sz el]
  simp only [↓reduceIte]
  unfold setAddByScan
  refine wpAny_bind (wpAny_bind (wpAny_rule (wpAny_bind (wpAny_setScan_of (knd := strKind P w) (k := k) (is_str k u) ho rfl fit el ?_))))
  cases hf : List.findIdx? (fun e => (strKind P w).is k e.2) es.toList with
  | none =>
    have := List.findIdx?_eq_none_iff.mp hf e he
    rw [q] at this
    cases this
  | some j => exact wpAny_pure (wpAny_pure h)
/-- set.add of a text -/
theorem call_add {a : Addr} {D : SD} {l : List Str} {k : Str} {u : Tok} {Q : Value → Shared → Prop} (ho : s.heap.get? a = some (sObj "set" D)) (G : Ok P w D l) (hb : l.length + 1 < scanBound)
    (hQ : ∀ h' D', h'.get? a = some (sObj "set" D') → (∀ b, b ≠ a → h'.get? b = s.heap.get? b) → Ok P w D' (ins k l) → Q .none { s with heap := h', toks := s.toks + 1 }) :
    wpAny (model P w) A (call (.builtin "set.add") [.ref a, .str k u]) Q E s := by
  refine wpAny_call_entry F.slot_set_add ⟨_, ho, rfl⟩ F.entry_set_add ?_ (F.args_set_add_2 _ _)
  unfold Builtin.«set.add» Builtin.Frozenset.oneOther
  simp only [List.isEmpty_nil, bind_assoc]
  unfold Builtin.Frozenset.addrOf setAdd
  refine wpAny_bind (wpAny_pure ?_)
  try dsimp only
  refine wpAny_bind (wpAny_pure ?_)
  try dsimp only
  refine wpAny_bind (wpAny_holding (wpAny_bind ((strKind P w).pyHash (is_str k u) ?_)))
  by_cases hk : k ∈ l
  · refine old_x (s := { s with toks := s.toks + 1 }) ho G.tx hk (by omega) ?_
    show wpAny _ _ (ret Value.none) _ _ _
    have q := hQ s.heap D ho (fun _ _ => rfl) (by unfold ins; rw [if_pos hk]; exact G)
    exact wpAny_pure ⟨_, rfl, q⟩
  · refine add_x (s := { s with toks := s.toks + 1 }) ho G.tx hk hb ?_
    show wpAny _ _ (ret Value.none) _ _ _
    have q := hQ (s.heap.update a fun _ => sObj "set" (addTx (hashStr w k) (.str k u) D)) _ (get_upd _ ho rfl) (fun b hb => Heap.get?_update_other _ _ (Ne.symm hb)) (by unfold ins; rw [if_neg hk]; exact G.add u)
    exact wpAny_pure ⟨_, rfl, q⟩
theorem Ok.new : Ok P w (#[], 0, .fresh 0 0 (!w.params.followText "set-order")) [] where
  tx := .nil rfl
  ris := List.Pairwise.nil
  led := by
    show _ ∨ (!w.params.followText "set-order") = true
    cases w.params.followText "set-order"
    · exact .inr rfl
    · exact .inl rfl
  ks := .refl _
  vs := fun _ h => by simp at h
end
/-- the set of texts at a -/
def At (P : Program) (w : World) (h : Heap) (a : Addr) (l : List Str) : Prop := ∃ D, h.get? a = some (sObj "set" D) ∧ Ok P w D l
def SetX (P : Program) (w : World) (a : Addr) (l : List Str) : HO := .ext fun h => At P w h a l
theorem At.same {P : Program} {w : World} {h h' : Heap} {a : Addr} {l : List Str} (R : At P w h a l) (k : ∀ o, h.get? a = some o → h'.get? a = some o) : At P w h' a l := by
  obtain ⟨D, h1, h2⟩ := R
  exact ⟨D, k _ h1, h2⟩
theorem setX_ok {P : Program} {w : World} {H : Hp} {h : Heap} {a : Addr} {l : List Str} (R : At P w h a l) : ObjOk P w H h a (SetX P w a l) := by
  have ⟨_, h1, _⟩ := R
  exact ⟨R, ⟨_, h1⟩, fun _ _ p k => At.same p k⟩
section
variable {X : Cx} {pins : List (Addr × Obj)} {σ : L2.St} {H : Hp} {s : Shared} {E : Value → Shared → Prop}
theorem setX_at {a : Addr} {l : List Str} (I : Inv X pins σ H s) (ha : H a = some (SetX X.prog X.w a l)) : At X.prog X.w s.heap a l := (I.hok a _ ha).1
theorem add_i {a : Addr} {l : List Str} {k : Str} {v : Value} {Q : Value → Shared → Prop} (I : Inv X pins σ H s) (ha : H a = some (SetX X.prog X.w a l)) (hb : l.length + 1 < scanBound) (r : RelV (.str k) v)
    (h : ∀ s', Inv X pins σ (upd H a (SetX X.prog X.w a (ins k l))) s' → Q .none s') : wpAny (model X.prog X.w) X.A (call (.builtin "set.add") [.ref a, v]) Q E s := by
  obtain ⟨u, rfl⟩ := r
  obtain ⟨D, ho, F⟩ := setX_at I ha
  refine call_add ho F hb fun h' D' h1 h2 h3 => h _ ?_
  exact I.write (e := a) (t' := s.toks + 1) (by rw [ha]; trivial) (.inl rfl) (fun b u hb hu => (h2 b hb).trans hu) ⟨_, h1⟩ (setX_ok ⟨D', h1, h3⟩)
end
/-- sorted(s) of a set of texts -/
def rSrtX (P : Program) (w : World) : List V → Hp → VK → Prop := fun xs H Q => ∃ (a : Addr) (l : List Str), xs = [V.ref a] ∧ H a = some (SetX P w a l) ∧ l.length < scanBound ∧
  ∀ (ys : List Str) (p : Addr), ys.Perm l → sortedS ys = true → H p = none → Q (.ref p) (upd H p (.lst (ys.map V.str)))
theorem strs_of : ∀ (l : List (Int × Value)) (vs : List Value), vs.Perm (l.map (·.2)) → (∀ e ∈ l, ∃ k u, e.2 = Value.str k u) → ∃ xs, StrsAre vs xs ∧ xs.Perm (l.map kX) := by
  intro l vs p h
  have hv : ∀ v ∈ vs, ∃ k u, v = Value.str k u := fun v hv => by
    obtain ⟨e, he, rfl⟩ := List.mem_map.mp (p.mem_iff.mp hv)
    exact h e he
  refine ⟨vs.map strOf, ?_, ?_⟩
  · exact strsAre_map vs hv
  · refine (p.map strOf).trans ?_
    rw [List.map_map]
    refine List.Perm.of_eq (List.map_congr_left fun e he => ?_)
    obtain ⟨k, u, q⟩ := h e he
    show strOf e.2 = kX e
    unfold kX
    rw [q]; rfl
theorem cr_srtX {X : Cx} (hc : X.calm = true) : CallR X (.builtin "sorted") (rSrtX X.prog X.w) := by
  intro pins s σ H xs us Q I r h
  obtain ⟨a, l, rfl, ha, hl, q⟩ := h
  obtain ⟨D, ho, F⟩ := setX_at I ha
  obtain ⟨es, ep, t⟩ := D
  rw [Vals.ref1 r]
  have sz : es.size = l.length := F.tx.sz
  have sb : es.size < scanBound := by omega
  refine Calls.call_function_entry kind_sorted plain_sorted entry_sorted (args_sorted1 _) ?_
  unfold Builtin.«sorted»
  refine wpAny_bind (m := checkCount "sorted" 1 1 _) (wpAny_pure ?_)
  refine wpAny_bind (collect_set (A := X.A.in1) (ep := ep) (I.ok.hd hc) ⟨_, ho, rfl, rfl⟩ F.tx.fit sb F.ris F.led fun s1 vs k1 hz g1 o1 pm => ?_)
  obtain ⟨zs, S, pz⟩ := strs_of es.toList vs pm F.vs
  have lv : vs.length = l.length := by rw [pm.length_eq, List.length_map, Array.length_toList]; exact sz
  have hs : vs.length ≤ sizeLine := by rw [lv]; exact fits_of_scanBound hl
  refine wpAny_bind (wpAny_newList ?_ hs)
  have hoL : (s1.heap.push (seqObj "list" vs.toArray 0)).get? s1.heap.objs.size = some (seqObj "list" vs.toArray 0) := Heap.get?_push_size _ rfl
  refine wpAny_bind (wpAny_holding (wpAny_call_entry slot_list_sort ⟨_, hoL, rfl⟩ entry_list_sort (list_sort_treeKAny strKind_oneLt hoL S.keysOf (fun v₁ v₂ rest e => keyKind_strs (by rw [← e]; exact S)) hs fun st' hp hsr => ⟨_, rfl, ?_⟩) (args_list_sort _)))
  obtain ⟨ys, y1, y2, y3⟩ := sorted_out_str S hp hsr
  generalize ((arrOf st').map (·.2)) = out at y1 ⊢
  obtain ⟨c, hcx⟩ := sortedHeap_at (vs := vs) (out := out) hoL
  have kk : ∀ b o, s.heap.get? b = some o → (sortedHeap (s1.heap.push (seqObj "list" vs.toArray 0)) s1.heap.objs.size vs out).get? b = some o := fun b o z => by
    have z1 := k1 b o z
    have lt := Heap.lt_size z1
    rw [sortedHeap_old (Nat.ne_of_lt lt) (by rw [size_push']; exact Nat.lt_succ_of_lt lt)]
    exact Heap.get?_push_of_some _ z1
  have hn : H s1.heap.objs.size = none := I.hok.fresh hz
  have yl : (ys.map V.str).length ≤ sizeLine := by rw [List.length_map, (y2.trans (pz.trans F.ks)).length_eq]; exact fits_of_scanBound hl
  refine wpAny_pure ⟨_, rfl, ?_⟩
  refine ⟨.ref s1.heap.objs.size, upd H s1.heap.objs.size (.lst (ys.map V.str)), ?_, rfl, q ys _ (y2.trans (pz.trans F.ks)) y3 hn⟩
  have J : Inv X pins σ (upd H s1.heap.objs.size (.lst (ys.map V.str))) { s with heap := sortedHeap (s1.heap.push (seqObj "list" vs.toArray 0)) s1.heap.objs.size vs out, gens := s1.gens, drawn := s1.drawn, toks := s1.toks } :=
    I.call (ch := []) (Un.laid kk hz hn) (I.hok.laid kk hz ⟨yl, out.toList, c, vals_of_strs y1, hcx⟩) (by rw [g1]; exact I.bare) (fun _ z => nomatch z)
  cases s1
  cases s
  cases o1
  exact J
end SX

/-! T32: set comprehensions with two clauses. -/
namespace SX
open PySem PySem.Spec PyProof.Rows L2 PySem.Froz
section
variable {prog : Program} {w : World} {A : Around} {R : Result → Shared → Prop} {s : Shared} {env : Env}
abbrev WB := (Shared → Prop) → (Value → Shared → Prop) → Shared → Prop
/-- bk k: the body, then k -/
structure BkOk (prog : Program) (w : World) (A : Around) (bk : Sem PySem.Fin → Sem PySem.Fin) (wb : WB) : Prop where
  run : ∀ (k : Sem PySem.Fin) (s : Shared) (Q : PySem.Fin → Shared → Prop) (E : Value → Shared → Prop), wb (fun s1 => wpAny (model prog w) A k Q E s1) E s → wpAny (model prog w) A (bk k) Q E s
  mono : ∀ {N N' : Shared → Prop} {E : Value → Shared → Prop} {s : Shared}, wb N E s → (∀ s1, N s1 → N' s1) → wb N' E s
/-- one turn of a clause whose body is given -/
def turnOf (e : Expr) (d : Nat) (p0 : Pos) (t0 : Expr) (ifs0 : List Expr) (bk : Sem PySem.Fin → Sem PySem.Fin) (it acc : Value) (env : Env) : Sem PySem.Fin := do
  standAt p0
  match ← pyNext it with
  | none => pure (.done .next)
  | some v =>
    letOwnedTupleGo t0 it v
    assign t0 env v
    let mut ok := true
    for c in ifs0 do
      if ok then ok ← isTrue c env (eval c env)
    if ok then bk (again (.compLoop e d it acc env)) else again (.compLoop e d it acc env)
theorem loopB {elt : Expr} {gens : List Comprehension} {scope : Scope} {pos : Pos} {d : Nat} {p0 : Pos} {t0 : Expr} {ifs0 : List Expr} {bk : Sem PySem.Fin → Sem PySem.Fin} {wb : WB} {it acc : Value} (ht : compTurn (.SetComp elt gens scope pos) d it acc env = turnOf (.SetComp elt gens scope pos) d p0 t0 ifs0 bk it acc env) (hk : BkOk prog w A bk wb) (I : Nat → Shared → Prop)
    (turn : ∀ n s, I n s → wpAny (model prog w) A (pyNext it) (fun r s1 => match r with
      | none => R (.ok .next) s1
      | some v => wpAny (model prog w) A (letOwnedTupleGo t0 it v) (fun _ s2 => wpAny (model prog w) A (assign t0 env v) (fun _ s3 =>
          wpAny (model prog w) A (forIn ifs0 true fun c r => if r = true then do let ok ← isTrue c env (eval c env); pure (ForInStep.yield ok) else pure (ForInStep.yield r)) (fun ok s4 =>
            if ok = true then wb (fun s5 => ∃ m, m < n ∧ I m s5) (notedBy (model prog w) A env fun e s' => R (.error e) s') s4
            else ∃ m, m < n ∧ I m s4) (notedBy (model prog w) A env fun e s' => R (.error e) s') s3) (notedBy (model prog w) A env fun e s' => R (.error e) s') s2) (notedBy (model prog w) A env fun e s' => R (.error e) s') s1) (notedBy (model prog w) A env fun e s' => R (.error e) s') s)
    (n : Nat) (h : I n s) : codeAny (model prog w) A (.compLoop (.SetComp elt gens scope pos) d it acc env) R s := by
  refine codeAny_loop rfl I (fun n s hI => ?_) n h
  show wpAny _ A ((compTurn (.SetComp elt gens scope pos) d it acc env).onRaise (fun x => do noteFrame x env; theTreesLotGoes x)) _ _ s
  refine wpAny_noted ?_
  rw [ht]
  unfold turnOf
  refine wpAny_bind (wpAny_standAt (wpAny_bind (wpAny_mono (turn n s hI) (fun r s1 h1 => ?_) fun _ _ z => z)))
  cases r with
  | none => exact wpAny_pure h1
  | some v =>
    refine wpAny_bind (wpAny_mono h1 (fun _ s2 h2 => wpAny_bind (wpAny_mono h2 (fun _ s3 h3 => wpAny_bind (wpAny_mono h3 (fun ok s4 h4 => ?_) fun _ _ z => z)) fun _ _ z => z)) fun _ _ z => z)
    cases ok with
    | false => exact wpAny_pure ⟨rfl, h4⟩
    | true => exact hk.run _ _ _ _ (hk.mono h4 fun s5 h5 => wpAny_pure ⟨rfl, h5⟩)
variable {elt t0 i0 t1 i1 : Expr} {ifs0 ifs1 : List Expr} {scope : Scope} {pos : Pos} {it acc : Value}
theorem turn_out : compTurn (.SetComp elt [⟨t0, i0, ifs0, 0⟩, ⟨t1, i1, ifs1, 0⟩] scope pos) 0 it acc env = turnOf (.SetComp elt [⟨t0, i0, ifs0, 0⟩, ⟨t1, i1, ifs1, 0⟩] scope pos) 0 i0.pos t0 ifs0 (fun k => do
      let x ← eval i1 env
      standAt i1.pos
      let x ← foldedSetIterable i1 env x
      let _ ← runOwn (.compStart (.SetComp elt [⟨t0, i0, ifs0, 0⟩, ⟨t1, i1, ifs1, 0⟩] scope pos) 1 (← holding [x] (pyIter x)) acc env) env
      k) it acc env := by rfl
theorem turn_in : compTurn (.SetComp elt [⟨t0, i0, ifs0, 0⟩, ⟨t1, i1, ifs1, 0⟩] scope pos) 1 it acc env = turnOf (.SetComp elt [⟨t0, i0, ifs0, 0⟩, ⟨t1, i1, ifs1, 0⟩] scope pos) 1 i1.pos t1 ifs1
      (fun k => (do let v ← eval elt env; standAt elt.pos; let _ ← call (.builtin "set.add") [acc, v]) >>= fun _ => k) it acc env := by rfl
theorem start_1 (h0 : codeAny (model prog w) A (.compLoop (.SetComp elt [⟨t0, i0, ifs0, 0⟩, ⟨t1, i1, ifs1, 0⟩] scope pos) 1 it acc env) R s)
    (h : wpAny (model prog w) A (pyIter it) (fun it' s' => codeAny (model prog w) A (.compLoop (.SetComp elt [⟨t0, i0, ifs0, 0⟩, ⟨t1, i1, ifs1, 0⟩] scope pos) 1 it' acc env) R s') (notedBy (model prog w) A env fun x s' => R (.error x) s') s) :
    codeAny (model prog w) A (.compStart (.SetComp elt [⟨t0, i0, ifs0, 0⟩, ⟨t1, i1, ifs1, 0⟩] scope pos) 1 it acc env) R s := by
  refine codeAny_of_tree ?_
  show wpAny _ _ ((compStart (.SetComp elt [⟨t0, i0, ifs0, 0⟩, ⟨t1, i1, ifs1, 0⟩] scope pos) 1 it acc env).onRaise (fun x => do noteFrame x env; standAt theWindowsPlace)) _ _ s
  refine wpAny_notedAt ?_
  unfold compStart
  show wpAny _ _ (ask >>= _) _ _ s
  refine wpAny_bind (wpAny_askSetting (wpAny_ite ?_))
  split
  · first
      | exact wpAny_bind (wpAny_pure (wpAny_pure ⟨rfl, h0⟩))
      | exact wpAny_pure ⟨rfl, h0⟩
  · refine wpAny_bind (wpAny_rule ?_)
    first
      | exact wpAny_bind (wpAny_standAt (wpAny_bind (wpAny_mono h (fun it' s' z => wpAny_pure ⟨rfl, z⟩) fun _ _ x => x)))
      | (show wpAny _ _ (standAt i1.pos >>= _) _ _ s; exact wpAny_bind (wpAny_standAt (wpAny_bind (wpAny_mono h (fun it' s' z => wpAny_pure ⟨rfl, z⟩) fun _ _ x => x))))
end
/-- σ knows what β knows -/
def Wk (β σ : L2.St) : Prop := β.length = σ.length ∧ ∀ (j : Nat) v, β[j]? = some (some v) → σ[j]? = some (some v)
theorem Wk.refl {β : L2.St} : Wk β β := ⟨rfl, fun _ _ h => h⟩
theorem Wk.trans {a b c : L2.St} (x : Wk a b) (y : Wk b c) : Wk a c := ⟨x.1.trans y.1, fun j v h => y.2 j v (x.2 j v h)⟩
theorem Wk.wipe {σ : L2.St} {vs : List Nat} : Wk (L2.wipe σ vs) σ := ⟨wipe_length σ vs, fun j v e => (wipe_some e).1⟩
abbrev TBd := L2.St → Hp → (Hp → Prop) → Prop
/-- a clause's loop: what each turn needs -/
def Lvl (J : It) (g : TG) (tt : TT) (tb : TBd) (β : L2.St) (Qs : Hp → Prop) (H0 : Hp) : Prop := ∃ W : Nat → Nat → Hp → Prop, (∃ m, W 0 m H0) ∧ ∀ i m H, W i m H →
  (J.stop i H ∧ Qs H) ∨ (J.go i H ∧ ∃ Nx : Hp → Prop, (∀ H', Nx H' → ∃ m', m' < m ∧ W (i + 1) m' H') ∧ ∀ x H', J.yld i H x H' → g x β H' fun σ2 H2 => Wk β σ2 ∧ tt σ2 H2 fun b H3 => if b = true then tb σ2 H3 Nx else Nx H3)
theorem lvl {Y : Cx} {tg : Expr} {g : TG} {ifs : List Expr} {tt : TT} {tb : TBd} {J : It} {fp : List Addr} {ia : Addr} {tn : Nat → Heap → Prop} {elt : Expr} {gens : List Comprehension} {scope : Scope} {pos : Pos} {d : Nat} {p0 : Pos} {bk : Sem PySem.Fin → Sem PySem.Fin} {wb : WB} {acc : Value} {pins : List (Addr × Obj)} {β : L2.St} {H0 : Hp} {s : Shared} {R : Result → Shared → Prop} {Qs : Hp → Prop}
    (hc : Y.calm = true) (hx : Y.xe = fun _ _ => False) (ht : compTurn (.SetComp elt gens scope pos) d (.ref ia) acc Y.env = turnOf (.SetComp elt gens scope pos) d p0 tg ifs bk (.ref ia) acc Y.env) (hk : BkOk Y.prog Y.w Y.A bk wb) (pg : PG Y tg g) (pt : PTs Y ifs tt) (T : Turn Y.prog Y.w Y.K tg J fp ia tn)
    (I : Inv Y pins β H0 s) (st : tn 0 s.heap) (f : ∀ b ∈ fp, FpOk Y pins H0 b)
    (hbody : ∀ pins' s' σ' H' N, Inv Y pins' σ' H' s' → Wk β σ' → tb σ' H' N → ∀ E, wb (fun s2 => ∃ σ2 H2, Inv Y pins' σ2 H2 s2 ∧ Wk β σ2 ∧ N H2) E s')
    (q : Lvl J g tt tb β Qs H0) (hR : ∀ s' H', Inv Y pins β H' s' → Qs H' → R (.ok .next) s') :
    codeAny (model Y.prog Y.w) Y.A (.compLoop (.SetComp elt gens scope pos) d (.ref ia) acc Y.env) R s := by
  obtain ⟨W, ⟨m0, w0⟩, turn⟩ := q
  have stat : ∀ {H' : Hp}, (∀ b ∈ fp, H' b = none) → ∀ b ∈ fp, FpOk Y pins H' b := fun hn b hb => ⟨hn b hb, (f b hb).2⟩
  refine loopB ht hk (fun n s' => ∃ i H', Inv Y pins β H' s' ∧ tn i s'.heap ∧ (∀ b ∈ fp, H' b = none) ∧ W i n H') ?_ m0 ⟨0, H0, I, st, fun b hb => (f b hb).1, w0⟩
  rintro n s5 ⟨i, H5, I5, st5, n5, w5⟩
  rcases turn i n H5 w5 with ⟨stop, qq⟩ | ⟨go, Nx, hNx, step⟩
  · refine thnF (T.done Y rfl rfl rfl hc i pins s5 β H5 (fun _ _ => False) I5 (stat n5) st5 stop) fun r s6 ⟨hr, I6⟩ => ?_
    subst hr
    exact hR _ _ I6 qq
  · refine thnF (T.item Y rfl rfl rfl hc i pins s5 β H5 (fun _ _ => False) I5 (stat n5) st5 go) fun r s6 ⟨u, hr, h6⟩ => ?_
    subst hr
    refine thnF h6 fun _ s7 ⟨x, H7, I7, r7, y7, st7, n7⟩ => ?_
    have I8 := I7.pinned (stat n7) (T.obj _ _ st7)
    have run := pg.run _ s7 β H7 x u _ I8 r7 (step x H7 y7)
    rw [hx] at run
    refine thnF run fun _ s8 ⟨σ8, H8, I8, k8, q8⟩ => ?_
    have run := pt.run _ s8 σ8 H8 _ I8 q8
    rw [hx] at run
    refine thnF run fun b s9 ⟨H9, I9, q9⟩ => ?_
    have fin : ∀ {σ' : L2.St} {s' : Shared} {H' : Hp}, Inv Y (pins ++ pinsAt fp s7.heap) σ' H' s' → Wk β σ' → Nx H' → ∃ m, m < n ∧ ∃ i H', Inv Y pins β H' s' ∧ tn i s'.heap ∧ (∀ b ∈ fp, H' b = none) ∧ W i m H' := fun {σ' s' H'} I' k nx => by
      obtain ⟨m', hm, w'⟩ := hNx H' nx
      have pin' : ∀ b ∈ fp, ∀ o, s7.heap.get? b = some o → s'.heap.get? b = some o ∧ H' b = none := fun b hb o e =>
        let z := I'.pin (b, o) (List.mem_append_right _ (List.mem_append_right _ (mem_pinsAt hb e)))
        ⟨z.1, z.2.1⟩
      refine ⟨m', hm, i + 1, H', (I'.unpinned (pins := pins)).weak k.1 k.2, T.keep _ _ _ st7 fun b hb o e => (pin' b hb o e).1, fun b hb => ?_, w'⟩
      obtain ⟨o, e, _⟩ := T.obj _ _ st7 b hb
      exact (pin' b hb o e).2
    cases b with
    | false =>
      simp only [Bool.false_eq_true, if_false] at q9 ⊢
      exact fin I9 k8 q9
    | true =>
      simp only [if_true] at q9 ⊢
      exact hk.mono (hbody _ s9 σ8 H9 Nx I9 k8 q9 _) fun s2 ⟨σ2, H2, I2, k2, nx⟩ => fin I2 k2 nx
end SX

/-! T33: {e for .. for ..} of texts as an expression. -/
namespace SX
open PySem PySem.Spec PyProof.Rows L2 PySem.Froz PpSet
section
variable {prog : Program} {w : World} {A : Around} {env : Env}
def wbIn (prog : Program) (w : World) (A : Around) (elt : Expr) (acc : Value) (env : Env) : WB := fun N E s => wpAny (model prog w) A (eval elt env) (fun x s4 => wpAny (model prog w) A (call (.builtin "set.add") [acc, x]) (fun _ s5 => N s5) E s4) E s
theorem in_ok {elt : Expr} {acc : Value} : BkOk prog w A (fun k => (do let v ← eval elt env; standAt elt.pos; let _ ← call (.builtin "set.add") [acc, v]) >>= fun _ => k) (wbIn prog w A elt acc env) where
  run := fun k s Q E h => wpAny_bind (wpAny_bind (wpAny_mono h (fun x s4 h4 => wpAny_bind (wpAny_standAt (wpAny_bind (wpAny_mono h4 (fun _ s5 h5 => wpAny_pure h5) fun _ _ z => z)))) fun _ _ z => z))
  mono := fun h k => wpAny_mono h (fun x s4 h4 => wpAny_mono h4 (fun _ s5 h5 => k _ h5) fun _ _ z => z) fun _ _ z => z
def wbOut (prog : Program) (w : World) (A : Around) (e i1 : Expr) (acc : Value) (env : Env) : WB := fun N E s => wpAny (model prog w) A (eval i1 env) (fun x s4 => wpAny (model prog w) A (pyIter x) (fun it1 s5 =>
  codeAny (model prog w) A (.compStart e 1 it1 acc env) (fun r s' => match r with
    | .ok _ => N s'
    | .error _ => False) s5) E s4) E s
theorem out_ok {elt i1 : Expr} {gens : List Comprehension} {scope : Scope} {pos : Pos} {acc : Value} (hs : ∀ x, foldedSetIterable i1 env x = pure x) : BkOk prog w A (fun k => do
      let x ← eval i1 env
      standAt i1.pos
      let x ← foldedSetIterable i1 env x
      let _ ← runOwn (.compStart (.SetComp elt gens scope pos) 1 (← holding [x] (pyIter x)) acc env) env
      k) (wbOut prog w A (.SetComp elt gens scope pos) i1 acc env) where
  run := fun k s Q E h => by
    refine wpAny_bind (wpAny_mono h (fun x s4 h4 => ?_) fun _ _ z => z)
    refine wpAny_bind (wpAny_standAt (wpAny_bind (wpAny_of_eq (hs x) (wpAny_bind (wpAny_holding (wpAny_mono h4 (fun it1 s5 h5 => ?_) fun _ _ z => z))))))
    refine wpAny_bind (wpAny_runOwn ?_)
    rw [Around.mark_none]
    refine codeAny_mono h5 fun r s' hr => ?_
    cases r with
    | ok f => exact hr
    | error e => exact hr.elim
  mono := fun h k => wpAny_mono h (fun x s4 h4 => wpAny_mono h4 (fun it1 s5 h5 => codeAny_mono h5 fun r s' hr => by
    cases r with
    | ok f => exact k _ hr
    | error e => exact hr) fun _ _ z => z) fun _ _ z => z
end
def tbIn (P : Program) (w : World) (D : Addr) (te : TE) : TBd := fun σ H N => te σ H fun y H7 => ∃ l z, y = .str z ∧ H7 D = some (SetX P w D l) ∧ l.length + 1 < scanBound ∧ N (upd H7 D (SetX P w D (ins z l)))
def tbOut (P : Program) (w : World) (D : Addr) (wi1 : TI) (g1 : TG) (tt1 : TT) (te : TE) (vs1 : List Nat) : TBd := fun σ H N => wi1 σ H fun J1 H4 => Lvl J1 g1 tt1 (tbIn P w D te) (wipe σ vs1) N H4
def tSc2 (P : Program) (w : World) (wi : TI) (g : TG) (tt : TT) (wi1 : TI) (g1 : TG) (tt1 : TT) (te : TE) (vs vs1 : List Nat) : TE := fun σ H Q => wi σ H fun J H1 => ∀ D, H1 D = none →
  Lvl J g tt (tbOut P w D wi1 g1 tt1 te vs1) (wipe σ vs) (fun H' => Q (.ref D) H') (upd H1 D (SetX P w D []))
theorem wk_in {σ σ' : L2.St} {vs vs1 : List Nat} (hv : ∀ i ∈ vs1, i ∈ vs) (k : Wk (wipe σ vs) σ') : Wk (wipe σ vs) (wipe σ' vs1) :=
  ⟨k.1.trans (wipe_length _ _).symm, fun j v e => by
    obtain ⟨_, e2⟩ := wipe_some e
    rw [wipe_out fun z => e2 (hv j z)]
    exact k.2 j v e⟩
theorem pe_sc2 {X : Cx} {elt tg iter tg1 iter1 : Expr} {ifs ifs1 : List Expr} {scope : Scope} {own : List (Str × Nat)} {vs1 : List Nat} {pos : Pos} {wi wi1 : TI} {g g1 : TG} {tt tt1 : TT} {te : TE}
    (hc : X.calm = true) (hN : X.N.Nodup) (hi : PI X tg iter wi) (ok : BlkOk X.N X.env.scope scope own) (hv : ∀ i ∈ vs1, i ∈ own.map (·.2))
    (hg : ∀ (s : Shared) (H : Hp) (C : Addr) (cl : List (Str × Addr)) (fp : List Addr), PG (X.blk s H scope (compEnvC scope cl C X.env) fp) tg g) (ht : ∀ (s : Shared) (H : Hp) (C : Addr) (cl : List (Str × Addr)) (fp : List Addr), PTs (X.blk s H scope (compEnvC scope cl C X.env) fp) ifs tt)
    (hi1 : ∀ (s : Shared) (H : Hp) (C : Addr) (cl : List (Str × Addr)) (fp : List Addr), PI (X.blk s H scope (compEnvC scope cl C X.env) fp) tg1 iter1 wi1)
    (hg1 : ∀ (s : Shared) (H : Hp) (C : Addr) (cl : List (Str × Addr)) (fp : List Addr), PG (X.blk s H scope (compEnvC scope cl C X.env) fp) tg1 g1) (ht1 : ∀ (s : Shared) (H : Hp) (C : Addr) (cl : List (Str × Addr)) (fp : List Addr), PTs (X.blk s H scope (compEnvC scope cl C X.env) fp) ifs1 tt1)
    (he : ∀ (s : Shared) (H : Hp) (C : Addr) (cl : List (Str × Addr)) (fp : List Addr), PE (X.blk s H scope (compEnvC scope cl C X.env) fp) elt te) (hs : ∀ x, foldedSetIterable iter X.env x = pure x := by intro _; rfl) (hs1 : ∀ env x, foldedSetIterable iter1 env x = pure x := by intro _ _; rfl) :
    PE X (.SetComp elt [⟨tg, iter, ifs, 0⟩, ⟨tg1, iter1, ifs1, 0⟩] scope pos) (tSc2 X.prog X.w wi g tt wi1 g1 tt1 te (own.map (·.2)) vs1) := by
  refine ⟨fun pins s σ H Q I h => ?_⟩
  rw [eval_SetComp]
  have hfree : ∀ y ∈ scope.names, y.2 = .free → ∃ c, X.env.cells.lookup y.1 = some c := fun y hy e => by
    rcases ok.free y hy e with k | k
    · exact I.ok.has _ (.inl k)
    · exact I.ok.has _ (.inr k)
  refine wpAny_comprehension_free (use := none) rfl hs (closure_ok hfree) ok.kind (fun y hy e => by rw [ok.uniq y hy, e])
    (thn (hi.run pins s σ H _ I h) fun xv s1 hx => thn hx fun itv s2 h2 => ?_)
  obtain ⟨it, fp, tn, J, H2, e, I2, T, st2, f2, q⟩ := h2
  subst e
  refine newSet_ok (newEnv_comp ?_)
  generalize hD : s2.heap.objs.size = D
  have hDn : H2 D = none := I2.hok.fresh (Nat.le_of_eq hD)
  have q := q D hDn
  generalize hs3 : ({ s2 with heap := s2.heap.push { cls := .type "set", dict := none, data := .set #[] 0 (.fresh 0 0 (!X.w.params.followText "set-order")) } } : Shared) = s3
  have h3 : s3.heap = s2.heap.push { cls := .type "set", dict := none, data := .set #[] 0 (.fresh 0 0 (!X.w.params.followText "set-order")) } := by rw [← hs3]
  have I3 : Inv X pins σ (upd H2 D (SetX X.prog X.w D [])) s3 := by
    rw [← hs3]
    refine I2.laid (t' := s2.toks) (fun b o e => Heap.get?_push_of_some _ e) (Nat.le_of_eq hD) (setX_ok ⟨(#[], 0, .fresh 0 0 (!X.w.params.followText "set-order")), ?_, Ok.new⟩)
    rw [← hD]
    exact Heap.get?_push_size _ rfl
  have f3 : ∀ b ∈ fp, FpOk X pins (upd H2 D (SetX X.prog X.w D [])) b ∧ b < s3.heap.objs.size := fun b hb => by
    obtain ⟨o, e, _⟩ := T.obj _ _ st2 b hb
    have hlt := Heap.lt_size e
    refine ⟨⟨?_, (f2 b hb).2⟩, by rw [h3, Heap.size_push]; exact Nat.lt_succ_of_lt hlt⟩
    rw [upd_ne (by rw [← hD]; exact Nat.ne_of_lt hlt)]
    exact (f2 b hb).1
  have st3 : tn 0 s3.heap := T.keep _ _ _ st2 fun b _ o e => by rw [h3]; exact Heap.get?_push_of_some _ e
  have I4 := block_start I3 ok hN f3
  generalize hcl : cellsFrom (s3.heap.objs.size + 1) scope.names (cloFrom X.env.cells scope.names []) = cl at I4 ⊢
  generalize hH3 : upd H2 D (SetX X.prog X.w D []) = H3 at I3 I4 q f3
  have pg := hg s3 H3 s3.heap.objs.size cl fp
  have pt := ht s3 H3 s3.heap.objs.size cl fp
  have pi1 := hi1 s3 H3 s3.heap.objs.size cl fp
  have pg1 := hg1 s3 H3 s3.heap.objs.size cl fp
  have pt1 := ht1 s3 H3 s3.heap.objs.size cl fp
  have pe := he s3 H3 s3.heap.objs.size cl fp
  show codeAny _ _ (.compStart (.SetComp elt [⟨tg, iter, ifs, 0⟩, ⟨tg1, iter1, ifs1, 0⟩] scope pos) 0 (.ref it) (.ref D) (compEnvC scope cl s3.heap.objs.size X.env)) (compPost (model X.prog X.w) X.A X.xe none (EP X pins σ Q) (.ref D) s3.heap.objs.size) { s3 with heap := pushCells (s3.heap.push { cls := .type "dict", data := .dict #[] }) scope.names }
  generalize hce : compEnvC scope cl s3.heap.objs.size X.env = ce at I4 pg pt pi1 pg1 pt1 pe ⊢
  have cL : ce.locals = s3.heap.objs.size := by subst hce; rfl
  generalize hs4 : ({ s3 with heap := pushCells (s3.heap.push { cls := .type "dict", data := .dict #[] }) scope.names } : Shared) = s4 at I4 ⊢
  have st4 : tn 0 s4.heap := T.keep _ _ _ st3 fun b _ o e => by rw [← hs4]; exact pushCells_keeps _ _ _ _ (Heap.get?_push_of_some _ e)
  have f4 : ∀ b ∈ fp, FpOk (X.blk s3 H3 scope ce fp) [] H3 b := fun b hb =>
    ⟨(f3 b hb).1.1, (I4.ok.exf b hb).1, I4.ok.exfs b hb, .inl hb, fun x c e => (I4.ok.exf b hb).2 x c e, fun p hp => absurd (show p ∈ ([] : List (Addr × Obj)) ++ [] from hp) (by simp)⟩
  have loop : codeAny (model X.prog X.w) X.A (.compLoop (.SetComp elt [⟨tg, iter, ifs, 0⟩, ⟨tg1, iter1, ifs1, 0⟩] scope pos) 0 (.ref it) (.ref D) ce) (compPost (model X.prog X.w) X.A X.xe none (EP X pins σ Q) (.ref D) s3.heap.objs.size) s4 := by
    refine lvl (Y := X.blk s3 H3 scope ce fp) hc rfl turn_out (out_ok (hs1 ce)) pg pt T I4 st4 f4 ?_ q ?_
    · intro pins' s5 σ5 H5 N I5 k5 q5 E
      have run := pi1.run _ s5 σ5 H5 _ I5 q5
      refine thnF run fun xv s10 hx => thnF hx fun itv s11 h11 => ?_
      obtain ⟨it1, fp1, tn1, J1, H11, e1, I11, T1, st11, f11, q11⟩ := h11
      subst e1
      have loop1 : codeAny (model X.prog X.w) X.A (.compLoop (.SetComp elt [⟨tg, iter, ifs, 0⟩, ⟨tg1, iter1, ifs1, 0⟩] scope pos) 1 (.ref it1) (.ref D) ce) (fun r s' => match r with
          | .ok _ => ∃ σ2 H2, Inv (X.blk s3 H3 scope ce fp) pins' σ2 H2 s' ∧ Wk (wipe σ (own.map (·.2))) σ2 ∧ N H2
          | .error _ => False) s11 := by
        refine lvl (Y := X.blk s3 H3 scope ce fp) hc rfl turn_in in_ok pg1 pt1 T1 (I11.weak (wipe_length _ _) fun j v e => (wipe_some e).1) st11 f11 ?_ q11 ?_
        · intro pins2 s6 σ6 H6 N6 I6 k6 q6 E6
          have run := pe.run _ s6 σ6 H6 _ I6 q6
          refine thnF run fun z s7 ⟨yv, H7, I7, r7, l, zz, ey, hl, hb, nx⟩ => ?_
          subst ey
          exact add_i (X := X.blk s3 H3 scope ce fp) I7 hl hb r7 fun s8 I8 => ⟨σ6, _, I8, k6, nx⟩
        · intro s' H' I' n'
          exact ⟨_, H', I', wk_in hv k5, n'⟩
      exact start_1 loop1 (T1.self X.A 0 _ _ _ st11 loop1)
    · intro s6 H6 I6 qq
      have I7 : Inv X pins σ H6 s6 := I3.call' (ch := fp) I6.os I6.base I6.hok I6.bare fun b hb => ⟨(f3 b hb).1.2.2.2.1, (f3 b hb).1.2.1, (f3 b hb).1.2.2.2.2.1, (f3 b hb).1.2.2.2.2.2⟩
      have nC : H6 s3.heap.objs.size = none := by
        have z : H6 ce.locals = none := I6.free
        rw [cL] at z
        exact z
      obtain ⟨m, hn, _⟩ := I6.loc
      have hn : s6.heap.Ns ce.locals m := hn
      rw [cL] at hn
      obtain ⟨a0, a1, a2, a3, a4, a5⟩ := I3.fpOk (Nat.le_refl _) nC
      exact ⟨m, hn, fun h'' sb => ⟨.ref D, H6, I7.turned (t' := s6.toks) (fun b o hb e => (sb.2 b hb).trans e) a0 a1 a3 a4 a5, rfl, qq⟩⟩
  exact codeAny_compStart_set loop (T.self X.A 0 _ _ _ st4 loop)
end SX

/-! T34: sorted(..) of texts; sorted({e for .. for ..}) over trees. -/
namespace T
open PySem PySem.Spec PyProof.Rows L2 Z RZ SX
/-! sorted of a list of texts -/
def srtD : List PyData → (O → Prop) → Prop := fun ds Φ => ∃ us : List Str, ds = [.list (us.map .str)] ∧ us.length ≤ 100000 ∧ ∀ ys : List Str, ys.Perm us → sortedS ys = true → Φ (.lst (ys.map fun z => .fz (.str z)))
def rSrtS (K : PySem.W.Frag) : List V → Hp → VK → Prop := fun vs H Q => ∃ (a : Addr) (xs : List Str), vs = [V.ref a] ∧ SqL K H a (xs.map V.str) ∧ xs.length ≤ 100000 ∧
  ∀ (ys : List Str) (p : Addr), ys.Perm xs → sortedS ys = true → H p = none → Q (.ref p) (upd H p (.lst (ys.map V.str)))
theorem cr_srtS {X : Cx} : CallR X (.builtin "sorted") (rSrtS X.K) := by
  intro pins s σ H vs us Q I r h
  obtain ⟨a, xs, rfl, hs, hl, q⟩ := h
  obtain ⟨its, rv, hi, _⟩ := I.list hs
  rw [Vals.ref1 r]
  have hlen0 := rv.length
  rw [List.length_map] at hlen0
  refine PyProof.Rows.sorted_strsAny hi.isList rv.strs (by rw [← hlen0]; exact small_le (by omega)) fun out ys h1 h2 h3 => ?_
  obtain ⟨ep, he'⟩ := PyProof.Rows.sortedAll_at s.heap its out
  have hlen : (ys.map V.str).length ≤ sizeLine := by rw [List.length_map, h2.length_eq]; exact small_le (by omega)
  exact ⟨.ref _, upd H (s.heap.objs.size + 1) (.lst (ys.map V.str)), I.laid (t' := s.toks) (fun _ _ => PyProof.Rows.sortedAll_old) (Nat.le_succ _) ⟨hlen, out.toList, ep, vals_of_strs h1, he'⟩, rfl, q ys _ h2 h3 (I.hok.fresh (Nat.le_succ _))⟩
theorem rpa_strs {K : PySem.W.Frag} {F : Hp} : ∀ {us : List Str} {vs : List V}, RpAll K F vs (us.map .str) → vs = us.map V.str
  | [], _, .nil => rfl
  | u :: us, _, .cons a b => by cases a; rw [rpa_strs b]; rfl
theorem rpa_strs' {K : PySem.W.Frag} {F : Hp} : ∀ {us : List Str}, RpAll K F (us.map V.str) (us.map .str)
  | [] => .nil
  | u :: us => .cons (.str u) rpa_strs'
theorem map_fz_str (us : List Str) : (us.map fun z => O.fz (.str z)) = (us.map PyData.str).map .fz := by rw [List.map_map]; rfl
theorem d_srt {K : PySem.W.Frag} : DCl K (rSrtS K) srtD := by
  intro F h hx H xs ds Φ Q s r q k
  obtain ⟨us, rfl, hl, q⟩ := q
  obtain ⟨x, rfl, r1⟩ := rp1 r
  cases r1 with
  | lst ha ra =>
    have e := rpa_strs ra
    subst e
    exact ⟨_, us, rfl, SqL.of (s.f _ _ ha), hl, fun ys p y1 y2 hp => k _ _ (postO_lst s rpa_strs' (by rw [← map_fz_str]; exact q ys y1 y2) p hp)⟩
theorem ev_srt {us : List Str} {Φ : O → Prop} : srtD [.list (us.map .str)] Φ = (us.length ≤ 100000 ∧ ∀ ys : List Str, ys.Perm us → sortedS ys = true → Φ (.lst (ys.map fun z => .fz (.str z)))) := by
  have inj : ∀ (as bs : List Str), as.map PyData.str = bs.map PyData.str → as = bs := fun as bs e => List.map_inj_right (fun _ _ z => by injection z) |>.mp e
  refine propext ⟨fun ⟨vs, e, h⟩ => ?_, fun h => ⟨us, rfl, h⟩⟩
  have e := inj _ _ (PyData.list.inj (List.cons.inj e).1)
  rw [e]; exact h
/-! the two loops -/
def own (P : Program) (w : World) (D : Addr) (l : List Str) : Hp := upd emp D (SetX P w D l)
theorem own_upd {P : Program} {w : World} {D : Addr} {l l' : List Str} : upd (own P w D l) D (SetX P w D l') = own P w D l' := by
  funext a
  unfold own
  by_cases e : a = D
  · subst e; rw [upd_same, upd_same]
  · rw [upd_ne e, upd_ne e, upd_ne e]
theorem own_at {P : Program} {w : World} {D : Addr} {l : List Str} : own P w D l D = some (SetX P w D l) := upd_same
theorem own_dj {P : Program} {w : World} {D : Addr} {l : List Str} {h : Hp} (n : h D = none) : Dj (own P w D l) h := dj_upd emp_dj n
theorem dj_own {P : Program} {w : World} {D : Addr} {l : List Str} {h : Hp} (d : Dj (own P w D l) h) : h D = none := d.nr own_at
abbrev TLv := List Str → EnvT → (List Str → EnvT → Prop) → Prop
def mLv (sl : List Nat) (mg : TGD) (mt : TB) (mb : TLv) (Φ : List Str → EnvT → Prop) : List PyData → List Str → EnvT → Prop
  | [], l, ρ => Φ l ρ
  | x :: xs, l, ρ => mg x ρ fun ρ1 => mt ρ1 (fun b ρ2 => if b = true then mb l ρ2 (fun l' ρ3 => mLv sl mg mt mb Φ xs l' (wipeE ρ3 sl)) else mLv sl mg mt mb Φ xs l (wipeE ρ2 sl)) (fun _ _ => False)
/-- the body's link -/
def KB (K : PySem.W.Frag) (P : Program) (w : World) (D : Addr) (mb : TLv) (tb : TBd) : Prop := ∀ {σ : L2.St} {F h hx H : Hp} {l : List Str} {ρ : EnvT} {Ψ : List Str → EnvT → Prop} {N : Hp → Prop}, Sp3 F (jn (own P w D l) h) hx H → h D = none → EnvL K F ρ σ h → mb l ρ Ψ →
  (∀ F' h' H' l' ρ', Same F F' → Sp3 F' (jn (own P w D l') h') hx H' → h' D = none → EnvL K F' ρ' σ h' → Ψ l' ρ' → N H') → tb σ H N
theorem wk_of {σ' β : L2.St} {sl : List Nat} (e : wipe σ' sl = β) : Wk β σ' := e ▸ Wk.wipe
theorem lvl_T {K : PySem.W.Frag} {P : Program} {w : World} {D : Addr} {J : It} {items : List PyData} {sl : List Nat} {g : TG} {mg : TGD} {tt : TT} {mt : TB} {tb : TBd} {mb : TLv} {Φ : List Str → EnvT → Prop} {Qs : Hp → Prop} {σ0 : L2.St} {F1 h1 hx H1 : Hp} {l0 : List Str} {ρ1 : EnvT}
    (hg : JG K sl g mg) (kt : KT K mt tt) (kb : KB K P w D mb tb) (s : Sp3 F1 (jn (own P w D l0) h1) hx H1) (d : h1 D = none) (en : EnvL K F1 ρ1 (wipe σ0 sl) h1) (hu : ∀ i ∈ sl, ρ1[i]? = some .un) (io : ItOk K F1 J items) (q : mLv sl mg mt mb Φ items l0 ρ1)
    (fin : ∀ F' h' H' l' ρ', Same F1 F' → Sp3 F' (jn (own P w D l') h') hx H' → h' D = none → EnvL K F' ρ' (wipe σ0 sl) h' → (∀ i ∈ sl, ρ'[i]? = some .un) → Φ l' ρ' → Qs H') : Lvl J g tt tb (wipe σ0 sl) Qs H1 := by
  refine ⟨fun i m H => m = items.length - i ∧ i ≤ items.length ∧ ∃ l ρ F h, (∀ i ∈ sl, ρ[i]? = some .un) ∧ Same F1 F ∧ Sp3 F (jn (own P w D l) h) hx H ∧ h D = none ∧ EnvL K F ρ (wipe σ0 sl) h ∧ mLv sl mg mt mb Φ (items.drop i) l ρ, ⟨_, rfl, Nat.zero_le _, l0, ρ1, F1, h1, hu, Same.refl _, s, d, en, q⟩, ?_⟩
  rintro i m H ⟨rfl, hi, l, ρ, F, h, hu', e2, s2, d2, en2, q2⟩
  obtain ⟨i1, i2, i3⟩ := io e2 s2 (i := i)
  by_cases hlt : i < items.length
  · refine .inr ⟨i1 hlt, fun H => ∃ l ρ F h, (∀ i ∈ sl, ρ[i]? = some .un) ∧ Same F1 F ∧ Sp3 F (jn (own P w D l) h) hx H ∧ h D = none ∧ EnvL K F ρ (wipe σ0 sl) h ∧ mLv sl mg mt mb Φ (items.drop (i + 1)) l ρ, fun H' n => ⟨items.length - (i + 1), by omega, rfl, by omega, n⟩, ?_⟩
    intro y H' hy
    obtain ⟨F3, dt, hd, e3, s3, r3⟩ := i2 y H' hlt hy
    have hdrop : items.drop i = dt :: items.drop (i + 1) := by
      obtain ⟨_, z⟩ := List.getElem?_eq_some_iff.mp hd
      rw [← z]; exact List.drop_eq_getElem_cons hlt
    rw [hdrop] at q2
    have dx : Dj (own P w D l) hx := (jn_dj.mp s3.ox).1
    have sp := s3.put (own_dj d2)
    refine hg sp (en2.mono e3) r3 q2 ?_
    rintro σ' ⟨ρ4, h4, w1, w2, sh, en4, q4⟩
    have ww : wipe σ' sl = wipe σ0 sl := w1.trans wipe_idem
    refine ⟨wk_of ww, kt (sp.less sh) en4 q4 ?_⟩
    rintro b H5 ⟨ρ5, F5, h5, e5, s5, en5, q5⟩
    have ln : ∀ {ρ : EnvT} {F h : Hp}, EnvL K F ρ σ' h → ∀ i ∈ sl, i < ρ.length := fun {ρ F h} en' i hi => by
      have l1 := en'.len
      have l2 := congrArg List.length ww
      rw [wipe_length, wipe_length] at l2
      have l3 := en.len
      rw [wipe_length] at l3
      have := (List.getElem?_eq_some_iff.mp (hu i hi)).1
      omega
    obtain ⟨t1, t2⟩ := s5.get dx
    have d5 := dj_own t2
    cases b with
    | false =>
      have q5 := ifFF q5
      simp only [Bool.false_eq_true, if_false]
      obtain ⟨h6, s6, en6⟩ := wipe_env (sl := sl) en5
      rw [ww] at en6
      obtain ⟨t1, t2⟩ := (s5.less s6).get dx
      exact ⟨l, _, F5, h6, fun i hi => wipeE_un hi (ln en5 i hi), (e2.trans e3).trans e5, t1, dj_own t2, en6, q5⟩
    | true =>
      have q5 := ifTT q5
      simp only [if_true]
      refine kb t1 d5 en5 q5 fun F' h' H' l' ρ' e6 s6 d6 en6 q6 => ?_
      obtain ⟨h7, s7, en7⟩ := wipe_env (sl := sl) en6
      rw [ww] at en7
      have dx' : Dj (own P w D l') hx := (jn_dj.mp s6.ox).1
      obtain ⟨t3, t4⟩ := ((s6.put (own_dj d6)).less s7).get dx'
      exact ⟨l', _, F', h7, fun i hi => wipeE_un hi (ln en6 i hi), ((e2.trans e3).trans e5).trans e6, t3, dj_own t4, en7, q6⟩
  · refine .inl ⟨i3 (by omega), ?_⟩
    rw [List.drop_eq_nil_of_le (by omega)] at q2
    exact fin F h H l ρ e2 s2 d2 en2 hu' q2
/-- add of the value of e -/
def mbIn (me : TD) : TLv := fun l ρ Ψ => me ρ (fun o ρ1 => ∃ z, o = .fz (.str z) ∧ l.length < 4000 ∧ Ψ (ins z l) ρ1) (fun _ _ => False)
def mbOut (mi : TID) (sl : List Nat) (mg : TGD) (mt : TB) (me : TD) : TLv := fun l ρ Ψ => mi ρ (fun items ρ1 => (∀ i ∈ sl, ρ1[i]? = some .un) ∧ mLv sl mg mt (mbIn me) Ψ items l ρ1) (fun _ _ => False)
section
variable {X : Cx} {W : WX} {tg it tg1 it1 elt : Expr} {ifs ifs1 : List Expr} {sl sl1 : List Nat} {g g1 : TG} {mi mi1 : TID} {mg mg1 : TGD} {mt mt1 : TB} {me : TD} {scope : Scope} {ow : List (Str × Nat)} {pos pos2 p : Pos} {tt tt1 : TT}
def tiB (X : Cx) (scope : Scope) (tg it : Expr) : TI := fun σ H R => ∀ (s : Shared) (H0 : Hp) (C : Addr) (cl : List (Str × Addr)) (fp : List Addr), ∃ wi : TI, PI (X.blk s H0 scope (compEnvC scope cl C X.env) fp) tg it wi ∧ wi σ H R
theorem pi_B : EachB X scope fun Y => PI Y tg it (tiB X scope tg it) := fun s H0 C cl fp => ⟨fun pins s1 σ H R I h => by
  obtain ⟨wi, pw, q⟩ := h s H0 C cl fp
  exact pw.run pins s1 σ H R I q⟩
theorem ki_B (j : EachB X scope fun Y => JI Y WF tg it mi) {σ F h hx H ρ Φ} {R : It → Hp → Prop} (s3 : Sp3 F h hx H) (en : EnvL X.K F ρ σ h) (q : mi ρ Φ (fun _ _ => False))
    (k : ∀ J items ρ' F' h' H', Same F F' → Sp3 F' h' hx H' → EnvL X.K F' ρ' σ h' → ItOk X.K F' J items → Φ items ρ' → R J H') : tiB X scope tg it σ H R := fun s H0 C cl fp => by
  obtain ⟨wi, pw, kw⟩ := (j s H0 C cl fp).ex
  exact ⟨wi, pw, kw s3 en q xq_F k⟩
theorem kb_in {D : Addr} (j : EachB X scope fun Y => JE Y WF elt me) : KB X.K X.prog X.w D (mbIn me) (tbIn X.prog X.w D (teB X scope elt)) := by
  intro σ F h hx H l ρ Ψ N s d en q k
  have dx : Dj (own X.prog X.w D l) hx := (jn_dj.mp s.ox).1
  refine ke_B j (s.put (own_dj d)) en q ?_
  rintro v H' ⟨o, ρ1, F1, h1, h', e1, s1, d1, en1, ow, z, rfl, hl, q1⟩
  obtain ⟨rfl, r⟩ := own_emp ow
  rw [emp_jn] at s1
  cases r
  obtain ⟨t1, t2⟩ := s1.get dx
  refine ⟨l, z, rfl, t1.o _ _ (jn_l own_at), by unfold scanBound; omega, k F1 h' _ (ins z l) ρ1 e1 ?_ (dj_own t2) en1 q1⟩
  have := t1.chg (u := SetX X.prog X.w D (ins z l)) (jn_l own_at)
  rw [← upd_jn, own_upd] at this
  exact this
theorem kb_out {D : Addr} (ji : EachB X scope fun Y => JI Y WF tg1 it1 mi1) (jg : JG X.K sl1 g1 mg1) (kt : KT X.K mt1 tt1) (j : EachB X scope fun Y => JE Y WF elt me) :
    KB X.K X.prog X.w D (mbOut mi1 sl1 mg1 mt1 me) (tbOut X.prog X.w D (tiB X scope tg1 it1) g1 tt1 (teB X scope elt) sl1) := by
  intro σ F h hx H l ρ Ψ N s d en q k
  have dx : Dj (own X.prog X.w D l) hx := (jn_dj.mp s.ox).1
  refine ki_B ji (s.put (own_dj d)) en q ?_
  rintro J items ρ1 F1 h1 H1 e1 s1 en1 io ⟨hu, q1⟩
  obtain ⟨t1, t2⟩ := s1.get dx
  refine lvl_T jg kt (kb_in j) t1 (dj_own t2) (wipe_un en1 hu) hu io q1 fun F' h' H' l' ρ' e2 s2 d2 en2 hu2 q2 => ?_
  exact k F' h' H' l' ρ' (e1.trans e2) s2 d2 (unwipe en2 hu2) q2
/-- sorted({e for .. for ..}) -/
def mSrt2 (mi : TID) (sl : List Nat) (mg : TGD) (mt : TB) (mi1 : TID) (sl1 : List Nat) (mg1 : TGD) (mt1 : TB) (me : TD) : TD := fun ρ Φ Ξ => mi ρ (fun items ρ1 => (∀ i ∈ sl, ρ1[i]? = some .un) ∧
  mLv sl mg mt (mbOut mi1 sl1 mg1 mt1 me) (fun l ρ2 => l.length ≤ 4000 ∧ ∀ ys : List Str, ys.Perm l → sortedS ys = true → Φ (.lst (ys.map fun z => .fz (.str z))) ρ2) items [] ρ1) Ξ
theorem je_srt2 (hc : X.calm = true) (hN : X.N.Nodup) (hm : X.mg "sorted" = none) (ji : JI X W tg it mi) (ok : BlkOk X.N X.env.scope scope ow) (hsl : ow.map (·.2) = sl) (hv : ∀ i ∈ sl1, i ∈ sl)
    (pg : EachB X scope fun Y => PG Y tg g) (jg : JG X.K sl g mg) (pt : EachB X scope fun Y => PTs Y ifs tt) (kt : KT X.K mt tt)
    (ji1 : EachB X scope fun Y => JI Y WF tg1 it1 mi1) (pg1 : EachB X scope fun Y => PG Y tg1 g1) (jg1 : JG X.K sl1 g1 mg1) (pt1 : EachB X scope fun Y => PTs Y ifs1 tt1) (kt1 : KT X.K mt1 tt1)
    (je : EachB X scope fun Y => JE Y WF elt me) (hs : ∀ x, foldedSetIterable it X.env x = pure x := by intro _; rfl) (hs1 : ∀ env x, foldedSetIterable it1 env x = pure x := by intro _ _; rfl) (hgl : Gl X "sorted" := by rfl)
    (he : starEach [.SetComp elt [⟨tg, it, ifs, 0⟩, ⟨tg1, it1, ifs1, 0⟩] scope pos2] X.env = (false, eval (.SetComp elt [⟨tg, it, ifs, 0⟩, ⟨tg1, it1, ifs1, 0⟩] scope pos2) X.env) :: starEach [] X.env := by rfl) :
    JE X W (.Call (.Name "sorted" p) [.SetComp elt [⟨tg, it, ifs, 0⟩, ⟨tg1, it1, ifs1, 0⟩] scope pos2] [] pos) (mSrt2 mi sl mg mt mi1 sl1 mg1 mt1 me) := by
  obtain ⟨wi, pi, ki⟩ := ji.ex
  refine ⟨fun {pins s σ F h hx H ρ Φ Ξ} at_ q x => (pe_callB (cr_srtX hc) hgl hm bt_sorted (pa_cons (pe_sc2 (elt := elt) (scope := scope) (pos := pos2) hc hN pi ok (hsl ▸ hv) pg pt pi_B pg1 pt1 pe_B hs hs1) pa_nil he) (by decide) (by decide) he (by rfl)).run _ _ _ _ _ at_.i ?_⟩
  refine ki at_.s at_.e q x ?_
  rintro J items ρ1 F1 h1 H1 e1 s1 en1 io ⟨hu, q1⟩
  intro D hD
  rw [hsl]
  have n1 : h1 D = none := s1.o.free hD
  refine lvl_T (hx := hx) jg kt (kb_out ji1 jg1 kt1 je) (l0 := []) (h1 := h1) ?_ n1 (wipe_un en1 hu) hu io q1 ?_
  · show Sp3 F1 (jn (upd emp D (SetX X.prog X.w D [])) h1) hx (upd H1 D (SetX X.prog X.w D []))
    rw [upd_jn, emp_jn]; exact s1.own hD
  · intro F' h' H' l' ρ' e2 s2 d2 en2 hu2 ⟨hl, q2⟩
    refine ⟨D, l', rfl, s2.o _ _ (jn_l own_at), by unfold scanBound; omega, fun ys p y1 y2 hp => ?_⟩
    have dx : Dj (own X.prog X.w D l') hx := (jn_dj.mp s2.ox).1
    have s3 : Sp3 F' h' hx H' := s2.less (same_r (own_dj d2))
    have P := postO_lst (K := X.K) (Φ := fun o => Φ o ρ') s3 (ds := ys.map .str) (vs := ys.map V.str) rpa_strs' (by rw [← map_fz_str]; exact q2 ys y1 y2) p hp
    exact P.pe (e1.trans e2) (unwipe en2 hu2)
end
end T

/-! T35: a target's slots among more; the equations of T34. -/
namespace T
open PySem PySem.Spec PyProof.Rows L2 Z RZ SX
theorem wipe_in {σ : L2.St} {i : Nat} : ∀ {sl : List Nat}, i ∈ sl → (wipe σ sl)[i]? = if i < σ.length then some none else none
  | v :: vs, h => by
    show ((wipe σ vs).set v none)[i]? = _
    by_cases e : v = i
    · subst e
      split
      · rw [List.getElem?_set_self (by rw [wipe_length]; assumption)]
      · rw [List.getElem?_eq_none (by rw [List.length_set, wipe_length]; omega)]
    · rw [List.getElem?_set_ne e]
      rcases List.mem_cons.mp h with z | z
      · exact absurd z.symm e
      · exact wipe_in z
theorem wipe_ext {σ σ' : L2.St} {sl : List Nat} (hl : σ'.length = σ.length) (h : ∀ i, i ∉ sl → σ'[i]? = σ[i]?) : wipe σ' sl = wipe σ sl := by
  apply List.ext_getElem?
  intro i
  by_cases e : i ∈ sl
  · rw [wipe_in e, wipe_in e, hl]
  · rw [wipe_out e, wipe_out e, h i e]
theorem jg_more {K : PySem.W.Frag} {sl sl' : List Nat} {g : TG} {m : TGD} (j : JG K sl g m) (h : ∀ i ∈ sl, i ∈ sl') : JG K sl' g m := by
  intro σ F h0 hx H ρ v d Φ Q s en r q k
  refine j s en r q fun σ' ⟨ρ', h', w1, w2, e, en', q'⟩ => k σ' ⟨ρ', h', wipe_ext ?_ fun i hi => w2 i fun z => hi (h i z), fun i hi => w2 i fun z => hi (h i z), e, en', q'⟩
  have := congrArg List.length w1
  rw [wipe_length, wipe_length] at this
  exact this
section
variable {mi mi1 : TID} {sl sl1 : List Nat} {mg mg1 : TGD} {mt mt1 : TB} {me : TD} {o : O} {ρ : EnvT} {Φ : O → EnvT → Prop} {Ξ : Exn → EnvT → Prop} {l : List Str} {Ψ : List Str → EnvT → Prop} {mb : TLv}
theorem ev_srt2 : mSrt2 mi sl mg mt mi1 sl1 mg1 mt1 me (o :: ρ) Φ Ξ = mi (o :: ρ) (fun items ρ1 => (∀ i ∈ sl, ρ1[i]? = some .un) ∧
  mLv sl mg mt (mbOut mi1 sl1 mg1 mt1 me) (fun l ρ2 => l.length ≤ 4000 ∧ ∀ ys : List Str, ys.Perm l → sortedS ys = true → Φ (.lst (ys.map fun z => .fz (.str z))) ρ2) items [] ρ1) Ξ := rfl
theorem ev_mbOut : mbOut mi sl mg mt me l (o :: ρ) Ψ = mi (o :: ρ) (fun items ρ1 => (∀ i ∈ sl, ρ1[i]? = some .un) ∧ mLv sl mg mt (mbIn me) Ψ items l ρ1) (fun _ _ => False) := rfl
theorem ev_mbIn : mbIn me l (o :: ρ) Ψ = me (o :: ρ) (fun o ρ1 => ∃ z, o = .fz (.str z) ∧ l.length < 4000 ∧ Ψ (ins z l) ρ1) (fun _ _ => False) := rfl
theorem ev_lv0 : mLv sl mg mt mb Ψ [] l ρ = Ψ l ρ := rfl
theorem ev_lv1 {x : PyData} {xs : List PyData} : mLv sl mg mt mb Ψ (x :: xs) l ρ = mg x ρ fun ρ1 => mt ρ1 (fun b ρ2 => if b = true then mb l ρ2 (fun l' ρ3 => mLv sl mg mt mb Ψ xs l' (wipeE ρ3 sl)) else mLv sl mg mt mb Ψ xs l (wipeE ρ2 sl)) (fun _ _ => False) := rfl
/-- a loop of such by an invariant -/
theorem lv_inv {items : List PyData} {ρ0 : EnvT} {l0 : List Str} (P : Nat → List Str → Prop) (h0 : P 0 l0) (h : ∀ i x l (N : List Str → EnvT → Prop), items[i]? = some x → P i l → (∀ l', P (i + 1) l' → N l' ρ0) → mg x ρ0 fun ρ1 => mt ρ1 (fun b ρ2 => if b = true then mb l ρ2 (fun l' ρ3 => N l' (wipeE ρ3 sl)) else N l (wipeE ρ2 sl)) (fun _ _ => False))
    (k : ∀ l, P items.length l → Ψ l ρ0) : mLv sl mg mt mb Ψ items l0 ρ0 := by
  have key : ∀ (xs : List PyData) (n : Nat) (l : List Str), items.drop n = xs → n ≤ items.length → P n l → mLv sl mg mt mb Ψ xs l ρ0 := by
    intro xs
    induction xs with
    | nil =>
      intro n l e hn p
      have hl : items.length ≤ n := by
        have := congrArg List.length e
        rw [List.length_drop] at this
        simp only [List.length_nil] at this
        omega
      have : n = items.length := by omega
      subst this
      exact k l p
    | cons x xs ih =>
      intro n l e hn p
      have hlt : n < items.length := by
        have := congrArg List.length e
        rw [List.length_drop, List.length_cons] at this
        omega
      have hx : items[n]? = some x := by
        have := congrArg (·[0]?) e
        simpa using this
      have hr : items.drop (n + 1) = xs := by rw [← List.drop_drop, e]; rfl
      exact h n x l (mLv sl mg mt mb Ψ xs) hx p fun l' p' => ih (n + 1) l' hr (by omega) p'
  exact key items 0 l0 rfl (Nat.zero_le _) h0
end
end T

/-! T36: a sorted list of texts is known by its members. -/
namespace T
open PySem PySem.Spec PyProof.Rows L2 Z RZ SX
def leS (a b : Str) : Prop := a.cps.toList ≤ b.cps.toList
theorem leS_of {a b : Str} (h : ltCps b.cps.toList a.cps.toList = false) : leS a b := by
  rw [ltCps_eq] at h
  exact List.not_lt.mp (of_decide_eq_false h)
theorem leS_trans {a b c : Str} (h1 : leS a b) (h2 : leS b c) : leS a c := List.le_trans h1 h2
theorem leS_anti {a b : Str} (h1 : leS a b) (h2 : leS b a) : a = b := Str.ext' (Array.toList_inj.mp (List.le_antisymm h1 h2))
theorem rise_le : ∀ {l : List Str} {p : Str}, risingS p l = true → ∀ y ∈ l, leS p y
  | x :: r, p, h, y, hy => by
    have h : (!ltCps x.cps.toList p.cps.toList && risingS x r) = true := h
    rw [Bool.and_eq_true, Bool.not_eq_true'] at h
    have h1 := leS_of h.1
    rcases List.mem_cons.mp hy with rfl | hy
    · exact h1
    · exact leS_trans h1 (rise_le h.2 y hy)
theorem sorted_tl {x : Str} {l : List Str} (h : sortedS (x :: l) = true) : (∀ y ∈ l, leS x y) ∧ sortedS l = true := by
  refine ⟨rise_le (show risingS x l = true from h), ?_⟩
  cases l with
  | nil => rfl
  | cons y r =>
    have h : (!ltCps y.cps.toList x.cps.toList && risingS y r) = true := h
    rw [Bool.and_eq_true] at h
    exact h.2
theorem leS_refl {a : Str} : leS a a := List.le_refl _
theorem sorted_uniq : ∀ {ys zs : List Str}, sortedS ys = true → sortedS zs = true → ys.Nodup → zs.Nodup → (∀ x : Str, x ∈ ys ↔ x ∈ zs) → ys = zs
  | [], [], _, _, _, _, _ => rfl
  | [], z :: zs, _, _, _, _, h => absurd ((h z).mpr List.mem_cons_self) (by simp)
  | y :: ys, [], _, _, _, _, h => absurd ((h y).mp List.mem_cons_self) (by simp)
  | y :: ys, z :: zs, s1, s2, n1, n2, h => by
    obtain ⟨a1, b1⟩ := sorted_tl s1
    obtain ⟨a2, b2⟩ := sorted_tl s2
    obtain ⟨m1, d1⟩ := List.nodup_cons.mp n1
    obtain ⟨m2, d2⟩ := List.nodup_cons.mp n2
    have l1 : leS y z := by
      rcases List.mem_cons.mp ((h z).mpr List.mem_cons_self) with e | e
      · rw [e]; exact leS_refl
      · exact a1 z e
    have l2 : leS z y := by
      rcases List.mem_cons.mp ((h y).mp List.mem_cons_self) with e | e
      · rw [e]; exact leS_refl
      · exact a2 y e
    have e := leS_anti l1 l2
    subst e
    refine congrArg (y :: ·) (sorted_uniq b1 b2 d1 d2 fun x => ?_)
    constructor
    · intro hx
      rcases List.mem_cons.mp ((h x).mp (List.mem_cons_of_mem _ hx)) with e | e
      · exact absurd (e ▸ hx) m1
      · exact e
    · intro hx
      rcases List.mem_cons.mp ((h x).mpr (List.mem_cons_of_mem _ hx)) with e | e
      · exact absurd (e ▸ hx) m2
      · exact e
theorem eqv_self : ∀ us : List Str, PyData.eqvAll (us.map .str) (us.map .str) = true
  | [] => rfl
  | a :: r => by
    show ((a == a) && PyData.eqvAll (r.map .str) (r.map .str)) = true
    rw [eqv_self r, beq_self_eq_true]; rfl
theorem ev_neSS {us : List Str} {Φp : O → Prop} (h : ∀ z ∈ us, PyData.strOk z = true) : neD (.list (us.map .str)) (.list (us.map .str)) Φp = Φp (.fz (.bool false)) := by
  have e : (if SeqAt.shaped (.list (us.map .str)) = true ∧ SeqAt.shaped (.list (us.map .str)) = true then some (PyData.eqv (.list (us.map .str)) (.list (us.map .str))) else none) = some true := by
    rw [if_pos ⟨sh_strs h, sh_strs h⟩]
    exact congrArg some (eqv_self us)
  unfold neD
  refine propext ⟨fun ⟨x, e', h⟩ => ?_, fun h => ⟨_, e, h⟩⟩
  have e'' := e.symm.trans e'
  cases e''
  exact h
end T

namespace My
open PySem PySem.Spec PyProof.Rows L2 RZ Z T
def topS (i : Nat) : Stmt := PySem.Challenge.pw_cycleready_k12_programs_checked.main.body.getD i (.Pass ⟨0, 0, 0, 0⟩)
abbrev s_InvalidProgram__init : Stmt := inClass (topS 2) 0
abbrev N_InvalidProgram__init : List Str := ["self", "position"]
theorem sc_InvalidProgram__init : FnScope N_InvalidProgram__init ["self", "position"] (defScope s_InvalidProgram__init) := ⟨rfl, rfl, rfl, by decide +kernel, rfl, by decide +kernel, by decide +kernel⟩
abbrev s_is_name : Stmt := topS 10
abbrev N_is_name : List Str := ["value", "letter"]
theorem sc_is_name : FnScope N_is_name ["value"] (defScope s_is_name) := ⟨rfl, rfl, rfl, by decide +kernel, rfl, by decide +kernel, by decide +kernel⟩
abbrev s_is_integer : Stmt := topS 11
abbrev N_is_integer : List Str := ["value"]
theorem sc_is_integer : FnScope N_is_integer ["value"] (defScope s_is_integer) := ⟨rfl, rfl, rfl, by decide +kernel, rfl, by decide +kernel, by decide +kernel⟩
abbrev s_is_variable : Stmt := topS 12
abbrev N_is_variable : List Str := ["value"]
theorem sc_is_variable : FnScope N_is_variable ["value"] (defScope s_is_variable) := ⟨rfl, rfl, rfl, by decide +kernel, rfl, by decide +kernel, by decide +kernel⟩
abbrev s_is_item : Stmt := topS 16
abbrev N_is_item : List Str := ["kind", "value"]
theorem sc_is_item : FnScope N_is_item ["kind", "value"] (defScope s_is_item) := ⟨rfl, rfl, rfl, by decide +kernel, rfl, by decide +kernel, by decide +kernel⟩
abbrev s_is_step : Stmt := topS 17
abbrev N_is_step : List Str := ["value", "kinds", "kind", "item"]
theorem sc_is_step : FnScope N_is_step ["value"] (defScope s_is_step) := ⟨rfl, rfl, rfl, by decide +kernel, rfl, by decide +kernel, by decide +kernel⟩
abbrev s_step_modules : Stmt := topS 18
abbrev N_step_modules : List Str := ["step", "kind", "item"]
theorem sc_step_modules : FnScope N_step_modules ["step"] (defScope s_step_modules) := ⟨rfl, rfl, rfl, by decide +kernel, rfl, by decide +kernel, by decide +kernel⟩
abbrev s_is_wrong : Stmt := topS 19
abbrev N_is_wrong : List Str := ["step", "after", "is_main", "known", "module"]
theorem sc_is_wrong : FnScope N_is_wrong ["step", "after", "is_main", "known"] (defScope s_is_wrong) := ⟨rfl, rfl, rfl, by decide +kernel, rfl, by decide +kernel, by decide +kernel⟩
abbrev s_first_problem : Stmt := topS 20
abbrev N_first_problem : List Str := ["value", "is_main", "known", "position", "step"]
theorem sc_first_problem : FnScope N_first_problem ["value", "is_main", "known"] (defScope s_first_problem) := ⟨rfl, rfl, rfl, by decide +kernel, rfl, by decide +kernel, by decide +kernel⟩
abbrev s_check_program : Stmt := topS 21
abbrev N_check_program : List Str := ["value", "is_main", "problem"]
theorem sc_check_program : FnScope N_check_program ["value", "is_main"] (defScope s_check_program) := ⟨rfl, rfl, rfl, by decide +kernel, rfl, by decide +kernel, by decide +kernel⟩
abbrev s_modules_in : Stmt := topS 22
abbrev N_modules_in : List Str := ["program", "step", "module"]
theorem sc_modules_in : FnScope N_modules_in ["program"] (defScope s_modules_in) := ⟨rfl, rfl, rfl, by decide +kernel, rfl, by decide +kernel, by decide +kernel⟩
abbrev s_law_pot : Stmt := topS 24
abbrev N_law_pot : List Str := ["_law_script", "_law_index", "_law_cell"]
theorem sc_law_pot : FnScope N_law_pot ["_law_script", "_law_index"] (defScope s_law_pot) := ⟨rfl, rfl, rfl, by decide +kernel, rfl, by decide +kernel, by decide +kernel⟩
abbrev s_law_draw : Stmt := topS 25
abbrev N_law_draw : List Str := ["_law_pot_here", "_law_most", "_law_digit"]
theorem sc_law_draw : FnScope N_law_draw ["_law_pot_here", "_law_most"] (defScope s_law_draw) := ⟨rfl, rfl, rfl, by decide +kernel, rfl, by decide +kernel, by decide +kernel⟩
abbrev s_law_choice : Stmt := topS 26
abbrev N_law_choice : List Str := ["_law_pot_here", "_law_options"]
theorem sc_law_choice : FnScope N_law_choice ["_law_pot_here", "_law_options"] (defScope s_law_choice) := ⟨rfl, rfl, rfl, by decide +kernel, rfl, by decide +kernel, by decide +kernel⟩
abbrev s_law_name : Stmt := topS 27
abbrev N_law_name : List Str := ["_law_pot_here", "_law_used", "_law_letters", "_law_size", "_law_word", "_law_spare", "_law_at", "_law_turn", "_law_one"]
theorem sc_law_name : FnScope N_law_name ["_law_pot_here", "_law_used"] (defScope s_law_name) := ⟨rfl, rfl, rfl, by decide +kernel, rfl, by decide +kernel, by decide +kernel⟩
abbrev s_law_names : Stmt := topS 28
abbrev N_law_names : List Str := ["_law_pot_here", "_law_number", "_law_found", "_law_turn"]
theorem sc_law_names : FnScope N_law_names ["_law_pot_here", "_law_number"] (defScope s_law_names) := ⟨rfl, rfl, rfl, by decide +kernel, rfl, by decide +kernel, by decide +kernel⟩
abbrev s_law_integer : Stmt := topS 29
abbrev N_law_integer : List Str := ["_law_pot_here"]
theorem sc_law_integer : FnScope N_law_integer ["_law_pot_here"] (defScope s_law_integer) := ⟨rfl, rfl, rfl, by decide +kernel, rfl, by decide +kernel, by decide +kernel⟩
abbrev s_law_step : Stmt := topS 30
abbrev N_law_step : List Str := ["_law_pot_here", "_law_modules", "_law_names_here", "_law_after", "_law_word", "_law_x", "_law_y", "_law_module", "_law_name_here", "_law_steps"]
theorem sc_law_step : FnScope N_law_step ["_law_pot_here", "_law_modules", "_law_names_here", "_law_after"] (defScope s_law_step) := ⟨rfl, rfl, rfl, by decide +kernel, rfl, by decide +kernel, by decide +kernel⟩
abbrev s_law_program : Stmt := topS 31
abbrev N_law_program : List Str := ["_law_pot_here", "_law_modules", "_law_names_here", "_law_most", "_law_size", "_law_at"]
theorem sc_law_program : FnScope N_law_program ["_law_pot_here", "_law_modules", "_law_names_here", "_law_most"] (defScope s_law_program) := ⟨rfl, rfl, rfl, by decide +kernel, rfl, by decide +kernel, by decide +kernel⟩
abbrev s_law_wrong_step : Stmt := topS 32
abbrev N_law_wrong_step : List Str := ["_law_pot_here", "_law_odd"]
theorem sc_law_wrong_step : FnScope N_law_wrong_step ["_law_pot_here"] (defScope s_law_wrong_step) := ⟨rfl, rfl, rfl, by decide +kernel, rfl, by decide +kernel, by decide +kernel⟩
abbrev s_law_spoilt : Stmt := topS 33
abbrev N_law_spoilt : List Str := ["_law_pot_here", "_law_program_here", "_law_found", "_law_turn", "_law_at", "_law_way"]
theorem sc_law_spoilt : FnScope N_law_spoilt ["_law_pot_here", "_law_program_here"] (defScope s_law_spoilt) := ⟨rfl, rfl, rfl, by decide +kernel, rfl, by decide +kernel, by decide +kernel⟩
abbrev s_law_is_whole : Stmt := topS 34
abbrev N_law_is_whole : List Str := ["_law_value"]
theorem sc_law_is_whole : FnScope N_law_is_whole ["_law_value"] (defScope s_law_is_whole) := ⟨rfl, rfl, rfl, by decide +kernel, rfl, by decide +kernel, by decide +kernel⟩
abbrev s_law_is_word : Stmt := topS 35
abbrev N_law_is_word : List Str := ["_law_value", "_law_letter"]
theorem sc_law_is_word : FnScope N_law_is_word ["_law_value"] (defScope s_law_is_word) := ⟨rfl, rfl, rfl, by decide +kernel, rfl, by decide +kernel, by decide +kernel⟩
abbrev s_law_fits : Stmt := topS 36
abbrev N_law_fits : List Str := ["_law_sort", "_law_value"]
theorem sc_law_fits : FnScope N_law_fits ["_law_sort", "_law_value"] (defScope s_law_fits) := ⟨rfl, rfl, rfl, by decide +kernel, rfl, by decide +kernel, by decide +kernel⟩
abbrev s_law_is_right_step : Stmt := topS 37
abbrev N_law_is_right_step : List Str := ["_law_value", "_law_forms", "_law_sorts", "_law_sort", "_law_one"]
theorem sc_law_is_right_step : FnScope N_law_is_right_step ["_law_value"] (defScope s_law_is_right_step) := ⟨rfl, rfl, rfl, by decide +kernel, rfl, by decide +kernel, by decide +kernel⟩
abbrev s_law_is_wrong : Stmt := topS 38
abbrev N_law_is_wrong : List Str := ["_law_step_here", "_law_after", "_law_is_first"]
theorem sc_law_is_wrong : FnScope N_law_is_wrong ["_law_step_here", "_law_after", "_law_is_first"] (defScope s_law_is_wrong) := ⟨rfl, rfl, rfl, by decide +kernel, rfl, by decide +kernel, by decide +kernel⟩
abbrev s_law_due : Stmt := topS 39
abbrev N_law_due : List Str := ["_law_value", "_law_is_first", "_law_wrong", "_law_at", "_law_step_here"]
theorem sc_law_due : FnScope N_law_due ["_law_value", "_law_is_first"] (defScope s_law_due) := ⟨rfl, rfl, rfl, by decide +kernel, rfl, by decide +kernel, by decide +kernel⟩
abbrev s_law_told : Stmt := topS 40
abbrev N_law_told : List Str := ["_law_way", "_law_value", "_law_told_here", "e", "_law_is_other"]
theorem sc_law_told : FnScope N_law_told ["_law_way", "_law_value"] (defScope s_law_told) := ⟨rfl, rfl, rfl, by decide +kernel, rfl, by decide +kernel, by decide +kernel⟩
abbrev s_law_judged : Stmt := topS 41
abbrev N_law_judged : List Str := ["_law_value", "_law_kept", "_law_due_here", "_law_spots", "_law_named", "_law_turn", "_law_told_here", "_law_step_here", "_law_way", "_law_at", "_law_one"]
theorem sc_law_judged : FnScope N_law_judged ["_law_value"] (defScope s_law_judged) := ⟨rfl, rfl, rfl, by decide +kernel, rfl, by decide +kernel, by decide +kernel⟩
abbrev s_law_right : Stmt := topS 42
abbrev N_law_right : List Str := ["_law_pot_here", "_law_modules", "_law_names_here", "_law_program_here", "_law_turn", "_law_long", "_law_odd"]
theorem sc_law_right : FnScope N_law_right ["_law_pot_here"] (defScope s_law_right) := ⟨rfl, rfl, rfl, by decide +kernel, rfl, by decide +kernel, by decide +kernel⟩
abbrev s_law : Stmt := topS 43
abbrev N_law : List Str := ["_law_script", "_law_index"]
theorem sc_law : FnScope N_law ["_law_script"] (defScope s_law) := ⟨rfl, rfl, rfl, by decide +kernel, rfl, by decide +kernel, by decide +kernel⟩
def f_FORMS (z : Str) : Option (List Str) := if z = "set" then some ["variable", "integer"] else if z = "add" then some ["variable", "variable"] else if z = "skip" then some ["variable", "amount"] else if z = "export" then some ["name", "variable"] else if z = "read" then some ["variable", "module", "name"] else if z = "need" then some ["module"] else if z = "try" then some ["module", "variable"] else if z = "fail" then some [] else none
def lett : Str := "abcdefghijklmnopqrstuvwxyz"
theorem cast {Φ : O → List O → Prop} {a b : Bool} (k : Φ (.fz (.bool a)) []) (e : a = b) : Φ (.fz (.bool b)) [] := e ▸ k
theorem keyP_str {z : Str} {k : Key} : (PyData.str z = keyD k) = (k = .inr z) := by
  refine propext ⟨fun e => ?_, fun e => by rw [e]; rfl⟩
  cases k with
  | inl i => cases e
  | inr y => injection e with e; rw [e]
theorem keyP_int {j : Int} {k : Key} : (PyData.int j = keyD k) = (k = .inl j) := by
  refine propext ⟨fun e => ?_, fun e => by rw [e]; rfl⟩
  cases k with
  | inl i => injection e with e; rw [e]
  | inr y => cases e
theorem ixT1 {x y : PyData} {l : List PyData} : atI (x :: y :: l) 1 = some y := by simp [atI, ixN, show (1 : Int) < (l.length : Int) + 1 + 1 by omega]
theorem ixT2 {x y z : PyData} {l : List PyData} : atI (x :: y :: z :: l) 2 = some z := by simp [atI, ixN, show (2 : Int) < (l.length : Int) + 1 + 1 + 1 by omega]
theorem ixT3 {x y z u : PyData} {l : List PyData} : atI (x :: y :: z :: u :: l) 3 = some u := by simp [atI, ixN, show (3 : Int) < (l.length : Int) + 1 + 1 + 1 + 1 by omega]
theorem exNot {b : Bool} {p : Bool → Prop} : (∃ c, b = !c ∧ p c) = p (!b) := propext ⟨fun ⟨c, e, h⟩ => by subst e; simpa using h, fun h => ⟨!b, by simp, h⟩⟩
theorem ci0 : ((0 : Nat) : Int) = 0 := rfl
theorem ci1 : ((1 : Nat) : Int) = 1 := rfl
theorem ci2 : ((2 : Nat) : Int) = 2 := rfl
theorem ci3 : ((3 : Nat) : Int) = 3 := rfl
theorem ci4 : ((4 : Nat) : Int) = 4 := rfl
theorem ci5 : ((5 : Nat) : Int) = 5 := rfl
theorem ci6 : ((6 : Nat) : Int) = 6 := rfl
theorem ci7 : ((7 : Nat) : Int) = 7 := rfl
theorem ci8 : ((8 : Nat) : Int) = 8 := rfl
theorem ci9 : ((9 : Nat) : Int) = 9 := rfl
theorem ci10 : ((10 : Nat) : Int) = 10 := rfl
theorem ci11 : ((11 : Nat) : Int) = 11 := rfl
theorem ci12 : ((12 : Nat) : Int) = 12 := rfl
theorem ci13 : ((13 : Nat) : Int) = 13 := rfl
theorem ci14 : ((14 : Nat) : Int) = 14 := rfl
theorem ci15 : ((15 : Nat) : Int) = 15 := rfl
theorem ci16 : ((16 : Nat) : Int) = 16 := rfl
theorem ci17 : ((17 : Nat) : Int) = 17 := rfl
theorem ci18 : ((18 : Nat) : Int) = 18 := rfl
theorem ci19 : ((19 : Nat) : Int) = 19 := rfl
theorem ci20 : ((20 : Nat) : Int) = 20 := rfl
theorem ci21 : ((21 : Nat) : Int) = 21 := rfl
theorem ci22 : ((22 : Nat) : Int) = 22 := rfl
theorem ci23 : ((23 : Nat) : Int) = 23 := rfl
def Nm (z : Str) : Prop := 1 ≤ z.length ∧ z.length ≤ 8 ∧ ∀ c ∈ z.cps.toList, c ∈ lett.cps.toList
section
variable {Φp : O → Prop} {z a b c d : Str}
theorem ev_inT2 : inD false (.str z) (.tuple [.str a, .str b]) Φp = Φp (.fz (.bool (decide (z ∈ [a, b])))) := ev_inT (us := [a, b])
theorem ev_notInT2 : inD true (.str z) (.tuple [.str a, .str b]) Φp = Φp (.fz (.bool (!decide (z ∈ [a, b])))) := propext ⟨fun ⟨x, e', h⟩ => by have e2 : inB (.str z) (.tuple [.str a, .str b]) = some (decide (z ∈ [a, b])) := inB_T (us := [a, b]); rw [e2] at e'; cases e'; exact h, fun h => ⟨_, (inB_T (us := [a, b]) : inB (.str z) (.tuple [.str a, .str b]) = _), h⟩⟩
theorem ev_inT3 : inD false (.str z) (.tuple [.str a, .str b, .str c]) Φp = Φp (.fz (.bool (decide (z ∈ [a, b, c])))) := ev_inT (us := [a, b, c])
theorem ev_inT4 : inD false (.str z) (.tuple [.str a, .str b, .str c, .str d]) Φp = Φp (.fz (.bool (decide (z ∈ [a, b, c, d])))) := ev_inT (us := [a, b, c, d])
end
theorem fo_set : f_FORMS "set" = some (["variable", "integer"] : List Str) := by decide +kernel
theorem fo_add : f_FORMS "add" = some (["variable", "variable"] : List Str) := by decide +kernel
theorem fo_skip : f_FORMS "skip" = some (["variable", "amount"] : List Str) := by decide +kernel
theorem fo_exp : f_FORMS "export" = some (["name", "variable"] : List Str) := by decide +kernel
theorem fo_read : f_FORMS "read" = some (["variable", "module", "name"] : List Str) := by decide +kernel
theorem fo_need : f_FORMS "need" = some (["module"] : List Str) := by decide +kernel
theorem fo_try : f_FORMS "try" = some (["module", "variable"] : List Str) := by decide +kernel
theorem fo_fail : f_FORMS "fail" = some ([] : List Str) := by decide +kernel
def G_InvalidProgram (ds : List PyData) : Prop := ∃ a, ds = [a] ∧ (∃ n : Int, a = .int n ∧ n.natAbs < 10 ^ 60)
def m_InvalidProgram__init : TD := (mJs [(mC (.str "invalid program at position ")), (mFmt fmtG (mVar 1))] Str.empty)
theorem msg_InvalidProgram : ∀ ds, G_InvalidProgram ds → ds.length = ([] : List Str).length + 1 → m_InvalidProgram__init (.un :: ds.map .fz) (fun _ _ => True) (fun _ _ => False) := by
  rintro ds ⟨_, rfl, ⟨n0, rfl, hn0⟩⟩ _
  exact (mj_c (L := 0) (by decide +kernel) (by decide) (mj_I (i := 1) (L := 1000) rfl (Sm.int hn0) (by decide) (by decide) (mj_nil (L := 51000) (fun _ => True.intro)))) _ (by decide)
structure Tx (K : PySem.W.Frag) (w : World) (mg : Str → Option Value) where
  f_InvalidProgram__init : Addr
  d_InvalidProgram__init : FuncData
  F_InvalidProgram__init : Fun K "__init__" "InvalidProgram.__init__" s_InvalidProgram__init f_InvalidProgram__init d_InvalidProgram__init
  b_InvalidProgram__init : Binds K d_InvalidProgram__init ["self", "position"] []
  f_is_name : Addr
  d_is_name : FuncData
  F_is_name : Fun K "is_name" "is_name" s_is_name f_is_name d_is_name
  m_is_name : mg "is_name" = some (.ref f_is_name)
  b_is_name : Binds K d_is_name ["value"] []
  f_is_integer : Addr
  d_is_integer : FuncData
  F_is_integer : Fun K "is_integer" "is_integer" s_is_integer f_is_integer d_is_integer
  m_is_integer : mg "is_integer" = some (.ref f_is_integer)
  b_is_integer : Binds K d_is_integer ["value"] []
  f_is_variable : Addr
  d_is_variable : FuncData
  F_is_variable : Fun K "is_variable" "is_variable" s_is_variable f_is_variable d_is_variable
  m_is_variable : mg "is_variable" = some (.ref f_is_variable)
  b_is_variable : Binds K d_is_variable ["value"] []
  f_is_item : Addr
  d_is_item : FuncData
  F_is_item : Fun K "is_item" "is_item" s_is_item f_is_item d_is_item
  m_is_item : mg "is_item" = some (.ref f_is_item)
  b_is_item : Binds K d_is_item ["kind", "value"] []
  f_is_step : Addr
  d_is_step : FuncData
  F_is_step : Fun K "is_step" "is_step" s_is_step f_is_step d_is_step
  m_is_step : mg "is_step" = some (.ref f_is_step)
  b_is_step : Binds K d_is_step ["value"] []
  f_step_modules : Addr
  d_step_modules : FuncData
  F_step_modules : Fun K "step_modules" "step_modules" s_step_modules f_step_modules d_step_modules
  m_step_modules : mg "step_modules" = some (.ref f_step_modules)
  b_step_modules : Binds K d_step_modules ["step"] []
  f_is_wrong : Addr
  d_is_wrong : FuncData
  F_is_wrong : Fun K "is_wrong" "is_wrong" s_is_wrong f_is_wrong d_is_wrong
  m_is_wrong : mg "is_wrong" = some (.ref f_is_wrong)
  b_is_wrong : Binds K d_is_wrong ["step", "after", "is_main", "known"] []
  f_first_problem : Addr
  d_first_problem : FuncData
  F_first_problem : Fun K "first_problem" "first_problem" s_first_problem f_first_problem d_first_problem
  m_first_problem : mg "first_problem" = some (.ref f_first_problem)
  f_check_program : Addr
  d_check_program : FuncData
  F_check_program : Fun K "check_program" "check_program" s_check_program f_check_program d_check_program
  m_check_program : mg "check_program" = some (.ref f_check_program)
  f_modules_in : Addr
  d_modules_in : FuncData
  F_modules_in : Fun K "modules_in" "modules_in" s_modules_in f_modules_in d_modules_in
  m_modules_in : mg "modules_in" = some (.ref f_modules_in)
  b_modules_in : Binds K d_modules_in ["program"] []
  f_law_pot : Addr
  d_law_pot : FuncData
  F_law_pot : Fun K "_law_pot" "_law_pot" s_law_pot f_law_pot d_law_pot
  m_law_pot : mg "_law_pot" = some (.ref f_law_pot)
  b_law_pot : Binds K d_law_pot ["_law_script", "_law_index"] []
  f_law_draw : Addr
  d_law_draw : FuncData
  F_law_draw : Fun K "_law_draw" "_law_draw" s_law_draw f_law_draw d_law_draw
  m_law_draw : mg "_law_draw" = some (.ref f_law_draw)
  b_law_draw : Binds K d_law_draw ["_law_pot_here", "_law_most"] []
  f_law_choice : Addr
  d_law_choice : FuncData
  F_law_choice : Fun K "_law_choice" "_law_choice" s_law_choice f_law_choice d_law_choice
  m_law_choice : mg "_law_choice" = some (.ref f_law_choice)
  b_law_choice : Binds K d_law_choice ["_law_pot_here", "_law_options"] []
  f_law_name : Addr
  d_law_name : FuncData
  F_law_name : Fun K "_law_name" "_law_name" s_law_name f_law_name d_law_name
  m_law_name : mg "_law_name" = some (.ref f_law_name)
  b_law_name : Binds K d_law_name ["_law_pot_here", "_law_used"] []
  f_law_names : Addr
  d_law_names : FuncData
  F_law_names : Fun K "_law_names" "_law_names" s_law_names f_law_names d_law_names
  m_law_names : mg "_law_names" = some (.ref f_law_names)
  b_law_names : Binds K d_law_names ["_law_pot_here", "_law_number"] []
  f_law_integer : Addr
  d_law_integer : FuncData
  F_law_integer : Fun K "_law_integer" "_law_integer" s_law_integer f_law_integer d_law_integer
  m_law_integer : mg "_law_integer" = some (.ref f_law_integer)
  b_law_integer : Binds K d_law_integer ["_law_pot_here"] []
  f_law_step : Addr
  d_law_step : FuncData
  F_law_step : Fun K "_law_step" "_law_step" s_law_step f_law_step d_law_step
  m_law_step : mg "_law_step" = some (.ref f_law_step)
  b_law_step : Binds K d_law_step ["_law_pot_here", "_law_modules", "_law_names_here", "_law_after"] []
  f_law_program : Addr
  d_law_program : FuncData
  F_law_program : Fun K "_law_program" "_law_program" s_law_program f_law_program d_law_program
  m_law_program : mg "_law_program" = some (.ref f_law_program)
  b_law_program : Binds K d_law_program ["_law_pot_here", "_law_modules", "_law_names_here", "_law_most"] []
  f_law_wrong_step : Addr
  d_law_wrong_step : FuncData
  F_law_wrong_step : Fun K "_law_wrong_step" "_law_wrong_step" s_law_wrong_step f_law_wrong_step d_law_wrong_step
  m_law_wrong_step : mg "_law_wrong_step" = some (.ref f_law_wrong_step)
  b_law_wrong_step : Binds K d_law_wrong_step ["_law_pot_here"] []
  f_law_spoilt : Addr
  d_law_spoilt : FuncData
  F_law_spoilt : Fun K "_law_spoilt" "_law_spoilt" s_law_spoilt f_law_spoilt d_law_spoilt
  m_law_spoilt : mg "_law_spoilt" = some (.ref f_law_spoilt)
  b_law_spoilt : Binds K d_law_spoilt ["_law_pot_here", "_law_program_here"] []
  f_law_is_whole : Addr
  d_law_is_whole : FuncData
  F_law_is_whole : Fun K "_law_is_whole" "_law_is_whole" s_law_is_whole f_law_is_whole d_law_is_whole
  m_law_is_whole : mg "_law_is_whole" = some (.ref f_law_is_whole)
  b_law_is_whole : Binds K d_law_is_whole ["_law_value"] []
  f_law_is_word : Addr
  d_law_is_word : FuncData
  F_law_is_word : Fun K "_law_is_word" "_law_is_word" s_law_is_word f_law_is_word d_law_is_word
  m_law_is_word : mg "_law_is_word" = some (.ref f_law_is_word)
  b_law_is_word : Binds K d_law_is_word ["_law_value"] []
  f_law_fits : Addr
  d_law_fits : FuncData
  F_law_fits : Fun K "_law_fits" "_law_fits" s_law_fits f_law_fits d_law_fits
  m_law_fits : mg "_law_fits" = some (.ref f_law_fits)
  b_law_fits : Binds K d_law_fits ["_law_sort", "_law_value"] []
  f_law_is_right_step : Addr
  d_law_is_right_step : FuncData
  F_law_is_right_step : Fun K "_law_is_right_step" "_law_is_right_step" s_law_is_right_step f_law_is_right_step d_law_is_right_step
  m_law_is_right_step : mg "_law_is_right_step" = some (.ref f_law_is_right_step)
  b_law_is_right_step : Binds K d_law_is_right_step ["_law_value"] []
  f_law_is_wrong : Addr
  d_law_is_wrong : FuncData
  F_law_is_wrong : Fun K "_law_is_wrong" "_law_is_wrong" s_law_is_wrong f_law_is_wrong d_law_is_wrong
  m_law_is_wrong : mg "_law_is_wrong" = some (.ref f_law_is_wrong)
  b_law_is_wrong : Binds K d_law_is_wrong ["_law_step_here", "_law_after", "_law_is_first"] []
  f_law_due : Addr
  d_law_due : FuncData
  F_law_due : Fun K "_law_due" "_law_due" s_law_due f_law_due d_law_due
  m_law_due : mg "_law_due" = some (.ref f_law_due)
  b_law_due : Binds K d_law_due ["_law_value", "_law_is_first"] []
  f_law_told : Addr
  d_law_told : FuncData
  F_law_told : Fun K "_law_told" "_law_told" s_law_told f_law_told d_law_told
  m_law_told : mg "_law_told" = some (.ref f_law_told)
  b_law_told : Binds K d_law_told ["_law_way", "_law_value"] []
  f_law_judged : Addr
  d_law_judged : FuncData
  F_law_judged : Fun K "_law_judged" "_law_judged" s_law_judged f_law_judged d_law_judged
  m_law_judged : mg "_law_judged" = some (.ref f_law_judged)
  b_law_judged : Binds K d_law_judged ["_law_value"] []
  f_law_right : Addr
  d_law_right : FuncData
  F_law_right : Fun K "_law_right" "_law_right" s_law_right f_law_right d_law_right
  m_law_right : mg "_law_right" = some (.ref f_law_right)
  b_law_right : Binds K d_law_right ["_law_pot_here"] []
  f_law : Addr
  d_law : FuncData
  F_law : Fun K "law" "law" s_law f_law d_law
  m_law : mg "law" = some (.ref f_law)
  b_law : Binds K d_law ["_law_script"] []
  n_ValueError : mg "ValueError" = none
  n_abs : mg "abs" = none
  n_all : mg "all" = none
  n_bool : mg "bool" = none
  n_divmod : mg "divmod" = none
  n_enumerate : mg "enumerate" = none
  n_int : mg "int" = none
  n_isinstance : mg "isinstance" = none
  n_len : mg "len" = none
  n_list : mg "list" = none
  n_max : mg "max" = none
  n_min : mg "min" = none
  n_range : mg "range" = none
  n_repr : mg "repr" = none
  n_sorted : mg "sorted" = none
  n_str : mg "str" = none
  n_tuple : mg "tuple" = none
  n_zip : mg "zip" = none
  a_VARIABLES : Addr
  g_VARIABLES : mg "VARIABLES" = some (.ref a_VARIABLES)
  s_VARIABLES : ∀ H, SqT K H a_VARIABLES [.str "a", .str "b", .str "c", .str "d"]
  k_MOST_LETTERS : Tok
  g_MOST_LETTERS : mg "MOST_LETTERS" = some (.int 8 k_MOST_LETTERS)
  k_LETTERS : Tok
  g_LETTERS : mg "LETTERS" = some (.str "abcdefghijklmnopqrstuvwxyz" k_LETTERS)
  k_MOST_STEPS : Tok
  g_MOST_STEPS : mg "MOST_STEPS" = some (.int 30 k_MOST_STEPS)
  ka_first_problem_1_is_main : KA K d_first_problem ["value", "is_main", "known"] 1 ["is_main"] (fun zs => [zs.getD 0 .non, .non]) (fun zs => [zs.getD 0 .none, .none])
  ka_check_program_1 : KA K d_check_program ["value", "is_main"] 1 [] (fun zs => [.bl false]) (fun zs => [.bool false])
  ka_check_program_1_is_main : KA K d_check_program ["value", "is_main"] 1 ["is_main"] (fun zs => [zs.getD 0 .non]) (fun zs => [zs.getD 0 .none])
  a_FORMS : Addr
  g_FORMS : mg "FORMS" = some (.ref a_FORMS)
  kf_FORMS : KF K w a_FORMS f_FORMS
  c_LoaderError : Addr
  g_LoaderError : mg "LoaderError" = some (.ref c_LoaderError)
  xi_LoaderError : PySem.W.excIn K c_LoaderError [.type "ValueError", .type "Exception", .type "BaseException", .type "object"] "ValueError.__new__" = true
  xk_LoaderError : PySem.W.keepIn K (.ref c_LoaderError) = true
  xc_LoaderError : ExC K c_LoaderError
  sg_LoaderError : PySem.W.specialIn K (.ref c_LoaderError) "__getattribute__" = some (some (.builtin "type.__getattribute__"))
  rd_LoaderError : PySem.W.readsIn K c_LoaderError (.type "type") = true
  fc_LoaderError : PySem.W.findCls K (.ref c_LoaderError) (.type "type") "__init__" = some (.val (.builtin bVE.ini))
  c_InvalidProgram : Addr
  g_InvalidProgram : mg "InvalidProgram" = some (.ref c_InvalidProgram)
  ox_InvalidProgram : OexB K bVE c_InvalidProgram
  xc_InvalidProgram : ExC K c_InvalidProgram
  iC_InvalidProgram : PySem.W.findIn K (.ref c_InvalidProgram) "__init__" = some (some (.ref f_InvalidProgram__init))
  ti_InvalidProgram : PySem.W.typeIn K (.ref f_InvalidProgram__init) = some (.type "function")
  nf_InvalidProgram_position : PySem.W.findIn K (.ref c_InvalidProgram) "position" = some none
  c_InvalidLibrary : Addr
  g_InvalidLibrary : mg "InvalidLibrary" = some (.ref c_InvalidLibrary)
  c_InvalidMains : Addr
  g_InvalidMains : mg "InvalidMains" = some (.ref c_InvalidMains)
  c_InvalidText : Addr
  g_InvalidText : mg "InvalidText" = some (.ref c_InvalidText)
  exm_InvalidProgram_LoaderError : PySem.W.exmOne K (.ref c_InvalidProgram) (.ref c_LoaderError) = some true
  kit_InvalidProgram_InvalidLibrary : PySem.W.kitOne K (.ref c_InvalidProgram) (.ref c_InvalidLibrary) = some false
  kit_InvalidProgram_InvalidMains : PySem.W.kitOne K (.ref c_InvalidProgram) (.ref c_InvalidMains) = some false
  kit_InvalidProgram_InvalidText : PySem.W.kitOne K (.ref c_InvalidProgram) (.ref c_InvalidText) = some false
  kit_InvalidProgram_ValueError : PySem.W.kitOne K (.ref c_InvalidProgram) (.type "ValueError") = some true
  kit_InvalidProgram_InvalidProgram : PySem.W.kitOne K (.ref c_InvalidProgram) (.ref c_InvalidProgram) = some true
section
variable {P : Program} {w : World} {K : PySem.W.Frag} {mg : Str → Option Value} {base : Heap}
/-! the way through a reading over trees -/
local macro_rules | `(tactic| walk_at "ev0") => `(tactic| simp only [shr, ev_var, ev_mov, ev_c, ev_frz, ev_op, ev_un, ev_and, ev_or, ev_not, ev_if, ev_chain, ev_tval, ev_tnt, ev_tan, ev_tor, ev_nil, ev_cons, ev_ls, ev_tp, ev_cb, ev_isi, ev_sl, ev_ono, ev_oso, ev_m1, ev_m0, ev_call, ev_bor, ev_tbor, ev_dnew, ev_scrLen,
  ev_seq, ev_next, ev_brk, ev_cnt, ev_ret, ev_retN, ev_drop, ev_sif, ev_set, ev_asg, ev_par, ev_par3, ev_aug, ev_app, ev_sfrz, ev_then, ev_frzAt, ev_match, ev_mmVal, ev_mmAny, ev_mmNil, ev_gN, ev_gT, ev_gLc, ev_gL0,
  ev_addI, ev_addS, ev_addL, ev_addT, ev_subI, ev_mulI, ev_mulL, ev_modI, ev_divI, ev_powI, ev_negI, ev_ordI, ev_ordS, ev_eqI, ev_eqS, ev_eqT0, ev_neI, ev_neS, ev_isN, ev_notN, ev_isB, ev_notB, ev_in1, ev_notIn1, ev_inL, ev_notInL, ev_inT, ev_lenL, ev_lenT, ev_lenS, ev_max, ev_min, ev_listL, ev_listT, ev_tupleL, ev_tupleT, ev_all,
  fz_fz, fz_nil, fz_consF, fz_lst, fz_dct0, fzO_lst, fzL_map, len_fz, len_tok, len_un, len_lst, noMutO, noMut,
  List.getElem?_cons_zero, List.getElem?_cons_succ, List.set_cons_zero, List.set_cons_succ, List.length_cons, List.length_nil, List.map_cons, List.map_nil, Nat.reduceAdd, Nat.reduceLT, Nat.reduceLeDiff, Nat.zero_lt_succ, Option.some.injEq, Option.map_some, exists_eq_left', exists_eq_left, exists_eq', O.fz.injEq, PyData.bool.injEq, PyData.int.injEq, PyData.str.injEq, PyData.list.injEq, PyData.tuple.injEq, reduceCtorEq, not_false_eq_true, ne_eq, true_and, and_true, or_true, true_or, or_false, false_or, exists_const, if_true, if_false, Bool.not_true, Bool.not_false, Bool.false_eq_true, List.cons.injEq, and_self, putOut, List.not_mem_nil, false_implies, implies_true, forall_const, and_false, false_and, exists_false, exists_prop, tyD,
  ev_lc, ev_tys, ev_turn, ev_iS, ev_iL, ev_iT, ev_iR1, ev_iR2, ev_iEn, ev_iZL, ev_iZT, ev_iZS, ev_for, wipeE_nil, wipeE_cons, fin_rt, fin_nx, fin_ex, outs_nil, outs_cons, getD_0, getD_s, fzL_mapf, ev_allf, ev_repr, ev_abs, ev_ixL, ev_ixT, ev_ixS, ev_slL, ev_slT, ev_slS, at_0, cut_1, List.mem_cons, forall_eq_or_imp, forall_eq, decide_eq_true_eq, Bool.not_eq_true', decide_eq_false_iff_not, isNo, List.isEmpty, Bool.not_eq_eq_eq_not, eq_self,
  kt_NoneType_str, kt_NoneType_int, kt_NoneType_bool, kt_NoneType_tuple, kt_NoneType_list, kt_NoneType_dict, kt_bool_str, kt_bool_int, kt_bool_bool, kt_bool_tuple, kt_bool_list, kt_bool_dict, kt_int_str, kt_int_int, kt_int_bool, kt_int_tuple, kt_int_list, kt_int_dict, kt_str_str, kt_str_int, kt_str_bool, kt_str_tuple, kt_str_list, kt_str_dict, kt_list_str, kt_list_int, kt_list_bool, kt_list_tuple, kt_list_list, kt_list_dict, kt_tuple_str, kt_tuple_int, kt_tuple_bool, kt_tuple_tuple, kt_tuple_list, kt_tuple_dict, kt_dict_str, kt_dict_int, kt_dict_bool, kt_dict_tuple, kt_dict_list, kt_dict_dict])
local macro_rules | `(tactic| walk_at "ev1") => `(tactic| simp only [O.lst.injEq, O.dct.injEq, O.exv.injEq, List.length_map, ev_try, ev_exF, ev_isE, ev_excAt, se_nx, se_rt, se_ex, len_exc, exc_inj, ev_raise, ev_srt2, ev_srt, ev_mbOut, ev_mbIn, ev_pVar, ev_pFld, ev_pKey, ev_borr, ev_putP, ev_appP, ev_callK, ev_inF, ev_ixF, ev_dispO, ev_pairsO, ev_pairsO0, ev_never, ev_int1, ev_int2, key_str, key_int, keyP_str, keyP_int, mapfz_nil, mapfz_cons,
  not_true_eq_false, not_false_eq_true, exNot, ci0, ci1, ci2, ci3, ci4, ci5, ci6, ci7, ci8, ci9, ci10, ci11, ci12, ci13, ci14, ci15, ci16, ci17, ci18, ci19, ci20, ci21, ci22, ci23, Int.zero_add, Int.reduceAdd, Int.reduceEq, Int.reduceSub, Int.reduceLT, Int.reduceLE, ixT1, ixT2, ixT3, ev_inT4, List.not_mem_nil, or_false, decide_true, decide_false, exists_and_left, exists_and_right, and_assoc])
local macro_rules | `(tactic| walk_at "fr") => `(tactic| repeat (first | walk_at "ev0" | walk_at "ev1"))
theorem ini_InvalidProgram (T : Tx K w mg) (hS : SysB base) : FnG P w K mg base CX0 1 T.f_InvalidProgram__init T.d_InvalidProgram__init ["self", "position"] (spI K T.c_InvalidProgram ["position"] G_InvalidProgram) :=
  ini_okB (b := bVE) T.F_InvalidProgram__init sc_InvalidProgram__init T.ox_InvalidProgram (al_cons T.nf_InvalidProgram_position (fun g h => nomatch h)) (by decide) rfl (fun cdv A outer s H E hG hr => ⟨_, m_InvalidProgram__init, (je_fstr (JF.cons je_str (JF.cons (je_fmtG hG hr hS (je_var 1)) JF.nil))), msg_InvalidProgram, pss_cons (ps_expr (pe_binV T.g_LoaderError T.sg_LoaderError T.rd_LoaderError T.fc_LoaderError (pa_cons (pv 0) (pa_cons pe_J pa_nil)))) (pss_cons (ps_bst (pv 0) (pv 1)) pss_nil)⟩)
/-! what the definitions name, of any data -/
def isNameD : PyData → Bool
  | .str z => (decide (1 ≤ (z.length : Int)) && decide ((z.length : Int) ≤ 8)) && z.cps.toList.all fun c => decide (c ∈ lett.cps.toList)
  | _ => false
def isIntD : PyData → Bool
  | .int _ => true
  | _ => false
theorem nameD_str {z : Str} : isNameD (.str z) = ((decide (1 ≤ (z.length : Int)) && decide ((z.length : Int) ≤ 8)) && z.cps.toList.all fun c => decide (c ∈ lett.cps.toList)) := rfl
def vars4 : List Str := ["a", "b", "c", "d"]
def isVarD : PyData → Bool
  | .str z => decide (z ∈ vars4)
  | _ => false
def isAmountD : PyData → Bool
  | .int i => decide (1 ≤ i)
  | _ => false
def isItemD (kind : Str) (d : PyData) : Bool :=
  if kind = "variable" then isVarD d else if kind = "integer" then isIntD d else if kind = "amount" then isAmountD d else isNameD d
def isStepD : PyData → Bool
  | .tuple (.str z :: items) => match f_FORMS z with
    | some ks => decide (ks.length = items.length) && (ks.zip items).all fun p => isItemD p.1 p.2
    | none => false
  | _ => false
/-- data of bounded length -/
def Bd : Nat → PyData → Prop
  | _, .str z => z.length ≤ 1000
  | k + 1, .tuple ds => ds.length ≤ 1000 ∧ ∀ d ∈ ds, Bd k d
  | k + 1, .list ds => ds.length ≤ 1000 ∧ ∀ d ∈ ds, Bd k d
  | 0, .tuple _ => False
  | 0, .list _ => False
  | _, _ => True
def S_is_name (T : Tx K w mg) : TSp := fun os Φ _ => ∃ d k, os = [.fz d] ∧ Bd k d ∧ Φ (.fz (.bool (isNameD d))) []
def t_is_name (T : Tx K w mg) : TSD :=
  (sSeq (sIf (tOrr (tNt (tVal (mIsi "str" (mVar 0)))) (tNt (tVal (mChain leD leD (mC (.int 1)) (mCB lenD (mCons (mFrz (mVar 0)) mNil)) (mC (.int 8)))))) (sRet (mC (.bool false))) sNext)
    (sRet (mCB allD (mCons (mFrz (mLc (iS (mVar 0)) [1] (gN 1) tYs (mOp (inD false) (mVar 1) (mC (.str "abcdefghijklmnopqrstuvwxyz"))))) mNil))))
theorem pr_is_name (T : Tx K w mg) (os : List O) (Φ : O → List O → Prop) (Ξ : Exn → List O → Prop) (hl : os.length = 1) (h : S_is_name T os Φ Ξ) : t_is_name T (fin [] Φ Ξ) (os ++ List.replicate (N_is_name.length - os.length) .un) := by
  obtain ⟨d, n, rfl, b, k⟩ := h
  show t_is_name T (fin [] Φ Ξ) [.fz d, .un]
  unfold t_is_name
  cases d with
  | str z =>
    have b : z.length ≤ 1000 := by cases n <;> exact b
    walk_at "fr"
    refine ⟨by omega, ?_⟩
    rw [nameD_str] at k
    by_cases h1 : 1 ≤ (z.length : Int)
    · rw [if_pos h1]
      rw [decide_eq_true h1] at k
      by_cases h2 : (z.length : Int) ≤ 8
      · rw [if_neg (by simpa using h2), sgD_def]
        rw [decide_eq_true h2] at k
        refine go_mapG (fun c => .fz (.bool (decide (c ∈ lett.cps.toList)))) (by rw [show z.cps.toList.length = z.length from by simp [Str.length]]; omega) ?_ ?_
        · intro c hc acc N hl hN
          walk_at "fr"
          exact ⟨hl, hN⟩
        · walk_at "fr"
          exact cast k rfl
      · rw [if_pos (by simpa using h2)]
        rw [decide_eq_false h2] at k
        exact k
    · rw [if_neg h1]
      rw [decide_eq_false h1] at k
      exact k
  | _ => walk_at "fr"; exact k
theorem ok_is_name (T : Tx K w mg) (hS : SysB base) : FnT P w K mg base 1 T.f_is_name T.d_is_name ["value"] [] (S_is_name T) := okT T.F_is_name sc_is_name (by decide) (by decide) (fun cdv A outer s H E hG hr tk => (jss_cons (js_if (JW.jt (jw_or (jt_not (jt_val (je_isi T.n_isinstance (je_var 0) (pe_bltn (v := .ty "str") rfl T.n_str bt_str rfl)))) (jw_or1 (jt_not (jt_chain o_le d_le o_le d_le je_int (je_callB o_len d_len T.n_len bt_len (ja_cons (JE.jp (je_frz (je_var 0))) ja_nil)) (je_c (v := (.int 8)) (pe_glob rfl T.g_MOST_LETTERS ⟨_, rfl⟩) (fun _ => .int _))))))) (jss_one (js_ret je_bl)) jss_nil)
    (jss_one (js_ret (je_callB (cr_all rfl) d_all T.n_all bt_all (ja_cons (JE.jp (je_frz (je_lc rfl sc_is_name.nd (ji_str (je_var 0)) (blkOk_by (own := [("letter", 1)]) (N := N_is_name) (sc := defScope s_is_name) (by decide +kernel)) (sl := [1]) rfl (fun _ _ _ _ _ => pg_name (i := 1) sc_is_name.nd rfl (Or.inl rfl)) (jg_name 1) pts_0 kt_nil (fun _ _ _ _ _ => (je_cmp (o_in hr) d_in (je_var 1) (je_c (v := (.str "abcdefghijklmnopqrstuvwxyz")) (pe_glob rfl T.g_LETTERS ⟨_, rfl⟩) (fun _ => .str _)) (by rfl)))))) ja_nil)))))) (pr_is_name T)
def S_is_integer (T : Tx K w mg) : TSp := fun os Φ _ => ∃ d, os = [.fz d] ∧ Φ (.fz (.bool (isIntD d))) []
def t_is_integer (T : Tx K w mg) : TSD :=
  (sRet (mAnd (mIsi "int" (mVar 0)) (mNot (mIsi "bool" (mVar 0)))))
theorem pr_is_integer (T : Tx K w mg) (os : List O) (Φ : O → List O → Prop) (Ξ : Exn → List O → Prop) (hl : os.length = 1) (h : S_is_integer T os Φ Ξ) : t_is_integer T (fin [] Φ Ξ) (os ++ List.replicate (N_is_integer.length - os.length) .un) := by
  obtain ⟨d, rfl, k⟩ := h
  show t_is_integer T (fin [] Φ Ξ) [.fz d]
  unfold t_is_integer
  cases d <;> (walk_at "fr"; exact k)
theorem ok_is_integer (T : Tx K w mg) (hS : SysB base) : FnT P w K mg base 1 T.f_is_integer T.d_is_integer ["value"] [] (S_is_integer T) := okT T.F_is_integer sc_is_integer (by decide) (by decide) (fun cdv A outer s H E hG hr tk => (jss_one (js_ret (je_and (je_isi T.n_isinstance (je_var 0) (pe_bltn (v := .ty "int") rfl T.n_int bt_int rfl)) (je_one (je_not (je_isi T.n_isinstance (je_var 0) (pe_bltn (v := .ty "bool") rfl T.n_bool bt_bool rfl)))))))) (pr_is_integer T)
def S_is_variable (T : Tx K w mg) : TSp := fun os Φ _ => ∃ d, os = [.fz d] ∧ Φ (.fz (.bool (isVarD d))) []
def t_is_variable (T : Tx K w mg) : TSD :=
  (sRet (mAnd (mIsi "str" (mVar 0)) (mOp (inD false) (mVar 0) (mC (.tuple [.str "a", .str "b", .str "c", .str "d"])))))
theorem pr_is_variable (T : Tx K w mg) (os : List O) (Φ : O → List O → Prop) (Ξ : Exn → List O → Prop) (hl : os.length = 1) (h : S_is_variable T os Φ Ξ) : t_is_variable T (fin [] Φ Ξ) (os ++ List.replicate (N_is_variable.length - os.length) .un) := by
  obtain ⟨d, rfl, k⟩ := h
  show t_is_variable T (fin [] Φ Ξ) [.fz d]
  unfold t_is_variable
  cases d with
  | str z =>
    walk_at "fr"
    refine cast k ?_
    unfold isVarD vars4
    rw [decide_eq_decide]; simp
  | _ => walk_at "fr"; exact k
theorem ok_is_variable (T : Tx K w mg) (hS : SysB base) : FnT P w K mg base 1 T.f_is_variable T.d_is_variable ["value"] [] (S_is_variable T) := okT T.F_is_variable sc_is_variable (by decide) (by decide) (fun cdv A outer s H E hG hr tk => (jss_one (js_ret (je_and (je_isi T.n_isinstance (je_var 0) (pe_bltn (v := .ty "str") rfl T.n_str bt_str rfl)) (je_one (je_cmp (o_in hr) d_in (je_var 0) (je_c (v := .ref T.a_VARIABLES) (pe_glob (by rfl) T.g_VARIABLES (by rfl)) (fun F => .tup (T.s_VARIABLES F) (.cons (.str _) (.cons (.str _) (.cons (.str _) (.cons (.str _) .nil)))))) (by rfl))))))) (pr_is_variable T)
def S_is_item (T : Tx K w mg) : TSp := fun os Φ _ => ∃ kd d n, os = [.fz (.str kd), .fz d] ∧ Bd n d ∧ Φ (.fz (.bool (isItemD kd d))) []
def t_is_item (T : Tx K w mg) : TSD :=
  (sMatch (mVar 0) (mmVal "variable" (sRet (mCall (S_is_variable T) [] (mCons (mFrz (mVar 1)) mNil))) (mmVal "integer" (sRet (mCall (S_is_integer T) [] (mCons (mFrz (mVar 1)) mNil))) (mmVal "amount" (sRet (mAnd (mCall (S_is_integer T) [] (mCons (mFrz (mVar 1)) mNil)) (mOp geD (mVar 1) (mC (.int 1))))) (mmAny (sRet (mCall (S_is_name T) [] (mCons (mFrz (mVar 1)) mNil))))))))
theorem pr_is_item (T : Tx K w mg) (os : List O) (Φ : O → List O → Prop) (Ξ : Exn → List O → Prop) (hl : os.length = 2) (h : S_is_item T os Φ Ξ) : t_is_item T (fin [] Φ Ξ) (os ++ List.replicate (N_is_item.length - os.length) .un) := by
  obtain ⟨kd, d, n, rfl, b, k⟩ := h
  show t_is_item T (fin [] Φ Ξ) [.fz (.str kd), .fz d]
  unfold t_is_item
  unfold isItemD at k
  walk_at "fr"
  by_cases h1 : kd = "variable"
  · rw [if_pos h1] at k ⊢; exact ⟨d, rfl, k⟩
  by_cases h2 : kd = "integer"
  · rw [if_neg h1, if_pos h2] at k ⊢; exact ⟨d, rfl, k⟩
  by_cases h3 : kd = "amount"
  · rw [if_neg h1, if_neg h2, if_pos h3] at k ⊢
    refine ⟨d, rfl, _, rfl, ?_⟩
    cases d with
    | int i => walk_at "fr"; exact k
    | _ => exact k
  rw [if_neg h1, if_neg h2, if_neg h3] at k ⊢
  exact ⟨d, n, rfl, b, k⟩
theorem ok_is_item (T : Tx K w mg) (hS : SysB base) : FnT P w K mg base 2 T.f_is_item T.d_is_item ["kind", "value"] [] (S_is_item T) := okT T.F_is_item sc_is_item (by decide) (by decide) (fun cdv A outer s H E hG hr tk => (jss_one (js_match (je_var 0) (jm_val (jss_one (js_ret (je_call (ip := []) hG (ok_is_variable T hS) (hr.mono (by decide)) T.m_is_variable T.F_is_variable.kp T.b_is_variable tk (ja_cons (JE.jp (je_frz (je_var 1))) ja_nil))))
    (jm_val (jss_one (js_ret (je_call (ip := []) hG (ok_is_integer T hS) (hr.mono (by decide)) T.m_is_integer T.F_is_integer.kp T.b_is_integer tk (ja_cons (JE.jp (je_frz (je_var 1))) ja_nil))))
    (jm_val (jss_one (js_ret (je_and (je_call (ip := []) hG (ok_is_integer T hS) (hr.mono (by decide)) T.m_is_integer T.F_is_integer.kp T.b_is_integer tk (ja_cons (JE.jp (je_frz (je_var 1))) ja_nil)) (je_one (je_cmp o_ge d_ge (je_var 1) je_int (nomark _))))))
    (jm_any (jss_one (js_ret (je_call (ip := []) hG (ok_is_name T hS) (hr.mono (by decide)) T.m_is_name T.F_is_name.kp T.b_is_name tk (ja_cons (JE.jp (je_frz (je_var 1))) ja_nil))))))))))) (pr_is_item T)
theorem bd_tup {n : Nat} {ds : List PyData} (b : Bd n (.tuple ds)) : ∃ m, n = m + 1 ∧ ds.length ≤ 1000 ∧ ∀ d ∈ ds, Bd m d := by
  cases n with
  | zero => exact b.elim
  | succ m => exact ⟨m, rfl, b⟩
theorem bd_lst {n : Nat} {ds : List PyData} (b : Bd n (.list ds)) : ∃ m, n = m + 1 ∧ ds.length ≤ 1000 ∧ ∀ d ∈ ds, Bd m d := by
  cases n with
  | zero => exact b.elim
  | succ m => exact ⟨m, rfl, b⟩
theorem zp_map : ∀ (ks : List Str) (ds : List PyData), zpD (ks.map .str) ds = (ks.zip ds).map fun p => .tuple [.str p.1, p.2]
  | [], _ => rfl
  | _ :: _, [] => rfl
  | k :: ks, d :: ds => by
    show PyData.tuple [.str k, d] :: zpD (ks.map .str) ds = _
    rw [zp_map ks ds]; rfl
theorem stepD_some {z : Str} {ks : List Str} {items : List PyData} (h : f_FORMS z = some ks) : isStepD (.tuple (.str z :: items)) = (decide (ks.length = items.length) && (ks.zip items).all fun p => isItemD p.1 p.2) := by
  simp only [isStepD, h]
theorem stepD_none {z : Str} {items : List PyData} (h : f_FORMS z = none) : isStepD (.tuple (.str z :: items)) = false := by
  simp only [isStepD, h]
def S_is_step (T : Tx K w mg) : TSp := fun os Φ _ => ∃ d n, os = [.fz d] ∧ Bd n d ∧ Φ (.fz (.bool (isStepD d))) []
def t_is_step (T : Tx K w mg) : TSD :=
  (sSeq (sIf (tOrr (tNt (tVal (mIsi "tuple" (mVar 0)))) (tOrr (tVal (mOp (eqD false) (mVar 0) (mTp mNil))) (tOrr (tNt (tVal (mIsi "str" (mOp ixD (mVar 0) (mC (.int 0)))))) (tVal (mInF true f_FORMS (mOp ixD (mVar 0) (mC (.int 0)))))))) (sRet (mC (.bool false))) sNext)
    (sSeq (sSet 1 (mFrz (mIxF f_FORMS (mOp ixD (mVar 0) (mC (.int 0))))))
    (sSeq (sIf (tVal (mOp neD (mCB lenD (mCons (mFrz (mVar 0)) mNil)) (mOp addD (mCB lenD (mCons (mFrz (mVar 1)) mNil)) (mC (.int 1))))) (sRet (mC (.bool false))) sNext)
    (sRet (mCB allD (mCons (mFrz (mLc (iZT (mCons (mFrz (mVar 1)) (mCons (mFrz (mSl (mVar 0) (oSo (mC (.int 1))) oNo)) mNil))) [2, 3] (gT 2 (gLc (gN 2) (gLc (gN 3) gL0))) tYs (mCall (S_is_item T) [] (mCons (mFrz (mVar 2)) (mCons (mFrz (mVar 3)) mNil))))) mNil))))))
theorem pr_is_step (T : Tx K w mg) (os : List O) (Φ : O → List O → Prop) (Ξ : Exn → List O → Prop) (hl : os.length = 1) (h : S_is_step T os Φ Ξ) : t_is_step T (fin [] Φ Ξ) (os ++ List.replicate (N_is_step.length - os.length) .un) := by
  obtain ⟨d, n, rfl, b, k⟩ := h
  show t_is_step T (fin [] Φ Ξ) [.fz d, .un, .un, .un]
  unfold t_is_step
  cases d with
  | tuple ds =>
    obtain ⟨m, rfl, hb, hd⟩ := bd_tup b
    cases ds with
    | nil => walk_at "fr"; exact k
    | cons x items =>
      cases x with
      | str z =>
        walk_at "fr"
        cases hf : f_FORMS z with
        | none =>
          rw [stepD_none hf] at k
          rw [if_pos (show (none : Option (List Str)).isSome = false from rfl)]; exact k
        | some ks =>
          rw [stepD_some hf] at k
          rw [if_neg (by simp)]
          refine ⟨ks, rfl, ?_⟩
          by_cases hn : ks.length = items.length
          · rw [if_neg (by omega)]
            refine ⟨hn, ?_⟩
            rw [decide_eq_true hn] at k
            rw [zp_map]
            have hl : items.length + 1 ≤ 1000 := hb
            refine go_mapG (fun p => .fz (.bool (isItemD p.1 p.2))) (by rw [List.length_zip]; omega) ?_ ?_
            · rintro ⟨kd, d⟩ hp acc N hl hN
              walk_at "fr"
              exact ⟨kd, d, m, rfl, hd d (List.mem_cons_of_mem _ (List.of_mem_zip hp).2), hl, hN⟩
            · walk_at "fr"
              exact cast k rfl
          · rw [if_pos (by omega)]
            rw [decide_eq_false hn] at k
            exact k
      | _ => walk_at "fr"; exact k
  | _ => walk_at "fr"; exact k
theorem ok_is_step (T : Tx K w mg) (hS : SysB base) : FnT P w K mg base 3 T.f_is_step T.d_is_step ["value"] [] (S_is_step T) := okT T.F_is_step sc_is_step (by decide) (by decide) (fun cdv A outer s H E hG hr tk => (jss_cons (js_if (JW.jt (jw_or (jt_not (jt_val (je_isi T.n_isinstance (je_var 0) (pe_bltn (v := .ty "tuple") rfl T.n_tuple bt_tuple rfl)))) (jw_or (jt_cmp (o_eq hS hr) d_eq (je_var 0) (je_tp ja_nil) (nomark _)) (jw_or (jt_not (jt_val (je_isi T.n_isinstance (je_ix (o_ix hr) d_ix (je_var 0) je_int (fun _ _ => rfl)) (pe_bltn (v := .ty "str") rfl T.n_str bt_str rfl)))) (jw_or1 (jt_notInF T.kf_FORMS hr T.g_FORMS (je_ix (o_ix hr) d_ix (je_var 0) je_int (fun _ _ => rfl)))))))) (jss_one (js_ret je_bl)) jss_nil)
    (jss_cons (js_set (i := 1) sc_is_step.nd rfl (Or.inl rfl) (je_frz (je_ixF T.kf_FORMS hr T.g_FORMS (je_ix (o_ix hr) d_ix (je_var 0) je_int (fun _ _ => rfl)) (fun _ _ => rfl))))
    (jss_cons (js_if (jt_cmp (o_ne hS hr) d_ne (je_callB o_len d_len T.n_len bt_len (ja_cons (JE.jp (je_frz (je_var 0))) ja_nil)) (je_op o_add d_add (je_callB o_len d_len T.n_len bt_len (ja_cons (JE.jp (je_frz (je_var 1))) ja_nil)) je_int) (nomark _)) (jss_one (js_ret je_bl)) jss_nil)
    (jss_one (js_ret (je_callB (cr_all rfl) d_all T.n_all bt_all (ja_cons (JE.jp (je_frz (je_lc rfl sc_is_step.nd (ji_zipT T.n_zip (ja_cons (JE.jp (je_frz (je_var 1))) (ja_cons (JE.jp (je_frz (je_slice (je_var 0) (jo_so je_int) jo_no))) ja_nil))) (blkOk_by (own := [("kind", 2), ("item", 3)]) (N := N_is_step) (sc := defScope s_is_step) (by decide +kernel)) (sl := [2, 3]) rfl (fun _ _ _ _ _ => pg_tup rfl (pgs_cons (pg_name (i := 2) sc_is_step.nd rfl (Or.inl rfl)) (pgs_cons (pg_name (i := 3) sc_is_step.nd rfl (Or.inl rfl)) pgs_nil))) (jg_tup (jgl_cons 2 (jgl_cons 3 jgl_nil))) pts_0 kt_nil (fun _ _ _ _ _ => (je_call (ip := []) hG (ok_is_item T hS) (hr.mono (by decide)) T.m_is_item T.F_is_item.kp T.b_is_item takes0 (ja_cons (JE.jp (je_frz (je_var 2))) (ja_cons (JE.jp (je_frz (je_var 3))) ja_nil))))))) ja_nil)))))))) (pr_is_step T)
/-! a step's parts -/
def headD : PyData → Str
  | .tuple (.str z :: _) => z
  | _ => ""
def amtD : PyData → Int
  | .tuple (_ :: _ :: .int i :: _) => i
  | _ => 0
def mod1 (p : Str × PyData) : List Str := if p.1 = ("module" : Str) then (match p.2 with
  | .str y => [y]
  | _ => []) else []
def modsS : PyData → List Str
  | .tuple (.str z :: items) => match f_FORMS z with
    | some ks => (ks.zip items).flatMap mod1
    | none => []
  | _ => []
theorem step_shape {d : PyData} (h : isStepD d = true) : ∃ z items ks, d = .tuple (.str z :: items) ∧ f_FORMS z = some ks ∧ ks.length = items.length ∧ ∀ p ∈ ks.zip items, isItemD p.1 p.2 = true := by
  cases d with
  | tuple ds =>
    cases ds with
    | nil => cases h
    | cons x items =>
      cases x with
      | str z =>
        cases hf : f_FORMS z with
        | none => rw [stepD_none hf] at h; cases h
        | some ks =>
          rw [stepD_some hf, Bool.and_eq_true, decide_eq_true_eq, List.all_eq_true] at h
          exact ⟨z, items, ks, rfl, hf, h.1, h.2⟩
      | _ => cases h
  | _ => cases h
theorem item_module {d : PyData} (h : isItemD "module" d = true) : ∃ y : Str, d = .str y ∧ isNameD d = true := by
  have h2 : isNameD d = true := by
    unfold isItemD at h
    rw [if_neg (by decide +kernel), if_neg (by decide +kernel), if_neg (by decide +kernel)] at h
    exact h
  cases d with
  | str y => exact ⟨y, rfl, h2⟩
  | _ => cases h2
theorem item_amount {d : PyData} (h : isItemD "amount" d = true) : ∃ i : Int, d = .int i := by
  unfold isItemD at h
  rw [if_neg (by decide +kernel), if_neg (by decide +kernel), if_pos rfl] at h
  cases d with
  | int i => exact ⟨i, rfl⟩
  | _ => cases h
theorem flat_mods : ∀ l : List (Str × PyData), (∀ p ∈ l, isItemD p.1 p.2 = true) → l.flatMap (fun (p : Str × PyData) => if decide (p.1 = ("module" : Str)) = true then [O.fz p.2] else []) = (l.flatMap mod1).map fun z => .fz (.str z)
  | [], _ => rfl
  | p :: l, h => by
    rw [List.flatMap_cons, List.flatMap_cons, List.map_append, flat_mods l fun q hq => h q (List.mem_cons_of_mem _ hq)]
    congr 1
    unfold mod1
    by_cases e : p.1 = ("module" : Str)
    · rw [if_pos (decide_eq_true e), if_pos e]
      obtain ⟨y, hy, _⟩ := item_module (e ▸ h p List.mem_cons_self)
      rw [hy]; rfl
    · rw [if_neg (by simpa using e), if_neg e]; rfl
def S_step_modules (T : Tx K w mg) : TSp := fun os Φ _ => ∃ d n, os = [.fz d] ∧ Bd n d ∧ isStepD d = true ∧ Φ (.lst ((modsS d).map fun z => .fz (.str z))) []
def t_step_modules (T : Tx K w mg) : TSD :=
  (sRet (mLc (iZT (mCons (mFrz (mIxF f_FORMS (mOp ixD (mVar 0) (mC (.int 0))))) (mCons (mFrz (mSl (mVar 0) (oSo (mC (.int 1))) oNo)) mNil))) [1, 2] (gT 2 (gLc (gN 1) (gLc (gN 2) gL0))) (tVal (mOp (eqD false) (mVar 1) (mC (.str "module")))) (mVar 2)))
theorem pr_step_modules (T : Tx K w mg) (os : List O) (Φ : O → List O → Prop) (Ξ : Exn → List O → Prop) (hl : os.length = 1) (h : S_step_modules T os Φ Ξ) : t_step_modules T (fin [] Φ Ξ) (os ++ List.replicate (N_step_modules.length - os.length) .un) := by
  obtain ⟨d, n, rfl, b, hs, k⟩ := h
  obtain ⟨z, items, ks, rfl, hf, hn, hi⟩ := step_shape hs
  obtain ⟨m, rfl, hb, hd⟩ := bd_tup b
  show t_step_modules T (fin [] Φ Ξ) [.fz (.tuple (.str z :: items)), .un, .un]
  unfold t_step_modules
  walk_at "fr"
  refine ⟨ks, hf, hn, ?_⟩
  rw [zp_map]
  have hl : items.length + 1 ≤ 1000 := hb
  refine go_selG (fun (p : Str × PyData) => if decide (p.1 = ("module" : Str)) = true then [O.fz p.2] else []) (fun p _ => by split <;> simp) (by rw [List.length_zip]; omega) ?_ ?_
  · rintro ⟨kd, d⟩ hp acc N hl hN
    walk_at "fr"
    split
    · rename_i h
      rw [if_pos (decide_eq_true h)] at hN
      exact ⟨hl, hN⟩
    · rename_i h
      rw [if_neg (by simpa using h), List.append_nil] at hN
      exact hN
  · rw [flat_mods _ hi]
    have e : modsS (.tuple (.str z :: items)) = (ks.zip items).flatMap mod1 := by simp only [modsS, hf]
    rw [e] at k
    exact k
theorem ok_step_modules (T : Tx K w mg) (hS : SysB base) : FnT P w K mg base 1 T.f_step_modules T.d_step_modules ["step"] [] (S_step_modules T) := okT T.F_step_modules sc_step_modules (by decide) (by decide) (fun cdv A outer s H E hG hr tk => (jss_one (js_ret (je_lc rfl sc_step_modules.nd (ji_zipT T.n_zip (ja_cons (JE.jp (je_frz (je_ixF T.kf_FORMS hr T.g_FORMS (je_ix (o_ix hr) d_ix (je_var 0) je_int (fun _ _ => rfl)) (fun _ _ => rfl)))) (ja_cons (JE.jp (je_frz (je_slice (je_var 0) (jo_so je_int) jo_no))) ja_nil))) (blkOk_by (own := [("kind", 1), ("item", 2)]) (N := N_step_modules) (sc := defScope s_step_modules) (by decide +kernel)) (sl := [1, 2]) rfl (fun _ _ _ _ _ => pg_tup rfl (pgs_cons (pg_name (i := 1) sc_step_modules.nd rfl (Or.inl rfl)) (pgs_cons (pg_name (i := 2) sc_step_modules.nd rfl (Or.inl rfl)) pgs_nil))) (jg_tup (jgl_cons 1 (jgl_cons 2 jgl_nil))) pts_B (kt_one (fun _ _ _ _ _ => (jt_cmp (o_eq hS hr) d_eq (je_var 1) je_str (nomark _)))) (fun _ _ _ _ _ => (je_var 2)))))) (pr_step_modules T)
def wrongD (af : Int) (mn : Bool) (d : PyData) : Bool := !isStepD d || (decide (headD d = "skip") && decide (af < amtD d)) || (mn && decide (headD d = "export"))
theorem skip_shape {d : PyData} {items : List PyData} (h : isStepD d = true) (e : d = .tuple (.str "skip" :: items)) : ∃ x i, items = [x, .int i] := by
  subst e
  rw [stepD_some fo_skip, Bool.and_eq_true, decide_eq_true_eq, List.all_eq_true] at h
  obtain ⟨h1, h2⟩ := h
  match items, h1 with
  | [x, y], _ =>
    obtain ⟨i, rfl⟩ := item_amount (h2 ("amount", y) (List.mem_cons_of_mem _ List.mem_cons_self))
    exact ⟨x, i, rfl⟩
theorem wrong_skip {af i : Int} {mn : Bool} {x : PyData} (h : isStepD (.tuple [.str "skip", x, .int i]) = true) : wrongD af mn (.tuple [.str "skip", x, .int i]) = decide (af < i) := by
  unfold wrongD
  rw [h, show headD (.tuple [.str "skip", x, .int i]) = "skip" from rfl, show amtD (.tuple [.str "skip", x, .int i]) = i from rfl, decide_eq_true (rfl : ("skip" : Str) = "skip"), show decide (("skip" : Str) = "export") = false by decide +kernel]
  simp
theorem wrong_exp {af : Int} {mn : Bool} {items : List PyData} (h : isStepD (.tuple (.str "export" :: items)) = true) : wrongD af mn (.tuple (.str "export" :: items)) = mn := by
  unfold wrongD
  rw [h, show headD (.tuple (.str "export" :: items)) = "export" from rfl, decide_eq_true (rfl : ("export" : Str) = "export"), show decide (("export" : Str) = "skip") = false by decide +kernel]
  simp
theorem wrong_other {af : Int} {mn : Bool} {z : Str} {items : List PyData} (h : isStepD (.tuple (.str z :: items)) = true) (h1 : z ≠ "skip") (h2 : z ≠ "export") : wrongD af mn (.tuple (.str z :: items)) = false := by
  unfold wrongD
  rw [h, show headD (.tuple (.str z :: items)) = z from rfl, decide_eq_false h1, decide_eq_false h2]
  simp
def S_is_wrong (T : Tx K w mg) : TSp := fun os Φ _ => ∃ d n af mn, os = [.fz d, .fz (.int af), .fz (.bool mn), .fz .none] ∧ Bd n d ∧ Φ (.fz (.bool (wrongD af mn d))) []
def t_is_wrong (T : Tx K w mg) : TSD :=
  (sSeq (sIf (tOrr (tNt (tVal (mCall (S_is_step T) [] (mCons (mFrz (mVar 0)) mNil)))) (tAn (tVal (mOp (eqD false) (mOp ixD (mVar 0) (mC (.int 0))) (mC (.str "skip")))) (tVal (mOp gtD (mOp ixD (mVar 0) (mC (.int 2))) (mVar 1))))) (sRet (mC (.bool true))) sNext)
    (sSeq (sIf (tAn (tVal (mVar 2)) (tVal (mOp (eqD false) (mOp ixD (mVar 0) (mC (.int 0))) (mC (.str "export"))))) (sRet (mC (.bool true))) sNext)
    (sRet (mAnd (mOp (isND true) (mVar 3) (mC .none)) (mNot (mCB allD (mCons (mFrz (mLc (iL (mCall (S_step_modules T) [] (mCons (mFrz (mVar 0)) mNil))) [4] (gN 4) tYs (mOp (inD false) (mVar 4) (mVar 3)))) mNil)))))))
theorem pr_is_wrong (T : Tx K w mg) (os : List O) (Φ : O → List O → Prop) (Ξ : Exn → List O → Prop) (hl : os.length = 4) (h : S_is_wrong T os Φ Ξ) : t_is_wrong T (fin [] Φ Ξ) (os ++ List.replicate (N_is_wrong.length - os.length) .un) := by
  obtain ⟨d, n, af, mn, rfl, b, k⟩ := h
  show t_is_wrong T (fin [] Φ Ξ) [.fz d, .fz (.int af), .fz (.bool mn), .fz .none, .un]
  unfold t_is_wrong
  walk_at "fr"
  refine ⟨d, n, rfl, b, _, rfl, ?_⟩
  cases hs : isStepD d with
  | false =>
    have e : wrongD af mn d = true := by unfold wrongD; rw [hs]; rfl
    rw [e] at k
    rw [if_pos rfl]; exact k
  | true =>
    obtain ⟨z, items, ks, rfl, hf, hn, hi⟩ := step_shape hs
    walk_at "fr"
    by_cases e : z = "skip"
    · subst e
      obtain ⟨x, i, rfl⟩ := skip_shape hs rfl
      rw [wrong_skip hs] at k
      rw [if_pos rfl]
      refine ⟨_, ixT2, ?_⟩
      walk_at "fr"
      by_cases h : af < i
      · rw [if_pos h]
        rw [decide_eq_true h] at k
        exact k
      · rw [if_neg h]
        rw [decide_eq_false h] at k
        split
        · rw [if_neg (by decide +kernel)]; exact k
        · exact k
    · rw [if_neg e]
      by_cases e2 : z = "export"
      · subst e2
        rw [wrong_exp hs] at k
        cases mn with
        | true => rw [if_pos rfl, if_pos rfl]; exact k
        | false => rw [if_neg (by simp)]; exact k
      · rw [wrong_other hs e e2] at k
        split <;> first | exact k | (rw [if_neg e2]; exact k)
theorem ok_is_wrong (T : Tx K w mg) (hS : SysB base) : FnT P w K mg base 4 T.f_is_wrong T.d_is_wrong ["step", "after", "is_main", "known"] [] (S_is_wrong T) := okT T.F_is_wrong sc_is_wrong (by decide) (by decide) (fun cdv A outer s H E hG hr tk => (jss_cons (js_if (JW.jt (jw_or (jt_not (jt_val (je_call (ip := []) hG (ok_is_step T hS) (hr.mono (by decide)) T.m_is_step T.F_is_step.kp T.b_is_step tk (ja_cons (JE.jp (je_frz (je_var 0))) ja_nil)))) (jw_or1 (JW.jt (jw_and (jt_cmp (o_eq hS hr) d_eq (je_ix (o_ix hr) d_ix (je_var 0) je_int (fun _ _ => rfl)) je_str (nomark _)) (jw_and1 (jt_cmp o_gt d_gt (je_ix (o_ix hr) d_ix (je_var 0) je_int (fun _ _ => rfl)) (je_var 1) (nomark _)))))))) (jss_one (js_ret je_bl)) jss_nil)
    (jss_cons (js_if (JW.jt (jw_and (jt_val (je_var 2)) (jw_and1 (jt_cmp (o_eq hS hr) d_eq (je_ix (o_ix hr) d_ix (je_var 0) je_int (fun _ _ => rfl)) je_str (nomark _))))) (jss_one (js_ret je_bl)) jss_nil)
    (jss_one (js_ret (je_and (je_cmp o_notN d_notN (je_var 3) je_non (nomark _)) (je_one (je_not (je_callB (cr_all rfl) d_all T.n_all bt_all (ja_cons (JE.jp (je_frz (je_lc rfl sc_is_wrong.nd (ji_list (je_call (ip := []) hG (ok_step_modules T hS) (hr.mono (by decide)) T.m_step_modules T.F_step_modules.kp T.b_step_modules tk (ja_cons (JE.jp (je_frz (je_var 0))) ja_nil))) (blkOk_by (own := [("module", 4)]) (N := N_is_wrong) (sc := defScope s_is_wrong) (by decide +kernel)) (sl := [4]) rfl (fun _ _ _ _ _ => pg_name (i := 4) sc_is_wrong.nd rfl (Or.inl rfl)) (jg_name 4) pts_0 kt_nil (fun _ _ _ _ _ => (je_cmp (o_in hr) d_in (je_var 4) (je_var 3) (by rfl)))))) ja_nil)))))))))) (pr_is_wrong T)
def firstW (n : Int) (mn : Bool) : List PyData → Nat → PyData
  | [], _ => .none
  | x :: xs, i => if wrongD (n - 1 - (i : Int)) mn x = true then .int (i : Int) else firstW n mn xs (i + 1)
/-- the first problem -/
def fpD (mn : Bool) : PyData → PyData
  | .list ds => if 30 < ds.length then .int (-1) else firstW (ds.length : Int) mn ds 0
  | _ => .int (-1)
theorem en_at {ds : List PyData} {i : Nat} {x : PyData} (h : (enD ds)[i]? = some x) : ∃ d, ds[i]? = some d ∧ x = .tuple [.int (i : Int), d] := by
  unfold enD at h
  rw [List.getElem?_zipWith] at h
  cases hd : ds[i]? with
  | none => rw [hd] at h; cases hr : (List.range ds.length)[i]? <;> rw [hr] at h <;> cases h
  | some d =>
    have hi := (List.getElem?_eq_some_iff.mp hd).1
    rw [hd, List.getElem?_range hi] at h
    cases h
    exact ⟨d, rfl, rfl⟩
theorem drop_at {ds : List PyData} {i : Nat} {d : PyData} (h : ds[i]? = some d) : ds.drop i = d :: ds.drop (i + 1) := by
  obtain ⟨hi, e⟩ := List.getElem?_eq_some_iff.mp h
  rw [List.drop_eq_getElem_cons hi, e]
def S_first_problem (T : Tx K w mg) : TSp := fun os Φ _ => ∃ d n mn, os = [.fz d, .fz (.bool mn), .fz .none] ∧ Bd n d ∧ Φ (.fz (fpD mn d)) []
def t_first_problem (T : Tx K w mg) : TSD :=
  (sSeq (sIf (tOrr (tNt (tVal (mIsi "list" (mVar 0)))) (tVal (mOp gtD (mCB lenD (mCons (mFrz (mVar 0)) mNil)) (mC (.int 30))))) (sRet (mUn negD (mC (.int 1)))) sNext)
    (sSeq (sFor (iEn (mCons (mFrz (mVar 0)) mNil)) (gT 2 (gLc (gN 3) (gLc (gN 4) gL0))) (sIf (tVal (mCall (S_is_wrong T) [] (mCons (mFrz (mVar 4)) (mCons (mFrz (mOp subD (mOp subD (mCB lenD (mCons (mFrz (mVar 0)) mNil)) (mC (.int 1))) (mVar 3))) (mCons (mFrz (mVar 1)) (mCons (mFrz (mVar 2)) mNil)))))) (sRet (mVar 3)) sNext))
    (sRet (mC .none))))
theorem pr_first_problem (T : Tx K w mg) (os : List O) (Φ : O → List O → Prop) (Ξ : Exn → List O → Prop) (hl : os.length = 3) (h : S_first_problem T os Φ Ξ) : t_first_problem T (fin [] Φ Ξ) (os ++ List.replicate (N_first_problem.length - os.length) .un) := by
  obtain ⟨d, n, mn, rfl, b, k⟩ := h
  show t_first_problem T (fin [] Φ Ξ) [.fz d, .fz (.bool mn), .fz .none, .un, .un]
  unfold t_first_problem
  cases d with
  | list ds =>
    obtain ⟨m, rfl, hb, hd⟩ := bd_lst b
    have k : Φ (.fz (if 30 < ds.length then .int (-1) else firstW (ds.length : Int) mn ds 0)) [] := k
    walk_at "fr"
    by_cases h30 : 30 < ds.length
    · rw [if_pos h30] at k
      rw [if_pos (by omega)]; exact k
    · rw [if_neg h30] at k
      rw [if_neg (by omega)]
      refine for_inv (fun i ρ => firstW (ds.length : Int) mn ds 0 = firstW (ds.length : Int) mn (ds.drop i) i ∧ ∃ o3 o4, ρ = [.fz (.list ds), .fz (.bool mn), .fz .none, o3, o4]) ⟨rfl, _, _, rfl⟩ ?_ ?_
      · rintro i x ρ N hx ⟨he, o3, o4, rfl⟩ hN
        obtain ⟨d, hdi, rfl⟩ := en_at hx
        walk_at "fr"
        refine ⟨d, m, _, mn, rfl, hd d (List.mem_of_getElem? hdi), ?_⟩
        rw [drop_at hdi] at he
        have he : firstW (ds.length : Int) mn ds 0 = if wrongD ((ds.length : Int) - 1 - (i : Int)) mn d = true then .int (i : Int) else firstW (ds.length : Int) mn (ds.drop (i + 1)) (i + 1) := he
        walk_at "fr"
        split
        · rename_i h
          rw [if_pos h] at he
          rw [he] at k
          exact k
        · rename_i h
          rw [if_neg h] at he
          exact hN _ ⟨he, _, _, rfl⟩
      · rintro ρ ⟨he, o3, o4, rfl⟩
        rw [List.drop_eq_nil_of_le (by rw [en_len]; exact Nat.le_refl _)] at he
        rw [he] at k
        walk_at "fr"
        exact k
  | _ => walk_at "fr"; exact k
theorem ok_first_problem (T : Tx K w mg) (hS : SysB base) : FnT P w K mg base 5 T.f_first_problem T.d_first_problem ["value", "is_main", "known"] [] (S_first_problem T) := okT T.F_first_problem sc_first_problem (by decide) (by decide) (fun cdv A outer s H E hG hr tk => (jss_cons (js_if (JW.jt (jw_or (jt_not (jt_val (je_isi T.n_isinstance (je_var 0) (pe_bltn (v := .ty "list") rfl T.n_list bt_list rfl)))) (jw_or1 (jt_cmp o_gt d_gt (je_callB o_len d_len T.n_len bt_len (ja_cons (JE.jp (je_frz (je_var 0))) ja_nil)) (je_c (v := (.int 30)) (pe_glob rfl T.g_MOST_STEPS ⟨_, rfl⟩) (fun _ => .int _)) (nomark _))))) (jss_one (js_ret (je_un o_neg d_neg je_int))) jss_nil)
    (jss_cons (js_for (passes_of rfl) rfl (ji_enum T.n_enumerate (ja_cons (JE.jp (je_frz (je_var 0))) ja_nil)) (pg_tup rfl (pgs_cons (pg_name (i := 3) sc_first_problem.nd rfl (Or.inl rfl)) (pgs_cons (pg_name (i := 4) sc_first_problem.nd rfl (Or.inl rfl)) pgs_nil))) (jg_tup (jgl_cons 3 (jgl_cons 4 jgl_nil)))
    (jss_one (js_if (jt_val (je_call (ip := []) hG (ok_is_wrong T hS) (hr.mono (by decide)) T.m_is_wrong T.F_is_wrong.kp T.b_is_wrong tk (ja_cons (JE.jp (je_frz (je_var 4))) (ja_cons (JE.jp (je_frz (je_op o_sub d_sub (je_op o_sub d_sub (je_callB o_len d_len T.n_len bt_len (ja_cons (JE.jp (je_frz (je_var 0))) ja_nil)) je_int) (je_var 3)))) (ja_cons (JE.jp (je_frz (je_var 1))) (ja_cons (JE.jp (je_frz (je_var 2))) ja_nil)))))) (jss_one (js_ret (je_var 3))) jss_nil)))
    (jss_one (js_ret je_non))))) (pr_first_problem T)
theorem firstW_cons {n : Int} {mn : Bool} {d : PyData} {ds : List PyData} {i : Nat} : firstW n mn (d :: ds) i = if wrongD (n - 1 - (i : Int)) mn d = true then .int (i : Int) else firstW n mn ds (i + 1) := rfl
theorem fpD_list {mn : Bool} {ds : List PyData} : fpD mn (.list ds) = if 30 < ds.length then .int (-1) else firstW (ds.length : Int) mn ds 0 := rfl
theorem first_ty (n : Int) (mn : Bool) : ∀ (ds : List PyData) (i : Nat), i + ds.length ≤ 1000 → firstW n mn ds i = .none ∨ ∃ j : Nat, firstW n mn ds i = .int (j : Int) ∧ j ≤ 1000
  | [], _, _ => .inl rfl
  | d :: ds, i, h => by
    have h : i + (ds.length + 1) ≤ 1000 := h
    rw [firstW_cons]
    split
    · exact .inr ⟨i, rfl, by omega⟩
    · exact first_ty n mn ds (i + 1) (by omega)
theorem fp_ty (mn : Bool) (d : PyData) : fpD mn d = .none ∨ ∃ i : Int, fpD mn d = .int i ∧ i.natAbs < 10 ^ 60 := by
  cases d with
  | list ds =>
    rw [fpD_list]
    split
    · exact .inr ⟨-1, rfl, by decide⟩
    · rcases first_ty (ds.length : Int) mn ds 0 (by omega) with h | ⟨j, h, hj⟩
      · exact .inl h
      · exact .inr ⟨j, h, by omega⟩
  | _ => exact .inr ⟨-1, rfl, by decide⟩
def S_check_program (T : Tx K w mg) : TSp := fun os Φ Ξ => ∃ d n mn, os = [.fz d, .fz (.bool mn)] ∧ Bd n d ∧ ((fpD mn d = .none ∧ Φ (.fz .none) []) ∨ ∃ i, fpD mn d = .int i ∧ i.natAbs < 10 ^ 60 ∧ Ξ ⟨.ref T.c_InvalidProgram, [("position", .int i)]⟩ [])
def t_check_program (T : Tx K w mg) : TSD :=
  (sSeq (sSet 2 (mFrz (mCallK (S_first_problem T) 1 1 [] (mCons (mFrz (mVar 0)) mNil) (mCons (mFrz (mVar 1)) mNil) (fun zs => [zs.getD 0 .none, .none]))))
    (sIf (tVal (mOp (isND true) (mVar 2) (mC .none))) (sRaise T.c_InvalidProgram ["position"] G_InvalidProgram (mCons (mFrz (mVar 2)) mNil)) sNext))
theorem pr_check_program (T : Tx K w mg) (os : List O) (Φ : O → List O → Prop) (Ξ : Exn → List O → Prop) (hl : os.length = 2) (h : S_check_program T os Φ Ξ) : t_check_program T (fin [] Φ Ξ) (os ++ List.replicate (N_check_program.length - os.length) .un) := by
  obtain ⟨d, n, mn, rfl, b, k⟩ := h
  show t_check_program T (fin [] Φ Ξ) [.fz d, .fz (.bool mn), .un]
  unfold t_check_program
  walk_at "fr"
  refine ⟨d, n, mn, rfl, b, ?_⟩
  rcases k with ⟨h, k⟩ | ⟨i, h, hi, k⟩
  · rw [h]; walk_at "fr"; exact k
  · rw [h]; walk_at "fr"
    exact ⟨⟨_, rfl, i, rfl, hi⟩, k⟩
theorem ok_check_program (T : Tx K w mg) (hS : SysB base) : FnT P w K mg base 6 T.f_check_program T.d_check_program ["value", "is_main"] [] (S_check_program T) := okT T.F_check_program sc_check_program (by decide) (by decide) (fun cdv A outer s H E hG hr tk => (jss_cons (js_set (i := 2) sc_check_program.nd rfl (Or.inl rfl) (je_frz (je_callK (ip := []) hG (ok_first_problem T hS) (hr.mono (by decide)) T.m_first_problem T.F_first_problem.kp T.ka_first_problem_1_is_main tk (ja_cons (JE.jp (je_frz (je_var 0))) ja_nil) (jk_cons (je_frz (je_var 1)) jk_nil))))
    (jss_one (js_if (jt_cmp o_notN d_notN (je_var 2) je_non (nomark _)) (jss_one (js_raiseB rfl tk (show IniB _ bVE _ _ _ _ from ⟨T.ox_InvalidProgram, _, _, T.iC_InvalidProgram, T.ti_InvalidProgram, ini_InvalidProgram T hS, T.b_InvalidProgram__init⟩) hG (hr.mono (by decide)) T.g_InvalidProgram (ja_cons (JE.jp (je_frz (je_var 2))) ja_nil))) jss_nil)))) (pr_check_program T)
/-- the modules of a program's steps, each once -/
theorem ins_nd {z : Str} {l : List Str} (h : l.Nodup) : (SX.ins z l).Nodup := by
  unfold SX.ins
  split
  · exact h
  · rename_i hn; exact List.nodup_cons.mpr ⟨hn, h⟩
theorem ins_mem {z x : Str} {l : List Str} : x ∈ SX.ins z l ↔ x = z ∨ x ∈ l := by
  unfold SX.ins
  split
  · rename_i h
    exact ⟨.inr, fun q => q.elim (fun e => e ▸ h) id⟩
  · exact List.mem_cons
theorem ins_len {z : Str} {l : List Str} : (SX.ins z l).length ≤ l.length + 1 := by
  unfold SX.ins
  split
  · omega
  · rw [List.length_cons]; exact Nat.le_refl _
theorem first_all {n : Int} {mn : Bool} : ∀ {ds : List PyData} {i : Nat}, firstW n mn ds i = .none → ∀ d ∈ ds, isStepD d = true
  | d :: ds, i, h, x, hx => by
    rw [firstW_cons] at h
    split at h
    · cases h
    · rename_i hw
      rcases List.mem_cons.mp hx with rfl | hx
      · unfold wrongD at hw
        cases q : isStepD x with
        | true => rfl
        | false => rw [q] at hw; exact absurd rfl hw
      · exact first_all h x hx
theorem fp_none {mn : Bool} {d : PyData} (h : fpD mn d = .none) : ∃ ds, d = .list ds ∧ ds.length ≤ 30 ∧ firstW (ds.length : Int) mn ds 0 = .none ∧ ∀ x ∈ ds, isStepD x = true := by
  cases d with
  | list ds =>
    rw [fpD_list] at h
    split at h
    · cases h
    · exact ⟨ds, rfl, by omega, h, first_all h⟩
  | _ => cases h
theorem forms_le {z : Str} {ks : List Str} (h : f_FORMS z = some ks) : ks.length ≤ 3 := by
  unfold f_FORMS at h
  revert h
  (repeat' split) <;> (intro h; first | (cases h; decide) | cases h)
theorem mods_len {d : PyData} : (modsS d).length ≤ 3 := by
  cases d with
  | tuple ds =>
    cases ds with
    | nil => exact Nat.zero_le _
    | cons x items =>
      cases x with
      | str z =>
        cases hf : f_FORMS z with
        | none =>
          have e : modsS (.tuple (.str z :: items)) = [] := by simp only [modsS, hf]
          rw [e]; exact Nat.zero_le _
        | some ks =>
          have e : modsS (.tuple (.str z :: items)) = (ks.zip items).flatMap mod1 := by simp only [modsS, hf]
          rw [e]
          have h3 := forms_le hf
          have : ∀ l : List (Str × PyData), (l.flatMap mod1).length ≤ l.length := by
            intro l
            induction l with
            | nil => exact Nat.le_refl _
            | cons p l ih =>
              rw [List.flatMap_cons, List.length_append, List.length_cons]
              have : (mod1 p).length ≤ 1 := by
                unfold mod1
                split
                · split <;> simp
                · simp
              omega
          have h4 := this (ks.zip items)
          rw [List.length_zip] at h4
          omega
      | _ => exact Nat.zero_le _
  | _ => exact Nat.zero_le _
def allMods (ds : List PyData) : List Str := ds.flatMap modsS
def S_modules_in (T : Tx K w mg) : TSp := fun os Φ Ξ => ∃ d n, os = [.fz d] ∧ Bd n d ∧ ((fpD false d = .none ∧ ∀ ds ys, d = .list ds → sortedS ys = true → ys.Nodup → ys.length ≤ 100 → (∀ z : Str, z ∈ ys ↔ z ∈ allMods ds) → Φ (.lst (ys.map fun z => .fz (.str z))) []) ∨ ∃ i, fpD false d = .int i ∧ i.natAbs < 10 ^ 60 ∧ Ξ ⟨.ref T.c_InvalidProgram, [("position", .int i)]⟩ [])
def t_modules_in (T : Tx K w mg) : TSD :=
  (sSeq (sDrop (mCallK (S_check_program T) 1 0 [] (mCons (mFrz (mVar 0)) mNil) mNil (fun zs => [.bool false])))
    (sRet (mSrt2 (iL (mVar 0)) [1, 2] (gN 1) tYs (iL (mCall (S_step_modules T) [] (mCons (mFrz (mVar 1)) mNil))) [2] (gN 2) tYs (mVar 2))))
theorem pr_modules_in (T : Tx K w mg) (os : List O) (Φ : O → List O → Prop) (Ξ : Exn → List O → Prop) (hl : os.length = 1) (h : S_modules_in T os Φ Ξ) : t_modules_in T (fin [] Φ Ξ) (os ++ List.replicate (N_modules_in.length - os.length) .un) := by
  obtain ⟨d, n, rfl, b, k⟩ := h
  show t_modules_in T (fin [] Φ Ξ) [.fz d, .un, .un]
  unfold t_modules_in
  walk_at "fr"
  refine ⟨d, n, false, rfl, b, ?_⟩
  rcases k with ⟨h, k⟩ | ⟨i, h, hi, k⟩
  · refine .inl ⟨h, ?_⟩
    obtain ⟨ds, rfl, h30, _, hs⟩ := fp_none h
    obtain ⟨m, rfl, hb, hd⟩ := bd_lst b
    walk_at "fr"
    refine lv_inv (fun i l => l.Nodup ∧ l.length ≤ 3 * i ∧ ∀ z : Str, z ∈ l ↔ z ∈ allMods (ds.take i)) ⟨List.nodup_nil, Nat.zero_le _, fun z => Iff.rfl⟩ ?_ ?_
    · rintro i x l N hx ⟨hnd, hln, hm⟩ hN
      have hxm := List.mem_of_getElem? hx
      have hi := (List.getElem?_eq_some_iff.mp hx).1
      walk_at "fr"
      refine ⟨x, m, rfl, hd x hxm, hs x hxm, ?_⟩
      walk_at "fr"
      refine lv_inv (fun j l' => l'.Nodup ∧ l'.length ≤ 3 * i + j ∧ ∀ z : Str, z ∈ l' ↔ z ∈ l ∨ z ∈ (modsS x).take j) ⟨hnd, by omega, fun z => by simp⟩ ?_ ?_
      · rintro j y l' N' hy ⟨h1, h2, h3⟩ hN'
        have hj := (List.getElem?_eq_some_iff.mp hy).1
        rw [List.length_map] at hj
        rw [List.getElem?_map] at hy
        have h3l := mods_len (d := x)
        cases hq : (modsS x)[j]? with
        | none => rw [hq] at hy; cases hy
        | some u =>
          rw [hq] at hy
          cases hy
          walk_at "fr"
          refine ⟨by omega, hN' _ ⟨ins_nd h1, Nat.le_trans ins_len (by omega), fun z => ?_⟩⟩
          rw [ins_mem, h3, List.take_add_one, hq]
          simp only [Option.toList_some, List.mem_append, List.mem_singleton]
          constructor
          · rintro (h | h | h)
            · exact .inr (.inr h)
            · exact .inl h
            · exact .inr (.inl h)
          · rintro (h | h | h)
            · exact .inr (.inl h)
            · exact .inr (.inr h)
            · exact .inl h
      · rintro l' ⟨h1, h2, h3⟩
        rw [List.length_map] at h2 h3
        have h3l := mods_len (d := x)
        walk_at "fr"
        refine hN _ ⟨h1, by omega, fun z => ?_⟩
        rw [h3, hm, List.take_of_length_le (Nat.le_refl _), List.take_add_one, hx]
        unfold allMods
        rw [List.flatMap_append]
        simp
    · rintro l ⟨hnd, hln, hm⟩
      rw [List.take_of_length_le (Nat.le_refl _)] at hm
      refine ⟨by omega, fun ys y1 y2 => k ds ys rfl y2 (y1.nodup_iff.mpr hnd) (by rw [y1.length_eq]; omega) fun z => by rw [y1.mem_iff, hm]⟩
  · exact .inr ⟨i, h, hi, k⟩
theorem ok_modules_in (T : Tx K w mg) (hS : SysB base) : FnT P w K mg base 7 T.f_modules_in T.d_modules_in ["program"] [] (S_modules_in T) := okT T.F_modules_in sc_modules_in (by decide) (by decide) (fun cdv A outer s H E hG hr tk => (jss_cons (js_expr (je_callK (ip := []) hG (ok_check_program T hS) (hr.mono (by decide)) T.m_check_program T.F_check_program.kp T.ka_check_program_1 tk (ja_cons (JE.jp (je_frz (je_var 0))) ja_nil) jk_nil))
    (jss_one (js_ret (je_srt2 rfl sc_modules_in.nd T.n_sorted (ji_list (je_var 0)) (blkOk_by (own := [("step", 1), ("module", 2)]) (N := N_modules_in) (sc := defScope s_modules_in) (by decide +kernel)) (sl := [1, 2]) rfl (by decide) (fun _ _ _ _ _ => pg_name (i := 1) sc_modules_in.nd rfl (Or.inl rfl)) (jg_more (jg_name 1) (by decide)) pts_0 kt_nil (fun _ _ _ _ _ => (ji_list (je_call (ip := []) hG (ok_step_modules T hS) (hr.mono (by decide)) T.m_step_modules T.F_step_modules.kp T.b_step_modules takes0 (ja_cons (JE.jp (je_frz (je_var 1))) ja_nil)))) (fun _ _ _ _ _ => pg_name (i := 2) sc_modules_in.nd rfl (Or.inl rfl)) (jg_name 2) pts_0 kt_nil (fun _ _ _ _ _ => (je_var 2))))))) (pr_modules_in T)
-- ROWS OFF
section
abbrev E4 (Q : VK) : Ends := ⟨fun _ H' => Q .non H', Q, fun _ _ => False, fun _ _ => False⟩
/-! the way through a reading: one step by the head of what is asked -/
theorem same_at {H H' : Hp} {p : Addr} {o : HO} (e : L2.Same H H') (h : H p = some o) : H' p = some o := e _ _ h
theorem kIx_Lc {K : PySem.W.Frag} {w : World} {H : Hp} {Q : VK} {p : Addr} {xs : List V} {a : Int} {v : V} (h : SqL K H p xs) (e : atI xs a = some v) (k : Q v H) : zIx K w (.ref p) (.int a) H Q := .inl (.inl ⟨p, xs, a, v, rfl, rfl, h, e, k⟩)
theorem kIx_Tc {K : PySem.W.Frag} {w : World} {H : Hp} {Q : VK} {p : Addr} {xs : List V} {a : Int} {v : V} (h : SqT K H p xs) (e : atI xs a = some v) (k : Q v H) : zIx K w (.ref p) (.int a) H Q := .inl (.inr (.inl ⟨p, xs, a, v, rfl, rfl, h, e, k⟩))
theorem kIx_T0 {K : PySem.W.Frag} {w : World} {H : Hp} {Q : VK} {p : Addr} {x : V} {xs : List V} (h : SqT K H p (x :: xs)) (k : Q x H) : zIx K w (.ref p) (.int 0) H Q := kIx_T h (by decide) (by simp only [List.length_cons]; omega) (fun v e => by
  have e2 : (x :: xs)[0]? = some v := e
  simp only [List.getElem?_cons_zero, Option.some.injEq] at e2
  subst e2; exact k)
theorem k_noF {α : Type} {f : α → V} {A B : Prop} (k : A) : if (!(Option.map f none).isSome) = true then A else B := iteT k
theorem k_soF {α : Type} {f : α → V} {x : α} {A B : Prop} (k : B) : if (!(Option.map f (some x)).isSome) = true then A else B := iteF k
theorem kEq_T00 {K : PySem.W.Frag} {H : Hp} {Q : VK} {p q : Addr} (h1 : SqT K H p []) (h2 : SqT K H q []) (k : Q (.bl true) H) : zEq K (.ref p) (.ref q) H Q := kEq_T0 h1 h2 k
theorem kEq_T0c {K : PySem.W.Frag} {H : Hp} {Q : VK} {p q : Addr} {x : V} {xs : List V} (h1 : SqT K H p (x :: xs)) (h2 : SqT K H q []) (k : Q (.bl false) H) : zEq K (.ref p) (.ref q) H Q := kEq_T0 h1 h2 k
local macro_rules | `(tactic| walk_at "hp") => `(tactic| first | assumption | exact upd_same | ((refine' same_at ?e1 ?e2); (case e1 => assumption); (case e2 => walk_at "hp")))
local macro_rules | `(tactic| walk_at "sq") => `(tactic| first | assumption | exact SqL.of (by assumption) | exact SqL.of upd_same | exact SqT.of (by assumption) | ((refine' L2.Same.seq ?e1 ?e2); (case e1 => assumption); (case e2 => walk_at "sq")) | ((refine' Z.Same.seqT ?e1 ?e2); (case e1 => assumption); (case e2 => walk_at "sq")))
local macro_rules | `(tactic| walk_at "sm") => `(tactic| first | exact L2.Same.refl _ | assumption | (refine L2.Same.trans ?_ (by assumption); walk_at "sm"))
local macro_rules | `(tactic| walk_at "rp") => `(tactic| first | assumption | exact Rp.int _ | exact Rp.str _ | exact Rp.bl _ | exact Rp.non | (refine' Rp.tup ?e1 ?e2; (case e1 => walk_at "sq"); (case e2 => walk_at "rps")) | (refine' Rp.lst ?e1 ?e2; (case e1 => walk_at "sq"); (case e2 => walk_at "rps")) | (refine' Rp.dct ?e1 ?e2; (case e1 => walk_at "hp"); (case e2 => walk_at "rpk")) | ((refine' Rp.mono ?e1 ?e2); (case e1 => assumption); (case e2 => walk_at "rp")))
local macro_rules | `(tactic| walk_at "rps") => `(tactic| first | assumption | exact RpAll.nil | (refine' RpAll.cons ?e1 ?e2; (case e1 => walk_at "rp"); (case e2 => walk_at "rps")) | ((refine' RpAll.mono ?e1 ?e2); (case e1 => assumption); (case e2 => walk_at "rps")))
local macro_rules | `(tactic| walk_at "rpk") => `(tactic| first | assumption | exact RpKv.nil | (refine' RpKv.cons ?e1 ?e2; (case e1 => walk_at "rp"); (case e2 => walk_at "rpk")))
local macro_rules | `(tactic| walk_at "ar") => `(tactic| first | omega | assumption | rfl | decide | exact Nat.le_of_ble_eq_true rfl | (simp only [List.length_cons, List.length_nil, List.length_append, List.length_map, List.length_replicate]; omega) | exact .inl (by constructor <;> omega) | exact .inr (by constructor <;> omega))
local macro_rules | `(tactic| walk_at "gd") => `(tactic| first | assumption | exact Gd.none _ | exact Gd.bool _ _ | exact Gd.int _ (by omega) | exact Gd.dict0 _ | exact Gd.str _ (by decide +kernel) (by decide +kernel) | (refine gA_tup ?_ rfl; walk_at "gds") | (refine gA_lst ?_ rfl; walk_at "gds") | (refine Gd.dict1 ?_ ?_ <;> walk_at "gd") | exact Gd.up (by assumption) (by decide))
local macro_rules | `(tactic| walk_at "gds") => `(tactic| first | assumption | exact gA_nil | (refine' gA_cons ?e1 ?e2; (case e1 => walk_at "gd"); (case e2 => walk_at "gds")))
set_option hygiene false in
local macro_rules | `(tactic| walk_at "inN") => `(tactic| intro p H2 hn he hp hu)
set_option hygiene false in
local macro_rules | `(tactic| walk_at "inM") => `(tactic| intro p H2 hn he hp)
set_option hygiene false in
local macro_rules | `(tactic| walk_at "inV") => `(tactic| intro v hv)
set_option hygiene false in
local macro_rules | `(tactic| walk_at "inI") => `(tactic| intro hif)
local macro_rules | `(tactic| walk_at "isi") => `(tactic| first
  | with_reducible refine kI_non_str ?_
  | with_reducible refine kI_non_int ?_
  | with_reducible refine kI_non_bool ?_
  | with_reducible refine kI_non_tuple ?_
  | with_reducible refine kI_non_list ?_
  | with_reducible refine kI_non_dict ?_
  | with_reducible refine kI_bl_str ?_
  | with_reducible refine kI_bl_int ?_
  | with_reducible refine kI_bl_bool ?_
  | with_reducible refine kI_bl_tuple ?_
  | with_reducible refine kI_bl_list ?_
  | with_reducible refine kI_bl_dict ?_
  | with_reducible refine kI_int_str ?_
  | with_reducible refine kI_int_int ?_
  | with_reducible refine kI_int_bool ?_
  | with_reducible refine kI_int_tuple ?_
  | with_reducible refine kI_int_list ?_
  | with_reducible refine kI_int_dict ?_
  | with_reducible refine kI_str_str ?_
  | with_reducible refine kI_str_int ?_
  | with_reducible refine kI_str_bool ?_
  | with_reducible refine kI_str_tuple ?_
  | with_reducible refine kI_str_list ?_
  | with_reducible refine kI_str_dict ?_
  | ((with_reducible refine' kI_lst_str ?h1 ?k1); (case h1 => walk_at "sq"))
  | ((with_reducible refine' kI_lst_int ?h1 ?k1); (case h1 => walk_at "sq"))
  | ((with_reducible refine' kI_lst_bool ?h1 ?k1); (case h1 => walk_at "sq"))
  | ((with_reducible refine' kI_lst_tuple ?h1 ?k1); (case h1 => walk_at "sq"))
  | ((with_reducible refine' kI_lst_list ?h1 ?k1); (case h1 => walk_at "sq"))
  | ((with_reducible refine' kI_lst_dict ?h1 ?k1); (case h1 => walk_at "sq"))
  | ((with_reducible refine' kI_tup_str ?h1 ?k1); (case h1 => walk_at "sq"))
  | ((with_reducible refine' kI_tup_int ?h1 ?k1); (case h1 => walk_at "sq"))
  | ((with_reducible refine' kI_tup_bool ?h1 ?k1); (case h1 => walk_at "sq"))
  | ((with_reducible refine' kI_tup_tuple ?h1 ?k1); (case h1 => walk_at "sq"))
  | ((with_reducible refine' kI_tup_list ?h1 ?k1); (case h1 => walk_at "sq"))
  | ((with_reducible refine' kI_tup_dict ?h1 ?k1); (case h1 => walk_at "sq"))
  | ((with_reducible refine' kI_dct_str ?h1 ?k1); (case h1 => walk_at "hp"))
  | ((with_reducible refine' kI_dct_int ?h1 ?k1); (case h1 => walk_at "hp"))
  | ((with_reducible refine' kI_dct_bool ?h1 ?k1); (case h1 => walk_at "hp"))
  | ((with_reducible refine' kI_dct_tuple ?h1 ?k1); (case h1 => walk_at "hp"))
  | ((with_reducible refine' kI_dct_list ?h1 ?k1); (case h1 => walk_at "hp"))
  | ((with_reducible refine' kI_dct_dict ?h1 ?k1); (case h1 => walk_at "hp")))
local macro_rules | `(tactic| walk_at "go1") => `(tactic| first
  | with_reducible refine g_var0 ?_
  | with_reducible refine g_varS ?_
  | with_reducible refine g_c ?_
  | with_reducible refine g_op ?_
  | with_reducible refine g_cons ?_
  | with_reducible refine g_nil ?_
  | with_reducible refine g_cl ?_
  | with_reducible refine g_cb ?_
  | with_reducible refine g_seq ?_
  | with_reducible refine g_asg ?_
  | with_reducible refine g_set0 ?_
  | with_reducible refine g_setS ?_
  | with_reducible refine g_ifS ?_
  | with_reducible refine g_test ?_
  | with_reducible refine g_B ?_
  | with_reducible refine g_ret ?_
  | with_reducible refine k_bl ?_
  | with_reducible refine k_blI ?_
  | with_reducible refine k_blp ?_
  | with_reducible refine k_ifT ?_
  | with_reducible refine k_ifF ?_
  | with_reducible refine k_noF ?_
  | with_reducible refine k_soF ?_
  | with_reducible refine k_ifNT ?_
  | with_reducible refine k_ifNF ?_
  | ((with_reducible refine' k_ifDy ?h1 ?k1); (case h1 => (first | assumption | with_reducible rfl | omega)))
  | ((with_reducible refine' k_ifDn ?h1 ?k1); (case h1 => (first | assumption | omega)))
  | ((with_reducible refine' k_ifNDy ?h1 ?k1); (case h1 => (first | assumption | omega)))
  | ((with_reducible refine' k_ifNDn ?h1 ?k1); (case h1 => (first | assumption | with_reducible rfl | omega)))
  | ((with_reducible refine' k_ifBy ?h1 ?k1); (case h1 => with_reducible assumption))
  | ((with_reducible refine' k_ifBn ?h1 ?k1); (case h1 => with_reducible assumption))
  | with_reducible refine g_next ?_
  | with_reducible refine g_retN ?_
  | with_reducible refine g_drop ?_
  | with_reducible refine g_and ?_
  | with_reducible refine g_or ?_
  | with_reducible refine g_not ?_
  | with_reducible refine g_andV ?_
  | with_reducible refine g_orV ?_
  | with_reducible refine g_notV ?_
  | with_reducible refine g_if ?_
  | with_reducible refine g_ls ?_
  | with_reducible refine g_tp ?_
  | ((with_reducible refine k_newL rfl ?_); walk_at "inN")
  | ((with_reducible refine k_newT rfl ?_); walk_at "inN")
  | with_reducible refine g_par ?_
  | with_reducible refine k_par ?_
  | with_reducible refine g_un ?_
  | with_reducible refine kNeg ?_
  | with_reducible refine kAbs ?_
  | with_reducible refine kMax ?_
  | with_reducible refine kMin ?_
  | with_reducible refine g_par3 ?_
  | with_reducible refine k_par3 ?_
  | with_reducible refine g_m1 ?_
  | with_reducible refine g_m0 ?_
  | with_reducible refine k_isS ?_
  | with_reducible refine g_bm ?_
  | with_reducible refine g_bm0 ?_
  | ((with_reducible refine' k_tyL ?h1 ?k1); (case h1 => walk_at "hp"))
  | with_reducible refine g_sl ?_
  | with_reducible refine g_part ?_
  | with_reducible refine g_nopart ?_
  | with_reducible refine k_int ?_
  | with_reducible refine g_tru ?_
  | with_reducible refine k_U ?_
  | with_reducible refine kAdd_I ?_
  | ((with_reducible refine' kAdd_L ?h1 ?h2 ?h3 ?k1); (case h1 => walk_at "hp"); (case h2 => walk_at "hp"); (case h3 => walk_at "ar"); walk_at "inN")
  | ((with_reducible refine' kAdd_S ?h1 ?k1); (case h1 => walk_at "ar"))
  | with_reducible refine kSub_I ?_
  | ((with_reducible refine' kMul_I ?h1 ?k1); (case h1 => walk_at "ar"))
  | ((with_reducible refine' kMod_I ?h1 ?k1); (case h1 => walk_at "ar"))
  | ((with_reducible refine' kDiv_I ?h1 ?h2 ?k1); (case h1 => walk_at "ar"); (case h2 => walk_at "ar"))
  | ((with_reducible refine' kPow_I ?h1 ?h2 ?h3 ?h4 ?k1); (case h1 => walk_at "ar"); (case h2 => walk_at "ar"); (case h3 => walk_at "ar"); (case h4 => walk_at "ar"))
  | with_reducible refine kEq_I ?_
  | with_reducible refine kEq_S ?_
  | ((with_reducible refine' kEq_T00 ?h1 ?h2 ?k1); (case h1 => walk_at "sq"); (case h2 => walk_at "sq"))
  | ((with_reducible refine' kEq_T0c ?h1 ?h2 ?k1); (case h1 => walk_at "sq"); (case h2 => walk_at "sq"))
  | ((with_reducible refine' kEq_T0 ?h1 ?h2 ?k1); (case h1 => walk_at "sq"); (case h2 => walk_at "sq"))
  | with_reducible refine kNe_I ?_
  | with_reducible refine kNe_S ?_
  | with_reducible refine kNot_T ?_
  | with_reducible refine kIs_B ?_
  | with_reducible refine kLt_I ?_
  | with_reducible refine kLe_I ?_
  | with_reducible refine kGt_I ?_
  | with_reducible refine kGe_I ?_
  | with_reducible refine kIs_N ?_
  | with_reducible refine kNis_N ?_
  | with_reducible refine kIn_C ?_
  | with_reducible refine kNin_C ?_
  | ((with_reducible refine' kIx_T0 ?h1 ?k1); (case h1 => walk_at "sq"))
  | ((with_reducible refine' kIx_Lc ?h1 ?h2 ?k1); (case h1 => walk_at "sq"); (case h2 => rfl))
  | ((with_reducible refine' kIx_Tc ?h1 ?h2 ?k1); (case h1 => walk_at "sq"); (case h2 => rfl))
  | ((with_reducible refine' kIx_L ?h1 ?h2 ?h3 ?k1); (case h1 => walk_at "sq"); (case h2 => walk_at "ar"); (case h3 => walk_at "ar"); walk_at "inV")
  | ((with_reducible refine' kIx_T ?h1 ?h2 ?h3 ?k1); (case h1 => walk_at "sq"); (case h2 => walk_at "ar"); (case h3 => walk_at "ar"); walk_at "inV")
  | ((with_reducible refine' kIx_S ?h1 ?h2 ?h3 ?k1); (case h1 => walk_at "ar"); (case h2 => walk_at "ar"); (case h3 => walk_at "ar"); walk_at "inV")
  | ((with_reducible refine' kLen_L ?h1 ?k1); (case h1 => walk_at "sq"))
  | ((with_reducible refine' kLen_T ?h1 ?k1); (case h1 => walk_at "sq"))
  | ((with_reducible refine' kList_L ?h1 ?k1); (case h1 => walk_at "sq"); walk_at "inN")
  | ((with_reducible refine' kList_T ?h1 ?k1); (case h1 => walk_at "sq"); walk_at "inN")
  | ((with_reducible refine' kTuple_L ?h1 ?k1); (case h1 => walk_at "sq"); walk_at "inN")
  | ((with_reducible refine' kTuple_T ?h1 ?k1); (case h1 => walk_at "sq"))
  | ((with_reducible refine' kDivmod ?h1 ?h2 ?k1); (case h1 => walk_at "ar"); (case h2 => walk_at "ar"); walk_at "inN")
  | ((with_reducible refine' g_tup ?h1 ?h2 ?k1); (case h1 => walk_at "sq"); (case h2 => rfl))
  | with_reducible refine g_gcons ?_
  | with_reducible refine g_gnil ?_
  | with_reducible refine g_sub ?_
  | ((with_reducible refine' kSetL ?h1 ?h2 ?h3 ?k1); (case h1 => walk_at "hp"); (case h2 => walk_at "ar"); (case h3 => walk_at "ar"))
  | ((with_reducible refine' kSl_T1 ?h1 ?k1); (case h1 => walk_at "sq"); walk_at "inM")
  | with_reducible refine g_match ?_
  | with_reducible refine k_str ?_
  | with_reducible refine g_mval ?_
  | with_reducible refine g_many ?_
  | with_reducible refine g_mnil ?_
  | with_reducible refine g_chain ?_
  | (with_reducible refine g_dnew ?_; walk_at "inN")
  | (with_reducible refine g_dispC rfl rfl ?_; walk_at "inN")
  | with_reducible refine g_dput ?_
  | ((with_reducible refine' kPut_S ?h1 ?h2 ?k1); (case h1 => walk_at "hp"); (case h2 => walk_at "ar"))
  | ((with_reducible refine' kJoin1 ?h1 ?h2 ?k1); (case h1 => walk_at "sq"); (case h2 => walk_at "ar"))
  | with_reducible refine fRng ?_
  | with_reducible refine fList ?_
  | with_reducible refine fTup ?_
  | with_reducible refine cStr ?_
  | with_reducible refine cTup ?_
  | with_reducible refine cZipT ?_
  | with_reducible refine cZipS ?_
  | ((with_reducible refine' kLen_S ?h1 ?k1); (case h1 => walk_at "ar"))
  | walk_at "isi"
  | rw [upd_upd]
  | ((with_reducible refine k_ifD ?_ ?_) <;> walk_at "inI")
  | ((with_reducible refine k_ifND ?_ ?_) <;> walk_at "inI")
  | ((with_reducible refine k_ifB ?_ ?_) <;> walk_at "inI")
  | ((with_reducible refine k_ifNB ?_ ?_) <;> walk_at "inI"))
local macro_rules | `(tactic| walk_at "go") => `(tactic| repeat' (walk_at "go1"))
def t_law_draw (T : Tx K w mg) : TS :=
  (tSeq (tIfS (tTest (tOp zGt (tOp (zIx K w) (tVar 0) (tC (.int 0))) (tC (.int 0)))) (tSeq (tAsg (tCB zDivmod (tCons (tOp (zIx K w) (tVar 0) (tC (.int 0))) (tCons (tVar 1) tNil))) (gTup K 2 (gCons (gSub (tVar 0) (tC (.int 0)) rSetL) (gCons (gName 2) gNil))))
    (tRet (tVar 2))) tNext)
    (tSeq (tAsg (tOp zMod (tOp (zAdd K) (tOp zMul (tOp (zIx K w) (tVar 0) (tC (.int 1))) (tC (.int 48271))) (tC (.int 10037))) (tC (.int 2147483587))) (gSub (tVar 0) (tC (.int 1)) rSetL))
    (tRet (tOp zMod (tOp zDiv (tOp zMod (tOp zMul (tOp (zIx K w) (tVar 0) (tC (.int 1))) (tOp (zIx K w) (tVar 0) (tC (.int 1)))) (tC (.int 2147483563))) (tC (.int 7))) (tVar 1)))))
theorem pr_law_draw (T : Tx K w mg) (vs : List V) (H : Hp) (Q : VK) (E : XK) (h : spDraw vs H Q E) : tPot (t_law_draw T) (E4 Q) (start N_law_draw vs) H := by
  obtain ⟨p, n, rfl, hp, h0, h1, k⟩ := h
  refine ⟨p, hp, fun i j ok => ?_⟩
  obtain ⟨o1, o2, o3⟩ := ok
  show t_law_draw T _ [some (.ref p), some (.int n), none] _
  unfold t_law_draw
  walk_at "go"
  · refine ⟨i / n, j, ⟨Int.ediv_nonneg o1 (by omega), o2, o3⟩, upd_same, k _ _ ?_ (Int.emod_nonneg _ (by omega)) (Int.emod_lt_of_pos _ h0)⟩
    exact pot_same (by assumption) (by assumption)
  · refine ⟨i, (j * 48271 + 10037) % 2147483587, ⟨o1, Int.emod_nonneg _ (by omega), by omega⟩, upd_same, k _ _ ?_ (Int.emod_nonneg _ (by omega)) (Int.emod_lt_of_pos _ h0)⟩
    rw [upd_self hp]
    exact L2.Same.refl H
theorem ok0_law_draw (T : Tx K w mg) (hS : SysB base) : FnG P w K mg base CX0 1 T.f_law_draw T.d_law_draw ["_law_pot_here", "_law_most"] spDraw := by
  refine okG T.F_law_draw sc_law_draw (fun vs H Q E h => ?_) (fun cdv A outer s H vs Q E hG hr h => ⟨tPot (t_law_draw T), pss_pot (pss_cons (ps_if (pt_cmpR o_gt (pe_ix (o_ix hr) (pv 0) pe_int (fun _ _ => rfl)) pe_int (nomark _)) (pss_cons (ps_asg (pe_callB o_divmod rfl T.n_divmod bt_divmod (pa_cons (pe_ix (o_ix hr) (pv 0) pe_int (fun _ _ => rfl)) (pa_cons (pv 1) pa_nil))) (pg_tup rfl (pgs_cons (pg_sub (pv 0) pe_int set_list (fun _ => rfl)) (pgs_cons (pg_name (i := 2) sc_law_draw.nd rfl (Or.inl rfl)) pgs_nil))))
    (pss_one (ps_ret (pv 2)))) pss_nil)
    (pss_cons (ps_asg (pe_op o_mod (pe_op o_add (pe_op o_mul (pe_ix (o_ix hr) (pv 0) pe_int (fun _ _ => rfl)) pe_int) pe_int) pe_int) (pg_sub (pv 0) pe_int set_list (fun _ => rfl)))
    (pss_one (ps_ret (pe_op o_mod (pe_op o_div (pe_op o_mod (pe_op o_mul (pe_ix (o_ix hr) (pv 0) pe_int (fun _ _ => rfl)) (pe_ix (o_ix hr) (pv 0) pe_int (fun _ _ => rfl))) pe_int) pe_int) (pv 1)))))), pr_law_draw T vs H Q E h⟩)
  obtain ⟨p, n, rfl, _⟩ := h
  rfl
theorem pot_new {H H2 : Hp} {Q : VK} {p : Addr} {c x y : Int} (k : ∀ (p : Addr) (H' : Hp), L2.Same H H' → H p = none → H' p = some (pot p) → Q (V.ref p) H') (hn : H p = none) (he : L2.Same H H2)
    (hp : H2 p = some (HO.lst [V.int (if c - x > 0 then c - x else 0), V.int (y % 2147483587 + 1)])) :
    ∃ a i j, V.ref p = V.ref a ∧ PotOk i j ∧ H2 a = some (HO.lst [V.int i, V.int j]) ∧ (E4 Q).rt (V.ref a) (upd H2 a (pot a)) := by
  refine ⟨p, _, _, rfl, ⟨by split <;> omega, by omega, by omega⟩, hp, k p _ (same_upd hn he) hn upd_same⟩
def t_law_pot (T : Tx K w mg) : TS :=
  (tSeq (tAsg (tC (.int 0)) (gName 2))
    (tSeq (tIfS (tTest (tOp zLt (tVar 1) (tCB (zLen K) (tCons (tVar 0) tNil)))) (tAsg (tCB zAbs (tCons (tOp (zIx K w) (tVar 0) (tVar 1)) tNil)) (gName 2)) tNext)
    (tRet (tLs (tCons (tCB zMax (tCons (tC (.int 0)) (tCons (tOp zSub (tVar 2) (tOp zPow (tC (.int 10)) (tC (.int 18)))) tNil))) (tCons (tOp (zAdd K) (tOp zMod (tOp zPow (tOp (zAdd K) (tOp (zAdd K) (tOp zMod (tVar 2) (tC (.int 2147483629))) (tOp zMul (tC (.int 1013)) (tVar 1))) (tC (.int 7))) (tC (.int 3))) (tC (.int 2147483587))) (tC (.int 1))) tNil))))))
theorem pr_law_pot (T : Tx K w mg) (vs : List V) (H : Hp) (Q : VK) (E : XK) (h : spPot K vs H Q E) : tPotRet (t_law_pot T) (E4 Q) (start N_law_pot vs) H := by
  obtain ⟨a, i, ns, rfl, hl, h0, h1, h2, k⟩ := h
  show t_law_pot T _ [some (.ref a), some (.int i), none] _
  unfold t_law_pot
  walk_at "go"
  · obtain ⟨z, rfl, hz⟩ := ints_at hv
    walk_at "go"
    exact pot_new k (by assumption) (by assumption) (by assumption)
  · exact pot_new k (by assumption) (by assumption) (by assumption)
theorem ok0_law_pot (T : Tx K w mg) (hS : SysB base) : FnG P w K mg base CX0 1 T.f_law_pot T.d_law_pot ["_law_script", "_law_index"] (spPot K) := by
  refine okG T.F_law_pot sc_law_pot (fun vs H Q E h => ?_) (fun cdv A outer s H vs Q E hG hr h => ⟨tPotRet (t_law_pot T), pss_potRet (pss_cons (ps_asg pe_int (pg_name (i := 2) sc_law_pot.nd rfl (Or.inl rfl)))
    (pss_cons (ps_if (pt_cmpR o_lt (pv 1) (pe_callB o_len rfl T.n_len bt_len (pa_cons (pv 0) pa_nil)) (nomark _)) (pss_one (ps_asg (pe_callB o_abs rfl T.n_abs bt_abs (pa_cons (pe_ix (o_ix hr) (pv 0) (pv 1) (fun _ _ => rfl)) pa_nil)) (pg_name (i := 2) sc_law_pot.nd rfl (Or.inl rfl)))) pss_nil)
    (pss_one (ps_ret (pe_ls (pa_cons (pe_callB (o_max rfl) rfl T.n_max bt_max (pa_cons pe_int (pa_cons (pe_op o_sub (pv 2) (pe_op o_pow pe_int pe_int)) pa_nil))) (pa_cons (pe_op o_add (pe_op o_mod (pe_op o_pow (pe_op o_add (pe_op o_add (pe_op o_mod (pv 2) pe_int) (pe_op o_mul pe_int (pv 1))) pe_int) pe_int) pe_int) pe_int) pa_nil))))))), pr_law_pot T vs H Q E h⟩)
  obtain ⟨a, i, ns, rfl, _⟩ := h
  rfl
end
-- ROWS ON
def S_law_pot (T : Tx K w mg) : TSp := _root_.T.S_law_pot
theorem ok_law_pot (T : Tx K w mg) (hS : SysB base) : FnT P w K mg base 1 T.f_law_pot T.d_law_pot ["_law_script", "_law_index"] [] (S_law_pot T) := FnG.toX (ok0_law_pot T hS) fun _ _ _ _ h => pot_sp h
def S_law_draw (T : Tx K w mg) : TSp := fun os Φ _ => ∃ n : Int, os = [.tok, .fz (.int n)] ∧ 0 < n ∧ n < 10 ^ 40 ∧ ∀ d : Int, 0 ≤ d → d < n → Φ (.fz (.int d)) []
theorem ok_law_draw (T : Tx K w mg) (hS : SysB base) : FnT P w K mg base 1 T.f_law_draw T.d_law_draw ["_law_pot_here", "_law_most"] [] (S_law_draw T) := FnG.toX (ok0_law_draw T hS) fun _ _ _ _ h => draw_sp h
theorem chars_name {cs : List Nat} (h0 : 1 ≤ cs.length) (h1 : cs.length ≤ 8) (h : ∀ c ∈ cs, c ∈ lett.cps.toList) : Nm ⟨cs.toArray⟩ :=
  ⟨by show 1 ≤ cs.toArray.size; simpa using h0, by show cs.toArray.size ≤ 8; simpa using h1, by simpa using h⟩
instance : DecidablePred Nm := fun z => by unfold Nm; infer_instance
def spare (i : Nat) : Str := one (lett.cps.toList.getD (i / 26) 0) ++ one (lett.cps.toList.getD (i % 26) 0) ++ "q"
theorem nm_ok {z : Str} (h : Nm z) : PyData.strOk z = true := by
  have a : ∀ c ∈ lett.cps.toList, c < 0x110000 := by decide +kernel
  show z.cps.all (· < 0x110000) = true
  rw [Array.all_eq_true_iff_forall_mem]
  intro c hc
  exact decide_eq_true (a c (h.2.2 c (by simpa using hc)))
theorem spare_name {j : Nat} (h : j < 676) : Nm (spare j) := (show ∀ j : Fin 676, Nm (spare j.val) by decide +kernel) ⟨j, h⟩
theorem spare_free {us : List Str} (h : us.length ≤ 100) : ∃ j, j < 676 ∧ spare j ∉ us := by
  refine Classical.byContradiction fun hn => ?_
  have := all_of_len (ys := us) (xs := (List.range 101).map spare) (by decide +kernel) (fun x hx => by
    obtain ⟨j, hj, rfl⟩ := List.mem_map.mp hx
    exact Classical.byContradiction fun h2 => hn ⟨j, by have := List.mem_range.mp hj; omega, h2⟩)
  rw [List.length_map, List.length_range] at this
  omega
theorem spare_at {i a b : Nat} (ha : lett.cps.toList[i / 26]? = some a) (hb : lett.cps.toList[i % 26]? = some b) : one a ++ one b ++ "q" = spare i := by
  unfold spare
  rw [List.getD_eq_getElem?_getD, List.getD_eq_getElem?_getD, ha, hb]; rfl
theorem dr {T : Tx K w mg} {n : Int} {Φ : O → List O → Prop} {Ξ : Exn → List O → Prop} (h0 : 0 < n) (h1 : n < 10 ^ 40) (k : ∀ d : Int, 0 ≤ d → d < n → Φ (.fz (.int d)) []) : S_law_draw T [.tok, .fz (.int n)] Φ Ξ := ⟨n, rfl, h0, h1, k⟩
def bdB : Nat → PyData → Bool
  | _, .str z => decide (z.length ≤ 1000)
  | k + 1, .tuple ds => decide (ds.length ≤ 1000) && ds.all (bdB k)
  | k + 1, .list ds => decide (ds.length ≤ 1000) && ds.all (bdB k)
  | 0, .tuple _ => false
  | 0, .list _ => false
  | _, _ => true
theorem bd_of : ∀ (k : Nat) (d : PyData), bdB k d = true → Bd k d
  | 0, .none, _ | 0, .bool _, _ | 0, .int _, _ | 0, .dict _, _ => True.intro
  | k + 1, .none, _ | k + 1, .bool _, _ | k + 1, .int _, _ | k + 1, .dict _, _ => True.intro
  | 0, .str z, h => (show z.length ≤ 1000 from of_decide_eq_true h)
  | k + 1, .str z, h => (show z.length ≤ 1000 from of_decide_eq_true h)
  | k + 1, .tuple ds, h => by
    have h : (decide (ds.length ≤ 1000) && ds.all (bdB k)) = true := h
    rw [Bool.and_eq_true, List.all_eq_true] at h
    exact ⟨of_decide_eq_true h.1, fun d hd => bd_of k d (h.2 d hd)⟩
  | k + 1, .list ds, h => by
    have h : (decide (ds.length ≤ 1000) && ds.all (bdB k)) = true := h
    rw [Bool.and_eq_true, List.all_eq_true] at h
    exact ⟨of_decide_eq_true h.1, fun d hd => bd_of k d (h.2 d hd)⟩
/-- a step's data, good or bad -/
def Bs (d : PyData) : Prop := Sm 2 3000 d ∧ Bd 2 d
/-- an item's -/
def B0 (d : PyData) : Prop := Sm 0 82 d ∧ Bd 0 d
theorem b0_str {z : Str} (h : z.length ≤ 8) (hc : ∀ c ∈ z.cps.toList, c < 16 ^ 8) : B0 (.str z) := ⟨Sm.str h hc, by show z.length ≤ 1000; omega⟩
theorem b0_nm {z : Str} (h : Nm z) : B0 (.str z) := b0_str h.2.1 fun c hc => (show ∀ c ∈ lett.cps.toList, c < 16 ^ 8 by decide +kernel) c (h.2.2 c hc)
theorem b0_int {i : Int} (h : i.natAbs < 10 ^ 60) : B0 (.int i) := ⟨(Sm.int h).mono (Nat.le_refl _) (by omega), True.intro⟩
theorem bd_mono : ∀ {k m : Nat} {d : PyData}, Bd k d → k ≤ m → Bd m d
  | 0, 0, _, h, _ => h
  | 0, m + 1, .none, _, _ | 0, m + 1, .bool _, _, _ | 0, m + 1, .int _, _, _ | 0, m + 1, .dict _, _, _ => True.intro
  | 0, m + 1, .str _, h, _ => h
  | k + 1, m + 1, .none, _, _ | k + 1, m + 1, .bool _, _, _ | k + 1, m + 1, .int _, _, _ | k + 1, m + 1, .dict _, _, _ => True.intro
  | k + 1, m + 1, .str _, h, _ => h
  | k + 1, m + 1, .tuple _, h, hk => ⟨h.1, fun d hd => bd_mono (h.2 d hd) (Nat.le_of_succ_le_succ hk)⟩
  | k + 1, m + 1, .list _, h, hk => ⟨h.1, fun d hd => bd_mono (h.2 d hd) (Nat.le_of_succ_le_succ hk)⟩
theorem bs_tup {ds : List PyData} (h : ∀ d ∈ ds, B0 d) (hl : ds.length ≤ 4) : Bs (.tuple ds) :=
  ⟨(Sm.tuple (fun d hd => (h d hd).1) hl).mono (by decide) (by decide), ⟨by omega, fun d hd => bd_mono (h d hd).2 (Nat.zero_le _)⟩⟩
theorem b0_0 : ∀ d ∈ ([] : List PyData), B0 d := fun d h => by cases h
theorem b0_1 {x : PyData} {l : List PyData} (h : B0 x) (r : ∀ d ∈ l, B0 d) : ∀ d ∈ x :: l, B0 d := fun d hd => by
  rcases List.mem_cons.mp hd with rfl | hd
  · exact h
  · exact r d hd
def S_law_choice (T : Tx K w mg) : TSp := fun os Φ _ => (∃ ds, os = [.tok, .fz (.list ds)] ∧ 0 < ds.length ∧ ds.length ≤ 1000 ∧ ∀ d ∈ ds, Φ (.fz d) []) ∨ ∃ z : Str, os = [.tok, .fz (.str z)] ∧ 0 < z.length ∧ z.length ≤ 1000 ∧ ∀ c ∈ z.cps.toList, Φ (.fz (.str (one c))) []
def t_law_choice (T : Tx K w mg) : TSD :=
  (sRet (mOp ixD (mVar 1) (mCall (S_law_draw T) [] (mCons (mVar 0) (mCons (mFrz (mCB lenD (mCons (mFrz (mVar 1)) mNil))) mNil)))))
theorem pr_law_choice (T : Tx K w mg) (os : List O) (Φ : O → List O → Prop) (Ξ : Exn → List O → Prop) (hl : os.length = 2) (h : S_law_choice T os Φ Ξ) : t_law_choice T (fin [] Φ Ξ) (os ++ List.replicate (N_law_choice.length - os.length) .un) := by
  rcases h with ⟨ds, rfl, h0, h1, k⟩ | ⟨z, rfl, h0, h1, k⟩
  · show t_law_choice T (fin [] Φ Ξ) [.tok, .fz (.list ds)]
    unfold t_law_choice
    walk_at "fr"
    refine dr (by omega) (by omega) fun d h0 h1 => ?_
    walk_at "fr"
    obtain ⟨x, e1, e2, _⟩ := at_ok (l := ds) h0 h1
    exact ⟨x, e1, k x e2⟩
  · show t_law_choice T (fin [] Φ Ξ) [.tok, .fz (.str z)]
    unfold t_law_choice
    walk_at "fr"
    refine ⟨by omega, dr (by omega) (by omega) fun d d0 d1 => ?_⟩
    walk_at "fr"
    obtain ⟨x, e1, e2, _⟩ := at_ok (l := z.cps.toList) d0 (by simpa [Str.length] using d1)
    exact ⟨by omega, x, e1, k x e2⟩
theorem ok_law_choice (T : Tx K w mg) (hS : SysB base) : FnT P w K mg base 2 T.f_law_choice T.d_law_choice ["_law_pot_here", "_law_options"] [] (S_law_choice T) := okT T.F_law_choice sc_law_choice (by decide) (by decide) (fun cdv A outer s H E hG hr tk => (jss_one (js_ret (je_ix (o_ix hr) d_ix (je_var 1) (je_call (ip := []) hG (ok_law_draw T hS) (hr.mono (by decide)) T.m_law_draw T.F_law_draw.kp T.b_law_draw tk (ja_cons (JE.jp (je_var 0)) (ja_cons (JE.jp (je_frz (je_callB o_len d_len T.n_len bt_len (ja_cons (JE.jp (je_frz (je_var 1))) ja_nil)))) ja_nil))) (fun _ _ => rfl))))) (pr_law_choice T)
theorem ch {T : Tx K w mg} {ds : List PyData} {Φ : O → List O → Prop} {Ξ : Exn → List O → Prop} (h0 : 0 < ds.length) (h1 : ds.length ≤ 1000) (k : ∀ d ∈ ds, Φ (.fz d) []) : S_law_choice T [.tok, .fz (.list ds)] Φ Ξ := .inl ⟨ds, rfl, h0, h1, k⟩
theorem chV {T : Tx K w mg} {Φ : O → List O → Prop} {Ξ : Exn → List O → Prop} (k : ∀ x : Str, B0 (.str x) → Φ (.fz (.str x)) []) : S_law_choice T [.tok, .fz (.str "abcd")] Φ Ξ := .inr ⟨"abcd", rfl, by decide +kernel, by decide +kernel, fun c hc => k _ (b0_str (by show 1 ≤ 8; decide) fun x hx => by
  have : x = c := by simpa [one] using hx
  subst this
  exact (show ∀ c ∈ (Str.ofString "abcd").cps.toList, c < 16 ^ 8 by decide +kernel) x hc)⟩
theorem chN {T : Tx K w mg} {zs : List Str} {Φ : O → List O → Prop} {Ξ : Exn → List O → Prop} (h0 : 0 < zs.length) (h1 : zs.length ≤ 1000) (h : ∀ z ∈ zs, Nm z) (k : ∀ x : Str, Nm x → Φ (.fz (.str x)) []) : S_law_choice T [.tok, .fz (.list (zs.map .str))] Φ Ξ := ch (by rw [List.length_map]; exact h0) (by rw [List.length_map]; exact h1) fun d hd => by
  obtain ⟨z, hz, rfl⟩ := List.mem_map.mp hd
  exact k z (h z hz)
def S_law_name (T : Tx K w mg) : TSp := fun os Φ _ => ∃ us : List Str, os = [.tok, .fz (.list (us.map .str))] ∧ us.length ≤ 100 ∧ ∀ z, Nm z → Φ (.fz (.str z)) []
def t_law_name (T : Tx K w mg) : TSD :=
  (sSeq (sSet 2 (mC (.str "abcdefghijklmnopqrstuvwxyz")))
    (sSeq (sSet 3 (mFrz (mOp ixD (mLs (mCons (mC (.int 1)) (mCons (mC (.int 1)) (mCons (mC (.int 2)) (mCons (mC (.int 8)) (mCons (mFrz (mOp addD (mC (.int 1)) (mCall (S_law_draw T) [] (mCons (mVar 0) (mCons (mC (.int 8)) mNil))))) mNil)))))) (mCall (S_law_draw T) [] (mCons (mVar 0) (mCons (mC (.int 5)) mNil))))))
    (sSeq (sSet 4 (mFrz (mM1 joinD (mC (.str "")) (mLc (iR1 (mCons (mFrz (mVar 3)) mNil)) [7] (gN 7) tYs (mOp ixD (mVar 2) (mCall (S_law_draw T) [] (mCons (mVar 0) (mCons (mC (.int 26)) mNil))))))))
    (sSeq (sIf (tVal (mOp (eqD false) (mCall (S_law_draw T) [] (mCons (mVar 0) (mCons (mC (.int 12)) mNil))) (mC (.int 0)))) (sSet 4 (mFrz (mOp ixD (mLs (mCons (mC (.str "module")) (mCons (mC (.str "need")) (mCons (mC (.str "try")) (mCons (mC (.str "set")) (mCons (mC (.str "a")) (mCons (mC (.str "b")) (mCons (mC (.str "fail")) (mCons (mC (.str "thread")) mNil))))))))) (mCall (S_law_draw T) [] (mCons (mVar 0) (mCons (mC (.int 8)) mNil)))))) sNext)
    (sSeq (sIf (tVal (mOp (inD true) (mVar 4) (mVar 1))) (sRet (mVar 4)) sNext)
    (sSeq (sThenFrz 5 (sSet 5 (mLc (iR1 (mCons (mC (.int 676)) mNil)) [6] (gN 6) tYs (mOp addD (mOp addD (mOp ixD (mVar 2) (mOp divD (mVar 6) (mC (.int 26)))) (mOp ixD (mVar 2) (mOp modD (mVar 6) (mC (.int 26))))) (mC (.str "q"))))))
    (sRet (mOp ixD (mLc (iL (mVar 5)) [8] (gN 8) (tVal (mOp (inD true) (mVar 8) (mVar 1))) (mVar 8)) (mC (.int 0))))))))))
theorem pr_law_name (T : Tx K w mg) (os : List O) (Φ : O → List O → Prop) (Ξ : Exn → List O → Prop) (hl : os.length = 2) (h : S_law_name T os Φ Ξ) : t_law_name T (fin [] Φ Ξ) (os ++ List.replicate (N_law_name.length - os.length) .un) := by
  obtain ⟨us, rfl, hu, k⟩ := h
  show t_law_name T (fin [] Φ Ξ) [.tok, .fz (.list (us.map .str)), .un, .un, .un, .un, .un, .un, .un]
  unfold t_law_name
  walk_at "fr"
  refine dr (by omega) (by omega) fun d8 d80 d81 => ?_
  walk_at "fr"
  refine dr (by omega) (by omega) fun d d0 d1 => ?_
  walk_at "fr"
  obtain ⟨x, e1, e2, _⟩ := at_ok (l := [PyData.int 1, .int 1, .int 2, .int 8, .int (1 + d8)]) d0 d1
  have hx : ∃ j : Int, x = .int j ∧ 1 ≤ j ∧ j ≤ 8 := by
    simp only [List.mem_cons, List.not_mem_nil, or_false] at e2
    rcases e2 with rfl | rfl | rfl | rfl | rfl <;> exact ⟨_, rfl, by omega, by omega⟩
  obtain ⟨j, rfl, j0, j1⟩ := hx
  refine ⟨_, e1, ?_⟩
  clear e1 e2
  walk_at "fr"
  refine ⟨by omega, by omega, ?_⟩
  refine go_inv (fun i acc => ∃ cs : List Nat, acc = cs.map (fun c => .fz (.str (one c))) ∧ cs.length = i ∧ ∀ c ∈ cs, c ∈ lett.cps.toList) ⟨[], rfl, rfl, fun _ h => nomatch h⟩ ?_ ?_
  · rintro i x acc N hx ⟨cs, rfl, hc, hall⟩ hN
    have hi := (List.getElem?_eq_some_iff.mp hx).1
    rw [rng_len] at hi
    walk_at "fr"
    refine dr (by omega) (by omega) fun c c0 c1 => ?_
    walk_at "fr"
    obtain ⟨y, f1, f2, _⟩ := at_ok (l := lett.cps.toList) c0 c1
    refine ⟨by decide +kernel, y, f1, by omega, hN _ ⟨cs ++ [y], by rw [List.map_append]; rfl, by simp [hc], ?_⟩⟩
    intro x hx
    rcases List.mem_append.mp hx with h | h
    · exact hall x h
    · rw [List.mem_singleton.mp h]; exact f2
  · rintro acc ⟨cs, rfl, hc, hall⟩
    rw [rng_len] at hc
    walk_at "fr"
    refine joinD_ones (by omega) ?_
    walk_at "fr"
    have hn : Nm ⟨cs.toArray⟩ := chars_name (by omega) (by omega) hall
    refine dr (by omega) (by omega) fun d12 d120 d121 => ?_
    walk_at "fr"
    split
    · refine dr (by omega) (by omega) fun d10 d100 d101 => ?_
      walk_at "fr"
      obtain ⟨x, e1, e2, _⟩ := at_ok (l := [PyData.str "module", .str "need", .str "try", .str "set", .str "a", .str "b", .str "fail", .str "thread"]) d100 d101
      have hx : ∃ y : Str, x = .str y ∧ Nm y := by
        simp only [List.mem_cons, List.not_mem_nil, or_false] at e2
        rcases e2 with rfl | rfl | rfl | rfl | rfl | rfl | rfl | rfl <;> exact ⟨_, rfl, by decide +kernel⟩
      obtain ⟨y, rfl, hy⟩ := hx
      refine ⟨_, e1, ?_⟩
      clear e1 e2
      walk_at "fr"
      split
      · exact k _ hy
      · refine go_mapG (fun (i : Nat) => .fz (.str (spare i))) (by rw [List.length_range]; decide) ?_ ?_
        · intro i hi acc N hl hN
          have hi := List.mem_range.mp hi
          walk_at "fr"
          obtain ⟨a, f1, _, f2⟩ := at_ok (l := lett.cps.toList) (k := (i : Int) / 26) (by omega) (by show _ < ((26 : Nat) : Int); have : Int.toNat 676 = 676 := rfl; omega)
          obtain ⟨b, g1, _, g2⟩ := at_ok (l := lett.cps.toList) (k := (i : Int) % 26) (by omega) (by show _ < ((26 : Nat) : Int); omega)
          rw [show ((i : Int) / 26).toNat = i / 26 by omega] at f2
          rw [show ((i : Int) % 26).toNat = i % 26 by omega] at g2
          refine ⟨by decide +kernel, a, f1, by decide +kernel, b, g1, by show 1 + 1 ≤ 1000000; decide, by rw [strLen_append]; show 1 + 1 + 1 ≤ 1000000; decide, hl, ?_⟩
          have e := spare_at f2 g2
          rw [← e] at hN
          exact hN
        · walk_at "fr"
          refine go_selG (l := List.range (Int.toNat 676)) (g := fun x => PyData.str (spare x)) (fun i => if decide (spare i ∉ us) = true then [.fz (.str (spare i))] else []) (fun i _ => by split <;> simp) (by rw [List.length_range]; decide) ?_ ?_
          · intro i hi acc N hl hN
            walk_at "fr"
            split
            · rename_i h
              rw [if_pos (decide_eq_true h)] at hN
              exact ⟨hl, hN⟩
            · rename_i h
              rw [if_neg (by simpa using h), List.append_nil] at hN
              exact hN
          · rw [flat_filter (fun i => decide (spare i ∉ us)) (fun i => O.fz (.str (spare i)))]
            walk_at "fr"
            obtain ⟨j, hj, hjn⟩ := spare_free hu
            have hm : j ∈ (List.range (Int.toNat 676)).filter fun i => decide (spare i ∉ us) := List.mem_filter.mpr ⟨List.mem_range.mpr hj, decide_eq_true hjn⟩
            have hp := List.length_pos_of_mem hm
            obtain ⟨x, q1, q2, _⟩ := at_ok (l := ((List.range (Int.toNat 676)).filter fun i => decide (spare i ∉ us)).map fun i => PyData.str (spare i)) (k := 0) (by omega) (by rw [List.length_map]; omega)
            obtain ⟨i, hi, rfl⟩ := List.mem_map.mp q2
            exact ⟨_, q1, k _ (spare_name (List.mem_range.mp (List.mem_filter.mp hi).1))⟩
    · walk_at "fr"
      split
      · exact k _ hn
      · refine go_mapG (fun (i : Nat) => .fz (.str (spare i))) (by rw [List.length_range]; decide) ?_ ?_
        · intro i hi acc N hl hN
          have hi := List.mem_range.mp hi
          walk_at "fr"
          obtain ⟨a, f1, _, f2⟩ := at_ok (l := lett.cps.toList) (k := (i : Int) / 26) (by omega) (by show _ < ((26 : Nat) : Int); have : Int.toNat 676 = 676 := rfl; omega)
          obtain ⟨b, g1, _, g2⟩ := at_ok (l := lett.cps.toList) (k := (i : Int) % 26) (by omega) (by show _ < ((26 : Nat) : Int); omega)
          rw [show ((i : Int) / 26).toNat = i / 26 by omega] at f2
          rw [show ((i : Int) % 26).toNat = i % 26 by omega] at g2
          refine ⟨by decide +kernel, a, f1, by decide +kernel, b, g1, by show 1 + 1 ≤ 1000000; decide, by rw [strLen_append]; show 1 + 1 + 1 ≤ 1000000; decide, hl, ?_⟩
          have e := spare_at f2 g2
          rw [← e] at hN
          exact hN
        · walk_at "fr"
          refine go_selG (l := List.range (Int.toNat 676)) (g := fun x => PyData.str (spare x)) (fun i => if decide (spare i ∉ us) = true then [.fz (.str (spare i))] else []) (fun i _ => by split <;> simp) (by rw [List.length_range]; decide) ?_ ?_
          · intro i hi acc N hl hN
            walk_at "fr"
            split
            · rename_i h
              rw [if_pos (decide_eq_true h)] at hN
              exact ⟨hl, hN⟩
            · rename_i h
              rw [if_neg (by simpa using h), List.append_nil] at hN
              exact hN
          · rw [flat_filter (fun i => decide (spare i ∉ us)) (fun i => O.fz (.str (spare i)))]
            walk_at "fr"
            obtain ⟨j, hj, hjn⟩ := spare_free hu
            have hm : j ∈ (List.range (Int.toNat 676)).filter fun i => decide (spare i ∉ us) := List.mem_filter.mpr ⟨List.mem_range.mpr hj, decide_eq_true hjn⟩
            have hp := List.length_pos_of_mem hm
            obtain ⟨x, q1, q2, _⟩ := at_ok (l := ((List.range (Int.toNat 676)).filter fun i => decide (spare i ∉ us)).map fun i => PyData.str (spare i)) (k := 0) (by omega) (by rw [List.length_map]; omega)
            obtain ⟨i, hi, rfl⟩ := List.mem_map.mp q2
            exact ⟨_, q1, k _ (spare_name (List.mem_range.mp (List.mem_filter.mp hi).1))⟩
theorem ok_law_name (T : Tx K w mg) (hS : SysB base) : FnT P w K mg base 2 T.f_law_name T.d_law_name ["_law_pot_here", "_law_used"] [] (S_law_name T) := okT T.F_law_name sc_law_name (by decide) (by decide) (fun cdv A outer s H E hG hr tk => (jss_cons (js_set (i := 2) sc_law_name.nd rfl (Or.inr rfl) je_str)
    (jss_cons (js_set (i := 3) sc_law_name.nd rfl (Or.inl rfl) (je_frz (je_ix (o_ix hr) d_ix (je_ls (ja_cons (JE.jp je_int) (ja_cons (JE.jp je_int) (ja_cons (JE.jp je_int) (ja_cons (JE.jp je_int) (ja_cons (JE.jp (je_frz (je_op o_add d_add je_int (je_call (ip := []) hG (ok_law_draw T hS) (hr.mono (by decide)) T.m_law_draw T.F_law_draw.kp T.b_law_draw tk (ja_cons (JE.jp (je_var 0)) (ja_cons (JE.jp je_int) ja_nil)))))) ja_nil)))))) (je_call (ip := []) hG (ok_law_draw T hS) (hr.mono (by decide)) T.m_law_draw T.F_law_draw.kp T.b_law_draw tk (ja_cons (JE.jp (je_var 0)) (ja_cons (JE.jp je_int) ja_nil))) (fun _ _ => rfl))))
    (jss_cons (js_set (i := 4) sc_law_name.nd rfl (Or.inl rfl) (je_frz (je_join je_str (je_lc rfl sc_law_name.nd (ji_rng1 T.n_range (ja_cons (JE.jp (je_frz (je_var 3))) ja_nil)) (blkOk_by (own := [("_law_turn", 7)]) (N := N_law_name) (sc := defScope s_law_name) (by decide +kernel)) (sl := [7]) rfl (fun _ _ _ _ _ => pg_name (i := 7) sc_law_name.nd rfl (Or.inl rfl)) (jg_name 7) pts_0 kt_nil (fun _ _ _ _ _ => (je_ix (o_ix hr) d_ix (je_var 2) (je_call (ip := []) hG (ok_law_draw T hS) (hr.mono (by decide)) T.m_law_draw T.F_law_draw.kp T.b_law_draw takes0 (ja_cons (JE.jp (je_var 0)) (ja_cons (JE.jp je_int) ja_nil))) (fun _ _ => rfl)))))))
    (jss_cons (js_if (jt_cmp (o_eq hS hr) d_eq (je_call (ip := []) hG (ok_law_draw T hS) (hr.mono (by decide)) T.m_law_draw T.F_law_draw.kp T.b_law_draw tk (ja_cons (JE.jp (je_var 0)) (ja_cons (JE.jp je_int) ja_nil))) je_int (nomark _)) (jss_one (js_set (i := 4) sc_law_name.nd rfl (Or.inl rfl) (je_frz (je_ix (o_ix hr) d_ix (je_ls (ja_cons (JE.jp je_str) (ja_cons (JE.jp je_str) (ja_cons (JE.jp je_str) (ja_cons (JE.jp je_str) (ja_cons (JE.jp je_str) (ja_cons (JE.jp je_str) (ja_cons (JE.jp je_str) (ja_cons (JE.jp je_str) ja_nil))))))))) (je_call (ip := []) hG (ok_law_draw T hS) (hr.mono (by decide)) T.m_law_draw T.F_law_draw.kp T.b_law_draw tk (ja_cons (JE.jp (je_var 0)) (ja_cons (JE.jp je_int) ja_nil))) (fun _ _ => rfl))))) jss_nil)
    (jss_cons (js_if (jt_cmp (o_notIn hr) d_notIn (je_var 4) (je_var 1) (by rfl)) (jss_one (js_ret (je_var 4))) jss_nil)
    (jss_cons (js_thenFrz 5 (js_setLc (i := 5) rfl sc_law_name.nd rfl rfl (sw_true rfl rfl rfl (by decide +kernel)) (ji_rng1 T.n_range (ja_cons (JE.jp je_int) ja_nil)) (blkOk_by (own := [("_law_at", 6)]) (N := N_law_name) (sc := defScope s_law_name) (by decide +kernel)) (sl := [6]) rfl (fun _ _ _ _ _ => pg_name (i := 6) sc_law_name.nd rfl (Or.inl rfl)) (jg_name 6) pts_0 kt_nil (fun _ _ _ _ _ => (je_op o_add d_add (je_op o_add d_add (je_ix (o_ix hr) d_ix (je_var 2) (je_op o_div d_div (je_var 6) je_int) (fun _ _ => rfl)) (je_ix (o_ix hr) d_ix (je_var 2) (je_op o_mod d_mod (je_var 6) je_int) (fun _ _ => rfl))) je_str))))
    (jss_one (js_ret (je_ix (o_ix hr) d_ix (je_lc rfl sc_law_name.nd (ji_list (je_var 5)) (blkOk_by (own := [("_law_one", 8)]) (N := N_law_name) (sc := defScope s_law_name) (by decide +kernel)) (sl := [8]) rfl (fun _ _ _ _ _ => pg_name (i := 8) sc_law_name.nd rfl (Or.inl rfl)) (jg_name 8) pts_B (kt_one (fun _ _ _ _ _ => (jt_cmp (o_notIn hr) d_notIn (je_var 8) (je_var 1) (by rfl)))) (fun _ _ _ _ _ => (je_var 8))) je_int (fun _ _ => rfl))))))))))) (pr_law_name T)
def S_law_names (T : Tx K w mg) : TSp := fun os Φ _ => ∃ m : Int, os = [.tok, .fz (.int m)] ∧ 0 ≤ m ∧ m ≤ 50 ∧ ∀ zs : List Str, zs.length = m.toNat → (∀ z ∈ zs, Nm z) → Φ (.lst (zs.map fun z => .fz (.str z))) []
def t_law_names (T : Tx K w mg) : TSD :=
  (sSeq (sSet 2 (mLs mNil))
    (sSeq (sFor (iR1 (mCons (mFrz (mVar 1)) mNil)) (gN 3) (sApp 2 (mFrz (mBor (mCall (S_law_name T) [] (mCons (mVar 0) (mCons (mFrz (mVar 2)) mNil)))))))
    (sRet (mMov 2))))
theorem nm {T : Tx K w mg} {us : List Str} {Φ : O → List O → Prop} {Ξ : Exn → List O → Prop} (h : us.length ≤ 100) (k : ∀ z, Nm z → Φ (.fz (.str z)) []) : S_law_name T [.tok, .fz (.list (us.map .str))] Φ Ξ := ⟨us, rfl, h, k⟩
theorem pr_law_names (T : Tx K w mg) (os : List O) (Φ : O → List O → Prop) (Ξ : Exn → List O → Prop) (hl : os.length = 2) (h : S_law_names T os Φ Ξ) : t_law_names T (fin [] Φ Ξ) (os ++ List.replicate (N_law_names.length - os.length) .un) := by
  obtain ⟨m, rfl, h0, h1, k⟩ := h
  show t_law_names T (fin [] Φ Ξ) [.tok, .fz (.int m), .un, .un]
  unfold t_law_names
  walk_at "fr"
  refine ⟨by omega, by omega, ?_⟩
  refine for_inv (fun i ρ => ∃ (zs : List Str) (o3 : O), ρ = [.tok, .fz (.int m), .lst (zs.map fun z => .fz (.str z)), o3] ∧ zs.length = i ∧ ∀ z ∈ zs, Nm z) ⟨[], _, rfl, rfl, fun _ h => nomatch h⟩ ?_ ?_
  · rintro i x ρ N hx ⟨zs, o3, rfl, hz, hall⟩ hN
    have hi := (List.getElem?_eq_some_iff.mp hx).1
    rw [rng_len] at hi
    walk_at "fr"
    simp only [len_lstf]
    walk_at "fr"
    refine nm (us := zs) (by omega) fun z hz2 => ?_
    walk_at "fr"
    refine ⟨by omega, hN _ ⟨zs ++ [z], _, by rw [List.map_append]; rfl, by simp [hz], ?_⟩⟩
    intro y hy
    rcases List.mem_append.mp hy with h | h
    · exact hall y h
    · rw [List.mem_singleton.mp h]; exact hz2
  · rintro ρ ⟨zs, o3, rfl, hz, hall⟩
    rw [rng_len] at hz
    walk_at "fr"
    exact k zs hz hall
theorem ok_law_names (T : Tx K w mg) (hS : SysB base) : FnT P w K mg base 3 T.f_law_names T.d_law_names ["_law_pot_here", "_law_number"] [] (S_law_names T) := okT T.F_law_names sc_law_names (by decide) (by decide) (fun cdv A outer s H E hG hr tk => (jss_cons (js_set (i := 2) sc_law_names.nd rfl (Or.inl rfl) (je_ls ja_nil))
    (jss_cons (js_for (passes_of rfl) rfl (ji_rng1 T.n_range (ja_cons (JE.jp (je_frz (je_var 1))) ja_nil)) (pg_name (i := 3) sc_law_names.nd rfl (Or.inl rfl)) (jg_name 3)
    (jss_one (js_append 2 (fun h => pe_bm PySem.F.plainAttrs_list PySem.F.slot_list_append PySem.F.type_list_append m_append (pv 2) (pa_cons h pa_nil)) (je_frz (je_bor (je_call (ip := []) hG (ok_law_name T hS) (hr.mono (by decide)) T.m_law_name T.F_law_name.kp T.b_law_name tk (ja_cons (JE.jp (je_var 0)) (ja_cons (JE.jp (je_frz (je_var 2))) ja_nil))))))))
    (jss_one (js_ret (je_mov 2)))))) (pr_law_names T)
def S_law_integer (T : Tx K w mg) : TSp := fun os Φ _ => os = [.tok] ∧ ∀ n : Int, n.natAbs < 10 ^ 60 → Φ (.fz (.int n)) []
def t_law_integer (T : Tx K w mg) : TSD :=
  (sRet (mCall (S_law_choice T) [] (mCons (mVar 0) (mCons (mFrz (mLs (mCons (mC (.int 0)) (mCons (mC (.int 1)) (mCons (mFrz (mUn negD (mC (.int 1)))) (mCons (mFrz (mOp subD (mCall (S_law_draw T) [] (mCons (mVar 0) (mCons (mC (.int 9)) mNil))) (mC (.int 4)))) (mCons (mFrz (mCall (S_law_draw T) [] (mCons (mVar 0) (mCons (mFrz (mOp powD (mC (.int 10)) (mC (.int 30)))) mNil)))) (mCons (mFrz (mOp subD (mC (.int 0)) (mCall (S_law_draw T) [] (mCons (mVar 0) (mCons (mFrz (mOp powD (mC (.int 10)) (mC (.int 30)))) mNil))))) mNil)))))))) mNil))))
theorem pr_law_integer (T : Tx K w mg) (os : List O) (Φ : O → List O → Prop) (Ξ : Exn → List O → Prop) (hl : os.length = 1) (h : S_law_integer T os Φ Ξ) : t_law_integer T (fin [] Φ Ξ) (os ++ List.replicate (N_law_integer.length - os.length) .un) := by
  obtain ⟨rfl, k⟩ := h
  show t_law_integer T (fin [] Φ Ξ) [.tok]
  unfold t_law_integer
  have e30 : (10 : Int) ^ Int.toNat 30 = 1000000000000000000000000000000 := by decide +kernel
  walk_at "fr"
  refine dr (by decide) (by decide) fun d9 d90 d91 => ?_
  walk_at "fr"
  refine ⟨by decide, by decide, dr (by rw [e30]; decide) (by rw [e30]; decide) fun a a0 a1 => ?_⟩
  walk_at "fr"
  refine ⟨by decide, by decide, dr (by rw [e30]; decide) (by rw [e30]; decide) fun b b0 b1 => ?_⟩
  walk_at "fr"
  rw [e30] at a1 b1
  refine ch (by simp) (by simp) fun x hx => ?_
  simp only [List.mem_cons, List.not_mem_nil, or_false] at hx
  rcases hx with rfl | rfl | rfl | rfl | rfl | rfl <;> exact k _ (by omega)
theorem ok_law_integer (T : Tx K w mg) (hS : SysB base) : FnT P w K mg base 3 T.f_law_integer T.d_law_integer ["_law_pot_here"] [] (S_law_integer T) := okT T.F_law_integer sc_law_integer (by decide) (by decide) (fun cdv A outer s H E hG hr tk => (jss_one (js_ret (je_call (ip := []) hG (ok_law_choice T hS) (hr.mono (by decide)) T.m_law_choice T.F_law_choice.kp T.b_law_choice tk (ja_cons (JE.jp (je_var 0)) (ja_cons (JE.jp (je_frz (je_ls (ja_cons (JE.jp je_int) (ja_cons (JE.jp je_int) (ja_cons (JE.jp (je_frz (je_un o_neg d_neg je_int))) (ja_cons (JE.jp (je_frz (je_op o_sub d_sub (je_call (ip := []) hG (ok_law_draw T hS) (hr.mono (by decide)) T.m_law_draw T.F_law_draw.kp T.b_law_draw tk (ja_cons (JE.jp (je_var 0)) (ja_cons (JE.jp je_int) ja_nil))) je_int))) (ja_cons (JE.jp (je_frz (je_call (ip := []) hG (ok_law_draw T hS) (hr.mono (by decide)) T.m_law_draw T.F_law_draw.kp T.b_law_draw tk (ja_cons (JE.jp (je_var 0)) (ja_cons (JE.jp (je_frz (je_op o_pow d_pow je_int je_int))) ja_nil))))) (ja_cons (JE.jp (je_frz (je_op o_sub d_sub je_int (je_call (ip := []) hG (ok_law_draw T hS) (hr.mono (by decide)) T.m_law_draw T.F_law_draw.kp T.b_law_draw tk (ja_cons (JE.jp (je_var 0)) (ja_cons (JE.jp (je_frz (je_op o_pow d_pow je_int je_int))) ja_nil)))))) ja_nil))))))))) ja_nil)))))) (pr_law_integer T)
def S_law_step (T : Tx K w mg) : TSp := fun os Φ _ => ∃ (ms ns : List Str) (af : Int), os = [.tok, .fz (.list (ms.map .str)), .fz (.list (ns.map .str)), .fz (.int af)] ∧ 0 < ms.length ∧ ms.length ≤ 50 ∧ 0 < ns.length ∧ ns.length ≤ 50 ∧ (∀ z ∈ ms, Nm z) ∧ (∀ z ∈ ns, Nm z) ∧ -1000 ≤ af ∧ af ≤ 1000 ∧ ∀ d, Bs d ∧ noMut d = true → Φ (.fz d) []
def t_law_step (T : Tx K w mg) : TSD :=
  (sSeq (sPar3 4 5 6 (mCons (mFrz (mCall (S_law_draw T) [] (mCons (mVar 0) (mCons (mC (.int 8)) mNil)))) (mCons (mFrz (mCall (S_law_choice T) [] (mCons (mVar 0) (mCons (mC (.str "abcd")) mNil)))) (mCons (mFrz (mCall (S_law_choice T) [] (mCons (mVar 0) (mCons (mC (.str "abcd")) mNil)))) mNil))))
    (sSeq (sPar 7 8 (mCons (mFrz (mCall (S_law_choice T) [] (mCons (mVar 0) (mCons (mFrz (mVar 1)) mNil)))) (mCons (mFrz (mCall (S_law_choice T) [] (mCons (mVar 0) (mCons (mFrz (mVar 2)) mNil)))) mNil)))
    (sSeq (sIf (tAn (tVal (mOp (eqD false) (mVar 4) (mC (.int 2)))) (tVal (mOp gtD (mVar 3) (mC (.int 0))))) (sRet (mTp (mCons (mC (.str "skip")) (mCons (mFrz (mVar 5)) (mCons (mFrz (mOp addD (mC (.int 1)) (mCall (S_law_draw T) [] (mCons (mVar 0) (mCons (mFrz (mVar 3)) mNil))))) mNil))))) sNext)
    (sSeq (sSet 9 (mFrz (mLs (mCons (mFrz (mTp (mCons (mC (.str "set")) (mCons (mFrz (mVar 5)) (mCons (mFrz (mCall (S_law_integer T) [] (mCons (mVar 0) mNil))) mNil))))) (mCons (mFrz (mTp (mCons (mC (.str "add")) (mCons (mFrz (mVar 5)) (mCons (mFrz (mVar 6)) mNil))))) (mCons (mFrz (mTp (mCons (mC (.str "need")) (mCons (mFrz (mVar 7)) mNil)))) (mCons (mFrz (mTp (mCons (mC (.str "export")) (mCons (mFrz (mVar 8)) (mCons (mFrz (mVar 5)) mNil))))) mNil)))))))
    (sRet (mOp ixD (mOp addD (mVar 9) (mLs (mCons (mFrz (mTp (mCons (mC (.str "read")) (mCons (mFrz (mVar 5)) (mCons (mFrz (mVar 7)) (mCons (mFrz (mVar 8)) mNil)))))) (mCons (mFrz (mTp (mCons (mC (.str "need")) (mCons (mFrz (mVar 7)) mNil)))) (mCons (mFrz (mTp (mCons (mC (.str "try")) (mCons (mFrz (mVar 7)) (mCons (mFrz (mVar 5)) mNil))))) (mCons (mFrz (mTp (mCons (mC (.str "fail")) mNil))) mNil)))))) (mVar 4)))))))
theorem pr_law_step (T : Tx K w mg) (os : List O) (Φ : O → List O → Prop) (Ξ : Exn → List O → Prop) (hl : os.length = 4) (h : S_law_step T os Φ Ξ) : t_law_step T (fin [] Φ Ξ) (os ++ List.replicate (N_law_step.length - os.length) .un) := by
  obtain ⟨ms, ns, af, rfl, m0, m1, n0, n1, hm, hn, h0, h1, k⟩ := h
  show t_law_step T (fin [] Φ Ξ) [.tok, .fz (.list (ms.map .str)), .fz (.list (ns.map .str)), .fz (.int af), .un, .un, .un, .un, .un, .un]
  unfold t_law_step
  walk_at "fr"
  refine dr (by decide) (by decide) fun wd w0 w1 => ?_
  walk_at "fr"
  refine chV fun x hx => ?_
  walk_at "fr"
  refine chV fun y hy => ?_
  walk_at "fr"
  refine chN m0 (by omega) hm fun m hm => ?_
  walk_at "fr"
  refine chN n0 (by omega) hn fun n hn => ?_
  walk_at "fr"
  have sk : ∀ z : Str, z.length ≤ 8 → (∀ c ∈ z.cps.toList, c < 16 ^ 8) → B0 (.str z) := fun z h1 h2 => b0_str h1 h2
  have rest : S_law_integer T [.tok] (fun r outs => ∃ d, fzO r = some d ∧ ∃ e, atI ([PyData.tuple [.str "set", .str x, d], .tuple [.str "add", .str x, .str y], .tuple [.str "need", .str m], .tuple [.str "export", .str n, .str x]] ++ [.tuple [.str "read", .str x, .str m, .str n], .tuple [.str "need", .str m], .tuple [.str "try", .str m, .str x], .tuple [.str "fail"]]) wd = some e ∧ Φ (.fz e) []) (fun x outs => Ξ x []) := by
    refine ⟨rfl, fun i hi => ⟨_, rfl, ?_⟩⟩
    obtain ⟨e, e1, e2, _⟩ := at_ok (l := [PyData.tuple [.str "set", .str x, .int i], .tuple [.str "add", .str x, .str y], .tuple [.str "need", .str m], .tuple [.str "export", .str n, .str x]] ++ [.tuple [.str "read", .str x, .str m, .str n], .tuple [.str "need", .str m], .tuple [.str "try", .str m, .str x], .tuple [.str "fail"]]) (k := wd) w0 (by show wd < ((8 : Nat) : Int); exact w1)
    refine ⟨e, e1, k e ?_⟩
    simp only [List.cons_append, List.nil_append, List.mem_cons, List.not_mem_nil, or_false] at e2
    rcases e2 with rfl | rfl | rfl | rfl | rfl | rfl | rfl | rfl
    · refine ⟨?_, rfl⟩; exact bs_tup (b0_1 (sk _ (by decide +kernel) (by decide +kernel)) (b0_1 hx (b0_1 (b0_int hi) b0_0))) (by simp)
    · refine ⟨?_, rfl⟩; exact bs_tup (b0_1 (sk _ (by decide +kernel) (by decide +kernel)) (b0_1 hx (b0_1 hy b0_0))) (by simp)
    · refine ⟨?_, rfl⟩; exact bs_tup (b0_1 (sk _ (by decide +kernel) (by decide +kernel)) (b0_1 (b0_nm hm) b0_0)) (by simp)
    · refine ⟨?_, rfl⟩; exact bs_tup (b0_1 (sk _ (by decide +kernel) (by decide +kernel)) (b0_1 (b0_nm hn) (b0_1 hx b0_0))) (by simp)
    · refine ⟨?_, rfl⟩; exact bs_tup (b0_1 (sk _ (by decide +kernel) (by decide +kernel)) (b0_1 hx (b0_1 (b0_nm hm) (b0_1 (b0_nm hn) b0_0)))) (by simp)
    · refine ⟨?_, rfl⟩; exact bs_tup (b0_1 (sk _ (by decide +kernel) (by decide +kernel)) (b0_1 (b0_nm hm) b0_0)) (by simp)
    · refine ⟨?_, rfl⟩; exact bs_tup (b0_1 (sk _ (by decide +kernel) (by decide +kernel)) (b0_1 (b0_nm hm) (b0_1 hx b0_0))) (by simp)
    · refine ⟨?_, rfl⟩; exact bs_tup (b0_1 (sk _ (by decide +kernel) (by decide +kernel)) b0_0) (by simp)
  split
  · split
    · refine dr (by omega) (by omega) fun j j0 j1 => ?_
      walk_at "fr"
      exact k _ ⟨bs_tup (b0_1 (sk _ (by decide +kernel) (by decide +kernel)) (b0_1 hx (b0_1 (b0_int (by omega)) b0_0))) (by simp), rfl⟩
    · exact rest
  · exact rest
theorem ok_law_step (T : Tx K w mg) (hS : SysB base) : FnT P w K mg base 4 T.f_law_step T.d_law_step ["_law_pot_here", "_law_modules", "_law_names_here", "_law_after"] [] (S_law_step T) := okT T.F_law_step sc_law_step (by decide) (by decide) (fun cdv A outer s H E hG hr tk => (jss_cons (js_par3 (i := 4) (j := 5) (l := 6) rfl sc_law_step.nd rfl rfl rfl (by decide) (by decide) (by decide) rfl rfl rfl (ja_cons (JE.jp (je_frz (je_call (ip := []) hG (ok_law_draw T hS) (hr.mono (by decide)) T.m_law_draw T.F_law_draw.kp T.b_law_draw tk (ja_cons (JE.jp (je_var 0)) (ja_cons (JE.jp je_int) ja_nil))))) (ja_cons (JE.jp (je_frz (je_call (ip := []) hG (ok_law_choice T hS) (hr.mono (by decide)) T.m_law_choice T.F_law_choice.kp T.b_law_choice tk (ja_cons (JE.jp (je_var 0)) (ja_cons (JE.jp je_str) ja_nil))))) (ja_cons (JE.jp (je_frz (je_call (ip := []) hG (ok_law_choice T hS) (hr.mono (by decide)) T.m_law_choice T.F_law_choice.kp T.b_law_choice tk (ja_cons (JE.jp (je_var 0)) (ja_cons (JE.jp je_str) ja_nil))))) ja_nil))) (by rfl))
    (jss_cons (js_par (i := 7) (j := 8) rfl sc_law_step.nd rfl rfl (by decide) rfl rfl (ja_cons (JE.jp (je_frz (je_call (ip := []) hG (ok_law_choice T hS) (hr.mono (by decide)) T.m_law_choice T.F_law_choice.kp T.b_law_choice tk (ja_cons (JE.jp (je_var 0)) (ja_cons (JE.jp (je_frz (je_var 1))) ja_nil))))) (ja_cons (JE.jp (je_frz (je_call (ip := []) hG (ok_law_choice T hS) (hr.mono (by decide)) T.m_law_choice T.F_law_choice.kp T.b_law_choice tk (ja_cons (JE.jp (je_var 0)) (ja_cons (JE.jp (je_frz (je_var 2))) ja_nil))))) ja_nil)) (by rfl))
    (jss_cons (js_if (JW.jt (jw_and (jt_cmp (o_eq hS hr) d_eq (je_var 4) je_int (nomark _)) (jw_and1 (jt_cmp o_gt d_gt (je_var 3) je_int (nomark _))))) (jss_one (js_ret (je_tp (ja_cons (JE.jp je_str) (ja_cons (JE.jp (je_frz (je_var 5))) (ja_cons (JE.jp (je_frz (je_op o_add d_add je_int (je_call (ip := []) hG (ok_law_draw T hS) (hr.mono (by decide)) T.m_law_draw T.F_law_draw.kp T.b_law_draw tk (ja_cons (JE.jp (je_var 0)) (ja_cons (JE.jp (je_frz (je_var 3))) ja_nil)))))) ja_nil)))))) jss_nil)
    (jss_cons (js_set (i := 9) sc_law_step.nd rfl (Or.inl rfl) (je_frz (je_ls (ja_cons (JE.jp (je_frz (je_tp (ja_cons (JE.jp je_str) (ja_cons (JE.jp (je_frz (je_var 5))) (ja_cons (JE.jp (je_frz (je_call (ip := []) hG (ok_law_integer T hS) (hr.mono (by decide)) T.m_law_integer T.F_law_integer.kp T.b_law_integer tk (ja_cons (JE.jp (je_var 0)) ja_nil)))) ja_nil)))))) (ja_cons (JE.jp (je_frz (je_tp (ja_cons (JE.jp je_str) (ja_cons (JE.jp (je_frz (je_var 5))) (ja_cons (JE.jp (je_frz (je_var 6))) ja_nil)))))) (ja_cons (JE.jp (je_frz (je_tp (ja_cons (JE.jp je_str) (ja_cons (JE.jp (je_frz (je_var 7))) ja_nil))))) (ja_cons (JE.jp (je_frz (je_tp (ja_cons (JE.jp je_str) (ja_cons (JE.jp (je_frz (je_var 8))) (ja_cons (JE.jp (je_frz (je_var 5))) ja_nil)))))) ja_nil)))))))
    (jss_one (js_ret (je_ix (o_ix hr) d_ix (je_op o_add d_add (je_var 9) (je_ls (ja_cons (JE.jp (je_frz (je_tp (ja_cons (JE.jp je_str) (ja_cons (JE.jp (je_frz (je_var 5))) (ja_cons (JE.jp (je_frz (je_var 7))) (ja_cons (JE.jp (je_frz (je_var 8))) ja_nil))))))) (ja_cons (JE.jp (je_frz (je_tp (ja_cons (JE.jp je_str) (ja_cons (JE.jp (je_frz (je_var 7))) ja_nil))))) (ja_cons (JE.jp (je_frz (je_tp (ja_cons (JE.jp je_str) (ja_cons (JE.jp (je_frz (je_var 7))) (ja_cons (JE.jp (je_frz (je_var 5))) ja_nil)))))) (ja_cons (JE.jp (je_frz (je_tp (ja_cons (JE.jp je_str) ja_nil)))) ja_nil)))))) (je_var 4) (fun _ _ => rfl))))))))) (pr_law_step T)
def S_law_program (T : Tx K w mg) : TSp := fun os Φ _ => ∃ ms ns : List Str, os = [.tok, .fz (.list (ms.map .str)), .fz (.list (ns.map .str)), .fz (.int 30)] ∧ 0 < ms.length ∧ ms.length ≤ 50 ∧ 0 < ns.length ∧ ns.length ≤ 50 ∧ (∀ z ∈ ms, Nm z) ∧ (∀ z ∈ ns, Nm z) ∧ ∀ ds : List PyData, ds.length ≤ 30 → (∀ d ∈ ds, Bs d) → (∀ d ∈ ds, noMut d = true) → Φ (.lst (ds.map .fz)) []
def t_law_program (T : Tx K w mg) : TSD :=
  (sSeq (sSet 4 (mFrz (mCall (S_law_choice T) [] (mCons (mVar 0) (mCons (mFrz (mLs (mCons (mFrz (mVar 3)) (mCons (mFrz (mCall (S_law_draw T) [] (mCons (mVar 0) (mCons (mFrz (mOp addD (mVar 3) (mC (.int 1)))) mNil)))) (mCons (mFrz (mCall (S_law_draw T) [] (mCons (mVar 0) (mCons (mC (.int 3)) mNil)))) mNil))))) mNil)))))
    (sRet (mLc (iR1 (mCons (mFrz (mVar 4)) mNil)) [5] (gN 5) tYs (mCall (S_law_step T) [] (mCons (mVar 0) (mCons (mFrz (mVar 1)) (mCons (mFrz (mVar 2)) (mCons (mFrz (mOp subD (mOp subD (mVar 4) (mC (.int 1))) (mVar 5))) mNil))))))))
theorem pr_law_program (T : Tx K w mg) (os : List O) (Φ : O → List O → Prop) (Ξ : Exn → List O → Prop) (hl : os.length = 4) (h : S_law_program T os Φ Ξ) : t_law_program T (fin [] Φ Ξ) (os ++ List.replicate (N_law_program.length - os.length) .un) := by
  obtain ⟨ms, ns, rfl, m0, m1, n0, n1, hm, hn, k⟩ := h
  show t_law_program T (fin [] Φ Ξ) [.tok, .fz (.list (ms.map .str)), .fz (.list (ns.map .str)), .fz (.int 30), .un, .un]
  unfold t_law_program
  walk_at "fr"
  refine dr (by decide) (by decide) fun a a0 a1 => ?_
  walk_at "fr"
  refine dr (by decide) (by decide) fun b b0 b1 => ?_
  walk_at "fr"
  refine ch (by simp) (by simp) fun x hx => ?_
  obtain ⟨sz, rfl, s0, s1⟩ : ∃ j : Int, x = .int j ∧ 0 ≤ j ∧ j ≤ 30 := by
    simp only [List.mem_cons, List.not_mem_nil, or_false] at hx
    rcases hx with rfl | rfl | rfl <;> exact ⟨_, rfl, by omega, by omega⟩
  walk_at "fr"
  refine ⟨by omega, by omega, ?_⟩
  refine go_inv (fun i acc => ∃ ds : List PyData, acc = ds.map .fz ∧ ds.length = i ∧ ∀ d ∈ ds, Bs d ∧ noMut d = true) ⟨[], rfl, rfl, fun _ h => nomatch h⟩ ?_ ?_
  · rintro i x acc N hx ⟨ds, rfl, hl, hd⟩ hN
    have hi := (List.getElem?_eq_some_iff.mp hx).1
    rw [rng_len] at hi
    rw [rng_at hi] at hx
    have hx2 : x = .int (0 + (i : Int)) := (Option.some.inj hx).symm
    subst hx2
    walk_at "fr"
    refine ⟨ms, ns, _, rfl, m0, m1, n0, n1, hm, hn, by omega, by omega, fun d hb => ⟨by omega, hN _ ⟨ds ++ [d], by rw [List.map_append]; rfl, by simp [hl], ?_⟩⟩⟩
    intro y hy
    rcases List.mem_append.mp hy with h | h
    · exact hd y h
    · rw [List.mem_singleton.mp h]; exact hb
  · rintro acc ⟨ds, rfl, hl, hd⟩
    rw [rng_len] at hl
    walk_at "fr"
    exact k ds (by omega) (fun d h => (hd d h).1) fun d h => (hd d h).2
theorem ok_law_program (T : Tx K w mg) (hS : SysB base) : FnT P w K mg base 5 T.f_law_program T.d_law_program ["_law_pot_here", "_law_modules", "_law_names_here", "_law_most"] [] (S_law_program T) := okT T.F_law_program sc_law_program (by decide) (by decide) (fun cdv A outer s H E hG hr tk => (jss_cons (js_set (i := 4) sc_law_program.nd rfl (Or.inr rfl) (je_frz (je_call (ip := []) hG (ok_law_choice T hS) (hr.mono (by decide)) T.m_law_choice T.F_law_choice.kp T.b_law_choice tk (ja_cons (JE.jp (je_var 0)) (ja_cons (JE.jp (je_frz (je_ls (ja_cons (JE.jp (je_frz (je_var 3))) (ja_cons (JE.jp (je_frz (je_call (ip := []) hG (ok_law_draw T hS) (hr.mono (by decide)) T.m_law_draw T.F_law_draw.kp T.b_law_draw tk (ja_cons (JE.jp (je_var 0)) (ja_cons (JE.jp (je_frz (je_op o_add d_add (je_var 3) je_int))) ja_nil))))) (ja_cons (JE.jp (je_frz (je_call (ip := []) hG (ok_law_draw T hS) (hr.mono (by decide)) T.m_law_draw T.F_law_draw.kp T.b_law_draw tk (ja_cons (JE.jp (je_var 0)) (ja_cons (JE.jp je_int) ja_nil))))) ja_nil)))))) ja_nil)))))
    (jss_one (js_ret (je_lc rfl sc_law_program.nd (ji_rng1 T.n_range (ja_cons (JE.jp (je_frz (je_var 4))) ja_nil)) (blkOk_by (own := [("_law_at", 5)]) (N := N_law_program) (sc := defScope s_law_program) (by decide +kernel)) (sl := [5]) rfl (fun _ _ _ _ _ => pg_name (i := 5) sc_law_program.nd rfl (Or.inl rfl)) (jg_name 5) pts_0 kt_nil (fun _ _ _ _ _ => (je_call (ip := []) hG (ok_law_step T hS) (hr.mono (by decide)) T.m_law_step T.F_law_step.kp T.b_law_step takes0 (ja_cons (JE.jp (je_var 0)) (ja_cons (JE.jp (je_frz (je_var 1))) (ja_cons (JE.jp (je_frz (je_var 2))) (ja_cons (JE.jp (je_frz (je_op o_sub d_sub (je_op o_sub d_sub (je_var 4) je_int) (je_var 5)))) ja_nil))))))))))) (pr_law_program T)
def S_law_wrong_step (T : Tx K w mg) : TSp := fun os Φ _ => os = [.tok] ∧ ∀ d, Bs d → Φ (.fz d) []
def t_law_wrong_step (T : Tx K w mg) : TSD :=
  (sSeq (sSet 1 (mFrz (mLs (mCons (mC .none) (mCons (mC (.int 0)) (mCons (mC (.str "")) (mCons (mC (.str "fail")) (mCons (mFrz (mTp mNil)) (mCons (mFrz (mLs mNil)) (mCons (mFrz mDnew) (mCons (mFrz (mTp (mCons (mC (.str "fail")) (mCons (mC (.str "a")) mNil)))) (mCons (mFrz (mTp (mCons (mC (.str "fail")) (mCons (mC .none) mNil)))) (mCons (mFrz (mLs (mCons (mC (.str "fail")) mNil))) (mCons (mFrz (mTp (mCons (mC (.str "need")) mNil))) (mCons (mFrz (mTp (mCons (mC (.str "need")) (mCons (mC (.str "A")) mNil)))) mNil)))))))))))))))
    (sSeq (sSet 1 (mFrz (mOp addD (mVar 1) (mLs (mCons (mFrz (mTp (mCons (mC (.str "need")) (mCons (mC (.int 1)) mNil)))) (mCons (mFrz (mTp (mCons (mC (.str "set")) (mCons (mC (.str "a")) (mCons (mC (.bool true)) mNil))))) (mCons (mFrz (mTp (mCons (mC (.str "set")) (mCons (mC (.str "a")) (mCons (mC .none) mNil))))) (mCons (mFrz (mTp (mCons (mC (.str "set")) (mCons (mC (.str "e")) (mCons (mC (.int 1)) mNil))))) (mCons (mFrz (mTp (mCons (mC (.str "add")) (mCons (mC (.str "a")) (mCons (mC (.int 1)) mNil))))) (mCons (mFrz (mTp (mCons (mC (.str "skip")) (mCons (mC (.str "a")) mNil)))) mNil))))))))))
    (sSeq (sSet 1 (mFrz (mOp addD (mVar 1) (mLs (mCons (mFrz (mTp (mCons (mC (.str "skip")) (mCons (mC (.str "a")) (mCons (mC (.int 0)) mNil))))) (mCons (mFrz (mTp (mCons (mC (.str "skip")) (mCons (mC (.str "a")) (mCons (mC (.bool true)) mNil))))) (mCons (mFrz (mTp (mCons (mC (.str "skip")) (mCons (mC (.str "a")) (mCons (mFrz (mUn negD (mC (.int 1)))) mNil))))) (mCons (mFrz (mTp (mCons (mC (.str "try")) (mCons (mC (.str "m")) mNil)))) (mCons (mFrz (mTp (mCons (mC (.str "try")) (mCons (mC (.str "m")) (mCons (mC (.str "e")) mNil))))) (mCons (mFrz (mTp (mCons (mC .none) mNil))) mNil))))))))))
    (sSeq (sSet 1 (mFrz (mOp addD (mVar 1) (mLs (mCons (mFrz (mTp (mCons (mC (.str "read")) (mCons (mC (.str "a")) (mCons (mC (.str "m")) mNil))))) (mCons (mFrz (mTp (mCons (mC (.str "halt")) mNil))) (mCons (mFrz (mTp (mCons (mC (.str "read")) (mCons (mC (.str "m")) (mCons (mC (.str "a")) (mCons (mC (.str "x")) mNil)))))) (mCons (mFrz (mTp (mCons (mC (.str "export")) (mCons (mC (.str "a")) (mCons (mC (.str "x")) mNil))))) (mCons (mFrz (mTp (mCons (mC (.str "export")) (mCons (mC (.int 1)) (mCons (mC (.str "a")) mNil))))) mNil)))))))))
    (sRet (mCall (S_law_choice T) [] (mCons (mVar 0) (mCons (mFrz (mOp addD (mVar 1) (mLs (mCons (mFrz (mTp (mCons (mFrz (mTp (mCons (mC (.str "fail")) mNil))) mNil))) (mCons (mFrz (mTp (mCons (mC (.str "read")) (mCons (mC (.str "a")) (mCons (mC (.str "m")) (mCons (mC (.str "X")) mNil)))))) (mCons (mFrz (mTp (mCons (mC (.str "read")) (mCons (mC (.str "a")) (mCons (mC (.str "")) (mCons (mC (.str "x")) mNil)))))) mNil)))))) mNil))))))))
def bsB (d : PyData) : Bool := (d.showable && decide (d.shown.length ≤ 3000)) && (decide (d.depth ≤ 2) && bdB 2 d)
theorem bs_all {l : List PyData} (h : l.all bsB = true) : ∀ d ∈ l, Bs d := fun d hd => by
  have := List.all_eq_true.mp h d hd
  unfold bsB at this
  simp only [Bool.and_eq_true, decide_eq_true_eq] at this
  exact ⟨⟨this.1.1, this.1.2, this.2.1⟩, bd_of 2 d this.2.2⟩
theorem bs_cl {d : PyData} (h1 : d.showable = true) (h2 : d.shown.length ≤ 3000) (h3 : d.depth ≤ 2) (h4 : bdB 2 d = true) : Bs d := ⟨⟨h1, h2, h3⟩, bd_of 2 d h4⟩
theorem pr_law_wrong_step (T : Tx K w mg) (os : List O) (Φ : O → List O → Prop) (Ξ : Exn → List O → Prop) (hl : os.length = 1) (h : S_law_wrong_step T os Φ Ξ) : t_law_wrong_step T (fin [] Φ Ξ) (os ++ List.replicate (N_law_wrong_step.length - os.length) .un) := by
  obtain ⟨rfl, k⟩ := h
  show t_law_wrong_step T (fin [] Φ Ξ) [.tok, .un]
  unfold t_law_wrong_step
  walk_at "fr"
  refine ⟨by simp, by simp, by simp, ch (by simp) (by simp) fun d hd => k d (bs_all (by decide +kernel) d hd)⟩
theorem ok_law_wrong_step (T : Tx K w mg) (hS : SysB base) : FnT P w K mg base 3 T.f_law_wrong_step T.d_law_wrong_step ["_law_pot_here"] [] (S_law_wrong_step T) := okT T.F_law_wrong_step sc_law_wrong_step (by decide) (by decide) (fun cdv A outer s H E hG hr tk => (jss_cons (js_set (i := 1) sc_law_wrong_step.nd rfl (Or.inl rfl) (je_frz (je_ls (ja_cons (JE.jp je_non) (ja_cons (JE.jp je_int) (ja_cons (JE.jp je_str) (ja_cons (JE.jp je_str) (ja_cons (JE.jp (je_frz (je_tp ja_nil))) (ja_cons (JE.jp (je_frz (je_ls ja_nil))) (ja_cons (JE.jp (je_frz je_dnew)) (ja_cons (JE.jp (je_frz (je_tp (ja_cons (JE.jp je_str) (ja_cons (JE.jp je_str) ja_nil))))) (ja_cons (JE.jp (je_frz (je_tp (ja_cons (JE.jp je_str) (ja_cons (JE.jp je_non) ja_nil))))) (ja_cons (JE.jp (je_frz (je_ls (ja_cons (JE.jp je_str) ja_nil)))) (ja_cons (JE.jp (je_frz (je_tp (ja_cons (JE.jp je_str) ja_nil)))) (ja_cons (JE.jp (je_frz (je_tp (ja_cons (JE.jp je_str) (ja_cons (JE.jp je_str) ja_nil))))) ja_nil)))))))))))))))
    (jss_cons (js_set (i := 1) sc_law_wrong_step.nd rfl (Or.inl rfl) (je_frz (je_op o_add d_add (je_var 1) (je_ls (ja_cons (JE.jp (je_frz (je_tp (ja_cons (JE.jp je_str) (ja_cons (JE.jp je_int) ja_nil))))) (ja_cons (JE.jp (je_frz (je_tp (ja_cons (JE.jp je_str) (ja_cons (JE.jp je_str) (ja_cons (JE.jp je_bl) ja_nil)))))) (ja_cons (JE.jp (je_frz (je_tp (ja_cons (JE.jp je_str) (ja_cons (JE.jp je_str) (ja_cons (JE.jp je_non) ja_nil)))))) (ja_cons (JE.jp (je_frz (je_tp (ja_cons (JE.jp je_str) (ja_cons (JE.jp je_str) (ja_cons (JE.jp je_int) ja_nil)))))) (ja_cons (JE.jp (je_frz (je_tp (ja_cons (JE.jp je_str) (ja_cons (JE.jp je_str) (ja_cons (JE.jp je_int) ja_nil)))))) (ja_cons (JE.jp (je_frz (je_tp (ja_cons (JE.jp je_str) (ja_cons (JE.jp je_str) ja_nil))))) ja_nil))))))))))
    (jss_cons (js_set (i := 1) sc_law_wrong_step.nd rfl (Or.inl rfl) (je_frz (je_op o_add d_add (je_var 1) (je_ls (ja_cons (JE.jp (je_frz (je_tp (ja_cons (JE.jp je_str) (ja_cons (JE.jp je_str) (ja_cons (JE.jp je_int) ja_nil)))))) (ja_cons (JE.jp (je_frz (je_tp (ja_cons (JE.jp je_str) (ja_cons (JE.jp je_str) (ja_cons (JE.jp je_bl) ja_nil)))))) (ja_cons (JE.jp (je_frz (je_tp (ja_cons (JE.jp je_str) (ja_cons (JE.jp je_str) (ja_cons (JE.jp (je_frz (je_un o_neg d_neg je_int))) ja_nil)))))) (ja_cons (JE.jp (je_frz (je_tp (ja_cons (JE.jp je_str) (ja_cons (JE.jp je_str) ja_nil))))) (ja_cons (JE.jp (je_frz (je_tp (ja_cons (JE.jp je_str) (ja_cons (JE.jp je_str) (ja_cons (JE.jp je_str) ja_nil)))))) (ja_cons (JE.jp (je_frz (je_tp (ja_cons (JE.jp je_non) ja_nil)))) ja_nil))))))))))
    (jss_cons (js_set (i := 1) sc_law_wrong_step.nd rfl (Or.inl rfl) (je_frz (je_op o_add d_add (je_var 1) (je_ls (ja_cons (JE.jp (je_frz (je_tp (ja_cons (JE.jp je_str) (ja_cons (JE.jp je_str) (ja_cons (JE.jp je_str) ja_nil)))))) (ja_cons (JE.jp (je_frz (je_tp (ja_cons (JE.jp je_str) ja_nil)))) (ja_cons (JE.jp (je_frz (je_tp (ja_cons (JE.jp je_str) (ja_cons (JE.jp je_str) (ja_cons (JE.jp je_str) (ja_cons (JE.jp je_str) ja_nil))))))) (ja_cons (JE.jp (je_frz (je_tp (ja_cons (JE.jp je_str) (ja_cons (JE.jp je_str) (ja_cons (JE.jp je_str) ja_nil)))))) (ja_cons (JE.jp (je_frz (je_tp (ja_cons (JE.jp je_str) (ja_cons (JE.jp je_int) (ja_cons (JE.jp je_str) ja_nil)))))) ja_nil)))))))))
    (jss_one (js_ret (je_call (ip := []) hG (ok_law_choice T hS) (hr.mono (by decide)) T.m_law_choice T.F_law_choice.kp T.b_law_choice tk (ja_cons (JE.jp (je_var 0)) (ja_cons (JE.jp (je_frz (je_op o_add d_add (je_var 1) (je_ls (ja_cons (JE.jp (je_frz (je_tp (ja_cons (JE.jp (je_frz (je_tp (ja_cons (JE.jp je_str) ja_nil)))) ja_nil)))) (ja_cons (JE.jp (je_frz (je_tp (ja_cons (JE.jp je_str) (ja_cons (JE.jp je_str) (ja_cons (JE.jp je_str) (ja_cons (JE.jp je_str) ja_nil))))))) (ja_cons (JE.jp (je_frz (je_tp (ja_cons (JE.jp je_str) (ja_cons (JE.jp je_str) (ja_cons (JE.jp je_str) (ja_cons (JE.jp je_str) ja_nil))))))) ja_nil))))))) ja_nil)))))))))) (pr_law_wrong_step T)
theorem cut_lo {es : List PyData} {a : Int} (h0 : 0 ≤ a) (h1 : a ≤ (es.length : Int)) : _root_.T.cutD es none (some a) = es.take a.toNat := by
  show (es.drop 0).take ((if a < 0 then (a + (es.length : Int)).toNat else min a.toNat es.length) - 0) = _
  rw [if_neg (by omega), List.drop_zero, Nat.sub_zero, Nat.min_eq_left (by omega)]
theorem cut_hi {es : List PyData} {a : Int} (h0 : 0 ≤ a) : _root_.T.cutD es (some a) none = es.drop a.toNat := by
  show (es.drop (if a < 0 then (a + (es.length : Int)).toNat else min a.toNat es.length)).take (es.length - (if a < 0 then (a + (es.length : Int)).toNat else min a.toNat es.length)) = _
  rw [if_neg (by omega)]
  by_cases h : a.toNat ≤ es.length
  · rw [Nat.min_eq_left h]
    exact List.take_of_length_le (by rw [List.length_drop]; exact Nat.le_refl _)
  · rw [Nat.min_eq_right (by omega), List.drop_eq_nil_of_le (Nat.le_refl _), List.drop_eq_nil_of_le (by omega)]
    exact List.take_nil
def S_law_spoilt (T : Tx K w mg) : TSp := fun os Φ _ => ∃ ds, os = [.tok, .fz (.list ds)] ∧ ds.length ≤ 32 ∧ (∀ d ∈ ds, Bs d) ∧ ∀ es : List PyData, es.length ≤ 40 → (∀ d ∈ es, Bs d) → Φ (.fz (.list es)) []
def t_law_spoilt (T : Tx K w mg) : TSD :=
  (sSeq (sSet 2 (mFrz (mCB listD (mCons (mFrz (mVar 1)) mNil))))
    (sSeq (sFor (iR1 (mCons (mFrz (mOp addD (mC (.int 1)) (mCall (S_law_draw T) [] (mCons (mVar 0) (mCons (mC (.int 2)) mNil))))) mNil)) (gN 3) (sSeq (sSet 4 (mFrz (mCall (S_law_draw T) [] (mCons (mVar 0) (mCons (mFrz (mOp addD (mCB lenD (mCons (mFrz (mVar 2)) mNil)) (mC (.int 1)))) mNil)))))
    (sSeq (sSet 5 (mFrz (mCall (S_law_draw T) [] (mCons (mVar 0) (mCons (mC (.int 4)) mNil)))))
    (sIf (tVal (mOp (eqD false) (mVar 5) (mC (.int 0)))) (sSet 2 (mFrz (mOp addD (mOp addD (mSl (mVar 2) oNo (oSo (mVar 4))) (mLs (mCons (mFrz (mTp (mCons (mC (.str "export")) (mCons (mC (.str "x")) (mCons (mC (.str "b")) mNil))))) mNil))) (mSl (mVar 2) (oSo (mVar 4)) oNo)))) (sIf (tVal (mOp (eqD false) (mVar 5) (mC (.int 1)))) (sSet 2 (mFrz (mOp addD (mOp addD (mSl (mVar 2) oNo (oSo (mVar 4))) (mLs (mCons (mFrz (mTp (mCons (mC (.str "skip")) (mCons (mC (.str "c")) (mCons (mFrz (mOp addD (mOp subD (mCB lenD (mCons (mFrz (mVar 2)) mNil)) (mVar 4)) (mCall (S_law_draw T) [] (mCons (mVar 0) (mCons (mC (.int 2)) mNil))))) mNil))))) mNil))) (mSl (mVar 2) (oSo (mVar 4)) oNo)))) (sSet 2 (mFrz (mOp addD (mOp addD (mSl (mVar 2) oNo (oSo (mVar 4))) (mLs (mCons (mFrz (mCall (S_law_wrong_step T) [] (mCons (mVar 0) mNil))) mNil))) (mSl (mVar 2) (oSo (mOp addD (mVar 4) (mC (.int 1)))) oNo)))))))))
    (sRet (mVar 2))))
theorem pr_law_spoilt (T : Tx K w mg) (os : List O) (Φ : O → List O → Prop) (Ξ : Exn → List O → Prop) (hl : os.length = 2) (h : S_law_spoilt T os Φ Ξ) : t_law_spoilt T (fin [] Φ Ξ) (os ++ List.replicate (N_law_spoilt.length - os.length) .un) := by
  obtain ⟨ds, rfl, hn, hd, k⟩ := h
  show t_law_spoilt T (fin [] Φ Ξ) [.tok, .fz (.list ds), .un, .un, .un, .un]
  unfold t_law_spoilt
  walk_at "fr"
  refine dr (by decide) (by decide) fun tw t0 t1 => ?_
  walk_at "fr"
  refine ⟨by omega, by omega, ?_⟩
  refine for_inv (fun i ρ => ∃ (es : List PyData) (o3 o4 o5 : O), ρ = [.tok, .fz (.list ds), .fz (.list es), o3, o4, o5] ∧ es.length ≤ ds.length + i ∧ ∀ d ∈ es, Bs d) ⟨ds, _, _, _, rfl, Nat.le_refl _, hd⟩ ?_ ?_
  · rintro i x ρ N hx ⟨es, o3, o4, o5, rfl, hl, he⟩ hN
    have hi := (List.getElem?_eq_some_iff.mp hx).1
    rw [rng_len] at hi
    walk_at "fr"
    refine dr (by omega) (by omega) fun a a0 a1 => ?_
    walk_at "fr"
    refine dr (by decide) (by decide) fun wy w0 w1 => ?_
    walk_at "fr"
    have la : (_root_.T.cutD es none (some a)).length ≤ es.length := by rw [cut_lo a0 (by omega), List.length_take]; exact Nat.min_le_right _ _
    have end_ : ∀ (d : PyData) (b : Int), a ≤ b → Bs d → (_root_.T.cutD es none (some a) ++ [d]).length + (_root_.T.cutD es (some b) none).length ≤ 1000000 ∧ N [.tok, .fz (.list ds), .fz (.list (_root_.T.cutD es none (some a) ++ [d] ++ _root_.T.cutD es (some b) none)), .fz x, .fz (.int a), .fz (.int wy)] := fun d b hb hbs => by
      rw [cut_lo a0 (by omega), cut_hi (by omega)]
      have l1 : (es.take a.toNat ++ [d]).length + (es.drop b.toNat).length ≤ es.length + 1 := by
        rw [List.length_append, List.length_take, List.length_drop, List.length_singleton]; omega
      refine ⟨by omega, hN _ ⟨_, _, _, _, rfl, by rw [List.length_append]; omega, fun y hy => ?_⟩⟩
      rcases List.mem_append.mp hy with hy | hy
      · rcases List.mem_append.mp hy with hy | hy
        · exact he y (List.mem_of_mem_take hy)
        · rw [List.mem_singleton.mp hy]; exact hbs
      · exact he y (List.mem_of_mem_drop hy)
    split
    · exact ⟨by omega, end_ _ a (Int.le_refl _) (bs_cl (by decide +kernel) (by decide +kernel) (by decide +kernel) (by decide +kernel))⟩
    split
    · refine dr (by decide) (by decide) fun j j0 j1 => ?_
      walk_at "fr"
      refine ⟨by omega, end_ _ a (Int.le_refl _) (bs_tup (b0_1 (b0_str (by decide +kernel) (by decide +kernel)) (b0_1 (b0_str (by decide +kernel) (by decide +kernel)) (b0_1 (b0_int (by omega)) b0_0))) (by simp))⟩
    · refine ⟨rfl, fun d hbs => ?_⟩
      walk_at "fr"
      exact ⟨by omega, end_ d (a + 1) (by omega) hbs⟩
  · rintro ρ ⟨es, o3, o4, o5, rfl, hl, he⟩
    rw [rng_len] at hl
    walk_at "fr"
    exact k es (by omega) he
theorem ok_law_spoilt (T : Tx K w mg) (hS : SysB base) : FnT P w K mg base 4 T.f_law_spoilt T.d_law_spoilt ["_law_pot_here", "_law_program_here"] [] (S_law_spoilt T) := okT T.F_law_spoilt sc_law_spoilt (by decide) (by decide) (fun cdv A outer s H E hG hr tk => (jss_cons (js_set (i := 2) sc_law_spoilt.nd rfl (Or.inl rfl) (je_frz (je_callTy o_list d_list T.n_list bt_list (ja_cons (JE.jp (je_frz (je_var 1))) ja_nil))))
    (jss_cons (js_for (passes_of rfl) rfl (ji_rng1 T.n_range (ja_cons (JE.jp (je_frz (je_op o_add d_add je_int (je_call (ip := []) hG (ok_law_draw T hS) (hr.mono (by decide)) T.m_law_draw T.F_law_draw.kp T.b_law_draw tk (ja_cons (JE.jp (je_var 0)) (ja_cons (JE.jp je_int) ja_nil)))))) ja_nil)) (pg_name (i := 3) sc_law_spoilt.nd rfl (Or.inl rfl)) (jg_name 3)
    (jss_cons (js_set (i := 4) sc_law_spoilt.nd rfl (Or.inl rfl) (je_frz (je_call (ip := []) hG (ok_law_draw T hS) (hr.mono (by decide)) T.m_law_draw T.F_law_draw.kp T.b_law_draw tk (ja_cons (JE.jp (je_var 0)) (ja_cons (JE.jp (je_frz (je_op o_add d_add (je_callB o_len d_len T.n_len bt_len (ja_cons (JE.jp (je_frz (je_var 2))) ja_nil)) je_int))) ja_nil)))))
    (jss_cons (js_set (i := 5) sc_law_spoilt.nd rfl (Or.inl rfl) (je_frz (je_call (ip := []) hG (ok_law_draw T hS) (hr.mono (by decide)) T.m_law_draw T.F_law_draw.kp T.b_law_draw tk (ja_cons (JE.jp (je_var 0)) (ja_cons (JE.jp je_int) ja_nil)))))
    (jss_one (js_if (jt_cmp (o_eq hS hr) d_eq (je_var 5) je_int (nomark _)) (jss_one (js_set (i := 2) sc_law_spoilt.nd rfl (Or.inl rfl) (je_frz (je_op o_add d_add (je_op o_add d_add (je_slice (je_var 2) jo_no (jo_so (je_var 4))) (je_ls (ja_cons (JE.jp (je_frz (je_tp (ja_cons (JE.jp je_str) (ja_cons (JE.jp je_str) (ja_cons (JE.jp je_str) ja_nil)))))) ja_nil))) (je_slice (je_var 2) (jo_so (je_var 4)) jo_no))))) (jss_one (js_if (jt_cmp (o_eq hS hr) d_eq (je_var 5) je_int (nomark _)) (jss_one (js_set (i := 2) sc_law_spoilt.nd rfl (Or.inl rfl) (je_frz (je_op o_add d_add (je_op o_add d_add (je_slice (je_var 2) jo_no (jo_so (je_var 4))) (je_ls (ja_cons (JE.jp (je_frz (je_tp (ja_cons (JE.jp je_str) (ja_cons (JE.jp je_str) (ja_cons (JE.jp (je_frz (je_op o_add d_add (je_op o_sub d_sub (je_callB o_len d_len T.n_len bt_len (ja_cons (JE.jp (je_frz (je_var 2))) ja_nil)) (je_var 4)) (je_call (ip := []) hG (ok_law_draw T hS) (hr.mono (by decide)) T.m_law_draw T.F_law_draw.kp T.b_law_draw tk (ja_cons (JE.jp (je_var 0)) (ja_cons (JE.jp je_int) ja_nil)))))) ja_nil)))))) ja_nil))) (je_slice (je_var 2) (jo_so (je_var 4)) jo_no))))) (jss_one (js_set (i := 2) sc_law_spoilt.nd rfl (Or.inl rfl) (je_frz (je_op o_add d_add (je_op o_add d_add (je_slice (je_var 2) jo_no (jo_so (je_var 4))) (je_ls (ja_cons (JE.jp (je_frz (je_call (ip := []) hG (ok_law_wrong_step T hS) (hr.mono (by decide)) T.m_law_wrong_step T.F_law_wrong_step.kp T.b_law_wrong_step tk (ja_cons (JE.jp (je_var 0)) ja_nil)))) ja_nil))) (je_slice (je_var 2) (jo_so (je_op o_add d_add (je_var 4) je_int)) jo_no))))))))))))
    (jss_one (js_ret (je_var 2)))))) (pr_law_spoilt T)
/-! the law's own look at a step -/
theorem word_eq {z : Str} (h1 : 1 ≤ (z.length : Int)) (h2 : (z.length : Int) ≤ 8) : isNameD (.str z) = decide ((⟨(z.cps.toList.filter fun c => decide (c ∈ lett.cps.toList)).toArray⟩ : Str) = z) := by
  simp only [isNameD]
  rw [decide_eq_true h1, decide_eq_true h2, Bool.true_and, Bool.true_and]
  have e : ((⟨(z.cps.toList.filter fun c => decide (c ∈ lett.cps.toList)).toArray⟩ : Str) = z) ↔ (z.cps.toList.all fun c => decide (c ∈ lett.cps.toList)) = true := by
    rw [List.all_eq_true, ← List.filter_eq_self]
    constructor
    · intro h
      have := congrArg (fun z : Str => z.cps.toList) h
      exact this
    · intro h
      exact Str.ext' (by rw [h])
  by_cases h : (z.cps.toList.all fun c => decide (c ∈ lett.cps.toList)) = true
  · rw [h]; exact (decide_eq_true (e.mpr h)).symm
  · rw [Bool.eq_false_iff.mpr h]; exact (decide_eq_false fun q => h (e.mp q)).symm
theorem str0 {z : Str} (h : z ≠ "") : 1 ≤ (z.length : Int) := by
  refine Classical.byContradiction fun hn => h ?_
  have e : z.cps.size = 0 := by have : (z.length : Int) = (z.cps.size : Int) := rfl; omega
  exact Str.ext' (Array.eq_empty_of_size_eq_zero e)
theorem it_v (d : PyData) : isItemD "variable" d = isVarD d := if_pos rfl
theorem it_i (d : PyData) : isItemD "integer" d = isIntD d := by unfold isItemD; rw [if_neg (by decide +kernel), if_pos rfl]
theorem it_a (d : PyData) : isItemD "amount" d = isAmountD d := by unfold isItemD; rw [if_neg (by decide +kernel), if_neg (by decide +kernel), if_pos rfl]
theorem it_m (d : PyData) : isItemD "module" d = isNameD d := by unfold isItemD; rw [if_neg (by decide +kernel), if_neg (by decide +kernel), if_neg (by decide +kernel)]
theorem it_n (d : PyData) : isItemD "name" d = isNameD d := by unfold isItemD; rw [if_neg (by decide +kernel), if_neg (by decide +kernel), if_neg (by decide +kernel)]
def fitD (z : Str) (d : PyData) : Bool := if z = "v" then isVarD d else if z = "i" then isIntD d else if z = "k" then isAmountD d else isNameD d
def kindOf (c : Nat) : Str := if one c = "v" then "variable" else if one c = "i" then "integer" else if one c = "k" then "amount" else "name"
def nk (k : Str) : Str := if k = "module" then "name" else k
theorem nk_item (k : Str) (d : PyData) : isItemD (nk k) d = isItemD k d := by
  unfold nk
  by_cases h : k = "module"
  · rw [if_pos h, h, it_m, it_n]
  · rw [if_neg h]
theorem fit_item (c : Nat) (d : PyData) : fitD (one c) d = isItemD (kindOf c) d := by
  unfold fitD kindOf
  by_cases h1 : one c = "v"
  · rw [if_pos h1, if_pos h1, it_v]
  · rw [if_neg h1, if_neg h1]
    by_cases h2 : one c = "i"
    · rw [if_pos h2, if_pos h2, it_i]
    · rw [if_neg h2, if_neg h2]
      by_cases h3 : one c = "k"
      · rw [if_pos h3, if_pos h3, it_a]
      · rw [if_neg h3, if_neg h3, it_n]
theorem all_nk (ds : List PyData) : ∀ ks : List Str, ((ks.map nk).zip ds).all (fun p => isItemD p.1 p.2) = (ks.zip ds).all fun p => isItemD p.1 p.2 := by
  induction ds with
  | nil => intro ks; cases ks <;> rfl
  | cons d r ih =>
    intro ks
    cases ks with
    | nil => rfl
    | cons k ks =>
      simp only [List.map_cons, List.zip_cons_cons, List.all_cons]
      rw [ih, nk_item]
def S_law_is_whole (T : Tx K w mg) : TSp := fun os Φ _ => ∃ d, os = [.fz d] ∧ Φ (.fz (.bool (isIntD d))) []
def t_law_is_whole (T : Tx K w mg) : TSD :=
  (sRet (mAnd (mIsi "int" (mVar 0)) (mNot (mIsi "bool" (mVar 0)))))
theorem pr_law_is_whole (T : Tx K w mg) (os : List O) (Φ : O → List O → Prop) (Ξ : Exn → List O → Prop) (hl : os.length = 1) (h : S_law_is_whole T os Φ Ξ) : t_law_is_whole T (fin [] Φ Ξ) (os ++ List.replicate (N_law_is_whole.length - os.length) .un) := by
  obtain ⟨d, rfl, k⟩ := h
  show t_law_is_whole T (fin [] Φ Ξ) [.fz d]
  unfold t_law_is_whole
  cases d <;> (walk_at "fr"; exact k)
theorem ok_law_is_whole (T : Tx K w mg) (hS : SysB base) : FnT P w K mg base 1 T.f_law_is_whole T.d_law_is_whole ["_law_value"] [] (S_law_is_whole T) := okT T.F_law_is_whole sc_law_is_whole (by decide) (by decide) (fun cdv A outer s H E hG hr tk => (jss_one (js_ret (je_and (je_isi T.n_isinstance (je_var 0) (pe_bltn (v := .ty "int") rfl T.n_int bt_int rfl)) (je_one (je_not (je_isi T.n_isinstance (je_var 0) (pe_bltn (v := .ty "bool") rfl T.n_bool bt_bool rfl)))))))) (pr_law_is_whole T)
def S_law_is_word (T : Tx K w mg) : TSp := fun os Φ _ => ∃ d n, os = [.fz d] ∧ Bd n d ∧ Φ (.fz (.bool (isNameD d))) []
def t_law_is_word (T : Tx K w mg) : TSD :=
  (sSeq (sIf (tOrr (tNt (tVal (mIsi "str" (mVar 0)))) (tOrr (tVal (mOp gtD (mCB lenD (mCons (mFrz (mVar 0)) mNil)) (mC (.int 8)))) (tVal (mOp (eqD false) (mVar 0) (mC (.str "")))))) (sRet (mC (.bool false))) sNext)
    (sRet (mOp (eqD false) (mM1 joinD (mC (.str "")) (mLc (iS (mVar 0)) [1] (gN 1) (tVal (mOp (inD false) (mVar 1) (mC (.str "abcdefghijklmnopqrstuvwxyz")))) (mVar 1))) (mVar 0))))
theorem pr_law_is_word (T : Tx K w mg) (os : List O) (Φ : O → List O → Prop) (Ξ : Exn → List O → Prop) (hl : os.length = 1) (h : S_law_is_word T os Φ Ξ) : t_law_is_word T (fin [] Φ Ξ) (os ++ List.replicate (N_law_is_word.length - os.length) .un) := by
  obtain ⟨d, n, rfl, b, k⟩ := h
  show t_law_is_word T (fin [] Φ Ξ) [.fz d, .un]
  unfold t_law_is_word
  cases d with
  | str z =>
    have b : z.length ≤ 1000 := by cases n <;> exact b
    walk_at "fr"
    refine ⟨by omega, ?_⟩
    by_cases h2 : 8 < (z.length : Int)
    · rw [if_pos h2]
      refine cast k ?_
      rw [nameD_str, decide_eq_false (show ¬ (z.length : Int) ≤ 8 by omega), Bool.and_false, Bool.false_and]
    rw [if_neg h2]
    by_cases h0 : z = ""
    · rw [if_pos h0]
      subst h0
      exact cast k (by decide +kernel)
    rw [if_neg h0, sgD_def]
    refine go_selG (fun c => if decide (c ∈ lett.cps.toList) = true then [O.fz (.str (one c))] else []) (fun c _ => by split <;> simp) (by rw [show z.cps.toList.length = z.length from by simp [Str.length]]; omega) ?_ ?_
    · intro c hc acc N hl hN
      walk_at "fr"
      split
      · rename_i h
        rw [if_pos (show decide (c ∈ lett.cps.toList) = true from decide_eq_true h)] at hN
        exact ⟨hl, hN⟩
      · rename_i h
        rw [if_neg (show ¬ decide (c ∈ lett.cps.toList) = true from fun q => h (of_decide_eq_true q)), List.append_nil] at hN
        exact hN
    · rw [flat_filter (fun c => decide (c ∈ lett.cps.toList)) (fun c => O.fz (.str (one c)))]
      walk_at "fr"
      refine joinD_ones (Nat.le_trans (List.length_filter_le _ _) (by rw [show z.cps.toList.length = z.length from by simp [Str.length]]; omega)) ?_
      walk_at "fr"
      exact cast k (word_eq (str0 h0) (by omega))
  | _ => walk_at "fr"; exact k
theorem ok_law_is_word (T : Tx K w mg) (hS : SysB base) : FnT P w K mg base 1 T.f_law_is_word T.d_law_is_word ["_law_value"] [] (S_law_is_word T) := okT T.F_law_is_word sc_law_is_word (by decide) (by decide) (fun cdv A outer s H E hG hr tk => (jss_cons (js_if (JW.jt (jw_or (jt_not (jt_val (je_isi T.n_isinstance (je_var 0) (pe_bltn (v := .ty "str") rfl T.n_str bt_str rfl)))) (jw_or (jt_cmp o_gt d_gt (je_callB o_len d_len T.n_len bt_len (ja_cons (JE.jp (je_frz (je_var 0))) ja_nil)) je_int (nomark _)) (jw_or1 (jt_cmp (o_eq hS hr) d_eq (je_var 0) je_str (nomark _)))))) (jss_one (js_ret je_bl)) jss_nil)
    (jss_one (js_ret (je_cmp (o_eq hS hr) d_eq (je_join je_str (je_lc rfl sc_law_is_word.nd (ji_str (je_var 0)) (blkOk_by (own := [("_law_letter", 1)]) (N := N_law_is_word) (sc := defScope s_law_is_word) (by decide +kernel)) (sl := [1]) rfl (fun _ _ _ _ _ => pg_name (i := 1) sc_law_is_word.nd rfl (Or.inl rfl)) (jg_name 1) pts_B (kt_one (fun _ _ _ _ _ => (jt_cmp (o_in hr) d_in (je_var 1) je_str (by rfl)))) (fun _ _ _ _ _ => (je_var 1)))) (je_var 0) (nomark _)))))) (pr_law_is_word T)
def S_law_fits (T : Tx K w mg) : TSp := fun os Φ _ => ∃ z d n, os = [.fz (.str z), .fz d] ∧ Bd n d ∧ Φ (.fz (.bool (fitD z d))) []
def t_law_fits (T : Tx K w mg) : TSD :=
  (sSeq (sIf (tVal (mOp (eqD false) (mVar 0) (mC (.str "v")))) (sRet (mAnd (mIsi "str" (mVar 1)) (mOp (inD false) (mVar 1) (mTp (mCons (mC (.str "a")) (mCons (mC (.str "b")) (mCons (mC (.str "c")) (mCons (mC (.str "d")) mNil)))))))) sNext)
    (sSeq (sIf (tVal (mOp (eqD false) (mVar 0) (mC (.str "i")))) (sRet (mCall (S_law_is_whole T) [] (mCons (mFrz (mVar 1)) mNil))) sNext)
    (sSeq (sIf (tVal (mOp (eqD false) (mVar 0) (mC (.str "k")))) (sRet (mAnd (mCall (S_law_is_whole T) [] (mCons (mFrz (mVar 1)) mNil)) (mOp gtD (mVar 1) (mC (.int 0))))) sNext)
    (sRet (mCall (S_law_is_word T) [] (mCons (mFrz (mVar 1)) mNil))))))
theorem pr_law_fits (T : Tx K w mg) (os : List O) (Φ : O → List O → Prop) (Ξ : Exn → List O → Prop) (hl : os.length = 2) (h : S_law_fits T os Φ Ξ) : t_law_fits T (fin [] Φ Ξ) (os ++ List.replicate (N_law_fits.length - os.length) .un) := by
  obtain ⟨z, d, n, rfl, b, k⟩ := h
  show t_law_fits T (fin [] Φ Ξ) [.fz (.str z), .fz d]
  unfold t_law_fits
  unfold fitD at k
  walk_at "fr"
  by_cases h1 : z = "v"
  · rw [if_pos h1] at k ⊢
    cases d with
    | str y =>
      walk_at "fr"
      refine cast k ?_
      unfold isVarD vars4
      rw [decide_eq_decide]; simp
    | _ => walk_at "fr"; exact k
  by_cases h2 : z = "i"
  · rw [if_neg h1, if_pos h2] at k ⊢; exact ⟨d, rfl, k⟩
  by_cases h3 : z = "k"
  · rw [if_neg h1, if_neg h2, if_pos h3] at k ⊢
    refine ⟨d, rfl, _, rfl, ?_⟩
    cases d with
    | int i =>
      walk_at "fr"
      exact cast k (decide_eq_decide.mpr (by omega))
    | _ => exact k
  rw [if_neg h1, if_neg h2, if_neg h3] at k ⊢
  exact ⟨d, n, rfl, b, k⟩
theorem ok_law_fits (T : Tx K w mg) (hS : SysB base) : FnT P w K mg base 2 T.f_law_fits T.d_law_fits ["_law_sort", "_law_value"] [] (S_law_fits T) := okT T.F_law_fits sc_law_fits (by decide) (by decide) (fun cdv A outer s H E hG hr tk => (jss_cons (js_if (jt_cmp (o_eq hS hr) d_eq (je_var 0) je_str (nomark _)) (jss_one (js_ret (je_and (je_isi T.n_isinstance (je_var 1) (pe_bltn (v := .ty "str") rfl T.n_str bt_str rfl)) (je_one (je_cmp (o_in hr) d_in (je_var 1) (je_tp (ja_cons (JE.jp je_str) (ja_cons (JE.jp je_str) (ja_cons (JE.jp je_str) (ja_cons (JE.jp je_str) ja_nil))))) (by rfl)))))) jss_nil)
    (jss_cons (js_if (jt_cmp (o_eq hS hr) d_eq (je_var 0) je_str (nomark _)) (jss_one (js_ret (je_call (ip := []) hG (ok_law_is_whole T hS) (hr.mono (by decide)) T.m_law_is_whole T.F_law_is_whole.kp T.b_law_is_whole tk (ja_cons (JE.jp (je_frz (je_var 1))) ja_nil)))) jss_nil)
    (jss_cons (js_if (jt_cmp (o_eq hS hr) d_eq (je_var 0) je_str (nomark _)) (jss_one (js_ret (je_and (je_call (ip := []) hG (ok_law_is_whole T hS) (hr.mono (by decide)) T.m_law_is_whole T.F_law_is_whole.kp T.b_law_is_whole tk (ja_cons (JE.jp (je_frz (je_var 1))) ja_nil)) (je_one (je_cmp o_gt d_gt (je_var 1) je_int (nomark _)))))) jss_nil)
    (jss_one (js_ret (je_call (ip := []) hG (ok_law_is_word T hS) (hr.mono (by decide)) T.m_law_is_word T.F_law_is_word.kp T.b_law_is_word tk (ja_cons (JE.jp (je_frz (je_var 1))) ja_nil)))))))) (pr_law_fits T)
def soO : List (Key × O) := [(.inr "set", .fz (.str "vi")), (.inr "add", .fz (.str "vv")), (.inr "skip", .fz (.str "vk")), (.inr "export", .fz (.str "nv")), (.inr "read", .fz (.str "vnn")), (.inr "need", .fz (.str "n")), (.inr "try", .fz (.str "nv")), (.inr "fail", .fz (.str ""))]
def soP : List (PyData × PyData) := [(.str "set", .str "vi"), (.str "add", .str "vv"), (.str "skip", .str "vk"), (.str "export", .str "nv"), (.str "read", .str "vnn"), (.str "need", .str "n"), (.str "try", .str "nv"), (.str "fail", .str "")]
theorem inr_nin {x : Str} {l : List Str} (h : x ∉ l) : (Sum.inr x : Key) ∉ l.map Sum.inr := by simpa using h
theorem so_nd : ([.inr "set", .inr "add", .inr "skip", .inr "export", .inr "read", .inr "need", .inr "try"] : List Key).Nodup := by decide +kernel
theorem so_up : upA (.inr "fail") (O.fz (.str "")) ([(.inr "set", .fz (.str "vi")), (.inr "add", .fz (.str "vv")), (.inr "skip", .fz (.str "vk")), (.inr "export", .fz (.str "nv")), (.inr "read", .fz (.str "vnn")), (.inr "need", .fz (.str "n")), (.inr "try", .fz (.str "nv"))] : List (Key × O)) = soO :=
  upA_new (lookA_mem.mpr (inr_nin (l := ["set", "add", "skip", "export", "read", "need", "try"]) (by decide +kernel)))
theorem so_lent : lent (.dct soO) = .fz (.dict soP) := lent_some (by unfold fzO soO soP; simp only [fzK, fzO, Option.map_some, keyD])
theorem so_in {z : Str} {Φp : O → Prop} : inD true (.str z) (.dict soP) Φp = Φp (.fz (.bool (!(getK soP (.inr z)).isSome))) := by
  unfold inD
  exact propext ⟨fun ⟨x, e, h⟩ => by cases e; exact h, fun h => ⟨_, rfl, h⟩⟩
theorem so_ix {z : Str} {Φp : O → Prop} : ixD (.dict soP) (.str z) Φp = ∃ d, getK soP (.inr z) = some d ∧ Φp (.fz d) := rfl
theorem so_get (z : Str) : (getK soP (.inr z) = none ∧ f_FORMS z = none) ∨ ∃ so ks, getK soP (.inr z) = some (.str so) ∧ f_FORMS z = some ks ∧ ks.length = so.length ∧ so.cps.all (· < 128) = true ∧ ks.map nk = so.cps.toList.map kindOf := by
  by_cases h1 : z = "set"
  · subst h1; exact .inr ⟨"vi", ["variable", "integer"], by kernel_rfl, by decide +kernel, by decide +kernel, by decide +kernel, by decide +kernel⟩
  by_cases h2 : z = "add"
  · subst h2; exact .inr ⟨"vv", ["variable", "variable"], by kernel_rfl, by decide +kernel, by decide +kernel, by decide +kernel, by decide +kernel⟩
  by_cases h3 : z = "skip"
  · subst h3; exact .inr ⟨"vk", ["variable", "amount"], by kernel_rfl, by decide +kernel, by decide +kernel, by decide +kernel, by decide +kernel⟩
  by_cases h4 : z = "export"
  · subst h4; exact .inr ⟨"nv", ["name", "variable"], by kernel_rfl, by decide +kernel, by decide +kernel, by decide +kernel, by decide +kernel⟩
  by_cases h5 : z = "read"
  · subst h5; exact .inr ⟨"vnn", ["variable", "module", "name"], by kernel_rfl, by decide +kernel, by decide +kernel, by decide +kernel, by decide +kernel⟩
  by_cases h6 : z = "need"
  · subst h6; exact .inr ⟨"n", ["module"], by kernel_rfl, by decide +kernel, by decide +kernel, by decide +kernel, by decide +kernel⟩
  by_cases h7 : z = "try"
  · subst h7; exact .inr ⟨"nv", ["module", "variable"], by kernel_rfl, by decide +kernel, by decide +kernel, by decide +kernel, by decide +kernel⟩
  by_cases h8 : z = "fail"
  · subst h8; exact .inr ⟨"", [], by kernel_rfl, by decide +kernel, by decide +kernel, by decide +kernel, by decide +kernel⟩
  refine .inl ⟨?_, ?_⟩
  · have ne : ∀ {y : Str}, ¬ z = y → ¬ keyOf (.str y) = some (.inr z) := fun h e => h (by injection e with e; injection e with e; exact e.symm)
    unfold soP
    rw [getK_neg (ne h1), getK_neg (ne h2), getK_neg (ne h3), getK_neg (ne h4), getK_neg (ne h5), getK_neg (ne h6), getK_neg (ne h7), getK_neg (ne h8)]; rfl
  · unfold f_FORMS
    rw [if_neg h1, if_neg h2, if_neg h3, if_neg h4, if_neg h5, if_neg h6, if_neg h7, if_neg h8]
local macro_rules | `(tactic| walk_at "ev2") => `(tactic| simp only [so_up, so_lent, so_in, so_ix])
local macro_rules | `(tactic| walk_at "fs") => `(tactic| repeat (first | walk_at "ev0" | walk_at "ev1" | walk_at "ev2"))
theorem sg_map {z : Str} : sgD z = (z.cps.toList.map one).map .str := by unfold sgD; rw [List.map_map]; rfl
theorem all_fit : ∀ (cs : List Nat) (ds : List PyData), ((cs.map one).zip ds).all (fun p => fitD p.1 p.2) = ((cs.map kindOf).zip ds).all fun p => isItemD p.1 p.2
  | [], _ => rfl
  | _ :: _, [] => rfl
  | c :: cs, d :: ds => by
    simp only [List.map_cons, List.zip_cons_cons, List.all_cons]
    rw [all_fit cs ds, fit_item]
def S_law_is_right_step (T : Tx K w mg) : TSp := fun os Φ _ => ∃ d n, os = [.fz d] ∧ Bd n d ∧ Φ (.fz (.bool (isStepD d))) []
def t_law_is_right_step (T : Tx K w mg) : TSD :=
  (sSeq (sSet 1 (mDispO [((mC (.str "set")), (mC (.str "vi"))), ((mC (.str "add")), (mC (.str "vv"))), ((mC (.str "skip")), (mC (.str "vk"))), ((mC (.str "export")), (mC (.str "nv"))), ((mC (.str "read")), (mC (.str "vnn"))), ((mC (.str "need")), (mC (.str "n"))), ((mC (.str "try")), (mC (.str "nv")))]))
    (sSeq (sPutP (pVar 1) (mC (.str "fail")) (mC (.str "")))
    (sSeq (sIf (tBor (tOrr (tNt (tVal (mIsi "tuple" (mVar 0)))) (tOrr (tVal (mOp (eqD false) (mVar 0) (mTp mNil))) (tOrr (tNt (tVal (mIsi "str" (mOp ixD (mVar 0) (mC (.int 0)))))) (tVal (mOp (inD true) (mOp ixD (mVar 0) (mC (.int 0))) (mVar 1))))))) (sRet (mC (.bool false))) sNext)
    (sSeq (sSet 2 (mFrz (mBor (mOp ixD (mVar 1) (mOp ixD (mVar 0) (mC (.int 0)))))))
    (sSeq (sIf (tVal (mOp neD (mCB lenD (mCons (mFrz (mVar 2)) mNil)) (mOp subD (mCB lenD (mCons (mFrz (mVar 0)) mNil)) (mC (.int 1))))) (sRet (mC (.bool false))) sNext)
    (sRet (mCB allD (mCons (mFrz (mLc (iZS (mCons (mFrz (mVar 2)) (mCons (mFrz (mSl (mVar 0) (oSo (mC (.int 1))) oNo)) mNil))) [3, 4] (gT 2 (gLc (gN 3) (gLc (gN 4) gL0))) tYs (mCall (S_law_fits T) [] (mCons (mFrz (mVar 3)) (mCons (mFrz (mVar 4)) mNil))))) mNil))))))))
theorem pr_law_is_right_step (T : Tx K w mg) (os : List O) (Φ : O → List O → Prop) (Ξ : Exn → List O → Prop) (hl : os.length = 1) (h : S_law_is_right_step T os Φ Ξ) : t_law_is_right_step T (fin [] Φ Ξ) (os ++ List.replicate (N_law_is_right_step.length - os.length) .un) := by
  obtain ⟨d, n, rfl, b, k⟩ := h
  show t_law_is_right_step T (fin [] Φ Ξ) [.fz d, .un, .un, .un, .un]
  unfold t_law_is_right_step
  walk_at "fs"
  refine ⟨so_nd, ?_⟩
  cases d with
  | tuple ds =>
    obtain ⟨m, rfl, hb, hd⟩ := bd_tup b
    cases ds with
    | nil => walk_at "fs"; exact k
    | cons x items =>
      cases x with
      | str z =>
        walk_at "fs"
        rcases so_get z with ⟨g, hf⟩ | ⟨so, ks, g, hf, hsl, hc, hm⟩
        · rw [stepD_none hf] at k
          rw [g, if_pos (show (none : Option PyData).isSome = false from rfl)]; exact k
        · rw [stepD_some hf] at k
          rw [g, if_neg (by simp)]
          refine ⟨_, rfl, ?_⟩
          have h3 := forms_le hf
          walk_at "fs"
          refine ⟨by omega, ?_⟩
          by_cases hn : ks.length = items.length
          · rw [if_neg (by omega)]
            refine ⟨hc, by omega, ?_⟩
            rw [decide_eq_true hn] at k
            rw [sg_map, zp_map]
            refine go_mapG (fun p => .fz (.bool (fitD p.1 p.2))) (by rw [List.length_zip]; omega) ?_ ?_
            · rintro ⟨kd, d⟩ hp acc N hl hN
              walk_at "fs"
              exact ⟨kd, d, m, rfl, hd d (List.mem_cons_of_mem _ (List.of_mem_zip hp).2), hl, hN⟩
            · walk_at "fs"
              refine cast k ?_
              rw [Bool.true_and, ← all_nk, hm, ← all_fit]
          · rw [if_pos (by omega)]
            rw [decide_eq_false hn] at k
            exact k
      | _ => walk_at "fs"; exact k
  | _ => walk_at "fs"; exact k
theorem ok_law_is_right_step (T : Tx K w mg) (hS : SysB base) : FnT P w K mg base 3 T.f_law_is_right_step T.d_law_is_right_step ["_law_value"] [] (S_law_is_right_step T) := okT T.F_law_is_right_step sc_law_is_right_step (by decide) (by decide) (fun cdv A outer s H E hG hr tk => (jss_cons (js_set (i := 1) sc_law_is_right_step.nd rfl (Or.inl rfl) (je_dispO (JP2.cons je_str je_str (JP2.cons je_str je_str (JP2.cons je_str je_str (JP2.cons je_str je_str (JP2.cons je_str je_str (JP2.cons je_str je_str (JP2.cons je_str je_str JP2.nil)))))))))
    (jss_cons (js_putP hr (jp_var 1) je_str je_str)
    (jss_cons (js_if (jt_bor (JW.jt (jw_or (jt_not (jt_val (je_isi T.n_isinstance (je_var 0) (pe_bltn (v := .ty "tuple") rfl T.n_tuple bt_tuple rfl)))) (jw_or (jt_cmp (o_eq hS hr) d_eq (je_var 0) (je_tp ja_nil) (nomark _)) (jw_or (jt_not (jt_val (je_isi T.n_isinstance (je_ix (o_ix hr) d_ix (je_var 0) je_int (fun _ _ => rfl)) (pe_bltn (v := .ty "str") rfl T.n_str bt_str rfl)))) (jw_or1 (jt_cmp (o_notIn hr) d_notIn (je_ix (o_ix hr) d_ix (je_var 0) je_int (fun _ _ => rfl)) (je_var 1) (by rfl)))))))) (jss_one (js_ret je_bl)) jss_nil)
    (jss_cons (js_set (i := 2) sc_law_is_right_step.nd rfl (Or.inl rfl) (je_frz (je_bor (je_ix (o_ix hr) d_ix (je_var 1) (je_ix (o_ix hr) d_ix (je_var 0) je_int (fun _ _ => rfl)) (fun _ _ => rfl)))))
    (jss_cons (js_if (jt_cmp (o_ne hS hr) d_ne (je_callB o_len d_len T.n_len bt_len (ja_cons (JE.jp (je_frz (je_var 2))) ja_nil)) (je_op o_sub d_sub (je_callB o_len d_len T.n_len bt_len (ja_cons (JE.jp (je_frz (je_var 0))) ja_nil)) je_int) (nomark _)) (jss_one (js_ret je_bl)) jss_nil)
    (jss_one (js_ret (je_callB (cr_all rfl) d_all T.n_all bt_all (ja_cons (JE.jp (je_frz (je_lc rfl sc_law_is_right_step.nd (ji_zipS T.n_zip (ja_cons (JE.jp (je_frz (je_var 2))) (ja_cons (JE.jp (je_frz (je_slice (je_var 0) (jo_so je_int) jo_no))) ja_nil))) (blkOk_by (own := [("_law_sort", 3), ("_law_one", 4)]) (N := N_law_is_right_step) (sc := defScope s_law_is_right_step) (by decide +kernel)) (sl := [3, 4]) rfl (fun _ _ _ _ _ => pg_tup rfl (pgs_cons (pg_name (i := 3) sc_law_is_right_step.nd rfl (Or.inl rfl)) (pgs_cons (pg_name (i := 4) sc_law_is_right_step.nd rfl (Or.inl rfl)) pgs_nil))) (jg_tup (jgl_cons 3 (jgl_cons 4 jgl_nil))) pts_0 kt_nil (fun _ _ _ _ _ => (je_call (ip := []) hG (ok_law_fits T hS) (hr.mono (by decide)) T.m_law_fits T.F_law_fits.kp T.b_law_fits takes0 (ja_cons (JE.jp (je_frz (je_var 3))) (ja_cons (JE.jp (je_frz (je_var 4))) ja_nil))))))) ja_nil)))))))))) (pr_law_is_right_step T)
def S_law_is_wrong (T : Tx K w mg) : TSp := fun os Φ _ => ∃ d n af mn, os = [.fz d, .fz (.int af), .fz (.bool mn)] ∧ Bd n d ∧ Φ (.fz (.bool (wrongD af mn d))) []
def t_law_is_wrong (T : Tx K w mg) : TSD :=
  (sSeq (sIf (tOrr (tNt (tVal (mCall (S_law_is_right_step T) [] (mCons (mFrz (mVar 0)) mNil)))) (tAn (tVal (mVar 2)) (tVal (mOp (eqD false) (mOp ixD (mVar 0) (mC (.int 0))) (mC (.str "export")))))) (sRet (mC (.bool true))) sNext)
    (sRet (mAnd (mOp (eqD false) (mOp ixD (mVar 0) (mC (.int 0))) (mC (.str "skip"))) (mOp gtD (mOp ixD (mVar 0) (mC (.int 2))) (mVar 1)))))
theorem pr_law_is_wrong (T : Tx K w mg) (os : List O) (Φ : O → List O → Prop) (Ξ : Exn → List O → Prop) (hl : os.length = 3) (h : S_law_is_wrong T os Φ Ξ) : t_law_is_wrong T (fin [] Φ Ξ) (os ++ List.replicate (N_law_is_wrong.length - os.length) .un) := by
  obtain ⟨d, n, af, mn, rfl, b, k⟩ := h
  show t_law_is_wrong T (fin [] Φ Ξ) [.fz d, .fz (.int af), .fz (.bool mn)]
  unfold t_law_is_wrong
  walk_at "fr"
  refine ⟨d, n, rfl, b, _, rfl, ?_⟩
  cases hs : isStepD d with
  | false =>
    have e : wrongD af mn d = true := by unfold wrongD; rw [hs]; rfl
    rw [e] at k
    rw [if_pos rfl]; exact k
  | true =>
    obtain ⟨z, items, ks, rfl, hf, hn, hi⟩ := step_shape hs
    walk_at "fr"
    by_cases e : z = "skip"
    · subst e
      obtain ⟨x, i, rfl⟩ := skip_shape hs rfl
      rw [wrong_skip hs] at k
      have hne : ¬ (("skip" : Str) = "export") := by decide +kernel
      simp only [hne, if_false, ite_self, if_true]
      refine ⟨_, ixT2, ?_⟩
      walk_at "fr"
      exact k
    · by_cases e2 : z = "export"
      · subst e2
        rw [wrong_exp hs] at k
        simp only [e, if_false, if_true]
        cases mn with
        | true => rw [if_pos rfl]; exact k
        | false => rw [if_neg (by simp)]; exact k
      · rw [wrong_other hs e e2] at k
        simp only [e, e2, if_false, ite_self]
        exact k
theorem ok_law_is_wrong (T : Tx K w mg) (hS : SysB base) : FnT P w K mg base 4 T.f_law_is_wrong T.d_law_is_wrong ["_law_step_here", "_law_after", "_law_is_first"] [] (S_law_is_wrong T) := okT T.F_law_is_wrong sc_law_is_wrong (by decide) (by decide) (fun cdv A outer s H E hG hr tk => (jss_cons (js_if (JW.jt (jw_or (jt_not (jt_val (je_call (ip := []) hG (ok_law_is_right_step T hS) (hr.mono (by decide)) T.m_law_is_right_step T.F_law_is_right_step.kp T.b_law_is_right_step tk (ja_cons (JE.jp (je_frz (je_var 0))) ja_nil)))) (jw_or1 (JW.jt (jw_and (jt_val (je_var 2)) (jw_and1 (jt_cmp (o_eq hS hr) d_eq (je_ix (o_ix hr) d_ix (je_var 0) je_int (fun _ _ => rfl)) je_str (nomark _)))))))) (jss_one (js_ret je_bl)) jss_nil)
    (jss_one (js_ret (je_and (je_cmp (o_eq hS hr) d_eq (je_ix (o_ix hr) d_ix (je_var 0) je_int (fun _ _ => rfl)) je_str (nomark _)) (je_one (je_cmp o_gt d_gt (je_ix (o_ix hr) d_ix (je_var 0) je_int (fun _ _ => rfl)) (je_var 1) (nomark _)))))))) (pr_law_is_wrong T)
theorem lay_ints : ∀ js : List Int, PyData.canLayAll0 (js.map .int) = true ∧ PyData.depthAll (js.map PyData.int) = 0
  | [] => ⟨rfl, rfl⟩
  | j :: js => by
    obtain ⟨x, y⟩ := lay_ints js
    refine ⟨?_, ?_⟩
    · show (true && PyData.canLayAll0 (js.map .int)) = true
      rw [x]; rfl
    · show max 0 (PyData.depthAll (js.map .int)) = 0
      rw [y]; rfl
theorem ev_neI0 {js : List Int} {Φp : O → Prop} : neD (.list (js.map .int)) (.list []) Φp = Φp (.fz (.bool (!js.isEmpty))) := by
  obtain ⟨x, y⟩ := lay_ints js
  have sh : SeqAt.shaped (.list (js.map .int)) = true := by
    show (PyData.canLayAll0 (js.map .int) && decide (PyData.depthAll (js.map PyData.int) + 1 ≤ 64)) = true
    rw [x, y]; rfl
  have e : (if SeqAt.shaped (.list (js.map .int)) = true ∧ SeqAt.shaped (.list []) = true then some (PyData.eqv (.list (js.map .int)) (.list [])) else none) = some js.isEmpty := by
    rw [if_pos ⟨sh, rfl⟩]
    cases js <;> rfl
  unfold neD
  refine propext ⟨fun ⟨x, e', h⟩ => ?_, fun h => ⟨_, e, h⟩⟩
  have e'' := e.symm.trans e'
  cases e''
  exact h
def S_law_due (T : Tx K w mg) : TSp := fun os Φ _ => ∃ d n mn, os = [.fz d, .fz (.bool mn)] ∧ Bd n d ∧ Φ (.fz (fpD mn d)) []
def t_law_due (T : Tx K w mg) : TSD :=
  (sSeq (sIf (tOrr (tNt (tVal (mIsi "list" (mVar 0)))) (tVal (mOp gtD (mCB lenD (mCons (mFrz (mVar 0)) mNil)) (mC (.int 30))))) (sRet (mUn negD (mC (.int 1)))) sNext)
    (sSeq (sThenFrz 2 (sSet 2 (mLc (iEn (mCons (mFrz (mVar 0)) mNil)) [3, 4] (gT 2 (gLc (gN 3) (gLc (gN 4) gL0))) (tVal (mCall (S_law_is_wrong T) [] (mCons (mFrz (mVar 4)) (mCons (mFrz (mOp subD (mOp subD (mCB lenD (mCons (mFrz (mVar 0)) mNil)) (mC (.int 1))) (mVar 3))) (mCons (mFrz (mVar 1)) mNil))))) (mVar 3))))
    (sRet (mIf (tVal (mOp neD (mVar 2) (mLs mNil))) (mOp ixD (mVar 2) (mC (.int 0))) (mC .none)))))
theorem pr_law_due (T : Tx K w mg) (os : List O) (Φ : O → List O → Prop) (Ξ : Exn → List O → Prop) (hl : os.length = 2) (h : S_law_due T os Φ Ξ) : t_law_due T (fin [] Φ Ξ) (os ++ List.replicate (N_law_due.length - os.length) .un) := by
  obtain ⟨d, n, mn, rfl, b, k⟩ := h
  show t_law_due T (fin [] Φ Ξ) [.fz d, .fz (.bool mn), .un, .un, .un]
  unfold t_law_due
  cases d with
  | list ds =>
    obtain ⟨m, rfl, hb, hd⟩ := bd_lst b
    rw [fpD_list] at k
    walk_at "fr"
    by_cases h30 : 30 < ds.length
    · rw [if_pos h30] at k
      rw [if_pos (by omega)]; exact k
    · rw [if_neg h30] at k
      rw [if_neg (by omega)]
      refine go_inv (fun i acc => ∃ js : List Int, acc = js.map (fun j => .fz (.int j)) ∧ js.length ≤ i ∧ firstW (ds.length : Int) mn ds 0 = (match js with
        | j :: _ => .int j
        | [] => firstW (ds.length : Int) mn (ds.drop i) i)) ⟨[], rfl, Nat.le_refl _, rfl⟩ ?_ ?_
      · rintro i x acc N hx ⟨js, rfl, hjl, he⟩ hN
        obtain ⟨d, hdi, rfl⟩ := en_at hx
        have hi := (List.getElem?_eq_some_iff.mp hdi).1
        walk_at "fr"
        refine ⟨d, m, _, mn, rfl, hd d (List.mem_of_getElem? hdi), ?_⟩
        rw [drop_at hdi] at he
        walk_at "fr"
        split
        · rename_i h
          refine ⟨by omega, hN _ ⟨js ++ [(i : Int)], by rw [List.map_append]; rfl, by rw [List.length_append]; exact Nat.succ_le_succ hjl, ?_⟩⟩
          cases js with
          | nil =>
            have he : firstW (ds.length : Int) mn ds 0 = firstW (ds.length : Int) mn (d :: ds.drop (i + 1)) i := he
            rw [firstW_cons, if_pos h] at he
            exact he
          | cons j js => exact he
        · rename_i h
          refine hN _ ⟨js, rfl, by omega, ?_⟩
          cases js with
          | nil =>
            have he : firstW (ds.length : Int) mn ds 0 = firstW (ds.length : Int) mn (d :: ds.drop (i + 1)) i := he
            rw [firstW_cons, if_neg h] at he
            exact he
          | cons j js => exact he
      · rintro acc ⟨js, rfl, hjl, he⟩
        rw [List.drop_eq_nil_of_le (by rw [en_len]; exact Nat.le_refl _)] at he
        walk_at "fr"
        rw [he] at k
        rw [ev_neI0]
        walk_at "fr"
        cases js with
        | nil => exact k
        | cons j js =>
          walk_at "fr"
          exact k
  | _ => walk_at "fr"; exact k
theorem ok_law_due (T : Tx K w mg) (hS : SysB base) : FnT P w K mg base 5 T.f_law_due T.d_law_due ["_law_value", "_law_is_first"] [] (S_law_due T) := okT T.F_law_due sc_law_due (by decide) (by decide) (fun cdv A outer s H E hG hr tk => (jss_cons (js_if (JW.jt (jw_or (jt_not (jt_val (je_isi T.n_isinstance (je_var 0) (pe_bltn (v := .ty "list") rfl T.n_list bt_list rfl)))) (jw_or1 (jt_cmp o_gt d_gt (je_callB o_len d_len T.n_len bt_len (ja_cons (JE.jp (je_frz (je_var 0))) ja_nil)) je_int (nomark _))))) (jss_one (js_ret (je_un o_neg d_neg je_int))) jss_nil)
    (jss_cons (js_thenFrz 2 (js_setLc (i := 2) rfl sc_law_due.nd rfl rfl (sw_true rfl rfl rfl (by decide +kernel)) (ji_enum T.n_enumerate (ja_cons (JE.jp (je_frz (je_var 0))) ja_nil)) (blkOk_by (own := [("_law_at", 3), ("_law_step_here", 4)]) (N := N_law_due) (sc := defScope s_law_due) (by decide +kernel)) (sl := [3, 4]) rfl (fun _ _ _ _ _ => pg_tup rfl (pgs_cons (pg_name (i := 3) sc_law_due.nd rfl (Or.inl rfl)) (pgs_cons (pg_name (i := 4) sc_law_due.nd rfl (Or.inl rfl)) pgs_nil))) (jg_tup (jgl_cons 3 (jgl_cons 4 jgl_nil))) pts_B (kt_one (fun _ _ _ _ _ => (jt_val (je_call (ip := []) hG (ok_law_is_wrong T hS) (hr.mono (by decide)) T.m_law_is_wrong T.F_law_is_wrong.kp T.b_law_is_wrong takes0 (ja_cons (JE.jp (je_frz (je_var 4))) (ja_cons (JE.jp (je_frz (je_op o_sub d_sub (je_op o_sub d_sub (je_callB o_len d_len T.n_len bt_len (ja_cons (JE.jp (je_frz (je_var 0))) ja_nil)) je_int) (je_var 3)))) (ja_cons (JE.jp (je_frz (je_var 1))) ja_nil))))))) (fun _ _ _ _ _ => (je_var 3))))
    (jss_one (js_ret (je_ifExp (jt_cmp (o_ne hS hr) d_ne (je_var 2) (je_ls ja_nil) (nomark _)) (je_ix (o_ix hr) d_ix (je_var 2) je_int (fun _ _ => rfl)) je_non)))))) (pr_law_due T)
theorem fp_mn (d : PyData) (mn : Bool) : fpD mn d = .none ∨ ∃ i : Int, fpD mn d = .int i ∧ i.natAbs < 10 ^ 60 := fp_ty mn d
theorem kit3 (T : Tx K w mg) : PySem.W.kitAny K (.ref T.c_InvalidProgram) [clU (.ref T.c_InvalidLibrary), clU (.ref T.c_InvalidMains), clU (.ref T.c_InvalidText)] = some false := by
  have h1 := T.kit_InvalidProgram_InvalidLibrary
  have h2 := T.kit_InvalidProgram_InvalidMains
  have h3 := T.kit_InvalidProgram_InvalidText
  have h1 : PySem.W.kitOne K (.ref T.c_InvalidProgram) (clU (.ref T.c_InvalidLibrary)) = some false := h1
  have h2 : PySem.W.kitOne K (.ref T.c_InvalidProgram) (clU (.ref T.c_InvalidMains)) = some false := h2
  have h3 : PySem.W.kitOne K (.ref T.c_InvalidProgram) (clU (.ref T.c_InvalidText)) = some false := h3
  simp only [PySem.W.kitAny, h1, h2, h3]
  try rfl
def S_law_told (T : Tx K w mg) : TSp := fun os Φ _ => ∃ (i : Nat) (d : PyData) (n : Nat), os = [.fz (.int (i : Int)), .fz d] ∧ i < 4 ∧ Bd n d ∧ Φ (.fz (fpD (decide (i = 1)) d)) []
def t_law_told (T : Tx K w mg) : TSD :=
  (sSeq (sSet 2 (mC .none))
    (sSeq (sTry K (.ref T.c_LoaderError) 3 (sIf (tVal (mOp (eqD false) (mVar 0) (mC (.int 0)))) (sDrop (mCallK (S_check_program T) 1 0 [] (mCons (mFrz (mVar 1)) mNil) mNil (fun zs => [.bool false]))) (sIf (tVal (mOp (eqD false) (mVar 0) (mC (.int 1)))) (sDrop (mCallK (S_check_program T) 1 1 [] (mCons (mFrz (mVar 1)) mNil) (mCons (mC (.bool true)) mNil) (fun zs => [zs.getD 0 .none]))) (sIf (tVal (mOp (eqD false) (mVar 0) (mC (.int 2)))) (sDrop (mCallK (S_check_program T) 1 1 [] (mCons (mFrz (mVar 1)) mNil) (mCons (mC (.bool false)) mNil) (fun zs => [zs.getD 0 .none]))) (sDrop (mCall (S_modules_in T) [] (mCons (mFrz (mVar 1)) mNil)))))) (fun ea cls ed => (sSeq (sSet 4 (mFrz (mOr (mIsE K ea cls ed 3 fun c => PySem.W.kitAny K c (([.ref T.c_InvalidLibrary, .ref T.c_InvalidMains, .ref T.c_InvalidText] : List V).map clU)) (mNot (mIsE K ea cls ed 3 fun c => PySem.W.kitOne K c (clU (.ty "ValueError")))))))
    (sSet 2 (mFrz (mIf (tAn (tVal (mIsE K ea cls ed 3 fun c => PySem.W.kitOne K c (clU (.ref T.c_InvalidProgram)))) (tNt (tVal (mVar 4)))) (mExF K ea cls ed 3 "position") (mC (.str "other"))))))))
    (sRet (mVar 2))))
theorem pr_law_told (T : Tx K w mg) (os : List O) (Φ : O → List O → Prop) (Ξ : Exn → List O → Prop) (hl : os.length = 2) (h : S_law_told T os Φ Ξ) : t_law_told T (fin [] Φ Ξ) (os ++ List.replicate (N_law_told.length - os.length) .un) := by
  obtain ⟨i, d, n, rfl, hi, b, k⟩ := h
  show t_law_told T (fin [] Φ Ξ) [.fz (.int (i : Int)), .fz d, .un, .un, .un]
  unfold t_law_told
  have h4 : i = 0 ∨ i = 1 ∨ i = 2 ∨ i = 3 := by omega
  have xc := T.xc_InvalidProgram
  rcases h4 with rfl | rfl | rfl | rfl
  · walk_at "fr"
    rcases fp_ty false d with h | ⟨i, h, hi⟩
    · have k : Φ (.fz (fpD false d)) [] := k
      rw [h] at k
      exact ⟨d, n, false, rfl, b, .inl ⟨h, k⟩⟩
    · have k : Φ (.fz (fpD false d)) [] := k
      rw [h] at k
      refine ⟨d, n, false, rfl, b, .inr ⟨i, h, hi, true, T.exm_InvalidProgram_LoaderError, ?_⟩⟩
      rw [if_pos rfl]
      refine ⟨⟨_, rfl, xc⟩, false, kit3 T, ?_⟩
      rw [if_neg (by simp)]
      refine ⟨⟨_, rfl, xc⟩, true, T.kit_InvalidProgram_ValueError, ⟨_, rfl, xc⟩, true, T.kit_InvalidProgram_InvalidProgram, ?_⟩
      rw [if_pos rfl, if_pos rfl]
      exact ⟨⟨_, rfl, xc, T.nf_InvalidProgram_position⟩, _, List.lookup_cons_self, k⟩
  · walk_at "fr"
    rcases fp_ty true d with h | ⟨i, h, hi⟩
    · have k : Φ (.fz (fpD true d)) [] := k
      rw [h] at k
      exact ⟨d, n, true, rfl, b, .inl ⟨h, k⟩⟩
    · have k : Φ (.fz (fpD true d)) [] := k
      rw [h] at k
      refine ⟨d, n, true, rfl, b, .inr ⟨i, h, hi, true, T.exm_InvalidProgram_LoaderError, ?_⟩⟩
      rw [if_pos rfl]
      refine ⟨⟨_, rfl, xc⟩, false, kit3 T, ?_⟩
      rw [if_neg (by simp)]
      refine ⟨⟨_, rfl, xc⟩, true, T.kit_InvalidProgram_ValueError, ⟨_, rfl, xc⟩, true, T.kit_InvalidProgram_InvalidProgram, ?_⟩
      rw [if_pos rfl, if_pos rfl]
      exact ⟨⟨_, rfl, xc, T.nf_InvalidProgram_position⟩, _, List.lookup_cons_self, k⟩
  · walk_at "fr"
    rcases fp_ty false d with h | ⟨i, h, hi⟩
    · have k : Φ (.fz (fpD false d)) [] := k
      rw [h] at k
      exact ⟨d, n, false, rfl, b, .inl ⟨h, k⟩⟩
    · have k : Φ (.fz (fpD false d)) [] := k
      rw [h] at k
      refine ⟨d, n, false, rfl, b, .inr ⟨i, h, hi, true, T.exm_InvalidProgram_LoaderError, ?_⟩⟩
      rw [if_pos rfl]
      refine ⟨⟨_, rfl, xc⟩, false, kit3 T, ?_⟩
      rw [if_neg (by simp)]
      refine ⟨⟨_, rfl, xc⟩, true, T.kit_InvalidProgram_ValueError, ⟨_, rfl, xc⟩, true, T.kit_InvalidProgram_InvalidProgram, ?_⟩
      rw [if_pos rfl, if_pos rfl]
      exact ⟨⟨_, rfl, xc, T.nf_InvalidProgram_position⟩, _, List.lookup_cons_self, k⟩
  · walk_at "fr"
    rcases fp_ty false d with h | ⟨i, h, hi⟩
    · have k : Φ (.fz (fpD false d)) [] := k
      rw [h] at k
      exact ⟨d, n, rfl, b, .inl ⟨h, fun _ _ _ _ _ _ _ => k⟩⟩
    · have k : Φ (.fz (fpD false d)) [] := k
      rw [h] at k
      refine ⟨d, n, rfl, b, .inr ⟨i, h, hi, true, T.exm_InvalidProgram_LoaderError, ?_⟩⟩
      rw [if_pos rfl]
      refine ⟨⟨_, rfl, xc⟩, false, kit3 T, ?_⟩
      rw [if_neg (by simp)]
      refine ⟨⟨_, rfl, xc⟩, true, T.kit_InvalidProgram_ValueError, ⟨_, rfl, xc⟩, true, T.kit_InvalidProgram_InvalidProgram, ?_⟩
      rw [if_pos rfl, if_pos rfl]
      exact ⟨⟨_, rfl, xc, T.nf_InvalidProgram_position⟩, _, List.lookup_cons_self, k⟩
theorem ok_law_told (T : Tx K w mg) (hS : SysB base) : FnT P w K mg base 8 T.f_law_told T.d_law_told ["_law_way", "_law_value"] [] (S_law_told T) := okT T.F_law_told sc_law_told (by decide) (by decide) (fun cdv A outer s H E hG hr tk => (jss_cons (js_set (i := 2) sc_law_told.nd rfl (Or.inl rfl) je_non)
    (jss_cons (js_tryAs (i := 3) rfl rfl sc_law_told.nd rfl rfl (by exact ⟨rfl, by decide, Or.inl T.g_LoaderError⟩) tk (by rfl) (fun W' pn xe tkb hpo => (jss_one (js_if (jt_cmp (o_eq hS hr) d_eq (je_var 0) je_int (nomark _)) (jss_one (js_expr (je_callK (ip := []) hG (ok_check_program T hS) (hr.mono (by decide)) T.m_check_program T.F_check_program.kp T.ka_check_program_1 tkb (ja_cons (JE.jp (je_frz (je_var 1))) ja_nil) jk_nil))) (jss_one (js_if (jt_cmp (o_eq hS hr) d_eq (je_var 0) je_int (nomark _)) (jss_one (js_expr (je_callK (ip := []) hG (ok_check_program T hS) (hr.mono (by decide)) T.m_check_program T.F_check_program.kp T.ka_check_program_1_is_main tkb (ja_cons (JE.jp (je_frz (je_var 1))) ja_nil) (jk_cons je_bl jk_nil)))) (jss_one (js_if (jt_cmp (o_eq hS hr) d_eq (je_var 0) je_int (nomark _)) (jss_one (js_expr (je_callK (ip := []) hG (ok_check_program T hS) (hr.mono (by decide)) T.m_check_program T.F_check_program.kp T.ka_check_program_1_is_main tkb (ja_cons (JE.jp (je_frz (je_var 1))) ja_nil) (jk_cons je_bl jk_nil)))) (jss_one (js_expr (je_call (ip := []) hG (ok_modules_in T hS) (hr.mono (by decide)) T.m_modules_in T.F_modules_in.kp T.b_modules_in tkb (ja_cons (JE.jp (je_frz (je_var 1))) ja_nil))))))))))) (fun ea oe cls ed pn hz hf => (jss_cons (js_set (i := 4) sc_law_told.nd rfl (Or.inl rfl) (je_frz (je_or (je_isET (cs := [.ref T.c_InvalidLibrary, .ref T.c_InvalidMains, .ref T.c_InvalidText]) hz hf T.n_isinstance 3 (pa_cons (by exact pe_glob (v := .ref T.c_InvalidLibrary) rfl T.g_InvalidLibrary rfl) (pa_cons (by exact pe_glob (v := .ref T.c_InvalidMains) rfl T.g_InvalidMains rfl) (pa_cons (by exact pe_glob (v := .ref T.c_InvalidText) rfl T.g_InvalidText rfl) pa_nil))) (by exact fun _ _ _ q => q) rfl (by simp)) (je_one (je_not (je_isE hz hf T.n_isinstance 3 (by exact pe_bltn (v := .ty "ValueError") rfl T.n_ValueError bx_ValueError rfl) rfl))))))
    (jss_one (js_set (i := 2) sc_law_told.nd rfl (Or.inl rfl) (je_frz (je_ifExp (JW.jt (jw_and (jt_val (je_isE hz hf T.n_isinstance 3 (by exact pe_glob (v := .ref T.c_InvalidProgram) rfl T.g_InvalidProgram rfl) rfl)) (jw_and1 (jt_not (jt_val (je_var 4)))))) (je_exF hz hf 3) je_str)))))))
    (jss_one (js_ret (je_var 2)))))) (pr_law_told T)
theorem nm_of {d : PyData} (h : isNameD d = true) : ∃ z, d = .str z ∧ Nm z := by
  cases d with
  | str z =>
    rw [nameD_str, Bool.and_eq_true, Bool.and_eq_true, decide_eq_true_eq, decide_eq_true_eq, List.all_eq_true] at h
    exact ⟨z, rfl, by omega, by omega, fun c hc => of_decide_eq_true (h.2 c hc)⟩
  | _ => cases h
theorem mods_nm {d : PyData} (h : isStepD d = true) : ∀ z ∈ modsS d, Nm z := by
  obtain ⟨z, items, ks, rfl, hf, hn, hi⟩ := step_shape h
  have e : modsS (.tuple (.str z :: items)) = (ks.zip items).flatMap mod1 := by simp only [modsS, hf]
  rw [e]
  intro y hy
  obtain ⟨p, hp, hy⟩ := List.mem_flatMap.mp hy
  unfold mod1 at hy
  split at hy
  · rename_i hm
    obtain ⟨u, hu, hn⟩ := item_module (hm ▸ hi p hp)
    rw [hu] at hy hn
    have : y = u := by simpa using hy
    subst this
    obtain ⟨_, e, hN⟩ := nm_of hn
    cases e
    exact hN
  · cases hy
def spP : List (PyData × PyData) := [(.str "need", .int 1), (.str "try", .int 1), (.str "read", .int 2)]
theorem sp_nd : ([.inr "need", .inr "try", .inr "read"] : List Key).Nodup := by decide +kernel
theorem sp_in {z : Str} {Φp : O → Prop} : inD false (.str z) (.dict spP) Φp = Φp (.fz (.bool (getK spP (.inr z)).isSome)) := by
  unfold inD
  exact propext ⟨fun ⟨x, e, h⟩ => by cases e; exact h, fun h => ⟨_, rfl, h⟩⟩
theorem sp_ix {z : Str} {Φp : O → Prop} : ixD (.dict spP) (.str z) Φp = ∃ d, getK spP (.inr z) = some d ∧ Φp (.fz d) := rfl
/-- where the module of a step stands -/
theorem sp_get {z : Str} {items : List PyData} (h : isStepD (.tuple (.str z :: items)) = true) : (getK spP (.inr z) = none ∧ modsS (.tuple (.str z :: items)) = []) ∨ ∃ (i : Int) (u : Str), getK spP (.inr z) = some (.int i) ∧ 0 ≤ i ∧ i < 3 ∧ atI (.str z :: items) i = some (.str u) ∧ modsS (.tuple (.str z :: items)) = [u] := by
  obtain ⟨z', items', ks, e, hf, hn, hi⟩ := step_shape h
  cases e
  have em : modsS (.tuple (.str z :: items)) = (ks.zip items).flatMap mod1 := by simp only [modsS, hf]
  have ne : ∀ {y : Str}, ¬ z = y → ¬ keyOf (.str y) = some (.inr z) := fun h e => h (by injection e with e; injection e with e; exact e.symm)
  have md : ∀ {d : PyData}, isItemD "module" d = true → ∃ u : Str, d = .str u := fun h => by obtain ⟨u, e, _⟩ := item_module h; exact ⟨u, e⟩
  by_cases h6 : z = "need"
  · subst h6
    rw [fo_need] at hf; cases hf
    match items, hn with
    | [y], _ =>
      obtain ⟨u, rfl⟩ := md (hi ("module", y) List.mem_cons_self)
      exact .inr ⟨1, u, by kernel_rfl, by decide, by decide, ixT1, by rw [em]; rfl⟩
  by_cases h7 : z = "try"
  · subst h7
    rw [fo_try] at hf; cases hf
    match items, hn with
    | [y, v], _ =>
      obtain ⟨u, rfl⟩ := md (hi ("module", y) List.mem_cons_self)
      exact .inr ⟨1, u, by kernel_rfl, by decide, by decide, ixT1, by rw [em]; rfl⟩
  by_cases h5 : z = "read"
  · subst h5
    rw [fo_read] at hf; cases hf
    match items, hn with
    | [v, y, x], _ =>
      obtain ⟨u, rfl⟩ := md (hi ("module", y) (List.mem_cons_of_mem _ List.mem_cons_self))
      exact .inr ⟨2, u, by kernel_rfl, by decide, by decide, ixT2, by rw [em]; rfl⟩
  refine .inl ⟨?_, ?_⟩
  · unfold spP
    rw [getK_neg (ne h6), getK_neg (ne h7), getK_neg (ne h5)]; rfl
  · rw [em]
    have nomod : ∀ k ∈ ks, k ≠ ("module" : Str) := by
      unfold f_FORMS at hf
      revert hf
      (repeat' split) <;> (intro hf; first | contradiction | (cases hf; decide +kernel) | cases hf)
    have : ∀ l : List (Str × PyData), (∀ p ∈ l, p.1 ≠ ("module" : Str)) → l.flatMap mod1 = [] := by
      intro l
      induction l with
      | nil => intro _; rfl
      | cons p l ih =>
        intro h
        rw [List.flatMap_cons, ih fun q hq => h q (List.mem_cons_of_mem _ hq)]
        unfold mod1
        rw [if_neg (h p List.mem_cons_self)]; rfl
    exact this _ fun p hp => nomod p.1 (List.of_mem_zip hp).1
theorem sm_fp (mn : Bool) (d : PyData) : Sm 0 82 (fpD mn d) := by
  rcases fp_ty mn d with h | ⟨i, h, hi⟩ <;> rw [h]
  · exact Sm.none.mono (by decide) (by decide)
  · exact (Sm.int hi).mono (by decide) (by decide)
def S_law_judged (T : Tx K w mg) : TSp := fun os Φ _ => ∃ d, os = [.fz d] ∧ Sm 8 500000 d ∧ Bd 3 d ∧ Φ (.fz (.bool true)) []
def t_law_judged (T : Tx K w mg) : TSD :=
  (sSeq (sSet 1 (mFrz (mCB reprD (mCons (mFrz (mVar 0)) mNil))))
    (sSeq (sSet 2 (mFrz (mLs (mCons (mFrz (mCall (S_law_due T) [] (mCons (mFrz (mVar 0)) (mCons (mC (.bool false)) mNil)))) (mCons (mFrz (mCall (S_law_due T) [] (mCons (mFrz (mVar 0)) (mCons (mC (.bool true)) mNil)))) (mCons (mFrz (mCall (S_law_due T) [] (mCons (mFrz (mVar 0)) (mCons (mC (.bool false)) mNil)))) (mCons (mFrz (mCall (S_law_due T) [] (mCons (mFrz (mVar 0)) (mCons (mC (.bool false)) mNil)))) mNil)))))))
    (sSeq (sIf (tOrr (tVal (mOp neD (mCB reprD (mCons (mFrz (mLc (iR1 (mCons (mC (.int 4)) mNil)) [8] (gN 8) tYs (mCall (S_law_told T) [] (mCons (mFrz (mVar 8)) (mCons (mFrz (mVar 0)) mNil))))) mNil)) (mCB reprD (mCons (mFrz (mVar 2)) mNil)))) (tVal (mOp neD (mCB reprD (mCons (mFrz (mVar 0)) mNil)) (mVar 1)))) (sRet (mC (.bool false))) sNext)
    (sSeq (sIf (tVal (mOp (isND true) (mOp ixD (mVar 2) (mC (.int 0))) (mC .none))) (sRet (mC (.bool true))) sNext)
    (sSeq (sSet 3 (mFrz (mDispO [((mC (.str "need")), (mC (.int 1))), ((mC (.str "try")), (mC (.int 1))), ((mC (.str "read")), (mC (.int 2)))])))
    (sSeq (sSet 4 (mFrz (mLc (iL (mVar 0)) [7] (gN 7) (tVal (mOp (inD false) (mOp ixD (mVar 7) (mC (.int 0))) (mVar 3))) (mOp ixD (mVar 7) (mOp ixD (mVar 3) (mOp ixD (mVar 7) (mC (.int 0))))))))
    (sSeq (sFor (iR1 (mCons (mC (.int 2)) mNil)) (gN 5) (sSeq (sSet 6 (mCall (S_modules_in T) [] (mCons (mFrz (mVar 0)) mNil)))
    (sSeq (sIf (tBor (tVal (mOp neD (mVar 6) (mCB srtD (mCons (mFrz (mLc (iEn (mCons (mFrz (mVar 4)) mNil)) [9, 10] (gT 2 (gLc (gN 9) (gLc (gN 10) gL0))) (tVal (mOp (inD true) (mVar 10) (mSl (mVar 4) oNo (oSo (mVar 9))))) (mVar 10))) mNil))))) (sRet (mC (.bool false))) sNext)
    (sApp 6 (mC (.str "Z"))))))
    (sRet (mAnd (mOp (isND false) (mCallK (S_check_program T) 1 0 [] (mCons (mFrz (mVar 0)) mNil) mNil (fun zs => [.bool false])) (mC .none)) (mOp (eqD false) (mCB reprD (mCons (mFrz (mVar 0)) mNil)) (mVar 1)))))))))))
local macro_rules | `(tactic| walk_at "ev3") => `(tactic| simp only [sp_in, sp_ix])
local macro_rules | `(tactic| walk_at "fj") => `(tactic| repeat (first | walk_at "ev0" | walk_at "ev1" | walk_at "ev3"))
theorem pr_law_judged (T : Tx K w mg) (os : List O) (Φ : O → List O → Prop) (Ξ : Exn → List O → Prop) (hl : os.length = 1) (h : S_law_judged T os Φ Ξ) : t_law_judged T (fin [] Φ Ξ) (os ++ List.replicate (N_law_judged.length - os.length) .un) := by
  obtain ⟨d, rfl, sm, b, k⟩ := h
  show t_law_judged T (fin [] Φ Ξ) [.fz d, .un, .un, .un, .un, .un, .un, .un, .un, .un, .un]
  unfold t_law_judged
  walk_at "fj"
  have s1 := sm.sh
  have s2 := Nat.le_trans sm.ln (show 500000 ≤ 1000000 by decide)
  have s3 := Nat.le_trans sm.dp (show 8 ≤ 40 by decide)
  refine ⟨s1, s2, s3, d, 3, false, rfl, b, ?_⟩
  walk_at "fj"
  refine ⟨d, 3, true, rfl, b, ?_⟩
  walk_at "fj"
  refine ⟨d, 3, false, rfl, b, ?_⟩
  walk_at "fj"
  refine ⟨d, 3, false, rfl, b, ?_⟩
  walk_at "fj"
  refine go_mapG (fun (i : Nat) => .fz (fpD (decide (i = 1)) d)) (by rw [List.length_range]; decide) ?_ ?_
  · intro i hi acc N hl hN
    have hi := List.mem_range.mp hi
    walk_at "fj"
    exact ⟨i, d, 3, rfl, hi, b, hl, hN⟩
  walk_at "fj"
  have l4 : (List.map (fun x => fpD (decide (x = 1)) d) (List.range (Int.toNat 4))) = [fpD false d, fpD true d, fpD false d, fpD false d] := rfl
  rw [l4]
  have sl : Sm 1 400 (.list [fpD false d, fpD true d, fpD false d, fpD false d]) := (Sm.list (k := 0) (n := 82) (m := 4) (fun x hx => by
    simp only [List.mem_cons, List.not_mem_nil, or_false] at hx
    rcases hx with rfl | rfl | rfl | rfl <;> exact sm_fp _ _) (by simp)).mono (by decide) (by decide)
  refine ⟨sl.sh, Nat.le_trans sl.ln (by decide), Nat.le_trans sl.dp (by decide), sl.sh, Nat.le_trans sl.ln (by decide), Nat.le_trans sl.dp (by decide), ?_⟩
  rw [if_neg (fun h => h rfl)]
  refine ⟨s1, s2, s3, ?_⟩
  rcases fp_ty false d with hp | ⟨i, hp, hi⟩
  · rw [hp, if_neg (by simp)]
    obtain ⟨ds, rfl, h30, _, hs⟩ := fp_none hp
    obtain ⟨m, _, hb, hd⟩ := bd_lst b
    refine ⟨sp_nd, _, (show fzO _ = some (.dict spP) from rfl), ds, rfl, ?_⟩
    have lm : ∀ i, (allMods (ds.take i)).length ≤ 100 := fun i => by
      have : ∀ l : List PyData, (allMods l).length ≤ 3 * l.length := by
        intro l
        induction l with
        | nil => exact Nat.le_refl _
        | cons x l ih =>
          have := mods_len (d := x)
          unfold allMods at ih ⊢
          rw [List.flatMap_cons, List.length_append, List.length_cons]
          omega
      have := this (ds.take i)
      rw [List.length_take] at this
      omega
    refine go_inv (fun i acc => acc = (allMods (ds.take i)).map fun z => .fz (.str z)) rfl ?_ ?_
    · rintro i x acc N hx rfl hN
      have hxm := List.mem_of_getElem? hx
      have hsx := hs x hxm
      have hnx : allMods (ds.take (i + 1)) = allMods (ds.take i) ++ modsS x := by
        rw [List.take_add_one, hx]
        unfold allMods
        rw [List.flatMap_append]
        simp
      obtain ⟨z, items, ks, rfl, _, _, _⟩ := step_shape hsx
      walk_at "fj"
      rcases sp_get hsx with ⟨g, e⟩ | ⟨j, u, g, j0, j1, hat, e⟩
      · rw [g, if_neg (by simp)]
        refine hN _ ?_
        rw [hnx, e, List.append_nil]
      · rw [g, if_pos (by rfl)]
        refine ⟨_, rfl, ?_⟩
        walk_at "fj"
        refine ⟨_, hat, by have := lm i; omega, hN _ ?_⟩
        rw [hnx, e, List.map_append]; rfl
    · rintro acc rfl
      rw [List.take_of_length_le (Nat.le_refl _)]
      walk_at "fj"
      have l0 := lm ds.length
      rw [List.take_of_length_le (Nat.le_refl _)] at l0
      have nms : ∀ z ∈ allMods ds, Nm z := fun z hz => by
        obtain ⟨x, hx, hz⟩ := List.mem_flatMap.mp hz
        exact mods_nm (hs x hx) z hz
      refine for_inv (fun _ ρ => ∃ o2 o5 o6 : O, ρ = [.fz (.list ds), .fz (.str (PyData.list ds).shown), o2, .fz (.dict spP), .fz (.list ((allMods ds).map .str)), o5, o6, .un, .un, .un, .un]) ⟨_, _, _, rfl⟩ ?_ ?_
      · rintro i x ρ N hx ⟨o2, o5, o6, rfl⟩ hN
        walk_at "fj"
        refine ⟨_, 3, rfl, b, .inl ⟨hp, fun ds' ys e hsr hnd hyl hmem => ?_⟩⟩
        cases e
        walk_at "fj"
        simp only [len_lstf]
        walk_at "fj"
        refine go_inv (fun i acc => ∃ fs : List Str, acc = fs.map (fun z => .fz (.str z)) ∧ fs.Nodup ∧ fs.length ≤ i ∧ ∀ z : Str, z ∈ fs ↔ z ∈ (allMods ds).take i) ⟨[], rfl, List.nodup_nil, Nat.le_refl _, fun z => Iff.rfl⟩ ?_ ?_
        · rintro i x acc N' hx ⟨fs, rfl, f1, f2, f3⟩ hN'
          obtain ⟨d, hdi, rfl⟩ := en_at hx
          rw [List.getElem?_map] at hdi
          have hi := (List.getElem?_eq_some_iff.mp hx).1
          rw [en_len, List.length_map] at hi
          cases hq : (allMods ds)[i]? with
          | none => rw [hq] at hdi; cases hdi
          | some u =>
            rw [hq] at hdi
            cases hdi
            have cu : _root_.T.cutD ((allMods ds).map PyData.str) none (some (i : Int)) = ((allMods ds).take i).map .str := by
              rw [cut_lo (by omega) (by rw [List.length_map]; omega), Int.toNat_natCast, List.map_take]
            walk_at "fj"
            rw [cu]
            walk_at "fj"
            have hnx : (allMods ds).take (i + 1) = (allMods ds).take i ++ [u] := by rw [List.take_add_one, hq]; rfl
            split
            · rename_i hu
              refine ⟨by omega, hN' _ ⟨fs ++ [u], by rw [List.map_append]; rfl, ?_, by rw [List.length_append]; exact Nat.succ_le_succ f2, fun z => ?_⟩⟩
              · refine List.nodup_append.mpr ⟨f1, by simp, ?_⟩
                intro a ha b hb
                rw [List.mem_singleton.mp hb]
                exact fun e => hu ((f3 u).mp (e ▸ ha))
              · rw [hnx, List.mem_append, List.mem_append, f3]
            · rename_i hu
              have hu : u ∈ (allMods ds).take i := Classical.not_not.mp hu
              refine hN' _ ⟨fs, rfl, f1, by omega, fun z => ?_⟩
              rw [hnx, List.mem_append, f3]
              refine ⟨.inl, fun h => h.elim id fun h => ?_⟩
              rw [List.mem_singleton.mp h]; exact hu
        · rintro acc ⟨fs, rfl, f1, f2, f3⟩
          rw [en_len, List.length_map] at f2 f3
          rw [List.take_of_length_le (Nat.le_refl _)] at f3
          walk_at "fj"
          refine ⟨by omega, fun zs pz sz => ?_⟩
          have e : ys = zs := sorted_uniq hsr sz hnd (pz.nodup_iff.mpr f1) fun z => by rw [hmem, pz.mem_iff, f3]
          subst e
          rw [ev_neSS fun z hz => nm_ok (nms z ((hmem z).mp hz))]
          walk_at "fj"
          exact ⟨by omega, hN _ ⟨_, _, _, rfl⟩⟩
      · rintro ρ ⟨o2, o5, o6, rfl⟩
        walk_at "fj"
        refine ⟨_, 3, false, rfl, b, .inl ⟨hp, ?_⟩⟩
        walk_at "fj"
        exact ⟨s1, s2, s3, k⟩
  · rw [hp, if_pos (by rfl)]; exact k
theorem ok_law_judged (T : Tx K w mg) (hS : SysB base) : FnT P w K mg base 9 T.f_law_judged T.d_law_judged ["_law_value"] [] (S_law_judged T) := okT T.F_law_judged sc_law_judged (by decide) (by decide) (fun cdv A outer s H E hG hr tk => (jss_cons (js_set (i := 1) sc_law_judged.nd rfl (Or.inl rfl) (je_frz (je_callB (call_repr hG hr hS) d_repr T.n_repr bt_repr (ja_cons (JE.jp (je_frz (je_var 0))) ja_nil))))
    (jss_cons (js_set (i := 2) sc_law_judged.nd rfl (Or.inl rfl) (je_frz (je_ls (ja_cons (JE.jp (je_frz (je_call (ip := []) hG (ok_law_due T hS) (hr.mono (by decide)) T.m_law_due T.F_law_due.kp T.b_law_due tk (ja_cons (JE.jp (je_frz (je_var 0))) (ja_cons (JE.jp je_bl) ja_nil))))) (ja_cons (JE.jp (je_frz (je_call (ip := []) hG (ok_law_due T hS) (hr.mono (by decide)) T.m_law_due T.F_law_due.kp T.b_law_due tk (ja_cons (JE.jp (je_frz (je_var 0))) (ja_cons (JE.jp je_bl) ja_nil))))) (ja_cons (JE.jp (je_frz (je_call (ip := []) hG (ok_law_due T hS) (hr.mono (by decide)) T.m_law_due T.F_law_due.kp T.b_law_due tk (ja_cons (JE.jp (je_frz (je_var 0))) (ja_cons (JE.jp je_bl) ja_nil))))) (ja_cons (JE.jp (je_frz (je_call (ip := []) hG (ok_law_due T hS) (hr.mono (by decide)) T.m_law_due T.F_law_due.kp T.b_law_due tk (ja_cons (JE.jp (je_frz (je_var 0))) (ja_cons (JE.jp je_bl) ja_nil))))) ja_nil)))))))
    (jss_cons (js_if (JW.jt (jw_or (jt_cmp (o_ne hS hr) d_ne (je_callB (call_repr hG hr hS) d_repr T.n_repr bt_repr (ja_cons (JE.jp (je_frz (je_lc rfl sc_law_judged.nd (ji_rng1 T.n_range (ja_cons (JE.jp je_int) ja_nil)) (blkOk_by (own := [("_law_way", 8)]) (N := N_law_judged) (sc := defScope s_law_judged) (by decide +kernel)) (sl := [8]) rfl (fun _ _ _ _ _ => pg_name (i := 8) sc_law_judged.nd rfl (Or.inl rfl)) (jg_name 8) pts_0 kt_nil (fun _ _ _ _ _ => (je_call (ip := []) hG (ok_law_told T hS) (hr.mono (by decide)) T.m_law_told T.F_law_told.kp T.b_law_told takes0 (ja_cons (JE.jp (je_frz (je_var 8))) (ja_cons (JE.jp (je_frz (je_var 0))) ja_nil))))))) ja_nil)) (je_callB (call_repr hG hr hS) d_repr T.n_repr bt_repr (ja_cons (JE.jp (je_frz (je_var 2))) ja_nil)) (nomark _)) (jw_or1 (jt_cmp (o_ne hS hr) d_ne (je_callB (call_repr hG hr hS) d_repr T.n_repr bt_repr (ja_cons (JE.jp (je_frz (je_var 0))) ja_nil)) (je_var 1) (nomark _))))) (jss_one (js_ret je_bl)) jss_nil)
    (jss_cons (js_if (jt_cmp o_notN d_notN (je_ix (o_ix hr) d_ix (je_var 2) je_int (fun _ _ => rfl)) je_non (nomark _)) (jss_one (js_ret je_bl)) jss_nil)
    (jss_cons (js_set (i := 3) sc_law_judged.nd rfl (Or.inr rfl) (je_frz (je_dispO (JP2.cons je_str je_int (JP2.cons je_str je_int (JP2.cons je_str je_int JP2.nil))))))
    (jss_cons (js_set (i := 4) sc_law_judged.nd rfl (Or.inr rfl) (je_frz (je_lc rfl sc_law_judged.nd (ji_list (je_var 0)) (blkOk_by (own := [("_law_step_here", 7)]) (N := N_law_judged) (sc := defScope s_law_judged) (by decide +kernel)) (sl := [7]) rfl (fun _ _ _ _ _ => pg_name (i := 7) sc_law_judged.nd rfl (Or.inl rfl)) (jg_name 7) pts_B (kt_one (fun _ _ _ _ _ => (jt_cmp (o_in hr) d_in (je_ix (o_ix hr) d_ix (je_var 7) je_int (fun _ _ => rfl)) (je_var 3) (by rfl)))) (fun _ _ _ _ _ => (je_ix (o_ix hr) d_ix (je_var 7) (je_ix (o_ix hr) d_ix (je_var 3) (je_ix (o_ix hr) d_ix (je_var 7) je_int (fun _ _ => rfl)) (fun _ _ => rfl)) (fun _ _ => rfl))))))
    (jss_cons (js_for (passes_of rfl) rfl (ji_rng1 T.n_range (ja_cons (JE.jp je_int) ja_nil)) (pg_name (i := 5) sc_law_judged.nd rfl (Or.inl rfl)) (jg_name 5)
    (jss_cons (js_set (i := 6) sc_law_judged.nd rfl (Or.inl rfl) (je_call (ip := []) hG (ok_modules_in T hS) (hr.mono (by decide)) T.m_modules_in T.F_modules_in.kp T.b_modules_in tk (ja_cons (JE.jp (je_frz (je_var 0))) ja_nil)))
    (jss_cons (js_if (jt_bor (jt_cmp (o_ne hS hr) d_ne (je_var 6) (je_callB cr_srtS d_srt T.n_sorted bt_sorted (ja_cons (JE.jp (je_frz (je_lc rfl sc_law_judged.nd (ji_enum T.n_enumerate (ja_cons (JE.jp (je_frz (je_var 4))) ja_nil)) (blkOk_by (own := [("_law_at", 9), ("_law_one", 10)]) (N := N_law_judged) (sc := defScope s_law_judged) (by decide +kernel)) (sl := [9, 10]) rfl (fun _ _ _ _ _ => pg_tup rfl (pgs_cons (pg_name (i := 9) sc_law_judged.nd rfl (Or.inl rfl)) (pgs_cons (pg_name (i := 10) sc_law_judged.nd rfl (Or.inl rfl)) pgs_nil))) (jg_tup (jgl_cons 9 (jgl_cons 10 jgl_nil))) pts_B (kt_one (fun _ _ _ _ _ => (jt_cmp (o_notIn hr) d_notIn (je_var 10) (je_slice (je_var 4) jo_no (jo_so (je_var 9))) (by rfl)))) (fun _ _ _ _ _ => (je_var 10))))) ja_nil)) (nomark _))) (jss_one (js_ret je_bl)) jss_nil)
    (jss_one (js_append 6 (fun h => pe_bm PySem.F.plainAttrs_list PySem.F.slot_list_append PySem.F.type_list_append m_append (pv 6) (pa_cons h pa_nil)) je_str)))))
    (jss_one (js_ret (je_and (je_cmp o_isN d_isN (je_callK (ip := []) hG (ok_check_program T hS) (hr.mono (by decide)) T.m_check_program T.F_check_program.kp T.ka_check_program_1 tk (ja_cons (JE.jp (je_frz (je_var 0))) ja_nil) jk_nil) je_non (nomark _)) (je_one (je_cmp (o_eq hS hr) d_eq (je_callB (call_repr hG hr hS) d_repr T.n_repr bt_repr (ja_cons (JE.jp (je_frz (je_var 0))) ja_nil)) (je_var 1) (nomark _)))))))))))))) (pr_law_judged T)
theorem prog_ok {ds : List PyData} (hl : ds.length ≤ 45) (h : ∀ d ∈ ds, Bs d) : Sm 8 500000 (.list ds) ∧ Bd 3 (.list ds) :=
  ⟨(Sm.list (fun d hd => (h d hd).1) hl).mono (by decide) (by decide), ⟨by omega, fun d hd => (h d hd).2⟩⟩
def jB (d : PyData) : Bool := (d.showable && decide (d.shown.length ≤ 3000)) && (decide (d.depth ≤ 3) && bdB 3 d)
theorem j_of {d : PyData} (h : jB d = true) : Sm 8 500000 d ∧ Bd 3 d := by
  unfold jB at h
  simp only [Bool.and_eq_true, decide_eq_true_eq] at h
  exact ⟨⟨h.1.1, Nat.le_trans h.1.2 (by decide), Nat.le_trans h.2.1 (by decide)⟩, bd_of 3 d h.2.2⟩
theorem jd {T : Tx K w mg} {d : PyData} {Φ : O → List O → Prop} {Ξ : Exn → List O → Prop} (h : Sm 8 500000 d ∧ Bd 3 d) (k : Φ (.fz (.bool true)) []) : S_law_judged T [.fz d] Φ Ξ := ⟨d, rfl, h.1, h.2, k⟩
theorem nm_all : ∀ {ds : List PyData}, (∀ d ∈ ds, noMut d = true) → noMutL ds = true
  | [], _ => rfl
  | d :: ds, h => by
    show (noMut d && noMutL ds) = true
    rw [h d List.mem_cons_self, nm_all fun x hx => h x (List.mem_cons_of_mem _ hx)]; rfl
theorem flat_rep (t : PyData) : ∀ n : Nat, (List.replicate n [t]).flatten.length = n ∧ ∀ d ∈ (List.replicate n [t]).flatten, d = t
  | 0 => ⟨rfl, fun d h => by cases h⟩
  | n + 1 => by
    obtain ⟨a, b⟩ := flat_rep t n
    rw [List.replicate_succ, List.flatten_cons]
    refine ⟨by rw [List.length_append, a, List.length_singleton]; omega, fun d hd => ?_⟩
    rcases List.mem_append.mp hd with h | h
    · exact List.mem_singleton.mp h
    · exact b d h
def S_law_right (T : Tx K w mg) : TSp := fun os Φ _ => os = [.tok] ∧ Φ (.fz (.bool true)) []
def t_law_right (T : Tx K w mg) : TSD :=
  (sSeq (sPar 1 2 (mCons (mFrz (mCall (S_law_names T) [] (mCons (mVar 0) (mCons (mC (.int 4)) mNil)))) (mCons (mFrz (mCall (S_law_names T) [] (mCons (mVar 0) (mCons (mC (.int 3)) mNil)))) mNil)))
    (sSeq (sSet 3 (mCall (S_law_program T) [] (mCons (mVar 0) (mCons (mFrz (mVar 1)) (mCons (mFrz (mVar 2)) (mCons (mC (.int 30)) mNil))))))
    (sSeq (sIf (tBor (tNt (tVal (mCall (S_law_judged T) [] (mCons (mFrz (mVar 3)) mNil))))) (sRet (mC (.bool false))) sNext)
    (sSeq (sApp 3 (mFrz (mCall (S_law_wrong_step T) [] (mCons (mVar 0) mNil))))
    (sSeq (sIf (tBor (tNt (tVal (mCall (S_law_judged T) [] (mCons (mFrz (mVar 3)) mNil))))) (sRet (mC (.bool false))) sNext)
    (sSeq (sDrop (mPop 3))
    (sSeq (sIf (tBor (tOrr (tNt (tVal (mCall (S_law_judged T) [] (mCons (mFrz (mVar 3)) mNil)))) (tOrr (tNt (tVal (mCall (S_law_judged T) [] (mCons (mFrz (mLs (mCons (mFrz (mTp (mCons (mC (.str "set")) (mCons (mC (.str "a")) (mCons (mC (.int 1)) mNil))))) mNil))) mNil)))) (tNt (tVal (mCall (S_law_judged T) [] (mCons (mFrz (mLs (mCons (mFrz (mTp (mCons (mC (.str "set")) (mCons (mC (.str "a")) (mCons (mC (.bool true)) mNil))))) mNil))) mNil))))))) (sRet (mC (.bool false))) sNext)
    (sSeq (sFor (iR1 (mCons (mC (.int 5)) mNil)) (gN 4) (sIf (tBor (tNt (tVal (mCall (S_law_judged T) [] (mCons (mFrz (mCall (S_law_spoilt T) [] (mCons (mVar 0) (mCons (mFrz (mVar 3)) mNil)))) mNil))))) (sRet (mC (.bool false))) sNext))
    (sSeq (sSet 5 (mFrz (mOp mulD (mLs (mCons (mFrz (mTp (mCons (mC (.str "set")) (mCons (mC (.str "a")) (mCons (mC (.int 1)) mNil))))) mNil)) (mOp addD (mC (.int 29)) (mCall (S_law_draw T) [] (mCons (mVar 0) (mCons (mC (.int 4)) mNil)))))))
    (sSeq (sSet 6 (mFrz (mLs (mCons (mC .none) (mCons (mC (.int 0)) (mCons (mC (.str "")) (mCons (mC (.str "fail")) (mCons (mFrz (mTp mNil)) (mCons (mFrz (mBor (mCB tupleD (mCons (mFrz (mVar 3)) mNil)))) (mCons (mFrz mDnew) (mCons (mFrz (mTp (mCons (mC (.str "fail")) mNil))) (mCons (mFrz (mDispO [((mC (.int 0)), (mTp (mCons (mC (.str "fail")) mNil)))])) (mCons (mC (.bool true)) mNil)))))))))))))
    (sRet (mAnd (mCall (S_law_judged T) [] (mCons (mFrz (mVar 5)) mNil)) (mAnd (mCall (S_law_judged T) [] (mCons (mFrz (mCall (S_law_choice T) [] (mCons (mVar 0) (mCons (mFrz (mVar 6)) mNil)))) mNil)) (mOp (eqD false) (mC (.int 30)) (mC (.int 30))))))))))))))))
theorem pr_law_right (T : Tx K w mg) (os : List O) (Φ : O → List O → Prop) (Ξ : Exn → List O → Prop) (hl : os.length = 1) (h : S_law_right T os Φ Ξ) : t_law_right T (fin [] Φ Ξ) (os ++ List.replicate (N_law_right.length - os.length) .un) := by
  obtain ⟨rfl, k⟩ := h
  show t_law_right T (fin [] Φ Ξ) [.tok, .un, .un, .un, .un, .un, .un]
  unfold t_law_right
  walk_at "fr"
  refine ⟨4, rfl, by decide, by decide, fun ms hm hms => ?_⟩
  walk_at "fr"
  refine ⟨3, rfl, by decide, by decide, fun ns hn hns => ?_⟩
  walk_at "fr"
  have hm : ms.length = 4 := hm
  have hn : ns.length = 3 := hn
  refine ⟨ms, ns, rfl, by omega, by omega, by omega, by omega, hms, hns, fun ds hl hd hnm => ?_⟩
  walk_at "fr"
  refine jd (prog_ok (by omega) hd) ?_
  walk_at "fr"
  refine ⟨rfl, fun v hv => ?_⟩
  walk_at "fr"
  have em : (ds.map O.fz ++ [O.fz v]) = (ds ++ [v]).map O.fz := by rw [List.map_append]; rfl
  have hdv : ∀ d ∈ ds ++ [v], Bs d := fun d h => by
    rcases List.mem_append.mp h with h | h
    · exact hd d h
    · rw [List.mem_singleton.mp h]; exact hv
  rw [em]
  walk_at "fr"
  refine ⟨by omega, jd (prog_ok (by rw [List.length_append]; show ds.length + 1 ≤ 45; omega) hdv) ?_⟩
  walk_at "fr"
  refine ⟨ds.map O.fz, .fz v, by rw [em]; rfl, ?_⟩
  walk_at "fr"
  refine jd (prog_ok (by omega) hd) ?_
  walk_at "fr"
  refine jd (j_of (by decide +kernel)) ?_
  walk_at "fr"
  refine jd (j_of (by decide +kernel)) ?_
  walk_at "fr"
  refine for_inv (fun _ ρ => ∃ o4 : O, ρ = [.tok, .fz (.list (ms.map .str)), .fz (.list (ns.map .str)), .lst (ds.map O.fz), o4, .un, .un]) ⟨_, rfl⟩ ?_ ?_
  · rintro i x ρ N hx ⟨o4, rfl⟩ hN
    walk_at "fr"
    refine ⟨ds, rfl, by omega, hd, fun es hes he => ?_⟩
    walk_at "fr"
    refine jd (prog_ok (by omega) he) ?_
    walk_at "fr"
    exact hN _ ⟨_, rfl⟩
  · rintro ρ ⟨o4, rfl⟩
    walk_at "fr"
    refine dr (by decide) (by decide) fun a a0 a1 => ?_
    walk_at "fr"
    refine ⟨by omega, by omega, by omega, nm_all hnm, by simp, _, rfl, ?_⟩
    obtain ⟨f1, f2⟩ := flat_rep (PyData.tuple [.str "set", .str "a", .int 1]) (29 + a).toNat
    refine jd (prog_ok (by rw [f1]; omega) fun d hd => ?_) ?_
    · rw [f2 d hd]
      exact bs_cl (by decide +kernel) (by decide +kernel) (by decide +kernel) (by decide +kernel)
    walk_at "fr"
    refine ch (by simp) (by simp) fun x hx => ?_
    walk_at "fr"
    refine jd ?_ ⟨true, rfl, k⟩
    simp only [List.mem_cons, List.not_mem_nil, or_false] at hx
    rcases hx with rfl | rfl | rfl | rfl | rfl | rfl | rfl | rfl | rfl | rfl
    · exact j_of (by decide +kernel)
    · exact j_of (by decide +kernel)
    · exact j_of (by decide +kernel)
    · exact j_of (by decide +kernel)
    · exact j_of (by decide +kernel)
    · exact ⟨(Sm.tuple (fun d h => (hd d h).1) (show ds.length ≤ 45 by omega)).mono (by decide) (by decide), ⟨by omega, fun d h => (hd d h).2⟩⟩
    · exact j_of (by decide +kernel)
    · exact j_of (by decide +kernel)
    · exact j_of (by decide +kernel)
    · exact j_of (by decide +kernel)
theorem ok_law_right (T : Tx K w mg) (hS : SysB base) : FnT P w K mg base 10 T.f_law_right T.d_law_right ["_law_pot_here"] [] (S_law_right T) := okT T.F_law_right sc_law_right (by decide) (by decide) (fun cdv A outer s H E hG hr tk => (jss_cons (js_par (i := 1) (j := 2) rfl sc_law_right.nd rfl rfl (by decide) rfl rfl (ja_cons (JE.jp (je_frz (je_call (ip := []) hG (ok_law_names T hS) (hr.mono (by decide)) T.m_law_names T.F_law_names.kp T.b_law_names tk (ja_cons (JE.jp (je_var 0)) (ja_cons (JE.jp je_int) ja_nil))))) (ja_cons (JE.jp (je_frz (je_call (ip := []) hG (ok_law_names T hS) (hr.mono (by decide)) T.m_law_names T.F_law_names.kp T.b_law_names tk (ja_cons (JE.jp (je_var 0)) (ja_cons (JE.jp je_int) ja_nil))))) ja_nil)) (by rfl))
    (jss_cons (js_set (i := 3) sc_law_right.nd rfl (Or.inl rfl) (je_call (ip := []) hG (ok_law_program T hS) (hr.mono (by decide)) T.m_law_program T.F_law_program.kp T.b_law_program tk (ja_cons (JE.jp (je_var 0)) (ja_cons (JE.jp (je_frz (je_var 1))) (ja_cons (JE.jp (je_frz (je_var 2))) (ja_cons (JE.jp je_int) ja_nil))))))
    (jss_cons (js_if (jt_bor (jt_not (jt_val (je_call (ip := []) hG (ok_law_judged T hS) (hr.mono (by decide)) T.m_law_judged T.F_law_judged.kp T.b_law_judged tk (ja_cons (JE.jp (je_frz (je_var 3))) ja_nil))))) (jss_one (js_ret je_bl)) jss_nil)
    (jss_cons (js_append 3 (fun h => pe_bm PySem.F.plainAttrs_list PySem.F.slot_list_append PySem.F.type_list_append m_append (pv 3) (pa_cons h pa_nil)) (je_frz (je_call (ip := []) hG (ok_law_wrong_step T hS) (hr.mono (by decide)) T.m_law_wrong_step T.F_law_wrong_step.kp T.b_law_wrong_step tk (ja_cons (JE.jp (je_var 0)) ja_nil))))
    (jss_cons (js_if (jt_bor (jt_not (jt_val (je_call (ip := []) hG (ok_law_judged T hS) (hr.mono (by decide)) T.m_law_judged T.F_law_judged.kp T.b_law_judged tk (ja_cons (JE.jp (je_frz (je_var 3))) ja_nil))))) (jss_one (js_ret je_bl)) jss_nil)
    (jss_cons (js_expr (je_pop 3 (pe_bm0 PySem.F.plainAttrs_list PySem.F.slot_list_pop PySem.F.type_list_pop m_pop0 (pv 3))))
    (jss_cons (js_if (jt_bor (JW.jt (jw_or (jt_not (jt_val (je_call (ip := []) hG (ok_law_judged T hS) (hr.mono (by decide)) T.m_law_judged T.F_law_judged.kp T.b_law_judged tk (ja_cons (JE.jp (je_frz (je_var 3))) ja_nil)))) (jw_or (jt_not (jt_val (je_call (ip := []) hG (ok_law_judged T hS) (hr.mono (by decide)) T.m_law_judged T.F_law_judged.kp T.b_law_judged tk (ja_cons (JE.jp (je_frz (je_ls (ja_cons (JE.jp (je_frz (je_tp (ja_cons (JE.jp je_str) (ja_cons (JE.jp je_str) (ja_cons (JE.jp je_int) ja_nil)))))) ja_nil)))) ja_nil)))) (jw_or1 (jt_not (jt_val (je_call (ip := []) hG (ok_law_judged T hS) (hr.mono (by decide)) T.m_law_judged T.F_law_judged.kp T.b_law_judged tk (ja_cons (JE.jp (je_frz (je_ls (ja_cons (JE.jp (je_frz (je_tp (ja_cons (JE.jp je_str) (ja_cons (JE.jp je_str) (ja_cons (JE.jp je_bl) ja_nil)))))) ja_nil)))) ja_nil))))))))) (jss_one (js_ret je_bl)) jss_nil)
    (jss_cons (js_for (passes_of rfl) rfl (ji_rng1 T.n_range (ja_cons (JE.jp je_int) ja_nil)) (pg_name (i := 4) sc_law_right.nd rfl (Or.inl rfl)) (jg_name 4)
    (jss_one (js_if (jt_bor (jt_not (jt_val (je_call (ip := []) hG (ok_law_judged T hS) (hr.mono (by decide)) T.m_law_judged T.F_law_judged.kp T.b_law_judged tk (ja_cons (JE.jp (je_frz (je_call (ip := []) hG (ok_law_spoilt T hS) (hr.mono (by decide)) T.m_law_spoilt T.F_law_spoilt.kp T.b_law_spoilt tk (ja_cons (JE.jp (je_var 0)) (ja_cons (JE.jp (je_frz (je_var 3))) ja_nil))))) ja_nil))))) (jss_one (js_ret je_bl)) jss_nil)))
    (jss_cons (js_set (i := 5) sc_law_right.nd rfl (Or.inl rfl) (je_frz (je_op o_mul d_mul (je_ls (ja_cons (JE.jp (je_frz (je_tp (ja_cons (JE.jp je_str) (ja_cons (JE.jp je_str) (ja_cons (JE.jp je_int) ja_nil)))))) ja_nil)) (je_op o_add d_add je_int (je_call (ip := []) hG (ok_law_draw T hS) (hr.mono (by decide)) T.m_law_draw T.F_law_draw.kp T.b_law_draw tk (ja_cons (JE.jp (je_var 0)) (ja_cons (JE.jp je_int) ja_nil)))))))
    (jss_cons (js_set (i := 6) sc_law_right.nd rfl (Or.inl rfl) (je_frz (je_ls (ja_cons (JE.jp je_non) (ja_cons (JE.jp je_int) (ja_cons (JE.jp je_str) (ja_cons (JE.jp je_str) (ja_cons (JE.jp (je_frz (je_tp ja_nil))) (ja_cons (JE.jp (je_frz (je_bor (je_callTy o_tuple d_tuple T.n_tuple bt_tuple (ja_cons (JE.jp (je_frz (je_var 3))) ja_nil))))) (ja_cons (JE.jp (je_frz je_dnew)) (ja_cons (JE.jp (je_frz (je_tp (ja_cons (JE.jp je_str) ja_nil)))) (ja_cons (JE.jp (je_frz (je_dispO (JP2.cons je_int (je_tp (ja_cons (JE.jp je_str) ja_nil)) JP2.nil)))) (ja_cons (JE.jp je_bl) ja_nil)))))))))))))
    (jss_one (js_ret (je_and (je_call (ip := []) hG (ok_law_judged T hS) (hr.mono (by decide)) T.m_law_judged T.F_law_judged.kp T.b_law_judged tk (ja_cons (JE.jp (je_frz (je_var 5))) ja_nil)) (je_and (je_call (ip := []) hG (ok_law_judged T hS) (hr.mono (by decide)) T.m_law_judged T.F_law_judged.kp T.b_law_judged tk (ja_cons (JE.jp (je_frz (je_call (ip := []) hG (ok_law_choice T hS) (hr.mono (by decide)) T.m_law_choice T.F_law_choice.kp T.b_law_choice tk (ja_cons (JE.jp (je_var 0)) (ja_cons (JE.jp (je_frz (je_var 6))) ja_nil))))) ja_nil)) (je_one (je_cmp (o_eq hS hr) d_eq (je_c (v := (.int 30)) (pe_glob rfl T.g_MOST_STEPS ⟨_, rfl⟩) (fun _ => .int _)) je_int (nomark _)))))))))))))))))) (pr_law_right T)
def S_law (T : Tx K w mg) : TSp := S_law63
def t_law (T : Tx K w mg) : TSD :=
  (sRet (mCB allD (mCons (mFrz (mLc (iR1 (mCons (mFrz (mCB maxD (mCons (mC (.int 1)) (mCons (mFrz (mCB minD (mCons (mC (.int 5)) (mCons (mFrz (mScrLen 0)) mNil)))) mNil)))) mNil)) [1] (gN 1) tYs (mCall (S_law_right T) [] (mCons (mCall (S_law_pot T) [] (mCons (mVar 0) (mCons (mFrz (mVar 1)) mNil))) mNil)))) mNil)))
theorem pr_law (T : Tx K w mg) (os : List O) (Φ : O → List O → Prop) (Ξ : Exn → List O → Prop) (hl : os.length = 1) (h : S_law T os Φ Ξ) : t_law T (fin [] Φ Ξ) (os ++ List.replicate (N_law.length - os.length) .un) := by
  obtain ⟨ns, rfl, hn, k⟩ := h
  show t_law T (fin [] Φ Ξ) [.scr ns, .un]
  unfold t_law
  walk_at "fr"
  refine ⟨ns, rfl, by (repeat' split) <;> omega, by (repeat' split) <;> omega, ?_⟩
  refine go_inv (fun i acc => ∃ n, acc = (List.replicate n true).map (fun b => .fz (.bool b)) ∧ n ≤ i) ⟨0, rfl, Nat.le_refl _⟩ ?_ ?_
  · rintro i x acc N hx ⟨n, rfl, hni⟩ hN
    have hi := (List.getElem?_eq_some_iff.mp hx).1
    rw [rng_len] at hi
    have hi5 : i < 5 := by revert hi; (repeat' split) <;> omega
    rw [rng_at hi] at hx
    have hx2 : x = .int (0 + (i : Int)) := (Option.some.inj hx).symm
    subst hx2
    walk_at "fr"
    refine ⟨ns, _, rfl, by omega, by omega, hn, ?_⟩
    walk_at "fr"
    refine ⟨rfl, by rw [List.length_replicate]; omega, hN _ ⟨n + 1, ?_, Nat.succ_le_succ hni⟩⟩
    rw [List.replicate_succ', List.map_append]; rfl
  · rintro acc ⟨n, rfl, hni⟩
    walk_at "fr"
    exact cast k (List.all_eq_true.mpr fun b hb => (List.eq_of_mem_replicate hb)).symm
theorem ok_law (T : Tx K w mg) (hS : SysB base) : FnT P w K mg base 11 T.f_law T.d_law ["_law_script"] [] (S_law T) := okT T.F_law sc_law (by decide) (by decide) (fun cdv A outer s H E hG hr tk => (jss_one (js_ret (je_callB (cr_all rfl) d_all T.n_all bt_all (ja_cons (JE.jp (je_frz (je_lc rfl sc_law.nd (ji_rng1 T.n_range (ja_cons (JE.jp (je_frz (je_callB (o_max rfl) d_max T.n_max bt_max (ja_cons (JE.jp je_int) (ja_cons (JE.jp (je_frz (je_callB (o_min rfl) d_min T.n_min bt_min (ja_cons (JE.jp je_int) (ja_cons (JE.jp (je_frz (je_scrLen 0 T.n_len))) ja_nil))))) ja_nil))))) ja_nil)) (blkOk_by (own := [("_law_index", 1)]) (N := N_law) (sc := defScope s_law) (by decide +kernel)) (sl := [1]) rfl (fun _ _ _ _ _ => pg_name (i := 1) sc_law.nd rfl (Or.inl rfl)) (jg_name 1) pts_0 kt_nil (fun _ _ _ _ _ => (je_call (ip := []) hG (ok_law_right T hS) (hr.mono (by decide)) T.m_law_right T.F_law_right.kp T.b_law_right takes0 (ja_cons (JE.jp (je_call (ip := []) hG (ok_law_pot T hS) (hr.mono (by decide)) T.m_law_pot T.F_law_pot.kp T.b_law_pot takes0 (ja_cons (JE.jp (je_var 0)) (ja_cons (JE.jp (je_frz (je_var 1))) ja_nil)))) ja_nil)))))) ja_nil))))) (pr_law T)
end
theorem all_mk {l : PySem.W.OpenLaw} {w : World} {K : PySem.W.Frag} {h : Heap} {mg : Str → Option Value} {fa : Addr} (X : K.In h) (G : h.Ns mainGlobals mg) (hfa : mg "law" = some (.ref fa))
    {c_LoaderError : Addr}
    {c_InvalidProgram : Addr}
    {c_InvalidLibrary : Addr}
    {c_InvalidMains : Addr}
    {c_InvalidText : Addr}
    {nm_InvalidProgram qn_InvalidProgram : Str} {N_InvalidProgram : Addr} {bs_InvalidProgram : List Value} {sn_InvalidProgram : List Str} {sb_InvalidProgram : List Value} {ab_InvalidProgram : Bool} {co_InvalidProgram : Option Bool} {dd_InvalidProgram : Option Addr} {k0_InvalidProgram k1_InvalidProgram k2_InvalidProgram k3_InvalidProgram k5_InvalidProgram : Option Value} {bm_InvalidProgram : List Value}
    {f_InvalidProgram__init : Addr} {od_InvalidProgram__init an_InvalidProgram__init : Option Addr} {sl_InvalidProgram__init : Array (Option Value)} {oc_InvalidProgram__init kV_InvalidProgram__init dc_InvalidProgram__init pm_InvalidProgram__init cd_InvalidProgram__init ct_InvalidProgram__init : Value}
    {f_is_name : Addr} {od_is_name an_is_name : Option Addr} {sl_is_name : Array (Option Value)} {oc_is_name kV_is_name dc_is_name pm_is_name cd_is_name ct_is_name : Value}
    {f_is_integer : Addr} {od_is_integer an_is_integer : Option Addr} {sl_is_integer : Array (Option Value)} {oc_is_integer kV_is_integer dc_is_integer pm_is_integer cd_is_integer ct_is_integer : Value}
    {f_is_variable : Addr} {od_is_variable an_is_variable : Option Addr} {sl_is_variable : Array (Option Value)} {oc_is_variable kV_is_variable dc_is_variable pm_is_variable cd_is_variable ct_is_variable : Value}
    {f_is_item : Addr} {od_is_item an_is_item : Option Addr} {sl_is_item : Array (Option Value)} {oc_is_item kV_is_item dc_is_item pm_is_item cd_is_item ct_is_item : Value}
    {f_is_step : Addr} {od_is_step an_is_step : Option Addr} {sl_is_step : Array (Option Value)} {oc_is_step kV_is_step dc_is_step pm_is_step cd_is_step ct_is_step : Value}
    {f_step_modules : Addr} {od_step_modules an_step_modules : Option Addr} {sl_step_modules : Array (Option Value)} {oc_step_modules kV_step_modules dc_step_modules pm_step_modules cd_step_modules ct_step_modules : Value}
    {f_is_wrong : Addr} {od_is_wrong an_is_wrong : Option Addr} {sl_is_wrong : Array (Option Value)} {oc_is_wrong kV_is_wrong dc_is_wrong pm_is_wrong cd_is_wrong ct_is_wrong : Value}
    {f_first_problem D_first_problem : Addr} {od_first_problem an_first_problem : Option Addr} {sl_first_problem : Array (Option Value)} {oc_first_problem dc_first_problem pm_first_problem cd_first_problem ct_first_problem : Value}
    {f_check_program D_check_program : Addr} {od_check_program an_check_program : Option Addr} {sl_check_program : Array (Option Value)} {oc_check_program dc_check_program pm_check_program cd_check_program ct_check_program : Value}
    {f_modules_in : Addr} {od_modules_in an_modules_in : Option Addr} {sl_modules_in : Array (Option Value)} {oc_modules_in kV_modules_in dc_modules_in pm_modules_in cd_modules_in ct_modules_in : Value}
    {f_law_pot : Addr} {od_law_pot an_law_pot : Option Addr} {sl_law_pot : Array (Option Value)} {oc_law_pot kV_law_pot dc_law_pot pm_law_pot cd_law_pot ct_law_pot : Value}
    {f_law_draw : Addr} {od_law_draw an_law_draw : Option Addr} {sl_law_draw : Array (Option Value)} {oc_law_draw kV_law_draw dc_law_draw pm_law_draw cd_law_draw ct_law_draw : Value}
    {f_law_choice : Addr} {od_law_choice an_law_choice : Option Addr} {sl_law_choice : Array (Option Value)} {oc_law_choice kV_law_choice dc_law_choice pm_law_choice cd_law_choice ct_law_choice : Value}
    {f_law_name : Addr} {od_law_name an_law_name : Option Addr} {sl_law_name : Array (Option Value)} {oc_law_name kV_law_name dc_law_name pm_law_name cd_law_name ct_law_name : Value}
    {f_law_names : Addr} {od_law_names an_law_names : Option Addr} {sl_law_names : Array (Option Value)} {oc_law_names kV_law_names dc_law_names pm_law_names cd_law_names ct_law_names : Value}
    {f_law_integer : Addr} {od_law_integer an_law_integer : Option Addr} {sl_law_integer : Array (Option Value)} {oc_law_integer kV_law_integer dc_law_integer pm_law_integer cd_law_integer ct_law_integer : Value}
    {f_law_step : Addr} {od_law_step an_law_step : Option Addr} {sl_law_step : Array (Option Value)} {oc_law_step kV_law_step dc_law_step pm_law_step cd_law_step ct_law_step : Value}
    {f_law_program : Addr} {od_law_program an_law_program : Option Addr} {sl_law_program : Array (Option Value)} {oc_law_program kV_law_program dc_law_program pm_law_program cd_law_program ct_law_program : Value}
    {f_law_wrong_step : Addr} {od_law_wrong_step an_law_wrong_step : Option Addr} {sl_law_wrong_step : Array (Option Value)} {oc_law_wrong_step kV_law_wrong_step dc_law_wrong_step pm_law_wrong_step cd_law_wrong_step ct_law_wrong_step : Value}
    {f_law_spoilt : Addr} {od_law_spoilt an_law_spoilt : Option Addr} {sl_law_spoilt : Array (Option Value)} {oc_law_spoilt kV_law_spoilt dc_law_spoilt pm_law_spoilt cd_law_spoilt ct_law_spoilt : Value}
    {f_law_is_whole : Addr} {od_law_is_whole an_law_is_whole : Option Addr} {sl_law_is_whole : Array (Option Value)} {oc_law_is_whole kV_law_is_whole dc_law_is_whole pm_law_is_whole cd_law_is_whole ct_law_is_whole : Value}
    {f_law_is_word : Addr} {od_law_is_word an_law_is_word : Option Addr} {sl_law_is_word : Array (Option Value)} {oc_law_is_word kV_law_is_word dc_law_is_word pm_law_is_word cd_law_is_word ct_law_is_word : Value}
    {f_law_fits : Addr} {od_law_fits an_law_fits : Option Addr} {sl_law_fits : Array (Option Value)} {oc_law_fits kV_law_fits dc_law_fits pm_law_fits cd_law_fits ct_law_fits : Value}
    {f_law_is_right_step : Addr} {od_law_is_right_step an_law_is_right_step : Option Addr} {sl_law_is_right_step : Array (Option Value)} {oc_law_is_right_step kV_law_is_right_step dc_law_is_right_step pm_law_is_right_step cd_law_is_right_step ct_law_is_right_step : Value}
    {f_law_is_wrong : Addr} {od_law_is_wrong an_law_is_wrong : Option Addr} {sl_law_is_wrong : Array (Option Value)} {oc_law_is_wrong kV_law_is_wrong dc_law_is_wrong pm_law_is_wrong cd_law_is_wrong ct_law_is_wrong : Value}
    {f_law_due : Addr} {od_law_due an_law_due : Option Addr} {sl_law_due : Array (Option Value)} {oc_law_due kV_law_due dc_law_due pm_law_due cd_law_due ct_law_due : Value}
    {f_law_told : Addr} {od_law_told an_law_told : Option Addr} {sl_law_told : Array (Option Value)} {oc_law_told kV_law_told dc_law_told pm_law_told cd_law_told ct_law_told : Value}
    {f_law_judged : Addr} {od_law_judged an_law_judged : Option Addr} {sl_law_judged : Array (Option Value)} {oc_law_judged kV_law_judged dc_law_judged pm_law_judged cd_law_judged ct_law_judged : Value}
    {f_law_right : Addr} {od_law_right an_law_right : Option Addr} {sl_law_right : Array (Option Value)} {oc_law_right kV_law_right dc_law_right pm_law_right cd_law_right ct_law_right : Value}
    {f_law : Addr} {od_law an_law : Option Addr} {sl_law : Array (Option Value)} {oc_law kV_law dc_law pm_law cd_law ct_law : Value}
    {a_VARIABLES : Addr} {od_VARIABLES : Option Addr} {sl_VARIABLES : Array (Option Value)} {nn_VARIABLES : Nat} {t_VARIABLES_0 t_VARIABLES_1 t_VARIABLES_2 t_VARIABLES_3 : Tok}
    {t_MOST_LETTERS : Tok}
    {t_LETTERS : Tok}
    {t_MOST_STEPS : Tok}
    {a_FORMS : Addr} {es_FORMS : Array DictEntry} {nn_FORMS : Nat}
    {a_FORMS_0 : Addr} {od_FORMS_0 : Option Addr} {sl_FORMS_0 : Array (Option Value)} {nn_FORMS_0 : Nat} {t_FORMS_0_0 t_FORMS_0_1 : Tok}
    {a_FORMS_1 : Addr} {od_FORMS_1 : Option Addr} {sl_FORMS_1 : Array (Option Value)} {nn_FORMS_1 : Nat} {t_FORMS_1_0 t_FORMS_1_1 : Tok}
    {a_FORMS_2 : Addr} {od_FORMS_2 : Option Addr} {sl_FORMS_2 : Array (Option Value)} {nn_FORMS_2 : Nat} {t_FORMS_2_0 t_FORMS_2_1 : Tok}
    {a_FORMS_3 : Addr} {od_FORMS_3 : Option Addr} {sl_FORMS_3 : Array (Option Value)} {nn_FORMS_3 : Nat} {t_FORMS_3_0 t_FORMS_3_1 : Tok}
    {a_FORMS_4 : Addr} {od_FORMS_4 : Option Addr} {sl_FORMS_4 : Array (Option Value)} {nn_FORMS_4 : Nat} {t_FORMS_4_0 t_FORMS_4_1 t_FORMS_4_2 : Tok}
    {a_FORMS_5 : Addr} {od_FORMS_5 : Option Addr} {sl_FORMS_5 : Array (Option Value)} {nn_FORMS_5 : Nat} {t_FORMS_5_0 : Tok}
    {a_FORMS_6 : Addr} {od_FORMS_6 : Option Addr} {sl_FORMS_6 : Array (Option Value)} {nn_FORMS_6 : Nat} {t_FORMS_6_0 t_FORMS_6_1 : Tok}
    {a_FORMS_7 : Addr} {od_FORMS_7 : Option Addr} {sl_FORMS_7 : Array (Option Value)} {nn_FORMS_7 : Nat}
    (A_LoaderError : PySem.W.nsIn K mainGlobals "LoaderError" = some (some (.ref c_LoaderError)))
    (A_InvalidProgram : PySem.W.nsIn K mainGlobals "InvalidProgram" = some (some (.ref c_InvalidProgram)))
    (A_InvalidLibrary : PySem.W.nsIn K mainGlobals "InvalidLibrary" = some (some (.ref c_InvalidLibrary)))
    (A_InvalidMains : PySem.W.nsIn K mainGlobals "InvalidMains" = some (some (.ref c_InvalidMains)))
    (A_InvalidText : PySem.W.nsIn K mainGlobals "InvalidText" = some (some (.ref c_InvalidText)))
    (X2_LoaderError : PySem.W.subIn K (.ref c_LoaderError) (.type "BaseException") = some true)
    (X4_LoaderError : PySem.W.keepIn K (.ref c_LoaderError) = true)
    (Y6 : PySem.W.specialIn K (.builtin "object.__class__") "__get__" = some (some (.builtin "getset_descriptor.__get__")))
    (Y7 : PySem.W.takesIn K (.builtin "object.__class__") = some true)
    (Y1_LoaderError : PySem.W.findIn K (.ref c_LoaderError) "__getattribute__" = some (some (.builtin "BaseException.__getattribute__")))
    (Y2_LoaderError : PySem.W.findIn K (.ref c_LoaderError) "__getattr__" = some none)
    (Y4_LoaderError : PySem.W.hasDictIn K c_LoaderError = true)
    (Y5_LoaderError : PySem.W.findIn K (.ref c_LoaderError) "__class__" = some (some (.builtin "object.__class__")))
    (Y8_LoaderError : PySem.W.mroIn K c_LoaderError (.type "object") = some true)
    (xi_LoaderError : PySem.W.excIn K c_LoaderError [.type "ValueError", .type "Exception", .type "BaseException", .type "object"] "ValueError.__new__" = true)
    (sg_LoaderError : PySem.W.specialIn K (.ref c_LoaderError) "__getattribute__" = some (some (.builtin "type.__getattribute__")))
    (rd_LoaderError : PySem.W.readsIn K c_LoaderError (.type "type") = true)
    (fc_LoaderError : PySem.W.findCls K (.ref c_LoaderError) (.type "type") "__init__" = some (.val (.builtin bVE.ini)))
    (XL_InvalidProgram : K.lookup c_InvalidProgram = some (excClassObj nm_InvalidProgram qn_InvalidProgram c_InvalidProgram N_InvalidProgram bs_InvalidProgram bm_InvalidProgram true sn_InvalidProgram sb_InvalidProgram ab_InvalidProgram co_InvalidProgram dd_InvalidProgram k0_InvalidProgram k1_InvalidProgram k2_InvalidProgram k3_InvalidProgram k5_InvalidProgram (Bs.new bVE)))
    (X3_InvalidProgram : PySem.W.typeIn K (.ref c_InvalidProgram) = some (.type "type"))
    (X2_InvalidProgram : PySem.W.subIn K (.ref c_InvalidProgram) (.type "BaseException") = some true)
    (X4_InvalidProgram : PySem.W.keepIn K (.ref c_InvalidProgram) = true)
    (Y1_InvalidProgram : PySem.W.findIn K (.ref c_InvalidProgram) "__getattribute__" = some (some (.builtin "BaseException.__getattribute__")))
    (Y2_InvalidProgram : PySem.W.findIn K (.ref c_InvalidProgram) "__getattr__" = some none)
    (Y4_InvalidProgram : PySem.W.hasDictIn K c_InvalidProgram = true)
    (Y5_InvalidProgram : PySem.W.findIn K (.ref c_InvalidProgram) "__class__" = some (some (.builtin "object.__class__")))
    (Y8_InvalidProgram : PySem.W.mroIn K c_InvalidProgram (.type "object") = some true)
    (XT_InvalidProgram : PySem.W.excTail (Bs.tl bVE) bm_InvalidProgram = true)
    (X1_InvalidProgram : PySem.W.findIn K (.ref c_InvalidProgram) "__setattr__" = some (some (.builtin "object.__setattr__")))
    (nf_InvalidProgram_position : PySem.W.findIn K (.ref c_InvalidProgram) "position" = some none)
    (zs_InvalidProgram_LoaderError : PySem.W.subIn K (.ref c_InvalidProgram) (.ref c_LoaderError) = some true)
    (zc_LoaderError : PySem.W.isClsIn K c_LoaderError = true)
    (zt_LoaderError : PySem.W.typeIn K (.ref c_LoaderError) = some (.type "type"))
    (zb_LoaderError : PySem.W.subIn K (.ref c_LoaderError) (.type "BaseException") = some true)
    (zs_InvalidProgram_InvalidLibrary : PySem.W.subIn K (.ref c_InvalidProgram) (.ref c_InvalidLibrary) = some false)
    (zc_InvalidLibrary : PySem.W.isClsIn K c_InvalidLibrary = true)
    (zt_InvalidLibrary : PySem.W.typeIn K (.ref c_InvalidLibrary) = some (.type "type"))
    (zn_InvalidProgram_InvalidLibrary : (c_InvalidProgram == c_InvalidLibrary) = false)
    (zs_InvalidProgram_InvalidMains : PySem.W.subIn K (.ref c_InvalidProgram) (.ref c_InvalidMains) = some false)
    (zc_InvalidMains : PySem.W.isClsIn K c_InvalidMains = true)
    (zt_InvalidMains : PySem.W.typeIn K (.ref c_InvalidMains) = some (.type "type"))
    (zn_InvalidProgram_InvalidMains : (c_InvalidProgram == c_InvalidMains) = false)
    (zs_InvalidProgram_InvalidText : PySem.W.subIn K (.ref c_InvalidProgram) (.ref c_InvalidText) = some false)
    (zc_InvalidText : PySem.W.isClsIn K c_InvalidText = true)
    (zt_InvalidText : PySem.W.typeIn K (.ref c_InvalidText) = some (.type "type"))
    (zn_InvalidProgram_InvalidText : (c_InvalidProgram == c_InvalidText) = false)
    (zs_InvalidProgram_ValueError : PySem.W.subIn K (.ref c_InvalidProgram) (.type "ValueError") = some true)
    (zs_InvalidProgram_InvalidProgram : PySem.W.subIn K (.ref c_InvalidProgram) (.ref c_InvalidProgram) = some true)
    (zc_InvalidProgram : PySem.W.isClsIn K c_InvalidProgram = true)
    (zt_InvalidProgram : PySem.W.typeIn K (.ref c_InvalidProgram) = some (.type "type"))
    (A_InvalidProgram__init : PySem.W.findIn K (.ref c_InvalidProgram) "__init__" = some (some (.ref f_InvalidProgram__init)))
    (i_InvalidProgram__init : PySem.W.isFn K (.ref f_InvalidProgram__init) = true)
    (TI_InvalidProgram__init : PySem.W.typeIn K (.ref f_InvalidProgram__init) = some (.type "function"))
    (L_InvalidProgram__init : K.lookup f_InvalidProgram__init = some ⟨oc_InvalidProgram__init, od_InvalidProgram__init, .func (PySem.W.fnOf "__init__" "InvalidProgram.__init__" (defArgs s_InvalidProgram__init) (defBody s_InvalidProgram__init) (defScope s_InvalidProgram__init) .none kV_InvalidProgram__init dc_InvalidProgram__init pm_InvalidProgram__init an_InvalidProgram__init cd_InvalidProgram__init ct_InvalidProgram__init), sl_InvalidProgram__init⟩)
    (C_InvalidProgram__init : PySem.W.codeIn K cd_InvalidProgram__init "InvalidProgram.__init__" = true)
    (K_InvalidProgram__init : PySem.W.keepIn K (.ref f_InvalidProgram__init) = true)
    (A_is_name : PySem.W.nsIn K mainGlobals "is_name" = some (some (.ref f_is_name)))
    (L_is_name : K.lookup f_is_name = some ⟨oc_is_name, od_is_name, .func (PySem.W.fnOf "is_name" "is_name" (defArgs s_is_name) (defBody s_is_name) (defScope s_is_name) .none kV_is_name dc_is_name pm_is_name an_is_name cd_is_name ct_is_name), sl_is_name⟩)
    (C_is_name : PySem.W.codeIn K cd_is_name "is_name" = true)
    (K_is_name : PySem.W.keepIn K (.ref f_is_name) = true)
    (A_is_integer : PySem.W.nsIn K mainGlobals "is_integer" = some (some (.ref f_is_integer)))
    (L_is_integer : K.lookup f_is_integer = some ⟨oc_is_integer, od_is_integer, .func (PySem.W.fnOf "is_integer" "is_integer" (defArgs s_is_integer) (defBody s_is_integer) (defScope s_is_integer) .none kV_is_integer dc_is_integer pm_is_integer an_is_integer cd_is_integer ct_is_integer), sl_is_integer⟩)
    (C_is_integer : PySem.W.codeIn K cd_is_integer "is_integer" = true)
    (K_is_integer : PySem.W.keepIn K (.ref f_is_integer) = true)
    (A_is_variable : PySem.W.nsIn K mainGlobals "is_variable" = some (some (.ref f_is_variable)))
    (L_is_variable : K.lookup f_is_variable = some ⟨oc_is_variable, od_is_variable, .func (PySem.W.fnOf "is_variable" "is_variable" (defArgs s_is_variable) (defBody s_is_variable) (defScope s_is_variable) .none kV_is_variable dc_is_variable pm_is_variable an_is_variable cd_is_variable ct_is_variable), sl_is_variable⟩)
    (C_is_variable : PySem.W.codeIn K cd_is_variable "is_variable" = true)
    (K_is_variable : PySem.W.keepIn K (.ref f_is_variable) = true)
    (A_is_item : PySem.W.nsIn K mainGlobals "is_item" = some (some (.ref f_is_item)))
    (L_is_item : K.lookup f_is_item = some ⟨oc_is_item, od_is_item, .func (PySem.W.fnOf "is_item" "is_item" (defArgs s_is_item) (defBody s_is_item) (defScope s_is_item) .none kV_is_item dc_is_item pm_is_item an_is_item cd_is_item ct_is_item), sl_is_item⟩)
    (C_is_item : PySem.W.codeIn K cd_is_item "is_item" = true)
    (K_is_item : PySem.W.keepIn K (.ref f_is_item) = true)
    (A_is_step : PySem.W.nsIn K mainGlobals "is_step" = some (some (.ref f_is_step)))
    (L_is_step : K.lookup f_is_step = some ⟨oc_is_step, od_is_step, .func (PySem.W.fnOf "is_step" "is_step" (defArgs s_is_step) (defBody s_is_step) (defScope s_is_step) .none kV_is_step dc_is_step pm_is_step an_is_step cd_is_step ct_is_step), sl_is_step⟩)
    (C_is_step : PySem.W.codeIn K cd_is_step "is_step" = true)
    (K_is_step : PySem.W.keepIn K (.ref f_is_step) = true)
    (A_step_modules : PySem.W.nsIn K mainGlobals "step_modules" = some (some (.ref f_step_modules)))
    (L_step_modules : K.lookup f_step_modules = some ⟨oc_step_modules, od_step_modules, .func (PySem.W.fnOf "step_modules" "step_modules" (defArgs s_step_modules) (defBody s_step_modules) (defScope s_step_modules) .none kV_step_modules dc_step_modules pm_step_modules an_step_modules cd_step_modules ct_step_modules), sl_step_modules⟩)
    (C_step_modules : PySem.W.codeIn K cd_step_modules "step_modules" = true)
    (K_step_modules : PySem.W.keepIn K (.ref f_step_modules) = true)
    (A_is_wrong : PySem.W.nsIn K mainGlobals "is_wrong" = some (some (.ref f_is_wrong)))
    (L_is_wrong : K.lookup f_is_wrong = some ⟨oc_is_wrong, od_is_wrong, .func (PySem.W.fnOf "is_wrong" "is_wrong" (defArgs s_is_wrong) (defBody s_is_wrong) (defScope s_is_wrong) .none kV_is_wrong dc_is_wrong pm_is_wrong an_is_wrong cd_is_wrong ct_is_wrong), sl_is_wrong⟩)
    (C_is_wrong : PySem.W.codeIn K cd_is_wrong "is_wrong" = true)
    (K_is_wrong : PySem.W.keepIn K (.ref f_is_wrong) = true)
    (A_first_problem : PySem.W.nsIn K mainGlobals "first_problem" = some (some (.ref f_first_problem)))
    (L_first_problem : K.lookup f_first_problem = some ⟨oc_first_problem, od_first_problem, .func (PySem.W.fnOf "first_problem" "first_problem" (defArgs s_first_problem) (defBody s_first_problem) (defScope s_first_problem) .none (.ref D_first_problem) dc_first_problem pm_first_problem an_first_problem cd_first_problem ct_first_problem), sl_first_problem⟩)
    (C_first_problem : PySem.W.codeIn K cd_first_problem "first_problem" = true)
    (K_first_problem : PySem.W.keepIn K (.ref f_first_problem) = true)
    (D_first_problem_is_main : PySem.W.nsIn K D_first_problem "is_main" = some (some (.bool false)))
    (D_first_problem_known : PySem.W.nsIn K D_first_problem "known" = some (some .none))
    (A_check_program : PySem.W.nsIn K mainGlobals "check_program" = some (some (.ref f_check_program)))
    (L_check_program : K.lookup f_check_program = some ⟨oc_check_program, od_check_program, .func (PySem.W.fnOf "check_program" "check_program" (defArgs s_check_program) (defBody s_check_program) (defScope s_check_program) .none (.ref D_check_program) dc_check_program pm_check_program an_check_program cd_check_program ct_check_program), sl_check_program⟩)
    (C_check_program : PySem.W.codeIn K cd_check_program "check_program" = true)
    (K_check_program : PySem.W.keepIn K (.ref f_check_program) = true)
    (D_check_program_is_main : PySem.W.nsIn K D_check_program "is_main" = some (some (.bool false)))
    (A_modules_in : PySem.W.nsIn K mainGlobals "modules_in" = some (some (.ref f_modules_in)))
    (L_modules_in : K.lookup f_modules_in = some ⟨oc_modules_in, od_modules_in, .func (PySem.W.fnOf "modules_in" "modules_in" (defArgs s_modules_in) (defBody s_modules_in) (defScope s_modules_in) .none kV_modules_in dc_modules_in pm_modules_in an_modules_in cd_modules_in ct_modules_in), sl_modules_in⟩)
    (C_modules_in : PySem.W.codeIn K cd_modules_in "modules_in" = true)
    (K_modules_in : PySem.W.keepIn K (.ref f_modules_in) = true)
    (A_law_pot : PySem.W.nsIn K mainGlobals "_law_pot" = some (some (.ref f_law_pot)))
    (L_law_pot : K.lookup f_law_pot = some ⟨oc_law_pot, od_law_pot, .func (PySem.W.fnOf "_law_pot" "_law_pot" (defArgs s_law_pot) (defBody s_law_pot) (defScope s_law_pot) .none kV_law_pot dc_law_pot pm_law_pot an_law_pot cd_law_pot ct_law_pot), sl_law_pot⟩)
    (C_law_pot : PySem.W.codeIn K cd_law_pot "_law_pot" = true)
    (K_law_pot : PySem.W.keepIn K (.ref f_law_pot) = true)
    (A_law_draw : PySem.W.nsIn K mainGlobals "_law_draw" = some (some (.ref f_law_draw)))
    (L_law_draw : K.lookup f_law_draw = some ⟨oc_law_draw, od_law_draw, .func (PySem.W.fnOf "_law_draw" "_law_draw" (defArgs s_law_draw) (defBody s_law_draw) (defScope s_law_draw) .none kV_law_draw dc_law_draw pm_law_draw an_law_draw cd_law_draw ct_law_draw), sl_law_draw⟩)
    (C_law_draw : PySem.W.codeIn K cd_law_draw "_law_draw" = true)
    (K_law_draw : PySem.W.keepIn K (.ref f_law_draw) = true)
    (A_law_choice : PySem.W.nsIn K mainGlobals "_law_choice" = some (some (.ref f_law_choice)))
    (L_law_choice : K.lookup f_law_choice = some ⟨oc_law_choice, od_law_choice, .func (PySem.W.fnOf "_law_choice" "_law_choice" (defArgs s_law_choice) (defBody s_law_choice) (defScope s_law_choice) .none kV_law_choice dc_law_choice pm_law_choice an_law_choice cd_law_choice ct_law_choice), sl_law_choice⟩)
    (C_law_choice : PySem.W.codeIn K cd_law_choice "_law_choice" = true)
    (K_law_choice : PySem.W.keepIn K (.ref f_law_choice) = true)
    (A_law_name : PySem.W.nsIn K mainGlobals "_law_name" = some (some (.ref f_law_name)))
    (L_law_name : K.lookup f_law_name = some ⟨oc_law_name, od_law_name, .func (PySem.W.fnOf "_law_name" "_law_name" (defArgs s_law_name) (defBody s_law_name) (defScope s_law_name) .none kV_law_name dc_law_name pm_law_name an_law_name cd_law_name ct_law_name), sl_law_name⟩)
    (C_law_name : PySem.W.codeIn K cd_law_name "_law_name" = true)
    (K_law_name : PySem.W.keepIn K (.ref f_law_name) = true)
    (A_law_names : PySem.W.nsIn K mainGlobals "_law_names" = some (some (.ref f_law_names)))
    (L_law_names : K.lookup f_law_names = some ⟨oc_law_names, od_law_names, .func (PySem.W.fnOf "_law_names" "_law_names" (defArgs s_law_names) (defBody s_law_names) (defScope s_law_names) .none kV_law_names dc_law_names pm_law_names an_law_names cd_law_names ct_law_names), sl_law_names⟩)
    (C_law_names : PySem.W.codeIn K cd_law_names "_law_names" = true)
    (K_law_names : PySem.W.keepIn K (.ref f_law_names) = true)
    (A_law_integer : PySem.W.nsIn K mainGlobals "_law_integer" = some (some (.ref f_law_integer)))
    (L_law_integer : K.lookup f_law_integer = some ⟨oc_law_integer, od_law_integer, .func (PySem.W.fnOf "_law_integer" "_law_integer" (defArgs s_law_integer) (defBody s_law_integer) (defScope s_law_integer) .none kV_law_integer dc_law_integer pm_law_integer an_law_integer cd_law_integer ct_law_integer), sl_law_integer⟩)
    (C_law_integer : PySem.W.codeIn K cd_law_integer "_law_integer" = true)
    (K_law_integer : PySem.W.keepIn K (.ref f_law_integer) = true)
    (A_law_step : PySem.W.nsIn K mainGlobals "_law_step" = some (some (.ref f_law_step)))
    (L_law_step : K.lookup f_law_step = some ⟨oc_law_step, od_law_step, .func (PySem.W.fnOf "_law_step" "_law_step" (defArgs s_law_step) (defBody s_law_step) (defScope s_law_step) .none kV_law_step dc_law_step pm_law_step an_law_step cd_law_step ct_law_step), sl_law_step⟩)
    (C_law_step : PySem.W.codeIn K cd_law_step "_law_step" = true)
    (K_law_step : PySem.W.keepIn K (.ref f_law_step) = true)
    (A_law_program : PySem.W.nsIn K mainGlobals "_law_program" = some (some (.ref f_law_program)))
    (L_law_program : K.lookup f_law_program = some ⟨oc_law_program, od_law_program, .func (PySem.W.fnOf "_law_program" "_law_program" (defArgs s_law_program) (defBody s_law_program) (defScope s_law_program) .none kV_law_program dc_law_program pm_law_program an_law_program cd_law_program ct_law_program), sl_law_program⟩)
    (C_law_program : PySem.W.codeIn K cd_law_program "_law_program" = true)
    (K_law_program : PySem.W.keepIn K (.ref f_law_program) = true)
    (A_law_wrong_step : PySem.W.nsIn K mainGlobals "_law_wrong_step" = some (some (.ref f_law_wrong_step)))
    (L_law_wrong_step : K.lookup f_law_wrong_step = some ⟨oc_law_wrong_step, od_law_wrong_step, .func (PySem.W.fnOf "_law_wrong_step" "_law_wrong_step" (defArgs s_law_wrong_step) (defBody s_law_wrong_step) (defScope s_law_wrong_step) .none kV_law_wrong_step dc_law_wrong_step pm_law_wrong_step an_law_wrong_step cd_law_wrong_step ct_law_wrong_step), sl_law_wrong_step⟩)
    (C_law_wrong_step : PySem.W.codeIn K cd_law_wrong_step "_law_wrong_step" = true)
    (K_law_wrong_step : PySem.W.keepIn K (.ref f_law_wrong_step) = true)
    (A_law_spoilt : PySem.W.nsIn K mainGlobals "_law_spoilt" = some (some (.ref f_law_spoilt)))
    (L_law_spoilt : K.lookup f_law_spoilt = some ⟨oc_law_spoilt, od_law_spoilt, .func (PySem.W.fnOf "_law_spoilt" "_law_spoilt" (defArgs s_law_spoilt) (defBody s_law_spoilt) (defScope s_law_spoilt) .none kV_law_spoilt dc_law_spoilt pm_law_spoilt an_law_spoilt cd_law_spoilt ct_law_spoilt), sl_law_spoilt⟩)
    (C_law_spoilt : PySem.W.codeIn K cd_law_spoilt "_law_spoilt" = true)
    (K_law_spoilt : PySem.W.keepIn K (.ref f_law_spoilt) = true)
    (A_law_is_whole : PySem.W.nsIn K mainGlobals "_law_is_whole" = some (some (.ref f_law_is_whole)))
    (L_law_is_whole : K.lookup f_law_is_whole = some ⟨oc_law_is_whole, od_law_is_whole, .func (PySem.W.fnOf "_law_is_whole" "_law_is_whole" (defArgs s_law_is_whole) (defBody s_law_is_whole) (defScope s_law_is_whole) .none kV_law_is_whole dc_law_is_whole pm_law_is_whole an_law_is_whole cd_law_is_whole ct_law_is_whole), sl_law_is_whole⟩)
    (C_law_is_whole : PySem.W.codeIn K cd_law_is_whole "_law_is_whole" = true)
    (K_law_is_whole : PySem.W.keepIn K (.ref f_law_is_whole) = true)
    (A_law_is_word : PySem.W.nsIn K mainGlobals "_law_is_word" = some (some (.ref f_law_is_word)))
    (L_law_is_word : K.lookup f_law_is_word = some ⟨oc_law_is_word, od_law_is_word, .func (PySem.W.fnOf "_law_is_word" "_law_is_word" (defArgs s_law_is_word) (defBody s_law_is_word) (defScope s_law_is_word) .none kV_law_is_word dc_law_is_word pm_law_is_word an_law_is_word cd_law_is_word ct_law_is_word), sl_law_is_word⟩)
    (C_law_is_word : PySem.W.codeIn K cd_law_is_word "_law_is_word" = true)
    (K_law_is_word : PySem.W.keepIn K (.ref f_law_is_word) = true)
    (A_law_fits : PySem.W.nsIn K mainGlobals "_law_fits" = some (some (.ref f_law_fits)))
    (L_law_fits : K.lookup f_law_fits = some ⟨oc_law_fits, od_law_fits, .func (PySem.W.fnOf "_law_fits" "_law_fits" (defArgs s_law_fits) (defBody s_law_fits) (defScope s_law_fits) .none kV_law_fits dc_law_fits pm_law_fits an_law_fits cd_law_fits ct_law_fits), sl_law_fits⟩)
    (C_law_fits : PySem.W.codeIn K cd_law_fits "_law_fits" = true)
    (K_law_fits : PySem.W.keepIn K (.ref f_law_fits) = true)
    (A_law_is_right_step : PySem.W.nsIn K mainGlobals "_law_is_right_step" = some (some (.ref f_law_is_right_step)))
    (L_law_is_right_step : K.lookup f_law_is_right_step = some ⟨oc_law_is_right_step, od_law_is_right_step, .func (PySem.W.fnOf "_law_is_right_step" "_law_is_right_step" (defArgs s_law_is_right_step) (defBody s_law_is_right_step) (defScope s_law_is_right_step) .none kV_law_is_right_step dc_law_is_right_step pm_law_is_right_step an_law_is_right_step cd_law_is_right_step ct_law_is_right_step), sl_law_is_right_step⟩)
    (C_law_is_right_step : PySem.W.codeIn K cd_law_is_right_step "_law_is_right_step" = true)
    (K_law_is_right_step : PySem.W.keepIn K (.ref f_law_is_right_step) = true)
    (A_law_is_wrong : PySem.W.nsIn K mainGlobals "_law_is_wrong" = some (some (.ref f_law_is_wrong)))
    (L_law_is_wrong : K.lookup f_law_is_wrong = some ⟨oc_law_is_wrong, od_law_is_wrong, .func (PySem.W.fnOf "_law_is_wrong" "_law_is_wrong" (defArgs s_law_is_wrong) (defBody s_law_is_wrong) (defScope s_law_is_wrong) .none kV_law_is_wrong dc_law_is_wrong pm_law_is_wrong an_law_is_wrong cd_law_is_wrong ct_law_is_wrong), sl_law_is_wrong⟩)
    (C_law_is_wrong : PySem.W.codeIn K cd_law_is_wrong "_law_is_wrong" = true)
    (K_law_is_wrong : PySem.W.keepIn K (.ref f_law_is_wrong) = true)
    (A_law_due : PySem.W.nsIn K mainGlobals "_law_due" = some (some (.ref f_law_due)))
    (L_law_due : K.lookup f_law_due = some ⟨oc_law_due, od_law_due, .func (PySem.W.fnOf "_law_due" "_law_due" (defArgs s_law_due) (defBody s_law_due) (defScope s_law_due) .none kV_law_due dc_law_due pm_law_due an_law_due cd_law_due ct_law_due), sl_law_due⟩)
    (C_law_due : PySem.W.codeIn K cd_law_due "_law_due" = true)
    (K_law_due : PySem.W.keepIn K (.ref f_law_due) = true)
    (A_law_told : PySem.W.nsIn K mainGlobals "_law_told" = some (some (.ref f_law_told)))
    (L_law_told : K.lookup f_law_told = some ⟨oc_law_told, od_law_told, .func (PySem.W.fnOf "_law_told" "_law_told" (defArgs s_law_told) (defBody s_law_told) (defScope s_law_told) .none kV_law_told dc_law_told pm_law_told an_law_told cd_law_told ct_law_told), sl_law_told⟩)
    (C_law_told : PySem.W.codeIn K cd_law_told "_law_told" = true)
    (K_law_told : PySem.W.keepIn K (.ref f_law_told) = true)
    (A_law_judged : PySem.W.nsIn K mainGlobals "_law_judged" = some (some (.ref f_law_judged)))
    (L_law_judged : K.lookup f_law_judged = some ⟨oc_law_judged, od_law_judged, .func (PySem.W.fnOf "_law_judged" "_law_judged" (defArgs s_law_judged) (defBody s_law_judged) (defScope s_law_judged) .none kV_law_judged dc_law_judged pm_law_judged an_law_judged cd_law_judged ct_law_judged), sl_law_judged⟩)
    (C_law_judged : PySem.W.codeIn K cd_law_judged "_law_judged" = true)
    (K_law_judged : PySem.W.keepIn K (.ref f_law_judged) = true)
    (A_law_right : PySem.W.nsIn K mainGlobals "_law_right" = some (some (.ref f_law_right)))
    (L_law_right : K.lookup f_law_right = some ⟨oc_law_right, od_law_right, .func (PySem.W.fnOf "_law_right" "_law_right" (defArgs s_law_right) (defBody s_law_right) (defScope s_law_right) .none kV_law_right dc_law_right pm_law_right an_law_right cd_law_right ct_law_right), sl_law_right⟩)
    (C_law_right : PySem.W.codeIn K cd_law_right "_law_right" = true)
    (K_law_right : PySem.W.keepIn K (.ref f_law_right) = true)
    (A_law : PySem.W.nsIn K mainGlobals "law" = some (some (.ref f_law)))
    (L_law : K.lookup f_law = some ⟨oc_law, od_law, .func (PySem.W.fnOf "law" "law" (defArgs s_law) (defBody s_law) (defScope s_law) .none kV_law dc_law pm_law an_law cd_law ct_law), sl_law⟩)
    (C_law : PySem.W.codeIn K cd_law "law" = true)
    (K_law : PySem.W.keepIn K (.ref f_law) = true)
    (Z_ValueError : PySem.W.nsIn K mainGlobals "ValueError" = some none)
    (Z_abs : PySem.W.nsIn K mainGlobals "abs" = some none)
    (Z_all : PySem.W.nsIn K mainGlobals "all" = some none)
    (Z_bool : PySem.W.nsIn K mainGlobals "bool" = some none)
    (Z_divmod : PySem.W.nsIn K mainGlobals "divmod" = some none)
    (Z_enumerate : PySem.W.nsIn K mainGlobals "enumerate" = some none)
    (Z_int : PySem.W.nsIn K mainGlobals "int" = some none)
    (Z_isinstance : PySem.W.nsIn K mainGlobals "isinstance" = some none)
    (Z_len : PySem.W.nsIn K mainGlobals "len" = some none)
    (Z_list : PySem.W.nsIn K mainGlobals "list" = some none)
    (Z_max : PySem.W.nsIn K mainGlobals "max" = some none)
    (Z_min : PySem.W.nsIn K mainGlobals "min" = some none)
    (Z_range : PySem.W.nsIn K mainGlobals "range" = some none)
    (Z_repr : PySem.W.nsIn K mainGlobals "repr" = some none)
    (Z_sorted : PySem.W.nsIn K mainGlobals "sorted" = some none)
    (Z_str : PySem.W.nsIn K mainGlobals "str" = some none)
    (Z_tuple : PySem.W.nsIn K mainGlobals "tuple" = some none)
    (Z_zip : PySem.W.nsIn K mainGlobals "zip" = some none)
    (A_VARIABLES : PySem.W.nsIn K mainGlobals "VARIABLES" = some (some (.ref a_VARIABLES)))
    (L_VARIABLES : K.lookup a_VARIABLES = some ⟨.type "tuple", od_VARIABLES, .seq #[.str "a" t_VARIABLES_0, .str "b" t_VARIABLES_1, .str "c" t_VARIABLES_2, .str "d" t_VARIABLES_3] nn_VARIABLES, sl_VARIABLES⟩)
    (A_MOST_LETTERS : PySem.W.nsIn K mainGlobals "MOST_LETTERS" = some (some (.int 8 t_MOST_LETTERS)))
    (A_LETTERS : PySem.W.nsIn K mainGlobals "LETTERS" = some (some (.str "abcdefghijklmnopqrstuvwxyz" t_LETTERS)))
    (A_MOST_STEPS : PySem.W.nsIn K mainGlobals "MOST_STEPS" = some (some (.int 30 t_MOST_STEPS)))
    (A_FORMS : PySem.W.nsIn K mainGlobals "FORMS" = some (some (.ref a_FORMS)))
    (L_FORMS : K.lookup a_FORMS = some ⟨.type "dict", none, .dict es_FORMS nn_FORMS, #[]⟩)
    (lo_FORMS : (a_FORMS == sysModules) = false)
    (KL_FORMS : PySem.W.KeysLit w.params es_FORMS.toList)
    (KP_FORMS : KP es_FORMS.toList [("set", a_FORMS_0), ("add", a_FORMS_1), ("skip", a_FORMS_2), ("export", a_FORMS_3), ("read", a_FORMS_4), ("need", a_FORMS_5), ("try", a_FORMS_6), ("fail", a_FORMS_7)])
    (L_FORMS_0 : K.lookup a_FORMS_0 = some ⟨.type "tuple", od_FORMS_0, .seq #[.str "variable" t_FORMS_0_0, .str "integer" t_FORMS_0_1] nn_FORMS_0, sl_FORMS_0⟩)
    (L_FORMS_1 : K.lookup a_FORMS_1 = some ⟨.type "tuple", od_FORMS_1, .seq #[.str "variable" t_FORMS_1_0, .str "variable" t_FORMS_1_1] nn_FORMS_1, sl_FORMS_1⟩)
    (L_FORMS_2 : K.lookup a_FORMS_2 = some ⟨.type "tuple", od_FORMS_2, .seq #[.str "variable" t_FORMS_2_0, .str "amount" t_FORMS_2_1] nn_FORMS_2, sl_FORMS_2⟩)
    (L_FORMS_3 : K.lookup a_FORMS_3 = some ⟨.type "tuple", od_FORMS_3, .seq #[.str "name" t_FORMS_3_0, .str "variable" t_FORMS_3_1] nn_FORMS_3, sl_FORMS_3⟩)
    (L_FORMS_4 : K.lookup a_FORMS_4 = some ⟨.type "tuple", od_FORMS_4, .seq #[.str "variable" t_FORMS_4_0, .str "module" t_FORMS_4_1, .str "name" t_FORMS_4_2] nn_FORMS_4, sl_FORMS_4⟩)
    (L_FORMS_5 : K.lookup a_FORMS_5 = some ⟨.type "tuple", od_FORMS_5, .seq #[.str "module" t_FORMS_5_0] nn_FORMS_5, sl_FORMS_5⟩)
    (L_FORMS_6 : K.lookup a_FORMS_6 = some ⟨.type "tuple", od_FORMS_6, .seq #[.str "module" t_FORMS_6_0, .str "variable" t_FORMS_6_1] nn_FORMS_6, sl_FORMS_6⟩)
    (L_FORMS_7 : K.lookup a_FORMS_7 = some ⟨.type "tuple", od_FORMS_7, .seq #[] nn_FORMS_7, sl_FORMS_7⟩) :
    ∃ fd : FuncData, (∀ (s : Shared) (v : Value), BindsTo s fd ⟨[v], []⟩ [("_law_script", v)]) ∧ ∀ base : Heap, K.In base → base.Ns mainGlobals mg → SysB base → FnG l.prog w K mg base CX0 11 fa fd ["_law_script"] (sp_law63 K w) := by
  have e := hfa.symm.trans (PySem.W.mg_of X G A_law)
  cases e
  have F_InvalidProgram__init := fun_mk (st := s_InvalidProgram__init) L_InvalidProgram__init C_InvalidProgram__init K_InvalidProgram__init
  have F_is_name := fun_mk (st := s_is_name) L_is_name C_is_name K_is_name
  have F_is_integer := fun_mk (st := s_is_integer) L_is_integer C_is_integer K_is_integer
  have F_is_variable := fun_mk (st := s_is_variable) L_is_variable C_is_variable K_is_variable
  have F_is_item := fun_mk (st := s_is_item) L_is_item C_is_item K_is_item
  have F_is_step := fun_mk (st := s_is_step) L_is_step C_is_step K_is_step
  have F_step_modules := fun_mk (st := s_step_modules) L_step_modules C_step_modules K_step_modules
  have F_is_wrong := fun_mk (st := s_is_wrong) L_is_wrong C_is_wrong K_is_wrong
  have F_first_problem := fun_mk (st := s_first_problem) L_first_problem C_first_problem K_first_problem
  have F_check_program := fun_mk (st := s_check_program) L_check_program C_check_program K_check_program
  have F_modules_in := fun_mk (st := s_modules_in) L_modules_in C_modules_in K_modules_in
  have F_law_pot := fun_mk (st := s_law_pot) L_law_pot C_law_pot K_law_pot
  have F_law_draw := fun_mk (st := s_law_draw) L_law_draw C_law_draw K_law_draw
  have F_law_choice := fun_mk (st := s_law_choice) L_law_choice C_law_choice K_law_choice
  have F_law_name := fun_mk (st := s_law_name) L_law_name C_law_name K_law_name
  have F_law_names := fun_mk (st := s_law_names) L_law_names C_law_names K_law_names
  have F_law_integer := fun_mk (st := s_law_integer) L_law_integer C_law_integer K_law_integer
  have F_law_step := fun_mk (st := s_law_step) L_law_step C_law_step K_law_step
  have F_law_program := fun_mk (st := s_law_program) L_law_program C_law_program K_law_program
  have F_law_wrong_step := fun_mk (st := s_law_wrong_step) L_law_wrong_step C_law_wrong_step K_law_wrong_step
  have F_law_spoilt := fun_mk (st := s_law_spoilt) L_law_spoilt C_law_spoilt K_law_spoilt
  have F_law_is_whole := fun_mk (st := s_law_is_whole) L_law_is_whole C_law_is_whole K_law_is_whole
  have F_law_is_word := fun_mk (st := s_law_is_word) L_law_is_word C_law_is_word K_law_is_word
  have F_law_fits := fun_mk (st := s_law_fits) L_law_fits C_law_fits K_law_fits
  have F_law_is_right_step := fun_mk (st := s_law_is_right_step) L_law_is_right_step C_law_is_right_step K_law_is_right_step
  have F_law_is_wrong := fun_mk (st := s_law_is_wrong) L_law_is_wrong C_law_is_wrong K_law_is_wrong
  have F_law_due := fun_mk (st := s_law_due) L_law_due C_law_due K_law_due
  have F_law_told := fun_mk (st := s_law_told) L_law_told C_law_told K_law_told
  have F_law_judged := fun_mk (st := s_law_judged) L_law_judged C_law_judged K_law_judged
  have F_law_right := fun_mk (st := s_law_right) L_law_right C_law_right K_law_right
  have F_law := fun_mk (st := s_law) L_law C_law K_law
  exact ⟨PySem.W.fnOf "law" "law" (defArgs s_law) (defBody s_law) (defScope s_law) .none kV_law dc_law pm_law an_law cd_law ct_law, fun s v => .of_eq rfl, fun base _ _ hS => (ok_law (P := l.prog) (T := {
    c_LoaderError := c_LoaderError, g_LoaderError := PySem.W.mg_of X G A_LoaderError,
    c_InvalidProgram := c_InvalidProgram, g_InvalidProgram := PySem.W.mg_of X G A_InvalidProgram,
    c_InvalidLibrary := c_InvalidLibrary, g_InvalidLibrary := PySem.W.mg_of X G A_InvalidLibrary,
    c_InvalidMains := c_InvalidMains, g_InvalidMains := PySem.W.mg_of X G A_InvalidMains,
    c_InvalidText := c_InvalidText, g_InvalidText := PySem.W.mg_of X G A_InvalidText,
    xc_LoaderError := ⟨Y1_LoaderError, Y2_LoaderError, X2_LoaderError, Y4_LoaderError, Y5_LoaderError, Y6, Y7, Y8_LoaderError⟩,
    xi_LoaderError := xi_LoaderError, xk_LoaderError := X4_LoaderError,
    sg_LoaderError := sg_LoaderError, rd_LoaderError := rd_LoaderError, fc_LoaderError := fc_LoaderError,
    xc_InvalidProgram := ⟨Y1_InvalidProgram, Y2_InvalidProgram, X2_InvalidProgram, Y4_InvalidProgram, Y5_InvalidProgram, Y6, Y7, Y8_InvalidProgram⟩,
    ox_InvalidProgram := ⟨bs_VE, ⟨_, _, _, _, _, _, _, _, _, _, _, _, _, _, _, XL_InvalidProgram, XT_InvalidProgram⟩, X1_InvalidProgram, X2_InvalidProgram, X3_InvalidProgram, X4_InvalidProgram⟩,
    iC_InvalidProgram := A_InvalidProgram__init, ti_InvalidProgram := TI_InvalidProgram__init,
    nf_InvalidProgram_position := nf_InvalidProgram_position,
    exm_InvalidProgram_LoaderError := exm_ref zb_LoaderError zc_LoaderError zt_LoaderError zs_InvalidProgram_LoaderError,
    kit_InvalidProgram_InvalidLibrary := kit_ref zc_InvalidLibrary zt_InvalidLibrary zs_InvalidProgram_InvalidLibrary (fun e => absurd zn_InvalidProgram_InvalidLibrary (by rw [e, beq_self_eq_true]; decide)),
    kit_InvalidProgram_InvalidMains := kit_ref zc_InvalidMains zt_InvalidMains zs_InvalidProgram_InvalidMains (fun e => absurd zn_InvalidProgram_InvalidMains (by rw [e, beq_self_eq_true]; decide)),
    kit_InvalidProgram_InvalidText := kit_ref zc_InvalidText zt_InvalidText zs_InvalidProgram_InvalidText (fun e => absurd zn_InvalidProgram_InvalidText (by rw [e, beq_self_eq_true]; decide)),
    kit_InvalidProgram_ValueError := kit_ty (by decide +kernel) zs_InvalidProgram_ValueError,
    kit_InvalidProgram_InvalidProgram := kit_ref zc_InvalidProgram zt_InvalidProgram zs_InvalidProgram_InvalidProgram (fun _ => rfl),
    f_InvalidProgram__init := f_InvalidProgram__init, d_InvalidProgram__init := _, F_InvalidProgram__init := F_InvalidProgram__init, b_InvalidProgram__init := F_InvalidProgram__init.binds (ps := ["self", "position"]) (fun _ _ _ _ _ _ us hl => match us, hl with | [_, _], _ => rfl),
    f_is_name := f_is_name, d_is_name := _, F_is_name := F_is_name, m_is_name := PySem.W.mg_of X G A_is_name, b_is_name := F_is_name.binds (ps := ["value"]) (fun _ _ _ _ _ _ us hl => match us, hl with | [_], _ => rfl),
    f_is_integer := f_is_integer, d_is_integer := _, F_is_integer := F_is_integer, m_is_integer := PySem.W.mg_of X G A_is_integer, b_is_integer := F_is_integer.binds (ps := ["value"]) (fun _ _ _ _ _ _ us hl => match us, hl with | [_], _ => rfl),
    f_is_variable := f_is_variable, d_is_variable := _, F_is_variable := F_is_variable, m_is_variable := PySem.W.mg_of X G A_is_variable, b_is_variable := F_is_variable.binds (ps := ["value"]) (fun _ _ _ _ _ _ us hl => match us, hl with | [_], _ => rfl),
    f_is_item := f_is_item, d_is_item := _, F_is_item := F_is_item, m_is_item := PySem.W.mg_of X G A_is_item, b_is_item := F_is_item.binds (ps := ["kind", "value"]) (fun _ _ _ _ _ _ us hl => match us, hl with | [_, _], _ => rfl),
    f_is_step := f_is_step, d_is_step := _, F_is_step := F_is_step, m_is_step := PySem.W.mg_of X G A_is_step, b_is_step := F_is_step.binds (ps := ["value"]) (fun _ _ _ _ _ _ us hl => match us, hl with | [_], _ => rfl),
    f_step_modules := f_step_modules, d_step_modules := _, F_step_modules := F_step_modules, m_step_modules := PySem.W.mg_of X G A_step_modules, b_step_modules := F_step_modules.binds (ps := ["step"]) (fun _ _ _ _ _ _ us hl => match us, hl with | [_], _ => rfl),
    f_is_wrong := f_is_wrong, d_is_wrong := _, F_is_wrong := F_is_wrong, m_is_wrong := PySem.W.mg_of X G A_is_wrong, b_is_wrong := F_is_wrong.binds (ps := ["step", "after", "is_main", "known"]) (fun _ _ _ _ _ _ us hl => match us, hl with | [_, _, _, _], _ => rfl),
    f_first_problem := f_first_problem, d_first_problem := _, F_first_problem := F_first_problem, m_first_problem := PySem.W.mg_of X G A_first_problem,
    f_check_program := f_check_program, d_check_program := _, F_check_program := F_check_program, m_check_program := PySem.W.mg_of X G A_check_program,
    f_modules_in := f_modules_in, d_modules_in := _, F_modules_in := F_modules_in, m_modules_in := PySem.W.mg_of X G A_modules_in, b_modules_in := F_modules_in.binds (ps := ["program"]) (fun _ _ _ _ _ _ us hl => match us, hl with | [_], _ => rfl),
    f_law_pot := f_law_pot, d_law_pot := _, F_law_pot := F_law_pot, m_law_pot := PySem.W.mg_of X G A_law_pot, b_law_pot := F_law_pot.binds (ps := ["_law_script", "_law_index"]) (fun _ _ _ _ _ _ us hl => match us, hl with | [_, _], _ => rfl),
    f_law_draw := f_law_draw, d_law_draw := _, F_law_draw := F_law_draw, m_law_draw := PySem.W.mg_of X G A_law_draw, b_law_draw := F_law_draw.binds (ps := ["_law_pot_here", "_law_most"]) (fun _ _ _ _ _ _ us hl => match us, hl with | [_, _], _ => rfl),
    f_law_choice := f_law_choice, d_law_choice := _, F_law_choice := F_law_choice, m_law_choice := PySem.W.mg_of X G A_law_choice, b_law_choice := F_law_choice.binds (ps := ["_law_pot_here", "_law_options"]) (fun _ _ _ _ _ _ us hl => match us, hl with | [_, _], _ => rfl),
    f_law_name := f_law_name, d_law_name := _, F_law_name := F_law_name, m_law_name := PySem.W.mg_of X G A_law_name, b_law_name := F_law_name.binds (ps := ["_law_pot_here", "_law_used"]) (fun _ _ _ _ _ _ us hl => match us, hl with | [_, _], _ => rfl),
    f_law_names := f_law_names, d_law_names := _, F_law_names := F_law_names, m_law_names := PySem.W.mg_of X G A_law_names, b_law_names := F_law_names.binds (ps := ["_law_pot_here", "_law_number"]) (fun _ _ _ _ _ _ us hl => match us, hl with | [_, _], _ => rfl),
    f_law_integer := f_law_integer, d_law_integer := _, F_law_integer := F_law_integer, m_law_integer := PySem.W.mg_of X G A_law_integer, b_law_integer := F_law_integer.binds (ps := ["_law_pot_here"]) (fun _ _ _ _ _ _ us hl => match us, hl with | [_], _ => rfl),
    f_law_step := f_law_step, d_law_step := _, F_law_step := F_law_step, m_law_step := PySem.W.mg_of X G A_law_step, b_law_step := F_law_step.binds (ps := ["_law_pot_here", "_law_modules", "_law_names_here", "_law_after"]) (fun _ _ _ _ _ _ us hl => match us, hl with | [_, _, _, _], _ => rfl),
    f_law_program := f_law_program, d_law_program := _, F_law_program := F_law_program, m_law_program := PySem.W.mg_of X G A_law_program, b_law_program := F_law_program.binds (ps := ["_law_pot_here", "_law_modules", "_law_names_here", "_law_most"]) (fun _ _ _ _ _ _ us hl => match us, hl with | [_, _, _, _], _ => rfl),
    f_law_wrong_step := f_law_wrong_step, d_law_wrong_step := _, F_law_wrong_step := F_law_wrong_step, m_law_wrong_step := PySem.W.mg_of X G A_law_wrong_step, b_law_wrong_step := F_law_wrong_step.binds (ps := ["_law_pot_here"]) (fun _ _ _ _ _ _ us hl => match us, hl with | [_], _ => rfl),
    f_law_spoilt := f_law_spoilt, d_law_spoilt := _, F_law_spoilt := F_law_spoilt, m_law_spoilt := PySem.W.mg_of X G A_law_spoilt, b_law_spoilt := F_law_spoilt.binds (ps := ["_law_pot_here", "_law_program_here"]) (fun _ _ _ _ _ _ us hl => match us, hl with | [_, _], _ => rfl),
    f_law_is_whole := f_law_is_whole, d_law_is_whole := _, F_law_is_whole := F_law_is_whole, m_law_is_whole := PySem.W.mg_of X G A_law_is_whole, b_law_is_whole := F_law_is_whole.binds (ps := ["_law_value"]) (fun _ _ _ _ _ _ us hl => match us, hl with | [_], _ => rfl),
    f_law_is_word := f_law_is_word, d_law_is_word := _, F_law_is_word := F_law_is_word, m_law_is_word := PySem.W.mg_of X G A_law_is_word, b_law_is_word := F_law_is_word.binds (ps := ["_law_value"]) (fun _ _ _ _ _ _ us hl => match us, hl with | [_], _ => rfl),
    f_law_fits := f_law_fits, d_law_fits := _, F_law_fits := F_law_fits, m_law_fits := PySem.W.mg_of X G A_law_fits, b_law_fits := F_law_fits.binds (ps := ["_law_sort", "_law_value"]) (fun _ _ _ _ _ _ us hl => match us, hl with | [_, _], _ => rfl),
    f_law_is_right_step := f_law_is_right_step, d_law_is_right_step := _, F_law_is_right_step := F_law_is_right_step, m_law_is_right_step := PySem.W.mg_of X G A_law_is_right_step, b_law_is_right_step := F_law_is_right_step.binds (ps := ["_law_value"]) (fun _ _ _ _ _ _ us hl => match us, hl with | [_], _ => rfl),
    f_law_is_wrong := f_law_is_wrong, d_law_is_wrong := _, F_law_is_wrong := F_law_is_wrong, m_law_is_wrong := PySem.W.mg_of X G A_law_is_wrong, b_law_is_wrong := F_law_is_wrong.binds (ps := ["_law_step_here", "_law_after", "_law_is_first"]) (fun _ _ _ _ _ _ us hl => match us, hl with | [_, _, _], _ => rfl),
    f_law_due := f_law_due, d_law_due := _, F_law_due := F_law_due, m_law_due := PySem.W.mg_of X G A_law_due, b_law_due := F_law_due.binds (ps := ["_law_value", "_law_is_first"]) (fun _ _ _ _ _ _ us hl => match us, hl with | [_, _], _ => rfl),
    f_law_told := f_law_told, d_law_told := _, F_law_told := F_law_told, m_law_told := PySem.W.mg_of X G A_law_told, b_law_told := F_law_told.binds (ps := ["_law_way", "_law_value"]) (fun _ _ _ _ _ _ us hl => match us, hl with | [_, _], _ => rfl),
    f_law_judged := f_law_judged, d_law_judged := _, F_law_judged := F_law_judged, m_law_judged := PySem.W.mg_of X G A_law_judged, b_law_judged := F_law_judged.binds (ps := ["_law_value"]) (fun _ _ _ _ _ _ us hl => match us, hl with | [_], _ => rfl),
    f_law_right := f_law_right, d_law_right := _, F_law_right := F_law_right, m_law_right := PySem.W.mg_of X G A_law_right, b_law_right := F_law_right.binds (ps := ["_law_pot_here"]) (fun _ _ _ _ _ _ us hl => match us, hl with | [_], _ => rfl),
    f_law := fa, d_law := _, F_law := F_law, m_law := PySem.W.mg_of X G A_law, b_law := F_law.binds (ps := ["_law_script"]) (fun _ _ _ _ _ _ us hl => match us, hl with | [_], _ => rfl),
    ka_first_problem_1_is_main := ka_mkS (D := D_first_problem) 1 ["is_main"] [.k 0, .d "known" (.non) (.none)] ⟨fun _ => .non, True.intro⟩ (qs_cons D_first_problem_known rfl qs_nil) rfl (by
      intro us mv ws h1 h2 h3
      obtain ⟨us0, rfl⟩ := len1 (l := us) h1
      obtain ⟨mv0, rfl⟩ := len1 (l := mv) h2
      obtain ⟨ws0, rfl⟩ := len1 (l := ws) h3
      exact ⟨_, _, _, _, _, _, rfl, rfl, rfl⟩),
    ka_check_program_1 := ka_mkS (D := D_check_program) 1 [] [.d "is_main" (.bl false) (.bool false)] ⟨fun _ => .bl _, True.intro⟩ (qs_cons D_check_program_is_main rfl qs_nil) rfl (by
      intro us mv ws h1 h2 h3
      obtain ⟨us0, rfl⟩ := len1 (l := us) h1
      obtain ⟨mv0, rfl⟩ := len1 (l := mv) h2
      have ews := len0 (l := ws) h3; subst ews
      exact ⟨_, _, _, _, _, _, rfl, rfl, rfl⟩),
    ka_check_program_1_is_main := ka_mkS (D := D_check_program) 1 ["is_main"] [.k 0] True.intro qs_nil rfl (by
      intro us mv ws h1 h2 h3
      obtain ⟨us0, rfl⟩ := len1 (l := us) h1
      have emv := len0 (l := mv) h2; subst emv
      obtain ⟨ws0, rfl⟩ := len1 (l := ws) h3
      exact rfl),
    n_ValueError := PySem.W.mg_none_of X G Z_ValueError,
    n_abs := PySem.W.mg_none_of X G Z_abs,
    n_all := PySem.W.mg_none_of X G Z_all,
    n_bool := PySem.W.mg_none_of X G Z_bool,
    n_divmod := PySem.W.mg_none_of X G Z_divmod,
    n_enumerate := PySem.W.mg_none_of X G Z_enumerate,
    n_int := PySem.W.mg_none_of X G Z_int,
    n_isinstance := PySem.W.mg_none_of X G Z_isinstance,
    n_len := PySem.W.mg_none_of X G Z_len,
    n_list := PySem.W.mg_none_of X G Z_list,
    n_max := PySem.W.mg_none_of X G Z_max,
    n_min := PySem.W.mg_none_of X G Z_min,
    n_range := PySem.W.mg_none_of X G Z_range,
    n_repr := PySem.W.mg_none_of X G Z_repr,
    n_sorted := PySem.W.mg_none_of X G Z_sorted,
    n_str := PySem.W.mg_none_of X G Z_str,
    n_tuple := PySem.W.mg_none_of X G Z_tuple,
    n_zip := PySem.W.mg_none_of X G Z_zip,
    a_VARIABLES := a_VARIABLES, g_VARIABLES := PySem.W.mg_of X G A_VARIABLES, s_VARIABLES := (tupK L_VARIABLES (Nat.le_of_ble_eq_true rfl) (.cons ⟨_, rfl⟩ (.cons ⟨_, rfl⟩ (.cons ⟨_, rfl⟩ (.cons ⟨_, rfl⟩ .nil))))),
    k_MOST_LETTERS := t_MOST_LETTERS, g_MOST_LETTERS := PySem.W.mg_of X G A_MOST_LETTERS,
    k_LETTERS := t_LETTERS, g_LETTERS := PySem.W.mg_of X G A_LETTERS,
    k_MOST_STEPS := t_MOST_STEPS, g_MOST_STEPS := PySem.W.mg_of X G A_MOST_STEPS,
    a_FORMS := a_FORMS, g_FORMS := PySem.W.mg_of X G A_FORMS, kf_FORMS := kf_mk [("set", a_FORMS_0, ["variable", "integer"]), ("add", a_FORMS_1, ["variable", "variable"]), ("skip", a_FORMS_2, ["variable", "amount"]), ("export", a_FORMS_3, ["name", "variable"]), ("read", a_FORMS_4, ["variable", "module", "name"]), ("need", a_FORMS_5, ["module"]), ("try", a_FORMS_6, ["module", "variable"]), ("fail", a_FORMS_7, [])] L_FORMS KL_FORMS lo_FORMS KP_FORMS (ts_cons (tupK L_FORMS_0 (Nat.le_of_ble_eq_true rfl) (.cons ⟨_, rfl⟩ (.cons ⟨_, rfl⟩ .nil))) (ts_cons (tupK L_FORMS_1 (Nat.le_of_ble_eq_true rfl) (.cons ⟨_, rfl⟩ (.cons ⟨_, rfl⟩ .nil))) (ts_cons (tupK L_FORMS_2 (Nat.le_of_ble_eq_true rfl) (.cons ⟨_, rfl⟩ (.cons ⟨_, rfl⟩ .nil))) (ts_cons (tupK L_FORMS_3 (Nat.le_of_ble_eq_true rfl) (.cons ⟨_, rfl⟩ (.cons ⟨_, rfl⟩ .nil))) (ts_cons (tupK L_FORMS_4 (Nat.le_of_ble_eq_true rfl) (.cons ⟨_, rfl⟩ (.cons ⟨_, rfl⟩ (.cons ⟨_, rfl⟩ .nil)))) (ts_cons (tupK L_FORMS_5 (Nat.le_of_ble_eq_true rfl) (.cons ⟨_, rfl⟩ .nil)) (ts_cons (tupK L_FORMS_6 (Nat.le_of_ble_eq_true rfl) (.cons ⟨_, rfl⟩ (.cons ⟨_, rfl⟩ .nil))) (ts_cons (tupK L_FORMS_7 (Nat.le_of_ble_eq_true rfl) .nil) ts_nil)))))))) }) hS).toG fun _ _ _ _ h => law_spT h⟩
end My
open PySem PySem.W PyProof.Rows in
set_option maxRecDepth 100000 in
set_option maxHeartbeats 0 in
theorem PySem.Challenge.cw_cycleready_k12_programs_checked_holds : PySem.Challenge.rw_cycleready_k12_programs_checked.Holds := by
  w_on; o_law; k_head; (case hw => w_witness2)
  k_fill
  refine Z.walkG (l := PySem.Challenge.rw_cycleready_k12_programs_checked) (n := 63) (k := 11) (x := "_law_script") (sp := T.sp_law63) rfl (by decide) rfl ⟨rfl, by decide, by decide⟩ (by rfl) (fun w h Y => PySem.W.kIn_of Y) ?F (fun w H a ns h1 h2 => ⟨a, ns, rfl, h2, h1, fun _ => rfl⟩)
  case F =>
    intro w mg fa h KX G hmg
    refine' My.all_mk KX G hmg ?A_LoaderError ?A_InvalidProgram ?A_InvalidLibrary ?A_InvalidMains ?A_InvalidText ?X2_LoaderError ?X4_LoaderError ?Y6 ?Y7 ?Y1_LoaderError ?Y2_LoaderError ?Y4_LoaderError ?Y5_LoaderError ?Y8_LoaderError ?xi_LoaderError ?sg_LoaderError ?rd_LoaderError ?fc_LoaderError ?XL_InvalidProgram ?X3_InvalidProgram ?X2_InvalidProgram ?X4_InvalidProgram ?Y1_InvalidProgram ?Y2_InvalidProgram ?Y4_InvalidProgram ?Y5_InvalidProgram ?Y8_InvalidProgram ?XT_InvalidProgram ?X1_InvalidProgram ?nf_InvalidProgram_position ?zs_InvalidProgram_LoaderError ?zc_LoaderError ?zt_LoaderError ?zb_LoaderError ?zs_InvalidProgram_InvalidLibrary ?zc_InvalidLibrary ?zt_InvalidLibrary ?zn_InvalidProgram_InvalidLibrary ?zs_InvalidProgram_InvalidMains ?zc_InvalidMains ?zt_InvalidMains ?zn_InvalidProgram_InvalidMains ?zs_InvalidProgram_InvalidText ?zc_InvalidText ?zt_InvalidText ?zn_InvalidProgram_InvalidText ?zs_InvalidProgram_ValueError ?zs_InvalidProgram_InvalidProgram ?zc_InvalidProgram ?zt_InvalidProgram ?A_InvalidProgram__init ?i_InvalidProgram__init ?TI_InvalidProgram__init ?L_InvalidProgram__init ?C_InvalidProgram__init ?K_InvalidProgram__init ?A_is_name ?L_is_name ?C_is_name ?K_is_name ?A_is_integer ?L_is_integer ?C_is_integer ?K_is_integer ?A_is_variable ?L_is_variable ?C_is_variable ?K_is_variable ?A_is_item ?L_is_item ?C_is_item ?K_is_item ?A_is_step ?L_is_step ?C_is_step ?K_is_step ?A_step_modules ?L_step_modules ?C_step_modules ?K_step_modules ?A_is_wrong ?L_is_wrong ?C_is_wrong ?K_is_wrong ?A_first_problem ?L_first_problem ?C_first_problem ?K_first_problem ?D_first_problem_is_main ?D_first_problem_known ?A_check_program ?L_check_program ?C_check_program ?K_check_program ?D_check_program_is_main ?A_modules_in ?L_modules_in ?C_modules_in ?K_modules_in ?A_law_pot ?L_law_pot ?C_law_pot ?K_law_pot ?A_law_draw ?L_law_draw ?C_law_draw ?K_law_draw ?A_law_choice ?L_law_choice ?C_law_choice ?K_law_choice ?A_law_name ?L_law_name ?C_law_name ?K_law_name ?A_law_names ?L_law_names ?C_law_names ?K_law_names ?A_law_integer ?L_law_integer ?C_law_integer ?K_law_integer ?A_law_step ?L_law_step ?C_law_step ?K_law_step ?A_law_program ?L_law_program ?C_law_program ?K_law_program ?A_law_wrong_step ?L_law_wrong_step ?C_law_wrong_step ?K_law_wrong_step ?A_law_spoilt ?L_law_spoilt ?C_law_spoilt ?K_law_spoilt ?A_law_is_whole ?L_law_is_whole ?C_law_is_whole ?K_law_is_whole ?A_law_is_word ?L_law_is_word ?C_law_is_word ?K_law_is_word ?A_law_fits ?L_law_fits ?C_law_fits ?K_law_fits ?A_law_is_right_step ?L_law_is_right_step ?C_law_is_right_step ?K_law_is_right_step ?A_law_is_wrong ?L_law_is_wrong ?C_law_is_wrong ?K_law_is_wrong ?A_law_due ?L_law_due ?C_law_due ?K_law_due ?A_law_told ?L_law_told ?C_law_told ?K_law_told ?A_law_judged ?L_law_judged ?C_law_judged ?K_law_judged ?A_law_right ?L_law_right ?C_law_right ?K_law_right ?A_law ?L_law ?C_law ?K_law ?Z_ValueError ?Z_abs ?Z_all ?Z_bool ?Z_divmod ?Z_enumerate ?Z_int ?Z_isinstance ?Z_len ?Z_list ?Z_max ?Z_min ?Z_range ?Z_repr ?Z_sorted ?Z_str ?Z_tuple ?Z_zip ?A_VARIABLES ?L_VARIABLES ?A_MOST_LETTERS ?A_LETTERS ?A_MOST_STEPS ?A_FORMS ?L_FORMS ?lo_FORMS ?KL_FORMS ?KP_FORMS ?L_FORMS_0 ?L_FORMS_1 ?L_FORMS_2 ?L_FORMS_3 ?L_FORMS_4 ?L_FORMS_5 ?L_FORMS_6 ?L_FORMS_7
    (case A_LoaderError => k_is)
    (case A_InvalidProgram => k_is)
    (case A_InvalidLibrary => k_is)
    (case A_InvalidMains => k_is)
    (case A_InvalidText => k_is)
    (case X2_LoaderError => k_is)
    (case X4_LoaderError => k_is)
    (case Y6 => k_is)
    (case Y7 => k_is)
    (case Y1_LoaderError => k_is)
    (case Y2_LoaderError => k_is)
    (case Y4_LoaderError => k_is)
    (case Y5_LoaderError => k_is)
    (case Y8_LoaderError => k_is)
    (case xi_LoaderError => k_exc)
    (case sg_LoaderError => k_is)
    (case rd_LoaderError => k_is)
    (case fc_LoaderError => k_is)
    (case XL_InvalidProgram => k_is)
    (case X3_InvalidProgram => k_is)
    (case X2_InvalidProgram => k_is)
    (case X4_InvalidProgram => k_is)
    (case Y1_InvalidProgram => k_is)
    (case Y2_InvalidProgram => k_is)
    (case Y4_InvalidProgram => k_is)
    (case Y5_InvalidProgram => k_is)
    (case Y8_InvalidProgram => k_is)
    (case XT_InvalidProgram => first | rfl | decide +kernel)
    (case X1_InvalidProgram => k_is)
    (case nf_InvalidProgram_position => k_is)
    (case zs_InvalidProgram_LoaderError => first | rfl | k_is)
    (case zc_LoaderError => k_is)
    (case zt_LoaderError => k_is)
    (case zb_LoaderError => k_is)
    (case zs_InvalidProgram_InvalidLibrary => first | rfl | k_is)
    (case zc_InvalidLibrary => k_is)
    (case zt_InvalidLibrary => k_is)
    (case zn_InvalidProgram_InvalidLibrary => rfl)
    (case zs_InvalidProgram_InvalidMains => first | rfl | k_is)
    (case zc_InvalidMains => k_is)
    (case zt_InvalidMains => k_is)
    (case zn_InvalidProgram_InvalidMains => rfl)
    (case zs_InvalidProgram_InvalidText => first | rfl | k_is)
    (case zc_InvalidText => k_is)
    (case zt_InvalidText => k_is)
    (case zn_InvalidProgram_InvalidText => rfl)
    (case zs_InvalidProgram_ValueError => first | rfl | k_is)
    (case zs_InvalidProgram_InvalidProgram => first | rfl | k_is)
    (case zc_InvalidProgram => k_is)
    (case zt_InvalidProgram => k_is)
    (case A_InvalidProgram__init => k_is)
    (case i_InvalidProgram__init => k_is)
    (case TI_InvalidProgram__init => k_is)
    (case L_InvalidProgram__init => k_is)
    (case C_InvalidProgram__init => k_is)
    (case K_InvalidProgram__init => k_is)
    (case A_is_name => k_is)
    (case L_is_name => k_is)
    (case C_is_name => k_is)
    (case K_is_name => k_is)
    (case A_is_integer => k_is)
    (case L_is_integer => k_is)
    (case C_is_integer => k_is)
    (case K_is_integer => k_is)
    (case A_is_variable => k_is)
    (case L_is_variable => k_is)
    (case C_is_variable => k_is)
    (case K_is_variable => k_is)
    (case A_is_item => k_is)
    (case L_is_item => k_is)
    (case C_is_item => k_is)
    (case K_is_item => k_is)
    (case A_is_step => k_is)
    (case L_is_step => k_is)
    (case C_is_step => k_is)
    (case K_is_step => k_is)
    (case A_step_modules => k_is)
    (case L_step_modules => k_is)
    (case C_step_modules => k_is)
    (case K_step_modules => k_is)
    (case A_is_wrong => k_is)
    (case L_is_wrong => k_is)
    (case C_is_wrong => k_is)
    (case K_is_wrong => k_is)
    (case A_first_problem => k_is)
    (case L_first_problem => k_is)
    (case C_first_problem => k_is)
    (case K_first_problem => k_is)
    (case D_first_problem_is_main => k_is)
    (case D_first_problem_known => k_is)
    (case A_check_program => k_is)
    (case L_check_program => k_is)
    (case C_check_program => k_is)
    (case K_check_program => k_is)
    (case D_check_program_is_main => k_is)
    (case A_modules_in => k_is)
    (case L_modules_in => k_is)
    (case C_modules_in => k_is)
    (case K_modules_in => k_is)
    (case A_law_pot => k_is)
    (case L_law_pot => k_is)
    (case C_law_pot => k_is)
    (case K_law_pot => k_is)
    (case A_law_draw => k_is)
    (case L_law_draw => k_is)
    (case C_law_draw => k_is)
    (case K_law_draw => k_is)
    (case A_law_choice => k_is)
    (case L_law_choice => k_is)
    (case C_law_choice => k_is)
    (case K_law_choice => k_is)
    (case A_law_name => k_is)
    (case L_law_name => k_is)
    (case C_law_name => k_is)
    (case K_law_name => k_is)
    (case A_law_names => k_is)
    (case L_law_names => k_is)
    (case C_law_names => k_is)
    (case K_law_names => k_is)
    (case A_law_integer => k_is)
    (case L_law_integer => k_is)
    (case C_law_integer => k_is)
    (case K_law_integer => k_is)
    (case A_law_step => k_is)
    (case L_law_step => k_is)
    (case C_law_step => k_is)
    (case K_law_step => k_is)
    (case A_law_program => k_is)
    (case L_law_program => k_is)
    (case C_law_program => k_is)
    (case K_law_program => k_is)
    (case A_law_wrong_step => k_is)
    (case L_law_wrong_step => k_is)
    (case C_law_wrong_step => k_is)
    (case K_law_wrong_step => k_is)
    (case A_law_spoilt => k_is)
    (case L_law_spoilt => k_is)
    (case C_law_spoilt => k_is)
    (case K_law_spoilt => k_is)
    (case A_law_is_whole => k_is)
    (case L_law_is_whole => k_is)
    (case C_law_is_whole => k_is)
    (case K_law_is_whole => k_is)
    (case A_law_is_word => k_is)
    (case L_law_is_word => k_is)
    (case C_law_is_word => k_is)
    (case K_law_is_word => k_is)
    (case A_law_fits => k_is)
    (case L_law_fits => k_is)
    (case C_law_fits => k_is)
    (case K_law_fits => k_is)
    (case A_law_is_right_step => k_is)
    (case L_law_is_right_step => k_is)
    (case C_law_is_right_step => k_is)
    (case K_law_is_right_step => k_is)
    (case A_law_is_wrong => k_is)
    (case L_law_is_wrong => k_is)
    (case C_law_is_wrong => k_is)
    (case K_law_is_wrong => k_is)
    (case A_law_due => k_is)
    (case L_law_due => k_is)
    (case C_law_due => k_is)
    (case K_law_due => k_is)
    (case A_law_told => k_is)
    (case L_law_told => k_is)
    (case C_law_told => k_is)
    (case K_law_told => k_is)
    (case A_law_judged => k_is)
    (case L_law_judged => k_is)
    (case C_law_judged => k_is)
    (case K_law_judged => k_is)
    (case A_law_right => k_is)
    (case L_law_right => k_is)
    (case C_law_right => k_is)
    (case K_law_right => k_is)
    (case A_law => k_is)
    (case L_law => k_is)
    (case C_law => k_is)
    (case K_law => k_is)
    (case Z_ValueError => k_is)
    (case Z_abs => k_is)
    (case Z_all => k_is)
    (case Z_bool => k_is)
    (case Z_divmod => k_is)
    (case Z_enumerate => k_is)
    (case Z_int => k_is)
    (case Z_isinstance => k_is)
    (case Z_len => k_is)
    (case Z_list => k_is)
    (case Z_max => k_is)
    (case Z_min => k_is)
    (case Z_range => k_is)
    (case Z_repr => k_is)
    (case Z_sorted => k_is)
    (case Z_str => k_is)
    (case Z_tuple => k_is)
    (case Z_zip => k_is)
    (case A_VARIABLES => k_is)
    (case L_VARIABLES => k_is)
    (case A_MOST_LETTERS => k_is)
    (case A_LETTERS => k_is)
    (case A_MOST_STEPS => k_is)
    (case A_FORMS => k_is)
    (case L_FORMS => k_is)
    (case lo_FORMS => rfl)
    (case KL_FORMS => exact ⟨⟨_, _, rfl, rfl⟩, ⟨_, _, rfl, rfl⟩, ⟨_, _, rfl, rfl⟩, ⟨_, _, rfl, rfl⟩, ⟨_, _, rfl, rfl⟩, ⟨_, _, rfl, rfl⟩, ⟨_, _, rfl, rfl⟩, ⟨_, _, rfl, rfl⟩, True.intro⟩)
    (case KP_FORMS => exact ⟨⟨_, rfl⟩, rfl, ⟨_, rfl⟩, rfl, ⟨_, rfl⟩, rfl, ⟨_, rfl⟩, rfl, ⟨_, rfl⟩, rfl, ⟨_, rfl⟩, rfl, ⟨_, rfl⟩, rfl, ⟨_, rfl⟩, rfl, True.intro⟩)
    (case L_FORMS_0 => k_is)
    (case L_FORMS_1 => k_is)
    (case L_FORMS_2 => k_is)
    (case L_FORMS_3 => k_is)
    (case L_FORMS_4 => k_is)
    (case L_FORMS_5 => k_is)
    (case L_FORMS_6 => k_is)
    (case L_FORMS_7 => k_is)
