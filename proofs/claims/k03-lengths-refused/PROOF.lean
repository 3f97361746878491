import PyProof.Rows.All
import Wide.All
import OpenK.AllK
import Wide.FinOn
import PyProof.EqAt
import PyProof.EqKinds
import PyProof.TupleCall
import HandS.ForMost
import HandS.ForExc
import HandS.ExcInit
import HandS.IsInst
import HandS.Wide
import HandS.EndBits
import HandS.TupAny
import HandS.TupMul
import HandS.RaiseMore
import HandS.Flow
import HandS.Codes
import HandS.ExcField
import PySem.Challenge.RW_anyanswer_k03_lengths_refused
set_option Elab.async false
set_option linter.all false
set_option maxRecDepth 100000
set_option maxHeartbeats 4000000
namespace AA
open PySem PySem.Spec PyProof.Rows L2

/-! ### heaps -/
theorem same_new {H : Hp} {p : Addr} {o : HO} (h : H p = none) : Same H (upd H p o) := fun b x e => by
  rw [upd_ne (ne_of_none e h)]; exact e
theorem Same.up {H H' : Hp} {p : Addr} {o : HO} (s : Same H H') (h : H' p = none) : Same H (upd H' p o) := s.trans (same_new h)
theorem Same.mut {H H' : Hp} {p : Addr} {o : HO} (s : Same H H') (h : H p = none) : Same H (upd H' p o) := fun b x e => by
  rw [upd_ne (ne_of_none e h)]; exact s b x e
theorem same_rd {H H' : Hp} {a : Addr} {u : HO} (e : Same H H') (h : Rd H a u) : Rd H' a u := by
  rcases h with h | ⟨o, h⟩
  · exact .inl (e _ _ h)
  · exact .inr ⟨o, e _ _ h⟩
theorem sqT_same {K : PySem.W.Frag} {H H' : Hp} {a : Addr} {xs : List V} (e : Same H H') (h : SqT K H a xs) : SqT K H' a xs := by
  rcases h with h | h
  · exact .inl (same_rd e h)
  · exact .inr h
theorem sqL_same {K : PySem.W.Frag} {H H' : Hp} {a : Addr} {xs : List V} (e : Same H H') (h : SqL K H a xs) : SqL K H' a xs := e.seq h
theorem sqL_up {K : PySem.W.Frag} {H : Hp} {a p : Addr} {o : HO} {xs : List V} (n : H p = none) (h : SqL K H a xs) : SqL K (upd H p o) a xs := sqL_same (same_new n) h
theorem sqT_up {K : PySem.W.Frag} {H : Hp} {a p : Addr} {o : HO} {xs : List V} (n : H p = none) (h : SqT K H a xs) : SqT K (upd H p o) a xs := sqT_same (same_new n) h
theorem at_up {H : Hp} {a p : Addr} {o u : HO} (n : H p = none) (h : H a = some u) : upd H p o a = some u := same_new n a u h
theorem at_same {H H' : Hp} {a : Addr} {u : HO} (e : Same H H') (h : H a = some u) : H' a = some u := e a u h
mutual
theorem dp_same {K : PySem.W.Frag} {H H' : Hp} (e : Same H H') : ∀ {v : V} {d : PyData}, Dp K H v d → Dp K H' v d
  | _, _, .non => .non
  | _, _, .bl b => .bl b
  | _, _, .int i => .int i
  | _, _, .str x => .str x
  | _, _, .lst s a => .lst (sqL_same e s) (dpAll_same e a)
  | _, _, .tup s a => .tup (sqT_same e s) (dpAll_same e a)
theorem dpAll_same {K : PySem.W.Frag} {H H' : Hp} (e : Same H H') : ∀ {vs : List V} {ds : List PyData}, DpAll K H vs ds → DpAll K H' vs ds
  | _, _, .nil => .nil
  | _, _, .cons h t => .cons (dp_same e h) (dpAll_same e t)
end
theorem dp_up {K : PySem.W.Frag} {H : Hp} {p : Addr} {o : HO} {v : V} {d : PyData} (n : H p = none) (h : Dp K H v d) : Dp K (upd H p o) v d := dp_same (same_new n) h
theorem dpAll_up {K : PySem.W.Frag} {H : Hp} {p : Addr} {o : HO} {v : List V} {d : List PyData} (n : H p = none) (h : DpAll K H v d) : DpAll K (upd H p o) v d := dpAll_same (same_new n) h
theorem dpAll_get {K : PySem.W.Frag} {H : Hp} : ∀ {vs : List V} {ds : List PyData} {i : Nat} {v : V}, DpAll K H vs ds → vs[i]? = some v → ∃ d, ds[i]? = some d ∧ Dp K H v d
  | _, _, _, _, .nil, e => by simp at e
  | _, _, 0, _, .cons h _, e => ⟨_, rfl, by simp at e; subst e; exact h⟩
  | _, _, i + 1, v, .cons _ t, e => by
    obtain ⟨d, h1, h2⟩ := dpAll_get (i := i) (v := v) t (by simpa using e)
    exact ⟨d, by simpa using h1, h2⟩
theorem dpAll_len {K : PySem.W.Frag} {H : Hp} : ∀ {vs : List V} {ds : List PyData}, DpAll K H vs ds → vs.length = ds.length
  | _, _, .nil => rfl
  | _, _, .cons _ t => congrArg (· + 1) (dpAll_len t)
/-- the heap without one address -/
theorem same_del {H H' : Hp} {b : Addr} (e : Same H H') : Same (L2.del H b) (L2.del H' b) := fun a o h => by
  by_cases q : a = b
  · rw [q, del_same] at h; cases h
  · rw [del_ne q] at h ⊢; exact e a o h
theorem same_of_del {H : Hp} {b : Addr} : Same (L2.del H b) H := fun a o h => by
  by_cases q : a = b
  · rw [q, del_same] at h; cases h
  · rw [del_ne q] at h; exact h
/-- all but b stays -/
def But (b : Addr) (H H' : Hp) : Prop := Same (L2.del H b) (L2.del H' b)
theorem But.refl {b : Addr} {H : Hp} : But b H H := fun _ _ h => h
theorem But.trans {b : Addr} {H H1 H2 : Hp} (x : But b H H1) (y : But b H1 H2) : But b H H2 := fun a o h => y a o (x a o h)
theorem But.of {b : Addr} {H H' : Hp} (e : Same H H') : But b H H' := same_del e
theorem but_upd {b : Addr} {H : Hp} {o : HO} : But b H (upd H b o) := fun a u h => by
  by_cases q : a = b
  · rw [q, del_same] at h; cases h
  · rw [del_ne q] at h ⊢; rw [upd_ne q]; exact h
end AA

namespace AA
open PySem PySem.Spec PyProof.Rows L2
/-! ### unions -/
theorem pi_or {X : Cx} {tg e : Expr} {w1 w2 : TI} (h1 : PI X tg e w1) (h2 : PI X tg e w2) : PI X tg e (fun σ H R => w1 σ H R ∨ w2 σ H R) :=
  ⟨fun pins s σ H R I h => h.elim (fun q => h1.run pins s σ H R I q) fun q => h2.run pins s σ H R I q⟩
/-- a list or a tuple, walked -/
theorem pi_seq {X : Cx} {tg e : Expr} {tl : TE} (h : PE X e tl) : PI X tg e (fun σ H R => iList X.K tl σ H R ∨ iTup X.K tl σ H R) := pi_or (pi_list h) (pi_tup h)
/-! ### errors: the base's __init__ called by its class -/
theorem pe_beinit {X : Cx} {e : Expr} {es : List Expr} {ta : TA} {p1 p2 pos : Pos} {x : Str} {B : Addr} {mc : Value} {pl : Sem Bool} (hg : Gl X x) (hm : X.mg x = some (.ref B))
    (ga : PySem.W.specialIn X.K (.ref B) "__getattribute__" = some (some (.builtin "type.__getattribute__"))) (rd : PySem.W.readsIn X.K B mc = true)
    (fc : PySem.W.findCls X.K (.ref B) mc "__init__" = some (.val (.builtin "ValueError.__init__"))) (ha : PA X (e :: es) ta)
    (hdb : (x == ("__debug__" : Str)) = false := by decide)
    (hc : eval (.Call (.Attribute (.Name x p1) "__init__" p2) (e :: es) [] pos) X.env = (do
      let ov ← eval (.Name x p1) X.env
      standAt p2.atName
      let (f, first) ← holding [ov] (getMethod ov "__init__" pl)
      callWith pos f first (backTo pos (starEach (e :: es) X.env)) (backToKw pos (keywordEach [] X.env))) := by rfl)
    (he : starEach (e :: es) X.env = (false, eval e X.env) :: starEach es X.env := by rfl) (hpl : (backTo pos (starEach es X.env)).any (·.1) = false := by rfl) :
    PE X (.Call (.Attribute (.Name x p1) "__init__" p2) (e :: es) [] pos) (tVeI X.K ta) := by
  refine ⟨fun pins s σ H Q I h => ?_⟩
  refine PySem.W.methodCall_KW (ld_glob I hg hm ?_ hdb) hc
  refine PySem.W.method_cls I.kIn ga (PySem.W.cls_value I.kIn rd fc (by decide +kernel) ?_)
  show wpAny _ _ (callWith pos (Value.builtin "ValueError.__init__") [] (backTo pos (starEach (e :: es) X.env)) []) _ _ _
  refine PyProof.Rows.callWith_method1 (thn (ha.run pos pins _ σ H _ (I.tok _) h) fun us s1 ⟨vs, H1, I1, r1, a, C, ws, ev, hl, T, ea, q⟩ => ?_) he hpl
  subst ev
  cases r1 with
  | @cons _ u0 _ ur ra rw' =>
    obtain rfl : u0 = Value.ref a := ra
    have hlen : ur.length ≤ sizeLine := by
      rw [← Paired.length rw', sizeLine_eq]; omega
    exact oinit_ok T I1 ea hlen fun s' J => ⟨.non, H1, J, rfl, q⟩
/-- what is written of an error's class with one field f: its __init__ at fI -/
structure ErrC (K : PySem.W.Frag) (mg : Str → Option Value) (x : Str) (C : Addr) : Prop where
  oex : OexC K C
  gC : mg x = some (.ref C)
  te : PySem.W.exmOne K (.ref C) (.ref C) = some true
/-! ### C(..) of an own class within a try: what is raised is wished at the slots -/
def tMakeS (C : Addr) (sp : Sp) (dvs : List V) (E : L2.St → XK) (t : TA) : TE := fun σ H Q => t σ H fun vs H1 => ∀ x dx, H1 x = none → H1 dx = none → dx ≠ x →
  sp (.ref x :: (vs ++ dvs)) (upd (upd H1 dx (.own x)) x (.ins C dx [])) (fun v H2 => v = .non ∧ Q (.ref x) H2) (E σ)
theorem run_makeS {X : Cx} {CX : CXT} {k : Nat} {f C : Addr} {fd : FuncData} {ps : List Str} {sp : Sp} {dvs : List V} {ds : List Value} {E : XK} {pins : List (Addr × Obj)} {σ : L2.St} {H : Hp} {s : Shared} {Q : VK} {us : List Value} {vs : List V}
    (M : Mk X.K C f) (F : FnOk X.prog X.w X.K X.mg X.base CX k f fd ps sp) (hr : Room (k + 1) X.A) (hb : Binds X.K fd ps ds) (hd : Vals dvs ds) (hx : PassesAt CX X σ E) (I : Inv X pins σ H s) (r : Vals vs us)
    (h : ∀ x dx, H x = none → H dx = none → dx ≠ x → sp (.ref x :: (vs ++ dvs)) (upd (upd H dx (.own x)) x (.ins C dx [])) (fun v H2 => v = .non ∧ Q (.ref x) H2) E) :
    wpAny (model X.prog X.w) X.A (call (.ref C) us) (EP X pins σ Q) X.xe s := by
  have q0 := h (s.heap.objs.size + 1) s.heap.objs.size (I.hok.fresh (Nat.le_succ _)) (I.hok.fresh (Nat.le_refl _)) (Nat.ne_of_lt (Nat.lt_succ_self _))
  have J := Inv.made (C := C) I
  have rr : Vals (V.ref (s.heap.objs.size + 1) :: (vs ++ dvs)) (Value.ref (s.heap.objs.size + 1) :: (us ++ ds)) := .cons rfl (r.append hd)
  have ln : (Value.ref (s.heap.objs.size + 1) :: us ++ ds).length = ps.length := by
    have e1 := rr.length
    rw [F.len _ _ _ _ q0] at e1
    exact e1.symm
  have go := F.run _ X.stack _ _ ⟨Value.ref (s.heap.objs.size + 1) :: us, []⟩ _ _ _ E (hr.make C us []) (J.env0.make C us []) (hb _ (Value.ref (s.heap.objs.size + 1) :: us) J.kIn ln) rr q0
  refine wpAny_call (make_map (f := f) I.kIn M.makes M.init (beq_iff_eq.mp M.fn) (codeAny_mono go fun r s' z => ?_))
  cases r with
  | error e => exact hx pins _ _ e s' J z
  | ok fl =>
    cases fl with
    | ret u =>
      obtain ⟨v, H', I3, rv, ev, q3⟩ := J.after z
      subst ev
      exact ⟨rv, ⟨V.ref (s.heap.objs.size + 1), H', I3, rfl, q3⟩⟩
    | next => exact z.elim
    | brk => exact z.elim
    | cont => exact z.elim
theorem pe_makeS {X : Cx} {CX : CXT} {k : Nat} {f C : Addr} {fd : FuncData} {ps : List Str} {sp : Sp} {dvs : List V} {ds : List Value} {E : L2.St → XK} {x : Str} {p pos : Pos} {e : Expr} {es : List Expr} {t : TA}
    (M : Mk X.K C f) (F : FnOk X.prog X.w X.K X.mg X.base CX k f fd ps sp) (hr : Room (k + 1) X.A) (hg : Gl X x) (hm : X.mg x = some (.ref C)) (hb : Binds X.K fd ps ds) (hd : Vals dvs ds) (hx : ∀ σ, PassesAt CX X σ (E σ))
    (ha : PA X (e :: es) t) (hdb : (x == ("__debug__" : Str)) = false := by decide) (he : starEach (e :: es) X.env = (false, eval e X.env) :: starEach es X.env := by rfl) (hpl : (backTo pos (starEach es X.env)).any (·.1) = false := by rfl) :
    PE X (.Call (.Name x p) (e :: es) [] pos) (tMakeS C sp dvs E t) :=
  ⟨fun pins s σ H Q I h => wpAny_Call_Name_kw (ld_glob I hg hm (PySem.W.callWith_K (h₀ := X.base) I.ok.mod.kin M.kp (thn (ha.run pos pins s σ H _ I h) fun us s1 ⟨vs, H1, I1, r, q⟩ => ⟨I1.kIn, run_makeS M F hr hb hd (hx σ) I1 r q⟩) he hpl) hdb)⟩
/-! ### repr of a text, None, a number, a bool -/
/-- what repr says of a plain value -/
def reprV : V → Str
  | .non => "None"
  | .bl b => if b then "True" else "False"
  | .int i => toString i
  | .str x => reprText x
  | _ => ""
def reprOk : V → Prop
  | .non => True
  | .bl _ => True
  | .int i => i.natAbs.log2 < 1920
  | .str x => (reprText x).length ≤ sizeLine
  | _ => False
theorem call_reprS {X : Cx} : CallR X (.builtin "repr") (fun xs H Q => ∃ x, xs = [x] ∧ reprOk x ∧ Q (.str (reprV x)) H) := by
  intro pins s σ H xs us Q I r h
  obtain ⟨x, rfl, ok, q⟩ := h
  obtain ⟨u, rfl, ru⟩ := vals1 r
  cases x with
  | non => cases (show u = Value.none from ru); exact PySem.P.repr_of_none ⟨.str _, H, I.tok _, ⟨_, rfl⟩, q⟩
  | bl b => cases (show u = Value.bool b from ru); exact PySem.P.repr_of_bool ⟨.str _, H, I.tok _, ⟨_, rfl⟩, q⟩
  | int i => obtain ⟨t, e⟩ := (show ∃ t, u = Value.int i t from ru); cases e; exact PySem.P.repr_of_int ok ⟨.str _, H, I.tok _, ⟨_, rfl⟩, q⟩
  | str y => obtain ⟨t, e⟩ := (show ∃ t, u = Value.str y t from ru); cases e; exact PySem.P.repr_of_str ⟨.str _, H, I.tok _, ⟨_, rfl⟩, q⟩ ok
  | byt b => exact ok.elim
  | flt b => exact ok.elim
  | ref a => exact ok.elim
  | ty n => exact ok.elim
end AA

namespace AA
open PySem PySem.Spec PyProof.Rows L2
/-! ### the law's draws -/
def Box (H : Hp) (b : Addr) : Prop := ∃ x s c : Int, H b = some (.lst [.int x, .int s, .int c]) ∧ 0 ≤ s ∧ s < 2147483648
def spTake : Sp := fun vs H Q _ => ∃ (b : Addr) (m : Int), vs = [.ref b, .int m] ∧ Box H b ∧ 0 < m ∧ m < 2 ^ 100 ∧ ∀ (d : Int) (H' : Hp), 0 ≤ d → d < m → But b H H' → Box H' b → Q (.int d) H'
def spBox (K : PySem.W.Frag) : Sp := fun vs H Q _ => ∃ (a : Addr) (ns : List Int) (k own : Int), vs = [.ref a, .int k, .int own] ∧ SqL K H a (ns.map V.int) ∧ 0 ≤ k ∧ k < 1000 ∧ 0 ≤ own ∧ own < 1000 ∧
  ∀ (p : Addr) (H' : Hp), H p = none → Same H H' → Box H' p → Q (.ref p) H'
/-- one of a list's items; the list is new, or stands apart from the box -/
def spPick (K : PySem.W.Frag) : Sp := fun vs H Q _ => ∃ (b a : Addr) (xs : List V), vs = [.ref b, .ref a] ∧ Box H b ∧ a ≠ b ∧ SqL K H a xs ∧ 0 < xs.length ∧ xs.length < 100000 ∧
  ∀ (v : V) (H' : Hp), v ∈ xs → But b H H' → Box H' b → Q v H'
theorem atI_bit {x y : Int} {c : Bool} : atI [V.int x, V.int y] (if c = true then 1 else 0) = some (V.int (if c = true then y else x)) := by
  cases c <;> rfl
theorem atI_get {xs : List V} {i : Int} (h0 : 0 ≤ i) (h1 : i < xs.length) : ∃ v, v ∈ xs ∧ atI xs i = some v := by
  obtain ⟨n, rfl⟩ := Int.eq_ofNat_of_zero_le h0
  have hn : n < xs.length := by exact Int.ofNat_lt.mp h1
  exact ⟨xs[n], List.getElem_mem hn, atI_nat (List.getElem?_eq_getElem hn)⟩
theorem atI_int {ns : List Int} {i : Int} (h0 : 0 ≤ i) (h1 : i < (ns.map V.int).length) : ∃ z, atI (ns.map V.int) i = some (V.int z) := by
  obtain ⟨v, hv, e⟩ := atI_get h0 h1
  obtain ⟨z, _, rfl⟩ := List.mem_map.mp hv
  exact ⟨z, e⟩
theorem but_sqL {K : PySem.W.Frag} {H H' : Hp} {a b : Addr} {xs : List V} (n : a ≠ b) (e : But b H H') (h : SqL K H a xs) : SqL K H' a xs := by
  have up : ∀ u, H a = some u → H' a = some u := fun u q => by
    have z := e a u (by rw [del_ne n]; exact q)
    rw [del_ne n] at z; exact z
  rcases h with (h | ⟨o, h⟩) | h
  · exact .inl (.inl (up _ h))
  · exact .inl (.inr ⟨o, up _ h⟩)
  · exact .inr h
/-- a def that may be called by its name (CX: what it may let out) -/
structure CalX (CX : CXT) (P : Program) (w : World) (K : PySem.W.Frag) (mg : Str → Option Value) (base : Heap) (k : Nat) (x : Str) (sp : Sp) : Prop where
  ex : ∃ (f : Addr) (fd : FuncData) (ps : List Str), FnOk P w K mg base CX k f fd ps sp ∧ mg x = some (.ref f) ∧ PySem.W.keepIn K (.ref f) = true ∧ L2.Binds K fd ps []
section
variable {X : Cx} {CX : CXT} {k j : Nat} {x : Str} {sp : Sp} {p pos : Pos} {e : Expr} {es : List Expr} {t : TA}
theorem pe_cs {E : L2.St → XK} (c : CalX CX X.prog X.w X.K X.mg X.base k x sp) (hr : Room j X.A) (hk : k ≤ j) (hg : Gl X x) (hx : ∀ σ, PassesAt CX X σ (E σ)) (ha : PA X (e :: es) t)
    (hdb : (x == ("__debug__" : Str)) = false := by decide) (he : starEach (e :: es) X.env = (false, eval e X.env) :: starEach es X.env := by rfl) (hpl : (backTo pos (starEach es X.env)).any (·.1) = false := by rfl) :
    PE X (.Call (.Name x p) (e :: es) [] pos) (tCallS sp E t) := by
  obtain ⟨f, fd, ps, F, m, kp, b⟩ := c.ex
  exact pe_callS F (hr.mono hk) hg m kp b hx ha hdb he hpl
/-- a def that lets nothing out -/
theorem pe_cl (c : CalX CX0 X.prog X.w X.K X.mg X.base k x sp) (hr : Room j X.A) (hk : k ≤ j) (hg : Gl X x) (ha : PA X (e :: es) t)
    (hdb : (x == ("__debug__" : Str)) = false := by decide) (he : starEach (e :: es) X.env = (false, eval e X.env) :: starEach es X.env := by rfl) (hpl : (backTo pos (starEach es X.env)).any (·.1) = false := by rfl) :
    PE X (.Call (.Name x p) (e :: es) [] pos) (tCallS sp (fun _ => E0) t) := pe_cs c hr hk hg (fun _ _ _ _ _ _ _ h => h.elim) ha hdb he hpl
end
/-- how a def of the text stands behind the top -/
def At (K : PySem.W.Frag) (mg : Str → Option Value) (x : Str) (st : Stmt) : Prop := ∃ f fd, Fun K x x st f fd ∧ mg x = some (.ref f)
end AA

namespace AA
open PySem PySem.Spec PyProof.Rows L2
/-! ### tuples: slices, sums, multiples, whatever object they are -/
theorem tuple_mul1 (l : Addr) (items : Array Value) (n : Nat) (dd : Option Addr) (sl : Array (Option Value)) (u : Tok) :
    Meets (Builtin.«tuple.__mul__» ⟨[.ref l, .int 1 u], []⟩) (fun _ R s => s.heap.get? l = some { cls := .type "tuple", dict := dd, data := .seq items n, slots := sl } ∧ R (.ok (.ret (Value.ref l))) s) :=
  .of_wp fun prog w A R s h => by
    obtain ⟨hp, g, d, tk, os⟩ := s
    obtain ⟨hl, h⟩ := h
    have f1 := AutoSeq1.idx_int
    have c1 : (items.isEmpty || (1 : Int) == 1) = true := by simp
    wp_walk using wpAny_loadPart' hl
    exact ⟨_, rfl, h⟩
section
variable {X : Cx}
theorem op_rep1 : OpR X (binaryOp .Mult) (fun x y H Q => ∃ l xs, x = .ref l ∧ y = .int 1 ∧ SqT X.K H l xs ∧ Q (.ref l) H) := by
  intro pins s σ H x y v u Q I rx ry h
  obtain ⟨l, xs, rfl, rfl, hT, q⟩ := h
  cases rx
  obtain ⟨t, rfl⟩ := ry
  obtain ⟨its, r, ⟨⟨cls, dd, data, sl⟩, ho, hc, n, hd⟩, hs⟩ := I.tuple hT
  simp only at hc hd
  subst hc hd
  exact wpAny_binaryOp_repeat_ref (T := "tuple") (U := "int") (by decide) ⟨_, ho, rfl⟩ (fun s' => typeIs_int s' 1 t) noFill_tuple_mul F.fills_int_mul F.slot_int_rmul repeat_tuple F.slot_int_index.lookup
    (call_meets F.slot_int_rmul (typeIs_int s 1 t) F.entry_int_rmul (F.args_int_rmul_2 _ _) (int_rmul_tuple 1 t l its.toArray n dd sl)
      ⟨ho, rfl, ⟨_, ho, rfl⟩, call_meets F.slot_tuple_mul ⟨_, ho, rfl⟩ F.entry_tuple_mul (F.args_tuple_mul_2 _ _) (tuple_mul1 l its.toArray n dd sl t) ⟨ho, ⟨.ref l, H, I, rfl, q⟩⟩⟩)
/-- a tuple of ys, wherever it stands; all else stays -/
def GivesT (K : PySem.W.Frag) (H : Hp) (ys : List V) (Q : VK) : Prop := ∀ (p : Addr) (H' : Hp), Same H H' → SqT K H' p ys → Q (.ref p) H'
def rRepB (K : PySem.W.Frag) : R2 := fun x y H Q => ∃ l xs, x = .ref l ∧ ∃ k, y = .int k ∧ SqT K H l xs ∧ xs ≠ [] ∧ 1 ≤ k ∧ k ≤ 1000 ∧ xs.length ≤ 1000 ∧ GivesT K H (List.replicate k.toNat xs).flatten Q
theorem op_repB : OpR X (binaryOp .Mult) (rRepB X.K) := by
  intro pins s σ H x y v u Q I rx ry h
  obtain ⟨l, xs, rfl, k, rfl, hT, ne, k1, k2, l1, q⟩ := h
  by_cases h : k = 1
  · subst h
    refine op_rep1 pins s σ H _ _ v u Q I rx ry ⟨l, xs, rfl, rfl, hT, q l H (Same.refl H) ?_⟩
    have e : (List.replicate (1 : Int).toNat xs).flatten = xs := by simp
    rw [e]; exact hT
  · exact op_repT pins s σ H _ _ v u Q I rx ry ⟨l, k, xs, rfl, rfl, hT, ne, by omega, k2, l1, fun p hp => q p _ (same_new hp) (SqT.of upd_same)⟩
def rCatB (K : PySem.W.Frag) : R2 := fun x y H Q => ∃ a xs, x = .ref a ∧ ∃ b ys, y = .ref b ∧ SqT K H a xs ∧ SqT K H b ys ∧ xs.length + ys.length ≤ 100000 ∧ GivesT K H (xs ++ ys) Q
theorem op_catB : OpR X (binaryOp .Add) (rCatB X.K) := by
  intro pins s σ H x y v u Q I rx ry h
  obtain ⟨a, xs, rfl, b, ys, rfl, ha, hb, hl, q⟩ := h
  refine op_catA pins s σ H _ _ v u Q I rx ry ⟨a, b, xs, ys, rfl, rfl, ha, hb, by rw [sizeLine_eq]; omega, fun e => q b H (Same.refl H) (by rw [e, List.nil_append]; exact hb), fun _ e => q a H (Same.refl H) (by rw [e, List.append_nil]; exact ha), fun _ _ p hp => q p _ (same_new hp) (SqT.of upd_same)⟩
def rSlB (K : PySem.W.Frag) : V → Option Int → Option Int → Hp → VK → Prop := fun x lo hi H Q => ∃ a xs, x = .ref a ∧ SqT K H a xs ∧ GivesT K H (cutV xs lo hi) Q
theorem sl_tupB : SlR X (rSlB X.K) := by
  intro pins s σ H x v vl vu lo hi sl Q I rx hs pl pu h
  obtain ⟨a, xs, rfl, hx, q⟩ := h
  refine sl_tupA pins s σ H _ v vl vu lo hi sl Q I rx hs pl pu ⟨a, xs, rfl, hx, fun e => q a H (Same.refl H) ?_, fun _ p hp => q p _ (same_new hp) (SqT.of upd_same)⟩
  have e2 : cutV xs lo hi = xs := by
    unfold cutV
    rw [e.1, e.2]
    simp
  rw [e2]; exact hx
/-- tuple(x) of a list or a tuple -/
def kTupB (K : PySem.W.Frag) : List V → Hp → VK → Prop := fun vs H Q => ∃ p xs, vs = [.ref p] ∧ (SqL K H p xs ∨ SqT K H p xs) ∧ GivesT K H xs Q
theorem call_tupleB : CallR X (.type "tuple") (kTupB X.K) := by
  intro pins s σ H xs us Q I r h
  obtain ⟨p, ys, rfl, hs, q⟩ := h
  refine call_tuple_of pins s σ H _ us Q I r ⟨p, ys, rfl, ?_⟩
  rcases hs with hs | hs
  · exact .inl ⟨hs, fun l hl => q l _ (same_new hl) (SqT.of upd_same)⟩
  · exact .inr ⟨hs, q p H (Same.refl H) hs⟩
end
/-! ### rows of bools as data -/
theorem dpAll_bls {K : PySem.W.Frag} {H : Hp} : ∀ bs : List Bool, DpAll K H (bs.map V.bl) (bs.map PyData.bool)
  | [] => .nil
  | b :: r => .cons (.bl b) (dpAll_bls r)
theorem dp_tupB {K : PySem.W.Frag} {H : Hp} {a : Addr} {bs : List Bool} (h : SqT K H a (bs.map V.bl)) : Dp K H (.ref a) (.tuple (bs.map .bool)) := .tup h (dpAll_bls bs)
theorem dp_lstB {K : PySem.W.Frag} {H : Hp} {a : Addr} {bs : List Bool} (h : SqL K H a (bs.map V.bl)) : Dp K H (.ref a) (.list (bs.map .bool)) := .lst h (dpAll_bls bs)
theorem canLay_bools : ∀ bs : List Bool, PyData.canLayAll0 (bs.map PyData.bool) = true
  | [] => rfl
  | b :: r => by simp [PyData.canLayAll0, PyData.canLay0, canLay_bools r]
theorem depth_bools : ∀ bs : List Bool, PyData.depthAll (bs.map PyData.bool) = 0
  | [] => rfl
  | b :: r => by simp [PyData.depthAll, PyData.depth, depth_bools r]
theorem shaped_tupB (bs : List Bool) : SeqAt.shaped (.tuple (bs.map .bool)) = true := by
  simp [SeqAt.shaped, PyData.canLay0, PyData.depth, canLay_bools, depth_bools]
theorem shaped_lstB (bs : List Bool) : SeqAt.shaped (.list (bs.map .bool)) = true := by
  simp [SeqAt.shaped, PyData.canLay0, PyData.depth, canLay_bools, depth_bools]
theorem eqvAll_bools : ∀ as bs : List Bool, PyData.eqvAll (as.map PyData.bool) (bs.map PyData.bool) = decide (as = bs)
  | [], [] => rfl
  | [], _ :: _ => rfl
  | _ :: _, [] => rfl
  | a :: as, b :: bs => by
    simp only [List.map_cons, PyData.eqvAll, PyData.eqv, eqvAll_bools as bs]
    by_cases h : a = b <;> by_cases h2 : as = bs <;> simp [h, h2]
theorem eqv_tupB (as bs : List Bool) : PyData.eqv (.tuple (as.map .bool)) (.tuple (bs.map .bool)) = decide (as = bs) := by rw [PyData.eqv]; exact eqvAll_bools as bs
theorem eqv_lstB (as bs : List Bool) : PyData.eqv (.list (as.map .bool)) (.list (bs.map .bool)) = decide (as = bs) := by rw [PyData.eqv]; exact eqvAll_bools as bs
/-! ### cuts -/
theorem cut_to {xs : List V} {n : Nat} (h : n ≤ xs.length) : cutV xs none (some (n : Int)) = xs.take n := by
  unfold cutV
  rw [HT.sIx_none, HT.sIx_nat, Nat.min_eq_left h]
  simp
theorem cut_from {xs : List V} {n : Nat} (h : n ≤ xs.length) : cutV xs (some (n : Int)) none = xs.drop n := by
  unfold cutV
  rw [HT.sIx_none, HT.sIx_nat, Nat.min_eq_left h]
  exact List.take_of_length_le (by simp)
theorem cut_toI {xs : List V} {n : Int} (h0 : 0 ≤ n) (h : n ≤ xs.length) : cutV xs none (some n) = xs.take n.toNat := by
  obtain ⟨m, rfl⟩ := Int.eq_ofNat_of_zero_le h0
  exact cut_to (by omega)
theorem cut_fromI {xs : List V} {n : Int} (h0 : 0 ≤ n) (h : n ≤ xs.length) : cutV xs (some n) none = xs.drop n.toNat := by
  obtain ⟨m, rfl⟩ := Int.eq_ofNat_of_zero_le h0
  exact cut_from (by omega)
theorem cut_init (xs : List V) : cutV xs none (some (-1)) = xs.dropLast := by
  unfold cutV
  have e : HT.sIx xs.length xs.length (some (-1)) = xs.length - 1 := by
    show (if (-1 : Int) < 0 then ((-1 : Int) + (xs.length : Int)).toNat else min (-1 : Int).toNat xs.length) = xs.length - 1
    rw [if_pos (by decide)]; omega
  rw [e, HT.sIx_none, List.drop_zero, Nat.sub_zero, List.dropLast_eq_take]
theorem cut_last (xs : List V) : cutV xs (some (-1)) none = xs.drop (xs.length - 1) := by
  unfold cutV
  have e : HT.sIx xs.length 0 (some (-1)) = xs.length - 1 := by
    show (if (-1 : Int) < 0 then ((-1 : Int) + (xs.length : Int)).toNat else min (-1 : Int).toNat xs.length) = xs.length - 1
    rw [if_pos (by decide)]; omega
  rw [e, HT.sIx_none]
  exact List.take_of_length_le (by rw [List.length_drop]; omega)
theorem atI_neg1 {xs : List V} {v : V} (h : xs.getLast? = some v) : atI xs (-1) = some v := by
  cases xs with
  | nil => cases h
  | cons x r =>
    have e : (x :: r) = (x :: r).dropLast ++ [(x :: r).getLast (List.cons_ne_nil _ _)] := (List.dropLast_concat_getLast (List.cons_ne_nil x r)).symm
    rw [List.getLast?_eq_getLast (List.cons_ne_nil x r)] at h
    rw [e, Option.some.inj h]
    exact atI_last _ _
theorem last_bl {bs : List Bool} {b : Bool} (h : bs.getLast? = some b) : atI (bs.map V.bl) (-1) = some (V.bl b) := atI_neg1 (by rw [List.getLast?_map, h]; rfl)
theorem rep_map {α β : Type} (f : α → β) (k : Nat) (xs : List α) : (List.replicate k (xs.map f)).flatten = ((List.replicate k xs).flatten).map f := by
  rw [List.map_flatten, List.map_replicate]
end AA

namespace AA
open PySem PySem.Spec PyProof.Rows L2
/-! ### the rules with the written part named (so that they serve within comprehensions) -/
section
variable {X : Cx} (K : PySem.W.Frag)
theorem kIsi (h : X.K = K := by rfl) : CallR X (.builtin "isinstance") (rIsi K) := by subst h; exact call_isi
theorem kIsiT (h : X.K = K := by rfl) : CallR X (.builtin "isinstance") (rIsiT K) := by subst h; exact call_isiT
def rLen (K : PySem.W.Frag) : List V → Hp → VK → Prop := fun xs H Q => ∃ x n, xs = [x] ∧ LenV K x H n ∧ Q (.int n) H
theorem kLen (h : X.K = K := by rfl) : CallR X (.builtin "len") (rLen K) := by subst h; exact call_len
theorem kIxL (h : X.K = K := by rfl) : IxR X (rIxL K) := by subst h; exact ix_list
theorem kIxT (h : X.K = K := by rfl) : IxR X (rIxT K) := by subst h; exact ix_tup
theorem kIx (h : X.K = K := by rfl) : IxR X (rIx K) := by subst h; exact ix_seq
/-- an item of a list or a tuple -/
def rIxQ (K : PySem.W.Frag) : R2 := fun x y H Q => ∃ p xs i v, x = .ref p ∧ y = .int i ∧ (SqL K H p xs ∨ SqT K H p xs) ∧ atI xs i = some v ∧ Q v H
theorem kIxQ (h : X.K = K := by rfl) : IxR X (rIxQ K) := by
  subst h
  intro e1 e2 pins s σ H x y v u Q I rx ry ⟨p, xs, i, z, ex, ey, hs, ei, q⟩
  exact (ix_list.or ix_tup) e1 e2 pins s σ H x y v u Q I rx ry (hs.elim (fun hs => .inl ⟨p, xs, i, z, ex, ey, hs, ei, q⟩) fun hs => .inr ⟨p, xs, i, z, ex, ey, hs, ei, q⟩)
theorem kSlL (h : X.K = K := by rfl) : SlR X (rSlL K) := by subst h; exact sl_list
theorem kSlT (h : X.K = K := by rfl) : SlR X (rSlB K) := by subst h; exact sl_tupB
theorem kCatT (h : X.K = K := by rfl) : OpR X (binaryOp .Add) (rCatB K) := by subst h; exact op_catB
theorem kRepT (h : X.K = K := by rfl) : OpR X (binaryOp .Mult) (rRepB K) := by subst h; exact op_repB
theorem kEq (hu : X.A.units + 64 < cLine) (h : X.K = K := by rfl) : OpR X (compareOp .Eq) (rEqD K) := by subst h; exact op_eqD hu
theorem kNe (hu : X.A.units + 64 < cLine) (h : X.K = K := by rfl) : OpR X (compareOp .NotEq) (rNeD K) := by subst h; exact op_neD hu
theorem kIn (h : X.K = K := by rfl) : OpR X (compareOp .In) (rIn K false) := by subst h; exact op_in_seq
theorem kNotIn (h : X.K = K := by rfl) : OpR X (compareOp .NotIn) (rIn K true) := by subst h; exact op_notIn_seq
theorem kAll (hc : X.calm = true := by rfl) (h : X.K = K := by rfl) : CallR X (.builtin "all") (rAll K) := by subst h; exact cr_all hc
theorem kAny (hc : X.calm = true := by rfl) (h : X.K = K := by rfl) : CallR X (.builtin "any") (rAny K) := by subst h; exact cr_any hc
theorem kSum (hc : X.calm = true := by rfl) (h : X.K = K := by rfl) : CallR X (.builtin "sum") (rSum K) := by subst h; exact cr_sum hc
theorem kTup (h : X.K = K := by rfl) : CallR X (.type "tuple") (kTupB K) := by subst h; exact call_tupleB
def rListOf (K : PySem.W.Frag) : List V → Hp → VK → Prop := fun xs H Q => ∃ p ys, xs = [.ref p] ∧ (SqL K H p ys ∨ SqT K H p ys) ∧ ∀ l, H l = none → Q (.ref l) (upd H l (.lst ys))
theorem kLst (h : X.K = K := by rfl) : CallR X (.type "list") (rListOf K) := by subst h; exact call_list_of
theorem kSorted (h : X.K = K := by rfl) : CallR X (.builtin "sorted") (rSorted K) := by subst h; exact cr_sorted
variable {tg l o value e : Expr} {tl to tv ta te : TE} {f : Str} {pos pos' : Pos} {es : List Expr} {t : TA}
theorem kPl (hl : PE X l tl) (h : X.K = K := by rfl) : PI X tg l (iList K tl) := by subst h; exact pi_list hl
theorem kPt (hl : PE X l tl) (h : X.K = K := by rfl) : PI X tg l (iTup K tl) := by subst h; exact pi_tup hl
/-- a list or a tuple, walked -/
def iSeq (K : PySem.W.Frag) (tl : TE) : TI := fun σ H R => tl σ H fun x H1 => ∃ a xs, x = .ref a ∧ ((SqL K H1 a xs ∧ R (Itl K a) H1) ∨ (SqT K H1 a xs ∧ R (Itt K a) H1))
theorem kPs (hl : PE X l tl) (h : X.K = K := by rfl) : PI X tg l (iSeq K tl) := by
  subst h
  refine ⟨fun pins s σ H R I q => ?_⟩
  -- by a reading that gives either
  have key : ∀ (v : Value) (s1 : Shared) (x : V) (H1 : Hp), Inv X pins σ H1 s1 → RelV x v → (∃ a xs, x = .ref a ∧ ((SqL X.K H1 a xs ∧ R (Itl X.K a) H1) ∨ (SqT X.K H1 a xs ∧ R (Itt X.K a) H1))) → wpAny (model X.prog X.w) X.A (pyIter v) (PIE X pins σ tg R) X.xe s1 := by
    intro v s1 x H1 I1 rx q1
    obtain ⟨a, xs, rfl, q1⟩ := q1
    obtain rfl : v = Value.ref a := rx
    rcases q1 with ⟨hs, q1⟩ | ⟨hs, q1⟩
    · obtain ⟨its, r, pl, _⟩ := I1.list hs
      refine wpAny_pyIter_list pl.isList ⟨s1.heap.objs.size, [s1.heap.objs.size], _, _, H1, rfl, I1.kept (t' := s1.toks) (fun _ _ z => Heap.get?_push_of_some _ z), turn_list a _, ⟨_, Heap.get?_push_size _ rfl, rfl, rfl⟩, fun c hc => ?_, q1⟩
      rw [List.mem_singleton.mp hc]
      exact I1.fpOk (Nat.le_refl _) (I1.hok.fresh (Nat.le_refl _))
    · obtain ⟨its, r, pt, _⟩ := I1.tuple hs
      refine wpAny_pyIter_tuple pt ⟨s1.heap.objs.size, [s1.heap.objs.size], _, _, H1, rfl, I1.kept (t' := s1.toks) (fun _ _ z => Heap.get?_push_of_some _ z), turn_tuple a _, ⟨_, Heap.get?_push_size _ rfl, rfl, rfl⟩, fun c hc => ?_, q1⟩
      rw [List.mem_singleton.mp hc]
      exact I1.fpOk (Nat.le_refl _) (I1.hok.fresh (Nat.le_refl _))
  exact thn (hl.run pins s σ H _ I q) fun v s1 ⟨x, H1, I1, rx, q1⟩ => key v s1 x H1 I1 rx q1
theorem kFld (he : PE X e ta) (hb : attributeBase e f X.env (eval e X.env) = eval e X.env) (h : X.K = K := by rfl) : PE X (.Attribute e f pos) (tFld K ta f) := by subst h; exact pe_fld he hb
theorem kSfld (ha : PE X o ta) (hv : PE X value tv) (hs : swapsWith value (some (.Attribute o f pos')) pos.line X.env = pure false) (h : X.K = K := by rfl) : PS X (.Assign [.Attribute o f pos'] value pos) (sFld K ta tv f) := by subst h; exact ps_fld ha hv hs
end
end AA

namespace AA
open PySem PySem.Spec PyProof.Rows L2
/-! ### comprehensions that change nothing -/
/-- the items taken of 0, 1, .. below n: those with c, each told by Y -/
def Sel (c : Nat → Bool) (Y : Nat → V → Prop) : Nat → List V → Prop
  | 0, ys => ys = []
  | n + 1, ys => if c n = true then ∃ zs y, ys = zs ++ [y] ∧ Sel c Y n zs ∧ Y n y else Sel c Y n ys
theorem Sel.imp {c : Nat → Bool} {Y Z : Nat → V → Prop} (h : ∀ i v, Y i v → Z i v) : ∀ {n : Nat} {ys : List V}, Sel c Y n ys → Sel c Z n ys
  | 0, _, s => s
  | n + 1, ys, s => by
    unfold Sel at s ⊢
    by_cases e : c n = true
    · rw [if_pos e] at s ⊢
      obtain ⟨zs, y, e1, s1, q⟩ := s
      exact ⟨zs, y, e1, s1.imp h, h _ _ q⟩
    · rw [if_neg e] at s ⊢
      exact s.imp h
theorem Sel.len {c : Nat → Bool} {Y : Nat → V → Prop} : ∀ {n : Nat} {ys : List V}, Sel c Y n ys → ys.length ≤ n
  | 0, _, s => by rw [show _ = _ from s]; exact Nat.le_refl 0
  | n + 1, ys, s => by
    unfold Sel at s
    by_cases e : c n = true
    · rw [if_pos e] at s
      obtain ⟨zs, y, e1, s1, q⟩ := s
      have := s1.len
      rw [e1, List.length_append, List.length_singleton]; omega
    · rw [if_neg e] at s
      exact Nat.le_succ_of_le s.len
/-- values that are told -/
theorem Sel.eq {c : Nat → Bool} {f : Nat → V} : ∀ {n : Nat} {ys : List V}, Sel c (fun i v => v = f i) n ys → ys = ((List.range n).filter c).map f
  | 0, _, s => s
  | n + 1, ys, s => by
    unfold Sel at s
    rw [List.range_succ, List.filter_append, List.map_append]
    by_cases e : c n = true
    · rw [if_pos e] at s
      obtain ⟨zs, y, e1, s1, q⟩ := s
      rw [e1, s1.eq, q, List.filter_cons, if_pos e]; rfl
    · rw [if_neg e] at s
      rw [s.eq, List.filter_cons, if_neg e]; simp
theorem Sel.all {Y : Nat → V → Prop} : ∀ {n : Nat} {ys : List V}, Sel (fun _ => true) Y n ys → ys.length = n ∧ ∀ i y, ys[i]? = some y → Y i y
  | 0, ys, s => by
    have e : ys = [] := s
    subst e
    exact ⟨rfl, fun i y h => by simp at h⟩
  | n + 1, ys, s => by
    unfold Sel at s
    rw [if_pos rfl] at s
    obtain ⟨zs, y, rfl, s1, q⟩ := s
    obtain ⟨l, h⟩ := s1.all
    refine ⟨by rw [List.length_append, l]; rfl, fun i z e => ?_⟩
    by_cases hi : i < zs.length
    · rw [List.getElem?_append_left hi] at e; exact h i z e
    · rw [List.getElem?_append_right (by omega)] at e
      have hi2 : i - zs.length = 0 := by
        cases hk : i - zs.length with
        | zero => rfl
        | succ m => rw [hk] at e; simp at e
      rw [hi2] at e
      have e' : y = z := by simpa using e
      have : i = n := by omega
      rw [this, ← e']; exact q
theorem del_upd {H : Hp} {D : Addr} {o : HO} : L2.del (upd H D o) D = L2.del H D := by
  funext b
  by_cases h : b = D
  · rw [h, del_same, del_same]
  · rw [del_ne h, del_ne h, upd_ne h]
theorem same_into_del {H H' : Hp} {D : Addr} (h : H D = none) (s : Same H H') : Same H (L2.del H' D) := fun b o e => by
  rw [del_ne (ne_of_none e h)]; exact s b o e
/-- an iterator that yields xv 0, xv 1, .. (n of them), whatever comes beside H1 -/
structure Wk (J : It) (n : Nat) (xv : Nat → V) (H1 : Hp) : Prop where
  go : ∀ i H, i < n → Same H1 H → J.go i H
  stop : ∀ H, Same H1 H → J.stop n H
  yld : ∀ i H x H', i < n → Same H1 H → J.yld i H x H' → H' = H ∧ x = xv i
theorem lc_gen {J : It} {n j : Nat} {tt : TT} {te : TE} {vs : List Nat} {σ : L2.St} {H1 : Hp} {Qd : Addr → Hp → Prop} {xv : Nat → V} (wk : Wk J n xv H1) (c : Nat → Bool) (Y : Addr → Nat → V → Hp → Prop)
    (hn : n ≤ sizeLine) (hw : ∀ x, wipe ((wipe σ vs).set j (some x)) vs = wipe σ vs) (hY : ∀ D i v H H', Same H H' → Y D i v H → Y D i v H')
    (ht : ∀ i H, i < n → Same H1 H → ∀ Qt : Bool → Hp → Prop, (∀ H', Same H H' → Qt (c i) H') → tt ((wipe σ vs).set j (some (xv i))) H Qt)
    (he : ∀ D i H, H1 D = none → i < n → c i = true → Same H1 H → (∃ acc, H D = some (.lst acc)) → ∀ Qe : VK, (∀ y H', Same H H' → Y D i y (L2.del H' D) → Qe y H') → te ((wipe σ vs).set j (some (xv i))) H Qe)
    (hd : ∀ D H' ys, H1 D = none → Same H1 H' → H' D = some (.lst ys) → Sel c (fun i v => Y D i v (L2.del H' D)) n ys → Qd D H') :
    ∀ D, H1 D = none → ∃ W : Nat → Nat → Hp → Prop, (∃ m, W 0 m (upd H1 D (.lst []))) ∧ ∀ i m H, W i m H →
      (J.stop i H ∧ Qd D H) ∨ (J.go i H ∧ ∃ Nx : Hp → Prop, (∀ H', Nx H' → ∃ m', m' < m ∧ W (i + 1) m' H') ∧ ∀ x H', J.yld i H x H' → gName j x (wipe σ vs) H' fun σ2 H2 => wipe σ2 vs = wipe σ vs ∧ tt σ2 H2 fun b H3 =>
        if b = true then te σ2 H3 fun y H4 => ∃ acc, H4 D = some (.lst acc) ∧ acc.length < sizeLine ∧ Nx (upd H4 D (.lst (acc ++ [y]))) else Nx H3) := by
  intro D hD
  refine ⟨fun i m H => i + m = n ∧ Same H1 H ∧ ∃ ys, H D = some (.lst ys) ∧ Sel c (fun i v => Y D i v (L2.del H D)) i ys, ⟨n, by omega, same_new hD, [], upd_same, rfl⟩, fun i m H hW => ?_⟩
  obtain ⟨em, sm, ys, eD, sel⟩ := hW
  by_cases hi : i < n
  · refine .inr ⟨wk.go i H hi sm, fun H' => Same H1 H' ∧ ∃ ys, H' D = some (.lst ys) ∧ Sel c (fun i v => Y D i v (L2.del H' D)) (i + 1) ys, fun H' ⟨a, b⟩ => ⟨m - 1, by omega, by omega, a, b⟩, fun x H' hy' => ?_⟩
    obtain ⟨rfl, rfl⟩ := wk.yld i H x H' hi sm hy'
    refine ⟨hw _, ht i H' hi sm _ fun H3 s3 => ?_⟩
    have up : ∀ H4, Same H' H4 → Sel c (fun i v => Y D i v (L2.del H4 D)) i ys := fun H4 s4 => sel.imp fun k v q => hY _ _ _ _ _ (same_del s4) q
    by_cases hc : c i = true
    · rw [if_pos hc]
      refine he D i H3 hD hi hc (sm.trans s3) ⟨ys, s3 _ _ eD⟩ _ fun y H4 s4 q => ⟨ys, s4 _ _ (s3 _ _ eD), by have := sel.len; omega, Same.mut (sm.trans (s3.trans s4)) hD, ys ++ [y], upd_same, ?_⟩
      unfold Sel
      rw [if_pos hc]
      refine ⟨ys, y, rfl, ?_, ?_⟩
      · rw [del_upd]; exact up H4 (s3.trans s4)
      · rw [del_upd]; exact q
    · rw [if_neg hc]
      refine ⟨sm.trans s3, ys, s3 _ _ eD, ?_⟩
      unfold Sel
      rw [if_neg hc]
      exact up H3 s3
  · have e : i = n := by omega
    subst e
    exact .inl ⟨wk.stop H sm, hd D H ys hD sm eD sel⟩
/-- what an iterator over a list, a tuple, a range yields -/
theorem wk_list {K : PySem.W.Frag} {a : Addr} {xs : List V} {H1 : Hp} (h : SqL K H1 a xs) : Wk (Itl K a) xs.length (fun i => xs.getD i .non) H1 :=
  ⟨fun i H hi s => ⟨xs, _, sqL_same s h, List.getElem?_eq_getElem hi⟩, fun H s => ⟨xs, sqL_same s h, Nat.le_refl _⟩, fun i H x H' hi s y => ⟨y.1, by have q := y.2 xs (sqL_same s h); rw [List.getD_eq_getElem?_getD, q]; rfl⟩⟩
theorem wk_tup {K : PySem.W.Frag} {a : Addr} {xs : List V} {H1 : Hp} (h : SqT K H1 a xs) : Wk (Itt K a) xs.length (fun i => xs.getD i .non) H1 :=
  ⟨fun i H hi s => ⟨xs, _, sqT_same s h, List.getElem?_eq_getElem hi⟩, fun H s => ⟨xs, sqT_same s h, Nat.le_refl _⟩, fun i H x H' hi s y => ⟨y.1, by have q := y.2 xs (sqT_same s h); rw [List.getD_eq_getElem?_getD, q]; rfl⟩⟩
theorem wk_rng {lo : Int} {n : Nat} {H1 : Hp} : Wk (Itr lo n) n (fun i => .int (lo + i)) H1 := ⟨fun _ _ h _ => h, fun _ _ => Nat.le_refl _, fun _ _ _ _ _ _ y => y⟩
theorem seq_walk {K : PySem.W.Frag} {a : Addr} {xs : List V} {H1 : Hp} {R : It → Hp → Prop} (h : SqL K H1 a xs ∨ SqT K H1 a xs) (q : ∀ J, Wk J xs.length (fun i => xs.getD i .non) H1 → R J H1) :
    ∃ b ys, V.ref a = .ref b ∧ ((SqL K H1 b ys ∧ R (Itl K b) H1) ∨ (SqT K H1 b ys ∧ R (Itt K b) H1)) :=
  ⟨a, xs, rfl, h.imp (fun h => ⟨h, q _ (wk_list h)⟩) fun h => ⟨h, q _ (wk_tup h)⟩⟩
theorem seq_or {K : PySem.W.Frag} {a : Addr} {xs : List V} {H1 : Hp} {R : It → Hp → Prop} (h : SqL K H1 a xs ∨ SqT K H1 a xs) (q : ∀ J, Wk J xs.length (fun i => xs.getD i .non) H1 → R J H1) : (SqL K H1 a xs ∧ R (Itl K a) H1) ∨ (SqT K H1 a xs ∧ R (Itt K a) H1) :=
  h.imp (fun h => ⟨h, q _ (wk_list h)⟩) fun h => ⟨h, q _ (wk_tup h)⟩
theorem seq_var {K : PySem.W.Frag} {i : Nat} {σ : L2.St} {a : Addr} {xs : List V} {H : Hp} {R : It → Hp → Prop} (hv : σ[i]? = some (some (.ref a))) (h : SqL K H a xs ∨ SqT K H a xs) (q : ∀ J, Wk J xs.length (fun i => xs.getD i .non) H → R J H) : iSeq K (tVar i) σ H R :=
  ⟨_, hv, seq_walk h q⟩
theorem lst_var {K : PySem.W.Frag} {i : Nat} {σ : L2.St} {a : Addr} {xs : List V} {H : Hp} {R : It → Hp → Prop} (hv : σ[i]? = some (some (.ref a))) (h : SqL K H a xs) (q : Wk (Itl K a) xs.length (fun i => xs.getD i .non) H → R (Itl K a) H) : iList K (tVar i) σ H R :=
  ⟨_, hv, a, rfl, ⟨xs, h⟩, q (wk_list h)⟩
theorem tup_var {K : PySem.W.Frag} {i : Nat} {σ : L2.St} {a : Addr} {xs : List V} {H : Hp} {R : It → Hp → Prop} (hv : σ[i]? = some (some (.ref a))) (h : SqT K H a xs) (q : Wk (Itt K a) xs.length (fun i => xs.getD i .non) H → R (Itt K a) H) : iTup K (tVar i) σ H R :=
  ⟨_, hv, a, rfl, ⟨xs, h⟩, q (wk_tup h)⟩
def isSeqD : PyData → Bool
  | .list _ => true | .tuple _ => true | _ => false
theorem dp_seq {K : PySem.W.Frag} {H : Hp} {v : V} {d : PyData} (h : Dp K H v d) (s : isSeqD d = true) : ∃ a xs ds, v = .ref a ∧ (SqL K H a xs ∨ SqT K H a xs) ∧ DpAll K H xs ds ∧ (d = .list ds ∨ d = .tuple ds) := by
  cases h with
  | non => cases s
  | bl b => cases s
  | int i => cases s
  | str x => cases s
  | lst h1 h2 => exact ⟨_, _, _, rfl, .inl h1, h2, .inl rfl⟩
  | tup h1 h2 => exact ⟨_, _, _, rfl, .inr h1, h2, .inr rfl⟩
theorem seq_up {K : PySem.W.Frag} {H H' : Hp} {a : Addr} {xs : List V} (e : Same H H') (h : SqL K H a xs ∨ SqT K H a xs) : SqL K H' a xs ∨ SqT K H' a xs := h.imp (sqL_same e) (sqT_same e)
/-- the three steps joined: a comprehension over a name that holds a list or a tuple -/
theorem lc_seq {K : PySem.W.Frag} {i j : Nat} {tt : TT} {te : TE} {vs : List Nat} {σ : L2.St} {a : Addr} {xs : List V} {H : Hp} {Q : VK} (hv : σ[i]? = some (some (.ref a))) (h : SqL K H a xs ∨ SqT K H a xs) (hn : xs.length ≤ 100000) (c : Nat → Bool) (Y : Addr → Nat → V → Hp → Prop)
    (hw : ∀ x, wipe ((wipe σ vs).set j (some x)) vs = wipe σ vs) (hY : ∀ D i v H H', Same H H' → Y D i v H → Y D i v H')
    (ht : ∀ i H', i < xs.length → Same H H' → ∀ Qt : Bool → Hp → Prop, (∀ H2, Same H' H2 → Qt (c i) H2) → tt ((wipe σ vs).set j (some (xs.getD i .non))) H' Qt)
    (he : ∀ D i H', H D = none → i < xs.length → c i = true → Same H H' → (∃ acc, H' D = some (.lst acc)) → ∀ Qe : VK, (∀ y H2, Same H' H2 → Y D i y (L2.del H2 D) → Qe y H2) → te ((wipe σ vs).set j (some (xs.getD i .non))) H' Qe)
    (hd : ∀ D H' ys, H D = none → Same H H' → H' D = some (.lst ys) → Sel c (fun i v => Y D i v (L2.del H' D)) xs.length ys → Q (.ref D) H') : tLc (iSeq K (tVar i)) (gName j) tt te vs σ H Q :=
  seq_var hv h fun J wk => lc_gen wk c Y (by rw [sizeLine_eq]; omega) hw hY ht he hd
/-! ### loops, told by their own names, so that nothing unfolds them -/
def foI (J : It) (g : TG) (tb : TS) (D : Ends) (σ : L2.St) (H1 : Hp) : Prop := ∃ W : Nat → Nat → L2.St → Hp → Prop, (∃ m, W 0 m σ H1) ∧ ∀ i m σ H, W i m σ H →
  (J.stop i H ∧ D.nx σ H) ∨ (J.go i H ∧ ∃ N : L2.St → Hp → Prop, (∀ σ' H', N σ' H' → ∃ m', m' < m ∧ W (i + 1) m' σ' H') ∧ ∀ x H', J.yld i H x H' → g x σ H' fun σ2 H2 => tb { D with nx := N, ct := N, bk := D.nx } σ2 H2)
def lcI (J : It) (g : TG) (tt : TT) (te : TE) (vs : List Nat) (σ : L2.St) (H1 : Hp) (Q : VK) : Prop := ∀ D, H1 D = none → ∃ W : Nat → Nat → Hp → Prop, (∃ m, W 0 m (upd H1 D (.lst []))) ∧ ∀ i m H, W i m H →
  (J.stop i H ∧ Q (.ref D) H) ∨ (J.go i H ∧ ∃ Nx : Hp → Prop, (∀ H', Nx H' → ∃ m', m' < m ∧ W (i + 1) m' H') ∧ ∀ x H', J.yld i H x H' → g x (wipe σ vs) H' fun σ2 H2 => wipe σ2 vs = wipe σ vs ∧ tt σ2 H2 fun b H3 =>
    if b = true then te σ2 H3 fun y H4 => ∃ acc, H4 D = some (.lst acc) ∧ acc.length < sizeLine ∧ Nx (upd H4 D (.lst (acc ++ [y]))) else Nx H3)
@[irreducible] def FoI (J : It) (g : TG) (tb : TS) (D : Ends) (σ : L2.St) (H1 : Hp) : Prop := foI J g tb D σ H1
@[irreducible] def LcI (J : It) (g : TG) (tt : TT) (te : TE) (vs : List Nat) (σ : L2.St) (H1 : Hp) (Q : VK) : Prop := lcI J g tt te vs σ H1 Q
@[irreducible] def tForI (wi : TI) (g : TG) (tb : TS) : TS := tFor wi g tb
@[irreducible] def tWhI (c : TT) (tb : TS) : TS := tWhile c tb
@[irreducible] def tLcI (wi : TI) (g : TG) (tt : TT) (te : TE) (vs : List Nat) : TE := tLc wi g tt te vs
@[irreducible] def tLcI2 (wi : TI) (g : TG) (tt : TT) (wi1 : TI) (g1 : TG) (tt1 : TT) (te : TE) (vs vs1 : List Nat) : TE := tLc2 wi g tt wi1 g1 tt1 te vs vs1
theorem FoI_eq : @FoI = @foI := by funext J g tb D σ H; unfold FoI; rfl
theorem LcI_eq : @LcI = @lcI := by funext J g tt te vs σ H Q; unfold LcI; rfl
section
variable {X : Cx} {st : Stmt} {e : Expr} {wi wi1 : TI} {g g1 : TG} {tb : TS} {c tt tt1 : TT} {te : TE} {vs vs1 : List Nat} {i : Nat}
theorem ps_forI (h : PS X st (tFor wi g tb)) : PS X st (tForI wi g tb) := by unfold tForI; exact h
theorem ps_whI (h : PS X st (tWhile c tb)) : PS X st (tWhI c tb) := by unfold tWhI; exact h
theorem pe_lcI (h : PE X e (tLc wi g tt te vs)) : PE X e (tLcI wi g tt te vs) := by unfold tLcI; exact h
theorem ps_lcI (h : PS X st (tAsg (tLc wi g tt te vs) (gName i))) : PS X st (tAsg (tLcI wi g tt te vs) (gName i)) := by unfold tLcI; exact h
theorem pe_lcI2 (h : PE X e (tLc2 wi g tt wi1 g1 tt1 te vs vs1)) : PE X e (tLcI2 wi g tt wi1 g1 tt1 te vs vs1) := by unfold tLcI2; exact h
theorem ps_lcI2 (h : PS X st (tAsg (tLc2 wi g tt wi1 g1 tt1 te vs vs1) (gName i))) : PS X st (tAsg (tLcI2 wi g tt wi1 g1 tt1 te vs vs1) (gName i)) := by unfold tLcI2; exact h
end
theorem for_go {wi : TI} {g : TG} {tb : TS} {D : Ends} {σ : L2.St} {H : Hp} (h : wi σ H fun J H1 => FoI J g tb D σ H1) : tForI wi g tb D σ H := by
  rw [FoI_eq] at h; unfold tForI; exact h
theorem lc_go {wi : TI} {g : TG} {tt : TT} {te : TE} {vs : List Nat} {σ : L2.St} {H : Hp} {Q : VK} (h : wi σ H fun J H1 => LcI J g tt te vs σ H1 Q) : tLcI wi g tt te vs σ H Q := by
  rw [LcI_eq] at h; unfold tLcI; exact h
/-- while: W by a measure; the test's reading is given for all that may follow -/
theorem wh_by {c : TT} {tb : TS} {D : Ends} {σ : L2.St} {H : Hp} (W : Nat → L2.St → Hp → Prop) (m0 : Nat) (h0 : W m0 σ H)
    (hs : ∀ m σ H, W m σ H → ∀ Qt : Bool → Hp → Prop, (∀ H1, (tb { D with nx := fun σ' H' => ∃ m', m' < m ∧ W m' σ' H', ct := fun σ' H' => ∃ m', m' < m ∧ W m' σ' H', bk := D.nx } σ H1) → Qt true H1) → (∀ H1, D.nx σ H1 → Qt false H1) → c σ H Qt) : tWhI c tb D σ H := by
  unfold tWhI
  refine ⟨W, ⟨m0, h0⟩, fun m σ H hW => hs m σ H hW _ (fun H1 q => ?_) fun H1 q => ?_⟩
  · rw [if_pos rfl]; exact ⟨_, fun _ _ z => z, q⟩
  · rw [if_neg Bool.false_ne_true]; exact q
section
variable {g : TG} {tb : TS} {D : Ends} {σ : L2.St} {H : Hp} (Pv : Nat → L2.St → Hp → Prop)
theorem foi_range {lo : Int} {n : Nat} (h0 : Pv 0 σ H) (hs : ∀ i σ H, i < n → Pv i σ H → g (.int (lo + i)) σ H fun σ2 H2 => tb { D with nx := Pv (i + 1), ct := Pv (i + 1), bk := D.nx } σ2 H2) (hd : ∀ σ H, Pv n σ H → D.nx σ H) : FoI (Itr lo n) g tb D σ H := by
  rw [FoI_eq]; exact for_range Pv h0 hs hd
theorem foi_list {K : PySem.W.Frag} {a : Addr} {xs : List V} (h0 : Pv 0 σ H) (hl : ∀ i σ H, i ≤ xs.length → Pv i σ H → SqL K H a xs) (hs : ∀ i x σ H, xs[i]? = some x → Pv i σ H → g x σ H fun σ2 H2 => tb { D with nx := Pv (i + 1), ct := Pv (i + 1), bk := D.nx } σ2 H2) (hd : ∀ σ H, Pv xs.length σ H → D.nx σ H) : FoI (Itl K a) g tb D σ H := by
  rw [FoI_eq]; exact for_list Pv h0 hl hs hd
theorem foi_tup {K : PySem.W.Frag} {a : Addr} {xs : List V} (h0 : Pv 0 σ H) (hl : ∀ i σ H, i ≤ xs.length → Pv i σ H → SqT K H a xs) (hs : ∀ i x σ H, xs[i]? = some x → Pv i σ H → g x σ H fun σ2 H2 => tb { D with nx := Pv (i + 1), ct := Pv (i + 1), bk := D.nx } σ2 H2) (hd : ∀ σ H, Pv xs.length σ H → D.nx σ H) : FoI (Itt K a) g tb D σ H := by
  rw [FoI_eq]; exact for_tup Pv h0 hl hs hd
end
theorem lci_gen {J : It} {n j : Nat} {tt : TT} {te : TE} {vs : List Nat} {σ : L2.St} {H1 : Hp} {Q : VK} {xv : Nat → V} (wk : Wk J n xv H1) (c : Nat → Bool) (Y : Addr → Nat → V → Hp → Prop)
    (hn : n ≤ 100000) (hw : ∀ x, wipe ((wipe σ vs).set j (some x)) vs = wipe σ vs) (hY : ∀ D i v H H', Same H H' → Y D i v H → Y D i v H')
    (ht : ∀ i H, i < n → Same H1 H → ∀ Qt : Bool → Hp → Prop, (∀ H', Same H H' → Qt (c i) H') → tt ((wipe σ vs).set j (some (xv i))) H Qt)
    (he : ∀ D i H, H1 D = none → i < n → c i = true → Same H1 H → (∃ acc, H D = some (.lst acc)) → ∀ Qe : VK, (∀ y H', Same H H' → Y D i y (L2.del H' D) → Qe y H') → te ((wipe σ vs).set j (some (xv i))) H Qe)
    (hd : ∀ D H' ys, H1 D = none → Same H1 H' → H' D = some (.lst ys) → Sel c (fun i v => Y D i v (L2.del H' D)) n ys → Q (.ref D) H') : LcI J (gName j) tt te vs σ H1 Q := by
  rw [LcI_eq]; exact lc_gen wk c Y (Nat.le_trans hn (by rw [sizeLine_eq]; decide)) hw hY ht he hd
/-- no test -/
theorem t_yes {n : Nat} {H1 : Hp} {σ : Nat → L2.St} : ∀ i H, i < n → Same H1 H → ∀ Qt : Bool → Hp → Prop, (∀ H', Same H H' → Qt ((fun _ : Nat => true) i) H') → tYes (σ i) H Qt := fun _ H _ _ _ q => q H (Same.refl H)
/-! ### isinstance of data -/
def tyD : PyData → String
  | .none => "NoneType" | .bool _ => "bool" | .int _ => "int" | .str _ => "str" | .list _ => "list" | .tuple _ => "tuple" | .dict _ => "dict"
theorem ty_dp {K : PySem.W.Frag} {H : Hp} {v : V} {d : PyData} (h : Dp K H v d) : TyX K H v (.type (tyD d)) := by
  cases h with
  | non => exact .base .non
  | bl b => exact .base (.bl b)
  | int i => exact .base (.int i)
  | str x => exact .base (.str x)
  | lst s _ =>
    rcases s with (s | ⟨o, s⟩) | ⟨o, its, n, l, c, _⟩
    · exact .base (.lst s)
    · exact .base (.frz s)
    · exact .kList l c
  | tup s _ =>
    rcases s with (s | ⟨o, s⟩) | ⟨o, its, n, l, c, _⟩
    · exact .base (.tup s)
    · exact .fTuple s
    · exact .kTuple l c
def isBoolD : PyData → Bool
  | .bool _ => true | _ => false
def isIntD : PyData → Bool
  | .bool _ => true | .int _ => true | _ => false
def isStrD : PyData → Bool
  | .str _ => true | _ => false
def isTupD : PyData → Bool
  | .tuple _ => true | _ => false
theorem kit_seq {K : PySem.W.Frag} (d : PyData) : PySem.W.kitAny K (.type (tyD d)) [.type "list", .type "tuple"] = some (isSeqD d) := by
  cases d with
  | list ds => exact kitAny_cons (kit_ty (by decide +kernel : kitB "list" "list" = some true)) (fun h => by cases h) fun _ => rfl
  | tuple ds => exact kitAny_cons (kit_ty (by decide +kernel : kitB "tuple" "list" = some false)) (fun _ => kitAny_cons (kit_ty (by decide +kernel : kitB "tuple" "tuple" = some true)) (fun h => by cases h) fun _ => rfl) fun h => by cases h
  | none => exact kitAny_cons (kit_ty (by decide +kernel : kitB "NoneType" "list" = some false)) (fun _ => kitAny_cons (kit_ty (by decide +kernel : kitB "NoneType" "tuple" = some false)) (fun _ => kitAny_nil) fun h => by cases h) fun h => by cases h
  | bool b => exact kitAny_cons (kit_ty (by decide +kernel : kitB "bool" "list" = some false)) (fun _ => kitAny_cons (kit_ty (by decide +kernel : kitB "bool" "tuple" = some false)) (fun _ => kitAny_nil) fun h => by cases h) fun h => by cases h
  | int i => exact kitAny_cons (kit_ty (by decide +kernel : kitB "int" "list" = some false)) (fun _ => kitAny_cons (kit_ty (by decide +kernel : kitB "int" "tuple" = some false)) (fun _ => kitAny_nil) fun h => by cases h) fun h => by cases h
  | str x => exact kitAny_cons (kit_ty (by decide +kernel : kitB "str" "list" = some false)) (fun _ => kitAny_cons (kit_ty (by decide +kernel : kitB "str" "tuple" = some false)) (fun _ => kitAny_nil) fun h => by cases h) fun h => by cases h
  | dict kv => exact kitAny_cons (kit_ty (by decide +kernel : kitB "dict" "list" = some false)) (fun _ => kitAny_cons (kit_ty (by decide +kernel : kitB "dict" "tuple" = some false)) (fun _ => kitAny_nil) fun h => by cases h) fun h => by cases h
theorem kit_bool {K : PySem.W.Frag} (d : PyData) : PySem.W.kitOne K (.type (tyD d)) (.type "bool") = some (isBoolD d) := by
  cases d with
  | none => exact kit_ty (by decide +kernel : kitB "NoneType" "bool" = some false)
  | bool b => exact kit_ty (by decide +kernel : kitB "bool" "bool" = some true)
  | int i => exact kit_ty (by decide +kernel : kitB "int" "bool" = some false)
  | str x => exact kit_ty (by decide +kernel : kitB "str" "bool" = some false)
  | list ds => exact kit_ty (by decide +kernel : kitB "list" "bool" = some false)
  | tuple ds => exact kit_ty (by decide +kernel : kitB "tuple" "bool" = some false)
  | dict kv => exact kit_ty (by decide +kernel : kitB "dict" "bool" = some false)
theorem kit_int {K : PySem.W.Frag} (d : PyData) : PySem.W.kitOne K (.type (tyD d)) (.type "int") = some (isIntD d) := by
  cases d with
  | none => exact kit_ty (by decide +kernel : kitB "NoneType" "int" = some false)
  | bool b => exact kit_ty (by decide +kernel : kitB "bool" "int" = some true)
  | int i => exact kit_ty (by decide +kernel : kitB "int" "int" = some true)
  | str x => exact kit_ty (by decide +kernel : kitB "str" "int" = some false)
  | list ds => exact kit_ty (by decide +kernel : kitB "list" "int" = some false)
  | tuple ds => exact kit_ty (by decide +kernel : kitB "tuple" "int" = some false)
  | dict kv => exact kit_ty (by decide +kernel : kitB "dict" "int" = some false)
theorem kit_str {K : PySem.W.Frag} (d : PyData) : PySem.W.kitOne K (.type (tyD d)) (.type "str") = some (isStrD d) := by
  cases d with
  | none => exact kit_ty (by decide +kernel : kitB "NoneType" "str" = some false)
  | bool b => exact kit_ty (by decide +kernel : kitB "bool" "str" = some false)
  | int i => exact kit_ty (by decide +kernel : kitB "int" "str" = some false)
  | str x => exact kit_ty (by decide +kernel : kitB "str" "str" = some true)
  | list ds => exact kit_ty (by decide +kernel : kitB "list" "str" = some false)
  | tuple ds => exact kit_ty (by decide +kernel : kitB "tuple" "str" = some false)
  | dict kv => exact kit_ty (by decide +kernel : kitB "dict" "str" = some false)
theorem kit_tup {K : PySem.W.Frag} (d : PyData) : PySem.W.kitOne K (.type (tyD d)) (.type "tuple") = some (isTupD d) := by
  cases d with
  | none => exact kit_ty (by decide +kernel : kitB "NoneType" "tuple" = some false)
  | bool b => exact kit_ty (by decide +kernel : kitB "bool" "tuple" = some false)
  | int i => exact kit_ty (by decide +kernel : kitB "int" "tuple" = some false)
  | str x => exact kit_ty (by decide +kernel : kitB "str" "tuple" = some false)
  | list ds => exact kit_ty (by decide +kernel : kitB "list" "tuple" = some false)
  | tuple ds => exact kit_ty (by decide +kernel : kitB "tuple" "tuple" = some true)
  | dict kv => exact kit_ty (by decide +kernel : kitB "dict" "tuple" = some false)
def lenD : PyData → Nat
  | .list ds => ds.length | .tuple ds => ds.length | _ => 0
theorem dpAll_getD {K : PySem.W.Frag} {H : Hp} {vs : List V} {ds : List PyData} {i : Nat} (h : DpAll K H vs ds) (hi : i < vs.length) : Dp K H (vs.getD i .non) (ds.getD i .none) := by
  obtain ⟨d, e, q⟩ := dpAll_get h (List.getElem?_eq_getElem hi)
  rw [List.getD_eq_getElem?_getD, List.getD_eq_getElem?_getD, e, List.getElem?_eq_getElem hi]
  exact q
theorem small_le {n : Nat} (h : n ≤ 100000) : n ≤ sizeLine := Nat.le_trans h (by rw [sizeLine_eq]; decide)
/-- a list made of all items -/
theorem sel_map {α : Type} {f : Nat → V} {n : Nat} {ys : List V} {ds : List α} {g : α → V} (z : α) (s : Sel (fun _ => true) (fun i v => v = f i) n ys) (hn : n = ds.length) (hf : ∀ i, i < n → f i = g (ds.getD i z)) : ys = ds.map g := by
  obtain ⟨l, h⟩ := s.all
  apply List.ext_getElem?
  intro i
  by_cases hi : i < ys.length
  · rw [List.getElem?_eq_getElem hi]
    have e := h i _ (List.getElem?_eq_getElem hi)
    have hi2 : i < ds.length := by omega
    rw [e, hf i (by omega), List.getElem?_map, List.getElem?_eq_getElem hi2, List.getD_eq_getElem?_getD, List.getElem?_eq_getElem hi2]
    rfl
  · rw [List.getElem?_eq_none (by omega), List.getElem?_eq_none (by rw [List.length_map]; omega)]
theorem cls_lt : Paired ClsV [V.ty "list", V.ty "tuple"] [Value.type "list", Value.type "tuple"] := .cons (.ty _) (.cons (.ty _) .nil)
end AA

namespace AA
open PySem PySem.Spec PyProof.Rows L2
/-! ### o.f as a target -/
def gFld (K : PySem.W.Frag) (to : TE) (f : Str) : TG := fun v σ H Q => to σ H fun x H1 => ∃ a C dx fs, x = .ref a ∧ H1 a = some (.ins C dx fs) ∧ Cls K C ∧ NoAttr K C f ∧ fs.length < 1000 ∧ Q σ (upd H1 a (.ins C dx (putF f v fs)))
theorem kGfld {X : Cx} (K : PySem.W.Frag) {o : Expr} {to : TE} {f : Str} {pos : Pos} (ho : PE X o to) (hK : X.K = K := by rfl) : PG X (.Attribute o f pos) (gFld K to f) := by
  subst hK
  refine ⟨fun pins s σ H v u Q I r h => ?_⟩
  rw [assign_Attribute]
  refine wpAny_bind (wpAny_holding (thn (ho.run pins s σ H _ I h) fun ov s1 ⟨x, H1, I1, r1, a, C, dx, fs, ex, ea, c, n, l, q⟩ => ?_))
  subst ex
  obtain rfl : ov = Value.ref a := r1
  refine wpAny_bind (wpAny_standAt (wpAny_bind (wpAny_holding (setattr_ok I1 ea c n l r fun s2 J => ?_))))
  exact wpAny_release ⟨σ, _, J, q⟩
theorem kGtup {X : Cx} (K : PySem.W.Frag) (n : Nat) {es : List Expr} {k : Nat} {t : TGs} {pos : Pos} (hc : X.calm = true) (h : PGs X es t) (hn : (assignEach es X.env).length = n := by rfl) (hs : (assignEach es X.env).findIdx? (·.1) = none := by rfl) (hK : X.K = K := by rfl) : PG X (.Tuple es k pos) (gTup K n t) := by
  subst hK; exact pg_tup hc h hn hs
/-! ### errors with one field -/
theorem pa_cl {X : Cx} {es : List Expr} {ta : TA} (h : PA X es ta) : PA X es (fun σ H Q => ∃ R, ta σ H R ∧ ∀ vs H1, R vs H1 → Q vs H1) :=
  ⟨fun pos pins s σ H Q I ⟨R, hR, k⟩ => thn (h.run pos pins s σ H R I hR) fun us s1 ⟨vs, H1, I1, r, q⟩ => ⟨vs, H1, I1, r, k _ _ q⟩⟩
def spErr1 (C : Addr) (fld : Str) : Sp := fun vs H Q _ => ∃ (a : Addr) (v : V), vs = [.ref a, v] ∧ H a = some (exo a C none) ∧ ∀ dx, H dx = none → dx ≠ a → Q .non (upd (upd H dx (exd dx [(fld, v)])) a (exo a C (some dx)))
/-- what the written part says of the base class of all errors -/
structure BaseC (K : PySem.W.Frag) (mg : Str → Option Value) (x : Str) : Prop where
  ex : ∃ (B : Addr) (mc : Value), mg x = some (.ref B) ∧ PySem.W.specialIn K (.ref B) "__getattribute__" = some (some (.builtin "type.__getattribute__")) ∧ PySem.W.readsIn K B mc = true ∧
    PySem.W.findCls K (.ref B) mc "__init__" = some (.val (.builtin "ValueError.__init__"))
theorem pe_base {X : Cx} (K : PySem.W.Frag) {e : Expr} {es : List Expr} {ta : TA} {p1 p2 pos : Pos} {x : Str} {pl : Sem Bool} (B : BaseC K X.mg x) (hg : Gl X x) (ha : PA X (e :: es) ta) (hK : X.K = K := by rfl)
    (hdb : (x == ("__debug__" : Str)) = false := by decide)
    (hc : eval (.Call (.Attribute (.Name x p1) "__init__" p2) (e :: es) [] pos) X.env = (do
      let ov ← eval (.Name x p1) X.env
      standAt p2.atName
      let (f, first) ← holding [ov] (getMethod ov "__init__" pl)
      callWith pos f first (backTo pos (starEach (e :: es) X.env)) (backToKw pos (keywordEach [] X.env))) := by rfl)
    (he : starEach (e :: es) X.env = (false, eval e X.env) :: starEach es X.env := by rfl) (hpl : (backTo pos (starEach es X.env)).any (·.1) = false := by rfl) :
    PE X (.Call (.Attribute (.Name x p1) "__init__" p2) (e :: es) [] pos) (tVeI K ta) := by
  subst hK
  obtain ⟨b, mc, g, ga, rd, fc⟩ := B.ex
  exact pe_beinit hg g ga rd fc ha hdb hc he hpl
theorem kOst {X : Cx} (K : PySem.W.Frag) {o e : Expr} {to te : TE} {f : Str} {p' pos : Pos} (ho : PE X o to) (he : PE X e te) (hK : X.K = K := by rfl) (hs : swapsWith e (some (.Attribute o f p')) pos.line X.env = pure false := by rfl) : PS X (.Assign [.Attribute o f p'] e pos) (tOst K f to te) := by
  subst hK; exact ps_ost ho he hs
/-- an error's class with one field, its __init__ walked -/
structure Err1 (P : Program) (w : World) (K : PySem.W.Frag) (mg : Str → Option Value) (base : Heap) (k : Nat) (x fld : Str) (C : Addr) : Prop where
  oex : OexC K C
  gC : mg x = some (.ref C)
  ex : ∃ (fI : Addr) (fd : FuncData), PySem.W.findIn K (.ref C) "__init__" = some (some (.ref fI)) ∧ PySem.W.typeIn K (.ref fI) = some (.type "function") ∧ FnOk P w K mg base CX0 k fI fd ["self", fld] (spErr1 C fld) ∧ L2.Binds K fd ["self", fld] []
def tErr1 (C : Addr) (fld : Str) (ta : TA) : L2.St → Hp → XK → Prop := fun σ H Q => ta σ H fun vs H1 => ∃ v, vs = [v] ∧ ∀ d H2, Same H1 H2 → H1 d = none → H2 d = some (.xd [(fld, v)]) → Q (.ref C) (some d) H2
theorem pmk_err1 {X : Cx} {k j : Nat} {x fld : Str} {C : Addr} {e : Expr} {ta : TA} {p pos : Pos} (T : Err1 X.prog X.w X.K X.mg X.base k x fld C) (hr : Room j X.A) (hk : k + 1 ≤ j) (hg : Gl X x) (ha : PA X [e] ta)
    (hdb : (x == ("__debug__" : Str)) = false := by decide) (he : starEach [e] X.env = (false, eval e X.env) :: starEach [] X.env := by rfl) (hpl : (backTo pos (starEach [] X.env)).any (·.1) = false := by rfl) :
    PMk X (.Call (.Name x p) [e] [] pos) (tErr1 C fld ta) := by
  obtain ⟨fI, fd, i, t, F, b⟩ := T.ex
  intro pins s σ H Q I h
  refine pmk_oex T.oex i t F (hr.mono hk) b .nil pass0 hg T.gC (pa_cl ha) hdb he hpl pins s σ H Q I ⟨_, h, fun vs H1 ⟨v, ev, q⟩ => ?_⟩
  subst ev
  refine ⟨Nat.le_of_ble_eq_true rfl, fun a na => ⟨a, v, rfl, upd_same, fun dx nd ne => ⟨rfl, dx, [(fld, v)], upd_same, ?_, ?_, q dx _ (fun c o ec => ?_) ?_ upd_same⟩⟩⟩
  · rw [upd_ne ne, upd_same]
  · rw [upd_ne ne] at nd; exact nd
  · rw [upd_ne ne] at nd
    rw [upd_ne (ne_of_none ec nd), del_ne (ne_of_none ec na), upd_ne (ne_of_none ec na), upd_ne (ne_of_none ec nd), upd_ne (ne_of_none ec na)]
    exact ec
  · rw [upd_ne ne] at nd; exact nd
/-- what stands of such a class behind the top; st: its __init__ -/
structure ErrF (K : PySem.W.Frag) (mg : Str → Option Value) (x q fld : Str) (C : Addr) (st : Stmt) : Prop where
  oex : OexC K C
  gC : mg x = some (.ref C)
  te : PySem.W.exmOne K (.ref C) (.ref C) = some true
  no : PySem.W.findIn K (.ref C) fld = some none
  xf : XfC K C
  ini : ∃ (fI : Addr) (fd : FuncData), PySem.W.findIn K (.ref C) "__init__" = some (some (.ref fI)) ∧ PySem.W.typeIn K (.ref fI) = some (.type "function") ∧ Fun K "__init__" q st fI fd
/-- what stands of a plain class; st: its __init__ -/
structure ClsF (K : PySem.W.Frag) (mg : Str → Option Value) (x q : Str) (C : Addr) (st : Stmt) : Prop where
  gC : mg x = some (.ref C)
  cl : Cls K C
  ini : ∃ (fI : Addr) (fd : FuncData), Mk K C fI ∧ Fun K "__init__" q st fI fd
theorem exm_own {K : PySem.W.Frag} {S : Addr} (h1 : PySem.W.subIn K (.ref S) (.type "BaseException") = some true) (h2 : PySem.W.isClsIn K S = true) (h3 : PySem.W.typeIn K (.ref S) = some (.type "type")) (h4 : PySem.W.subIn K (.ref S) (.ref S) = some true) : PySem.W.exmOne K (.ref S) (.ref S) = some true := by
  unfold PySem.W.exmOne
  have q : (PySem.W.clsIn K S).isSome = true := h2
  simp [PySem.W.kitCls, h1, q, h3, h4]
end AA

namespace AA
open PySem PySem.Spec PyProof.Rows L2
/-! ### written data. W: a part of the heap that leaves out what may change; it grows by what is new -/
structure Grow (H W H' W' : Hp) : Prop where
  hh : Same H H'
  ww : Same W W'
  wh : Same W' H'
  old : ∀ a, H a ≠ none → W' a = W a
theorem Grow.refl {H W : Hp} (s : Same W H) : Grow H W H W := ⟨Same.refl H, Same.refl W, s, fun _ _ => rfl⟩
theorem Grow.trans {H W H1 W1 H2 W2 : Hp} (x : Grow H W H1 W1) (y : Grow H1 W1 H2 W2) : Grow H W H2 W2 :=
  ⟨x.hh.trans y.hh, x.ww.trans y.ww, y.wh, fun a ha => by
    have h1 : H1 a ≠ none := fun z => ha (x.hh.free z)
    rw [y.old a h1, x.old a ha]⟩
theorem Grow.new {H W : Hp} {p : Addr} {o : HO} (s : Same W H) (n : H p = none) : Grow H W (upd H p o) (upd W p o) :=
  ⟨same_new n, same_new (s.free n), fun b u e => by
    by_cases h : b = p
    · subst h; rw [upd_same] at e ⊢; exact e
    · rw [upd_ne h] at e ⊢; exact s b u e, fun a ha => upd_ne fun z => ha (by rw [z]; exact n)⟩
/-- a new thing that W leaves out -/
theorem Grow.out {H W : Hp} {p : Addr} {o : HO} (s : Same W H) (n : H p = none) : Grow H W (upd H p o) W :=
  ⟨same_new n, Same.refl W, s.trans (same_new n), fun _ _ => rfl⟩
def EvD (K : PySem.W.Frag) (te : TE) (d : PyData) : Prop := ∀ σ H W (Q : VK), Same W H → (∀ v H' W', Grow H W H' W' → Dp K W' v d → Q v H') → te σ H Q
def EvDs (K : PySem.W.Frag) (ta : TA) (ds : List PyData) : Prop := ∀ σ H W (Q : List V → Hp → Prop), Same W H → (∀ vs H' W', Grow H W H' W' → DpAll K W' vs ds → Q vs H') → ta σ H Q
section
variable {K : PySem.W.Frag} {te : TE} {ta : TA} {d : PyData} {ds : List PyData}
theorem evd_non : EvD K (tC .non) .none := fun _ H W _ s q => q _ H W (.refl s) .non
theorem evd_bl {b : Bool} : EvD K (tC (.bl b)) (.bool b) := fun _ H W _ s q => q _ H W (.refl s) (.bl b)
theorem evd_int {i : Int} : EvD K (tC (.int i)) (.int i) := fun _ H W _ s q => q _ H W (.refl s) (.int i)
theorem evd_str {x : Str} : EvD K (tC (.str x)) (.str x) := fun _ H W _ s q => q _ H W (.refl s) (.str x)
theorem evd_neg {i : Int} : EvD K (tUn (rU fun i => .int (-i)) (tC (.int i))) (.int (-i)) := fun _ H W _ s q => ⟨i, rfl, q _ H W (.refl s) (.int (-i))⟩
theorem evds_nil : EvDs K tNil [] := fun _ H W _ s q => q [] H W (.refl s) .nil
theorem evds_cons (h : EvD K te d) (t : EvDs K ta ds) : EvDs K (tCons te ta) (d :: ds) := fun σ H W Q s q =>
  h σ H W _ s fun v H1 W1 g1 h1 => t σ H1 W1 _ g1.wh fun vs H2 W2 g2 h2 => q (v :: vs) H2 W2 (g1.trans g2) (.cons (dp_same g2.ww h1) h2)
theorem evd_tup (h : EvDs K ta ds) (l : ds.length ≤ 1000 := by exact Nat.le_of_ble_eq_true rfl) : EvD K (tTup ta) (.tuple ds) := fun σ H W Q s q =>
  h σ H W _ s fun vs H1 W1 g1 h1 => ⟨by rw [dpAll_len h1, sizeLine_eq]; omega, fun p np => q _ _ _ (g1.trans (.new g1.wh np)) (.tup (SqT.of upd_same) (dpAll_same (same_new (g1.wh.free np)) h1))⟩
theorem evd_lst (h : EvDs K ta ds) (l : ds.length ≤ 1000 := by exact Nat.le_of_ble_eq_true rfl) : EvD K (tLst ta) (.list ds) := fun σ H W Q s q =>
  h σ H W _ s fun vs H1 W1 g1 h1 => ⟨by rw [dpAll_len h1, sizeLine_eq]; omega, fun p np => q _ _ _ (g1.trans (.new g1.wh np)) (.lst (SqL.of upd_same) (dpAll_same (same_new (g1.wh.free np)) h1))⟩
/-- a new list that may change: W leaves it out -/
def EvDL (K : PySem.W.Frag) (te : TE) (ds : List PyData) : Prop := ∀ σ H W (Q : VK), Same W H → (∀ p xs H' W', Grow H W H' W' → H p = none → W' p = none → H' p = some (.lst xs) → DpAll K W' xs ds → Q (.ref p) H') → te σ H Q
theorem evdl (h : EvDs K ta ds) (l : ds.length ≤ 1000 := by exact Nat.le_of_ble_eq_true rfl) : EvDL K (tLst ta) ds := fun σ H W Q s q =>
  h σ H W _ s fun vs H1 W1 g1 h1 => ⟨by rw [dpAll_len h1, sizeLine_eq]; omega, fun p np => q p vs _ _ (g1.trans (.out g1.wh np)) (g1.hh.free np) (g1.wh.free np) upd_same h1⟩
/-- the same by steps -/
theorem lst_lit {σ : L2.St} {H W : Hp} {Q : VK} (ds : List PyData) (s : Same W H) (h : EvDs K ta ds) (q : ∀ p xs H' W', Grow H W H' W' → H p = none → W' p = none → H' p = some (.lst xs) → DpAll K W' xs ds → Q (.ref p) H') (l : ds.length ≤ 1000 := by exact Nat.le_of_ble_eq_true rfl) : tLst ta σ H Q := evdl h l σ H W Q s q
theorem any_lit {σ : L2.St} {H W : Hp} {Q : VK} (d : PyData) (s : Same W H) (h : EvD K te d) (q : ∀ v H' W', Grow H W H' W' → Dp K W' v d → Q v H') : te σ H Q := h σ H W Q s q
theorem dpAll_append {H : Hp} : ∀ {vs ws : List V} {ds es : List PyData}, DpAll K H vs ds → DpAll K H ws es → DpAll K H (vs ++ ws) (ds ++ es)
  | _, _, _, _, .nil, h => h
  | _, _, _, _, .cons a t, h => .cons a (dpAll_append t h)
/-- [x] * n -/
theorem evd_rep {tb : TE} {n : Nat} (h : EvDL K te ds) (hb : ∀ σ H (Q : VK), Q (.int (n : Int)) H → tb σ H Q) (hn : n ≤ 1000) (hl : ds.length ≤ 1000) : EvD K (tOp rRep te tb) (.list (List.replicate n ds).flatten) := fun σ H W Q s q =>
  h σ H W _ s fun p xs H1 W1 g1 n1 n2 hp ha => hb σ H1 _ ⟨p, n, xs, rfl, rfl, hp, by omega, by omega, by
    rw [dpAll_len ha, sizeLine_eq]
    have : ds.length * (n : Int).toNat ≤ 1000 * 1000 := Nat.mul_le_mul hl (by omega)
    omega, fun r nr => q _ _ _ (g1.trans (.new g1.wh nr)) (.lst (SqL.of upd_same) (by
      rw [Int.toNat_natCast]
      have w := g1.wh.free nr
      have key : ∀ m : Nat, DpAll K (upd W1 r (.lst (List.replicate n xs).flatten)) (List.replicate m xs).flatten (List.replicate m ds).flatten := by
        intro m
        induction m with
        | zero => exact .nil
        | succ m ih => exact dpAll_append (dpAll_same (same_new w) ha) ih
      exact key n))⟩
theorem dpAll_mem {H : Hp} : ∀ {vs : List V} {ds : List PyData} {v : V}, DpAll K H vs ds → v ∈ vs → ∃ d, d ∈ ds ∧ Dp K H v d
  | _, _, _, .nil, h => by cases h
  | _, _, v, .cons a t, h => by
    rcases List.mem_cons.mp h with e | e
    · subst e; exact ⟨_, List.mem_cons_self .., a⟩
    · obtain ⟨d, h1, h2⟩ := dpAll_mem t e; exact ⟨d, List.mem_cons_of_mem _ h1, h2⟩
/-- x + y of lists -/
theorem cat_dp {H W : Hp} {p q : Addr} {xs ys : List V} {Q : VK} (s : Same W H) (hp : H p = some (.lst xs)) (hq : H q = some (.lst ys)) (l : xs.length + ys.length ≤ 100000)
    (k : ∀ r H', Grow H W H' W → H r = none → W r = none → H' r = some (.lst (xs ++ ys)) → Q (.ref r) H') : rCat (.ref p) (.ref q) H Q :=
  ⟨p, q, xs, ys, rfl, rfl, hp, hq, by rw [sizeLine_eq]; omega, fun r nr => k r _ (.out s nr) nr (s.free nr) upd_same⟩
theorem kBm {X : Cx} (K : PySem.W.Frag) {e : Expr} {T : String} {r : V → List V → Hp → VK → Prop} {to : TE} {t : TA} (h : PE X e (tBM X.K T r to t)) (hK : X.K = K := by rfl) : PE X e (tBM K T r to t) := by subst hK; exact h
theorem kBm0 {X : Cx} (K : PySem.W.Frag) {e : Expr} {T : String} {r : V → List V → Hp → VK → Prop} {to : TE} (h : PE X e (tBM0 X.K T r to)) (hK : X.K = K := by rfl) : PE X e (tBM0 K T r to) := by subst hK; exact h
/-- xs.append(y), the list a tracked one -/
theorem app_go {σ : L2.St} {D : Ends} {i : Nat} {p : Addr} {xs : List V} {H : Hp} {ta : TA} (hv : σ[i]? = some (some (.ref p))) (hp : H p = some (.lst xs)) (q : ta σ H fun vs H1 => ∃ y, vs = [y] ∧ H1 p = some (.lst xs) ∧ xs.length < 100000 ∧ D.nx σ (upd H1 p (.lst (xs ++ [y])))) (mono : ∀ R R' : List V → Hp → Prop, (∀ vs H1, R vs H1 → R' vs H1) → ta σ H R → ta σ H R') :
    tDrop (tBM K "list" rAppend (tVar i) ta) D σ H :=
  ⟨_, hv, .inl ⟨rfl, _, SqL.of hp⟩, mono _ _ (fun vs H1 ⟨y, e, h1, l, k⟩ => ⟨p, xs, y, rfl, e, h1, by rw [sizeLine_eq]; omega, k⟩) q⟩
end
end AA

namespace AA
open PySem PySem.Spec PyProof.Rows L2
def topS (i : Nat) : Stmt := PySem.Challenge.pw_anyanswer_k03_lengths_refused.main.body.getD i (.Pass ⟨0, 0, 0, 0⟩)
end AA
namespace AA
open PySem PySem.Spec PyProof.Rows L2
abbrev s_law_take : Stmt := (topS 18)
theorem sc_law_take : FnScope ["_law_box_here", "_law_many", "_law_digit", "_law_raw", "_law_wide"] ["_law_box_here", "_law_many"] (defScope s_law_take) := ⟨rfl, rfl, rfl, by decide +kernel, rfl, by decide +kernel, by decide +kernel⟩
abbrev s_law_box : Stmt := (topS 17)
theorem sc_law_box : FnScope ["_law_script", "_law_k", "_law_own", "_law_cell", "_law_seed"] ["_law_script", "_law_k", "_law_own"] (defScope s_law_box) := ⟨rfl, rfl, rfl, by decide +kernel, rfl, by decide +kernel, by decide +kernel⟩
abbrev s_law_pick : Stmt := (topS 19)
theorem sc_law_pick : FnScope ["_law_box_here", "_law_items"] ["_law_box_here", "_law_items"] (defScope s_law_pick) := ⟨rfl, rfl, rfl, by decide +kernel, rfl, by decide +kernel, by decide +kernel⟩
abbrev s_are_bools : Stmt := (topS 9)
theorem sc_are_bools : FnScope ["value", "one"] ["value"] (defScope s_are_bools) := ⟨rfl, rfl, rfl, by decide +kernel, rfl, by decide +kernel, by decide +kernel⟩
abbrev s_least_cycle : Stmt := (topS 10)
theorem sc_least_cycle : FnScope ["cycle", "size"] ["cycle"] (defScope s_least_cycle) := ⟨rfl, rfl, rfl, by decide +kernel, rfl, by decide +kernel, by decide +kernel⟩
abbrev s_least_form : Stmt := (topS 11)
theorem sc_least_form : FnScope ["begin", "cycle"] ["begin", "cycle"] (defScope s_least_form) := ⟨rfl, rfl, rfl, by decide +kernel, rfl, by decide +kernel, by decide +kernel⟩
abbrev s_law_value : Stmt := (topS 20)
theorem sc_law_value : FnScope ["_law_box_here", "_law_some"] ["_law_box_here"] (defScope s_law_value) := ⟨rfl, rfl, rfl, by decide +kernel, rfl, by decide +kernel, by decide +kernel⟩
abbrev s_law_refusal : Stmt := (topS 21)
theorem sc_law_refusal : FnScope ["_law_begin", "_law_cycle", "_law_found", "e"] ["_law_begin", "_law_cycle"] (defScope s_law_refusal) := ⟨rfl, rfl, rfl, by decide +kernel, rfl, by decide +kernel, by decide +kernel⟩
abbrev s_law : Stmt := (topS 22)
theorem sc_law : FnScope ["_law_script", "_law_k", "_law_box_here", "_law_turn", "_law_one", "_law_is_one", "_law_other", "_law_is_other", "_law_due"] ["_law_script"] (defScope s_law) := ⟨rfl, rfl, rfl, by decide +kernel, rfl, by decide +kernel, by decide +kernel⟩
abbrev s_Lengths_init : Stmt := (inClass (topS 15) 0)
theorem sc_Lengths_init : FnScope ["self", "begin", "cycle"] ["self", "begin", "cycle"] (defScope s_Lengths_init) := ⟨rfl, rfl, rfl, by decide +kernel, rfl, by decide +kernel, by decide +kernel⟩

/-! ### the shortest cycle -/
def tells (bs : List Bool) (n : Nat) : Bool := bs.length % n == 0 && decide ((List.replicate (bs.length / n) (bs.take n)).flatten = bs)
def leastCycle (bs : List Bool) : List Bool := match (List.range bs.length).find? fun i => tells bs (i + 1) with
  | some i => bs.take (i + 1)
  | none => bs
theorem leastCycle_at {bs : List Bool} {i : Nat} (hi : i < bs.length) (no : ∀ j < i, tells bs (j + 1) = false) (h : tells bs (i + 1) = true) : leastCycle bs = bs.take (i + 1) := by
  unfold leastCycle
  have e : (List.range bs.length).find? (fun i => tells bs (i + 1)) = some i := by
    rw [List.find?_eq_some_iff_getElem]
    refine ⟨h, i, by rw [List.length_range]; exact hi, List.getElem_range _, fun j hj => ?_⟩
    rw [List.getElem_range, no j hj]; rfl
  rw [e]
theorem leastCycle_none {bs : List Bool} (no : ∀ j < bs.length, tells bs (j + 1) = false) : leastCycle bs = bs := by
  unfold leastCycle
  have e : (List.range bs.length).find? (fun i => tells bs (i + 1)) = none := by
    rw [List.find?_eq_none]
    intro x hx
    rw [no x (List.mem_range.mp hx)]; decide
  rw [e]
def spLC (K : PySem.W.Frag) : Sp := fun vs H Q _ => ∃ (a : Addr) (bs : List Bool), vs = [.ref a] ∧ SqT K H a (bs.map V.bl) ∧ 0 < bs.length ∧ bs.length ≤ 1000 ∧ GivesT K H ((leastCycle bs).map V.bl) Q
/-- the beginning made shorter, last sign by last sign, the cycle turned -/
def shrink : Nat → List Bool → List Bool → List Bool × List Bool
  | 0, b, c => (b, c)
  | n + 1, b, c => if b.getLast? = c.getLast? then shrink n b.dropLast (c.drop (c.length - 1) ++ c.dropLast) else (b, c)
def leastForm (b c : List Bool) : List Bool × List Bool := shrink b.length b (leastCycle c)
theorem leastCycle_len {bs : List Bool} (h : 0 < bs.length) : 0 < (leastCycle bs).length ∧ (leastCycle bs).length ≤ bs.length := by
  unfold leastCycle
  split
  · rw [List.length_take]; omega
  · omega
def spLF (K : PySem.W.Frag) : Sp := fun vs H Q _ => ∃ (a b : Addr) (bg cy : List Bool), vs = [.ref a, .ref b] ∧ SqT K H a (bg.map V.bl) ∧ SqT K H b (cy.map V.bl) ∧ bg.length ≤ 1000 ∧ 0 < cy.length ∧ cy.length ≤ 1000 ∧
  ∀ (p q r : Addr) (H' : Hp), Same H H' → SqT K H' p [.ref q, .ref r] → SqT K H' q ((leastForm bg cy).1.map V.bl) → SqT K H' r ((leastForm bg cy).2.map V.bl) → Q (.ref p) H'
def isBools : PyData → Bool
  | .list ds => (ds.map isBoolD).all id
  | .tuple ds => (ds.map isBoolD).all id
  | _ => false
def spAB (K : PySem.W.Frag) : Sp := fun vs H Q _ => ∃ (v : V) (d : PyData), vs = [v] ∧ Dp K H v d ∧ lenD d ≤ 100000 ∧ ∀ H', Same H H' → Q (.bl (isBools d)) H'

def bitD : PyData → Bool
  | .bool b => b
  | _ => false
/-- the bools of a list or a tuple -/
def bits : PyData → List Bool
  | .list ds => ds.map bitD
  | .tuple ds => ds.map bitD
  | _ => []
theorem bits_len (d : PyData) : (bits d).length = lenD d := by
  cases d <;> first | exact List.length_map _ | rfl
theorem dpAll_bits {K : PySem.W.Frag} {H : Hp} : ∀ {vs : List V} {ds : List PyData}, DpAll K H vs ds → (ds.map isBoolD).all id = true → vs = (ds.map bitD).map V.bl
  | _, _, .nil, _ => rfl
  | _, _, .cons h t, e => by
    rw [List.map_cons, List.all_cons, Bool.and_eq_true] at e
    rw [List.map_cons, List.map_cons, ← dpAll_bits t e.2]
    cases h with
    | bl b => rfl
    | non => cases e.1
    | int i => cases e.1
    | str x => cases e.1
    | lst _ _ => cases e.1
    | tup _ _ => cases e.1
theorem dp_bits {K : PySem.W.Frag} {H : Hp} {v : V} {d : PyData} (h : Dp K H v d) (hb : isBools d = true) : ∃ a, v = .ref a ∧ (SqL K H a ((bits d).map V.bl) ∨ SqT K H a ((bits d).map V.bl)) := by
  cases h with
  | non => cases hb
  | bl b => cases hb
  | int i => cases hb
  | str x => cases hb
  | lst h1 h2 => rw [dpAll_bits h2 hb] at h1; exact ⟨_, rfl, .inl h1⟩
  | tup h1 h2 => rw [dpAll_bits h2 hb] at h1; exact ⟨_, rfl, .inr h1⟩
theorem put_bc (u v : V) : putF "cycle" v [(("begin" : Str), u)] = ([("begin", u), ("cycle", v)] : List (Str × V)) := by
  show (if (("begin" : Str) = "cycle") then [(("begin" : Str), v)] else ((("begin" : Str), u) :: putF "cycle" v [])) = ([("begin", u), ("cycle", v)] : List (Str × V))
  rw [if_neg (by decide +kernel)]; rfl
/-- a tuple stays where an instance changes -/
theorem sqT_ins {K : PySem.W.Frag} {H : Hp} {x z C dx : Addr} {fs : List (Str × V)} {o : HO} {ys : List V} (hx : H x = some (.ins C dx fs)) (h : SqT K H z ys) : SqT K (upd H x o) z ys := by
  rcases h with (h | ⟨ob, h⟩) | h
  · exact .inl (.inl (by rw [upd_ne (ne_of h hx (by intro q; cases q))]; exact h))
  · exact .inl (.inr ⟨ob, by rw [upd_ne (ne_of h hx (by intro q; cases q))]; exact h⟩)
  · exact .inr h
/-- Lengths.__init__: made, or refused with a word -/
def spLenInit (K : PySem.W.Frag) (C CE : Addr) : Sp := fun vs H Q E => ∃ (x dx : Addr) (v1 v2 : V) (d1 d2 : PyData), vs = [.ref x, v1, v2] ∧ H x = some (.ins C dx []) ∧ Dp K H v1 d1 ∧ Dp K H v2 d2 ∧ lenD d1 ≤ 1000 ∧ lenD d2 ≤ 1000 ∧
  (isBools d1 = false → ∀ d H', Same H H' → H d = none → H' d = some (.xd [("word", .str "begin")]) → E (.ref CE) (some d) H') ∧
  (isBools d1 = true → (isBools d2 = false ∨ lenD d2 = 0) → ∀ d H', Same H H' → H d = none → H' d = some (.xd [("word", .str "cycle")]) → E (.ref CE) (some d) H') ∧
  (isBools d1 = true → isBools d2 = true → 0 < lenD d2 → ∀ (p q : Addr) (H' : Hp), But x H H' → H' x = some (.ins C dx [("begin", .ref p), ("cycle", .ref q)]) → SqT K H' p ((leastForm (bits d1) (bits d2)).1.map V.bl) → SqT K H' q ((leastForm (bits d1) (bits d2)).2.map V.bl) → Q .non H')
structure Ad where
  InvalidLengths : Addr
  Lengths : Addr
abbrev s_InvalidLengths : Stmt := (inClass (topS 3) 0)
theorem sc_InvalidLengths : FnScope ["self", "word"] ["self", "word"] (defScope s_InvalidLengths) := ⟨rfl, rfl, rfl, by decide +kernel, rfl, by decide +kernel, by decide +kernel⟩
structure Txt (K : PySem.W.Frag) (mg : Str → Option Value) (c : Ad) : Prop where
  b_repr : mg "repr" = none
  b_max : mg "max" = none
  b_min : mg "min" = none
  b_int : mg "int" = none
  b_len : mg "len" = none
  b_abs : mg "abs" = none
  b_isinstance : mg "isinstance" = none
  b_list : mg "list" = none
  b_tuple : mg "tuple" = none
  b_bool : mg "bool" = none
  b_all : mg "all" = none
  b_range : mg "range" = none
  f_law_take : At K mg "_law_take" s_law_take
  f_law_box : At K mg "_law_box" s_law_box
  f_law_pick : At K mg "_law_pick" s_law_pick
  f_are_bools : At K mg "are_bools" s_are_bools
  f_least_cycle : At K mg "least_cycle" s_least_cycle
  f_least_form : At K mg "least_form" s_least_form
  f_law_value : At K mg "_law_value" s_law_value
  f_law_refusal : At K mg "_law_refusal" s_law_refusal
  f_law : At K mg "law" s_law
  base : BaseC K mg "AnswerError"
  e_InvalidLengths : ErrF K mg "InvalidLengths" "InvalidLengths.__init__" "word" c.InvalidLengths s_InvalidLengths
  c_Lengths : ClsF K mg "Lengths" "Lengths.__init__" c.Lengths s_Lengths_init
  n_Lengths_begin : NoAttr K c.Lengths "begin"
  n_Lengths_cycle : NoAttr K c.Lengths "cycle"
local macro_rules | `(tactic| walk_at "hp") => `(tactic| (first | assumption | exact upd_same | (refine' at_up (by assumption) ?hh; (case hh => walk_at "hp")) | (refine' at_same (by assumption) ?hh; (case hh => walk_at "hp"))))
local macro_rules | `(tactic| walk_at "sq") => `(tactic| (first | assumption | exact SqL.of upd_same | exact SqT.of upd_same | exact SqL.of (by assumption) | exact SqT.of (by assumption) | (refine' sqL_up (by assumption) ?hh; (case hh => walk_at "sq")) | (refine' sqT_up (by assumption) ?hh; (case hh => walk_at "sq")) | (refine' sqL_same (by assumption) ?hh; (case hh => walk_at "sq")) | (refine' sqT_same (by assumption) ?hh; (case hh => walk_at "sq")) | (refine' dp_up (by assumption) ?hh; (case hh => walk_at "sq")) | (refine' dp_same (by assumption) ?hh; (case hh => walk_at "sq"))))
local macro_rules | `(tactic| walk_at "sv") => `(tactic| (first | exact Eq.refl _ | assumption | omega | walk_at "sq" | walk_at "hp" | exact Or.inl ⟨_, by walk_at "sq", rfl⟩ | exact Or.inr ⟨_, by walk_at "sq", rfl⟩ | exact Or.inl ⟨by omega, by omega⟩ | exact Or.inr ⟨by omega, by omega⟩ | exact ⟨by decide, by decide, by decide⟩ | exact ⟨by decide, by decide, by omega⟩ | exact wide_div (b := 100) (by first | assumption | omega) (by omega) (by decide) (by decide) | (show (0 : Int) < _; omega) | exact atI_bit | exact cls_lt | exact ClsV.ty _ | exact ClsV.own _ | (refine' ty_dp ?hh; (case hh => walk_at "sq")) | exact kit_seq _ | exact shaped_tupB _ | exact shaped_lstB _ | exact kit_bool _ | exact kit_int _ | exact kit_str _ | exact kit_tup _ | exact Nat.le_of_ble_eq_true rfl))
local macro_rules | `(tactic| walk_at "ex") => `(tactic| repeat (first | (apply Exists.intro) | (apply And.intro; focus (walk_at "sv")) | refine Or.inl ⟨_, rfl, ?_⟩ | refine Or.inr ⟨_, rfl, ?_⟩ | refine for_go ?_ | refine lc_go ?_))
local macro_rules | `(tactic| walk_at "lit") => `(tactic| repeat' (first | exact evd_bl | exact evd_int | exact evd_str | exact evd_non | exact evd_neg | exact evds_nil | refine evds_cons ?_ ?_ | refine evd_tup ?_ | refine evd_lst ?_ | exact evd_rep (n := 3) (ds := [.bool false]) (evdl (evds_cons evd_bl evds_nil)) (fun _ _ _ q => q) (by decide) (by decide)))
theorem ok_law_take {P : Program} {w : World} {K : PySem.W.Frag} {mg : Str → Option Value} {base : Heap} {c : Ad} {f : Addr} {fd : FuncData} (F : Fun K "_law_take" "_law_take" s_law_take f fd) (T : Txt K mg c) : FnOk P w K mg base CX0 1 f fd ["_law_box_here", "_law_many"] spTake := by
  refine F.ok sc_law_take (fun vs H Q E h => ?_) (fun cdv A outer s H vs Q E hr h => ?_)
  · obtain ⟨b, m, rfl, _⟩ := h; rfl
  · obtain ⟨b, m, rfl, ⟨x, sd, c, hb, s0, s1⟩, m0, m1, k⟩ := h
    refine ⟨_, (pss_cons (ps_if (pt_cmpR op_gt (pe_ix (kIxL K) (pv 0) pe_int (fun _ _ => rfl)) pe_int (nomark _))
 (pss_cons (ps_set (i := 2) sc_law_take.nd rfl (by first | exact Or.inl rfl | exact Or.inr rfl) (pe_op op_mod (pe_callTy call_int1 (by rfl) T.b_int (by decide +kernel) (pa_cons (pe_ix (kIxL K) (pv 0) pe_int (fun _ _ => rfl)) pa_nil)) (pv 1)))
 (pss_cons (ps_asg (pe_op op_fdivW (pe_ix (kIxL K) (pv 0) pe_int (fun _ _ => rfl)) (pv 1)) (pg_sub (pv 0) pe_int set_list))
 (pss_one (ps_ret (pv 2)))))
 pss_nil)
 (pss_cons (ps_asg (pe_op op_add (pe_ix (kIxL K) (pv 0) pe_int (fun _ _ => rfl)) pe_int) (pg_sub (pv 0) pe_int set_list))
 (pss_cons (ps_set (i := 3) sc_law_take.nd rfl (by first | exact Or.inl rfl | exact Or.inr rfl) (pe_op op_mod (pe_callTy call_int1 (by rfl) T.b_int (by decide +kernel) (pa_cons (pe_op op_mul (pe_op op_add (pe_ix (kIxL K) (pv 0) pe_int (fun _ _ => rfl)) (pe_op op_mul pe_int (pe_ix (kIxL K) (pv 0) pe_int (fun _ _ => rfl)))) pe_int) pa_nil)) pe_int))
 (pss_cons (ps_asg (pe_op op_add (pe_op op_mod (pe_callTy call_int1 (by rfl) T.b_int (by decide +kernel) (pa_cons (pe_op op_add (pe_op op_mul (pv 3) pe_int) pe_int) pa_nil)) pe_int) pe_int) (pg_sub (pv 0) pe_int set_list))
 (pss_cons (ps_if (pt_cmpR op_lt (pv 1) (pe_op op_pow pe_int pe_int) (nomark _))
 (pss_one (ps_ret (pe_op op_mod (pe_callTy call_int1 (by rfl) T.b_int (by decide +kernel) (pa_cons (pe_op op_fdivW (pe_op op_add (pe_op op_mul (pv 3) pe_int) (pe_ix (kIxL K) (pv 0) pe_int (fun _ _ => rfl))) pe_int) pa_nil)) (pv 1))))
 pss_nil)
 (pss_cons (ps_set (i := 4) sc_law_take.nd rfl (by first | exact Or.inl rfl | exact Or.inr rfl) (pe_op op_mul (pe_op op_add (pe_op op_mul (pv 3) pe_int) (pe_ix (kIxL K) (pv 0) pe_int (fun _ _ => rfl))) (pe_op op_pow pe_int pe_int)))
 (pss_one (ps_ret (pe_op op_mod (pe_callTy call_int1 (by rfl) T.b_int (by decide +kernel) (pa_cons (pe_op op_add (pe_op op_add (pv 4) (pe_op op_mul (pe_op op_pow (pe_ix (kIxL K) (pv 0) pe_int (fun _ _ => rfl)) pe_int) pe_int)) (pv 3)) pa_nil)) (pv 1)))))))))), ?_⟩
    walk_at "ex"
    refine ite2 (fun h => ?_) (fun h => ?_)
    · walk_at "ex"
      exact k _ _ (Int.emod_nonneg _ (by omega)) (Int.emod_lt_of_pos _ m0) but_upd ⟨_, _, _, upd_same, s0, s1⟩
    · walk_at "ex"
      have fin : ∀ z : Int, Q (.int (z % m)) (upd (upd H b (.lst [.int x, .int sd, .int (c + 1)])) b (.lst [.int x, .int (((sd + 104729 * (c + 1)) * 69623 % 2147483647 * 48271 + 30103) % 2147483629 + 1), .int (c + 1)])) := fun z =>
        k _ _ (Int.emod_nonneg _ (by omega)) (Int.emod_lt_of_pos _ m0) (but_upd.trans but_upd) ⟨_, _, _, upd_same, by omega, by omega⟩
      refine ite2 (fun h => ?_) (fun h => ?_)
      · walk_at "ex"
        exact fin _
      · walk_at "ex"
        exact fin _

theorem cal_law_take {P : Program} {w : World} {K : PySem.W.Frag} {mg : Str → Option Value} {base : Heap} {c : Ad} (T : Txt K mg c) : CalX CX0 P w K mg base 1 "_law_take" spTake := by
  obtain ⟨f, fd, F, m⟩ := T.f_law_take
  exact ⟨f, fd, _, ok_law_take F T, m, F.kp, F.binds (ps := ["_law_box_here", "_law_many"]) fun _ _ _ _ _ _ us hl => match us, hl with | [_, _], _ => rfl⟩
theorem ok_law_box {P : Program} {w : World} {K : PySem.W.Frag} {mg : Str → Option Value} {base : Heap} {c : Ad} {f : Addr} {fd : FuncData} (F : Fun K "_law_box" "_law_box" s_law_box f fd) (T : Txt K mg c) : FnOk P w K mg base CX0 1 f fd ["_law_script", "_law_k", "_law_own"] (spBox K) := by
  refine F.ok sc_law_box (fun vs H Q E h => ?_) (fun cdv A outer s H vs Q E hr h => ?_)
  · obtain ⟨a, ns, kk, own, rfl, _⟩ := h; rfl
  · obtain ⟨a, ns, kk, own, rfl, hS, k0, k1, o0, o1, k⟩ := h
    refine ⟨_, (pss_cons (ps_set (i := 3) sc_law_box.nd rfl (by first | exact Or.inl rfl | exact Or.inr rfl) (pe_op op_add (pe_op op_add (pe_op op_mul pe_int (pv 1)) (pe_op op_mul pe_int (pv 2))) pe_int))
 (pss_cons (ps_if (pt_cmpR op_lt (pv 1) (pe_callB (kLen K) (by rfl) T.b_len (by decide +kernel) (pa_cons (pv 0) pa_nil)) (nomark _))
 (pss_one (ps_set (i := 3) sc_law_box.nd rfl (by first | exact Or.inl rfl | exact Or.inr rfl) (pe_callB call_abs (by rfl) T.b_abs (by decide +kernel) (pa_cons (pe_ix (kIxL K) (pv 0) (pv 1) (fun _ _ => rfl)) pa_nil))))
 (pss_one (ps_if (pt_cmpR op_gt (pe_callB (kLen K) (by rfl) T.b_len (by decide +kernel) (pa_cons (pv 0) pa_nil)) pe_int (nomark _))
 (pss_one (ps_set (i := 3) sc_law_box.nd rfl (by first | exact Or.inl rfl | exact Or.inr rfl) (pe_op op_add (pv 3) (pe_op op_mul (pe_op op_mod (pe_callTy call_int1 (by rfl) T.b_int (by decide +kernel) (pa_cons (pe_callB call_abs (by rfl) T.b_abs (by decide +kernel) (pa_cons (pe_ix (kIxL K) (pv 0) (pe_op op_mod (pe_callTy call_int1 (by rfl) T.b_int (by decide +kernel) (pa_cons (pv 1) pa_nil)) (pe_callB (kLen K) (by rfl) T.b_len (by decide +kernel) (pa_cons (pv 0) pa_nil))) (fun _ _ => rfl)) pa_nil)) pa_nil)) pe_int) pe_int))))
 pss_nil)))
 (pss_cons (ps_set (i := 4) sc_law_box.nd rfl (by first | exact Or.inl rfl | exact Or.inr rfl) (pe_op op_add (pe_op op_mod (pe_callTy call_int1 (by rfl) T.b_int (by decide +kernel) (pa_cons (pe_op op_add (pe_op op_mul (pe_op op_mod (pe_callTy call_int1 (by rfl) T.b_int (by decide +kernel) (pa_cons (pv 3) pa_nil)) pe_int) pe_int) (pe_op op_mul pe_int (pe_op op_add (pv 1) (pe_op op_mul pe_int (pv 2))))) pa_nil)) pe_int) pe_int))
 (pss_one (ps_ret (pe_lst (pa_cons (pe_ix (kIxL K) (pe_lst (pa_cons pe_int (pa_cons (pv 3) pa_nil))) (pe_callTy call_int1 (by rfl) T.b_int (by decide +kernel) (pa_cons (pe_cmpR op_ge (pv 3) (pe_op op_pow pe_int pe_int) (nomark _)) pa_nil)) (fun _ _ => rfl)) (pa_cons (pv 4) (pa_cons pe_int pa_nil))))))))), ?_⟩
    walk_at "ex"
    refine ite2 (fun h => ?_) (fun h => ?_)
    · obtain ⟨z, hz⟩ := atI_int k0 (of_decide_eq_true h)
      walk_at "ex"
      intro q hq
      walk_at "ex"
      intro p hp
      exact k p _ (Same.free (same_new hq) hp) (Same.up (same_new hq) hp) ⟨_, _, _, upd_same, by omega, by omega⟩
    · walk_at "ex"
      refine ite2 (fun h => ?_) (fun h => ?_)
      · obtain ⟨z, hz⟩ := atI_int (ns := ns) (i := kk % ((ns.map V.int).length : Int)) (Int.emod_nonneg _ (by have := of_decide_eq_true h; omega)) (Int.emod_lt_of_pos _ (of_decide_eq_true h))
        have hl := of_decide_eq_true h
        walk_at "ex"
        intro q hq
        walk_at "ex"
        intro p hp
        exact k p _ (Same.free (same_new hq) hp) (Same.up (same_new hq) hp) ⟨_, _, _, upd_same, by omega, by omega⟩
      · walk_at "ex"
        intro q hq
        walk_at "ex"
        intro p hp
        exact k p _ (Same.free (same_new hq) hp) (Same.up (same_new hq) hp) ⟨_, _, _, upd_same, by omega, by omega⟩

theorem cal_law_box {P : Program} {w : World} {K : PySem.W.Frag} {mg : Str → Option Value} {base : Heap} {c : Ad} (T : Txt K mg c) : CalX CX0 P w K mg base 1 "_law_box" (spBox K) := by
  obtain ⟨f, fd, F, m⟩ := T.f_law_box
  exact ⟨f, fd, _, ok_law_box F T, m, F.kp, F.binds (ps := ["_law_script", "_law_k", "_law_own"]) fun _ _ _ _ _ _ us hl => match us, hl with | [_, _, _], _ => rfl⟩
theorem ok_law_pick {P : Program} {w : World} {K : PySem.W.Frag} {mg : Str → Option Value} {base : Heap} {c : Ad} {f : Addr} {fd : FuncData} (F : Fun K "_law_pick" "_law_pick" s_law_pick f fd) (T : Txt K mg c) : FnOk P w K mg base CX0 2 f fd ["_law_box_here", "_law_items"] (spPick K) := by
  refine F.ok sc_law_pick (fun vs H Q E h => ?_) (fun cdv A outer s H vs Q E hr h => ?_)
  · obtain ⟨b, a, xs, rfl, _⟩ := h; rfl
  · obtain ⟨b, a, xs, rfl, hB, nab, hS, l0, l1, k⟩ := h
    refine ⟨_, (pss_one (ps_ret (pe_ix (kIxL K) (pv 1) (pe_cl (cal_law_take (K := K) T) hr (by decide) (by rfl) (pa_cons (pv 0) (pa_cons (pe_callB (kLen K) (by rfl) T.b_len (by decide +kernel) (pa_cons (pv 1) pa_nil)) pa_nil))) (fun _ _ => rfl)))), ?_⟩
    walk_at "ex"
    intro d H' d0 d1 bt hB'
    obtain ⟨v, hv, e⟩ := atI_get d0 d1
    have hS' := but_sqL nab bt hS
    walk_at "ex"
    exact k v H' hv bt hB'

theorem cal_law_pick {P : Program} {w : World} {K : PySem.W.Frag} {mg : Str → Option Value} {base : Heap} {c : Ad} (T : Txt K mg c) : CalX CX0 P w K mg base 2 "_law_pick" (spPick K) := by
  obtain ⟨f, fd, F, m⟩ := T.f_law_pick
  exact ⟨f, fd, _, ok_law_pick F T, m, F.kp, F.binds (ps := ["_law_box_here", "_law_items"]) fun _ _ _ _ _ _ us hl => match us, hl with | [_, _], _ => rfl⟩
theorem ok_are_bools {P : Program} {w : World} {K : PySem.W.Frag} {mg : Str → Option Value} {base : Heap} {c : Ad} {f : Addr} {fd : FuncData} (F : Fun K "are_bools" "are_bools" s_are_bools f fd) (T : Txt K mg c) : FnOk P w K mg base CX0 1 f fd ["value"] (spAB K) := by
  refine F.ok sc_are_bools (fun vs H Q E h => ?_) (fun cdv A outer s H vs Q E hr h => ?_)
  · obtain ⟨v, d, rfl, _⟩ := h; rfl
  · obtain ⟨v, d, rfl, hD, hl, k⟩ := h
    refine ⟨_, (pss_one (ps_ret (pe_and (pe_callB (kIsiT K) (by rfl) T.b_isinstance (by decide +kernel) (pa_cons (pv 0) (pa_cons (pe_tup (pa_cons (pe_bltn (v := .ty "list") (by rfl) T.b_list (by decide +kernel) rfl) (pa_cons (pe_bltn (v := .ty "tuple") (by rfl) T.b_tuple (by decide +kernel) rfl) pa_nil))) pa_nil))) (pe_one (pe_callB (kAll K) (by rfl) T.b_all (by decide +kernel) (pa_cons (pe_lcI (pe_lc (own := [("one", 1)]) (g := gName 1) rfl sc_are_bools.nd (kPs K (pv 0)) (blkOk_by (own := [("one", 1)]) (N := ["value", "one"]) (sc := defScope s_are_bools) (by decide +kernel)) (fun _ _ _ _ _ => (pg_name (i := 1) sc_are_bools.nd rfl (by first | exact Or.inl rfl | exact Or.inr rfl))) (fun _ _ _ _ _ => pts_nil) (fun _ _ _ _ _ => (pe_callB (kIsi K) (by rfl) T.b_isinstance (by decide +kernel) (pa_cons (pv 1) (pa_cons (pe_bltn (v := .ty "bool") (by rfl) T.b_bool (by decide +kernel) rfl) pa_nil)))))) pa_nil)))))), ?_⟩
    walk_at "ex"
    intro p hp
    walk_at "ex"
    refine ite2 (fun hs => ?_) (fun hs => ?_)
    · obtain ⟨a, xs, ds, rfl, hq, ha, hd⟩ := dp_seq hD hs
      have el := dpAll_len ha
      have hz : xs.length ≤ 100000 := by rcases hd with rfl | rfl <;> (have : ds.length ≤ 100000 := hl; omega)
      refine lc_go ?_
      refine seq_var rfl (seq_up (same_new hp) hq) fun J wk => ?_
      refine lci_gen wk (fun _ => true) (fun _ i v _ => v = .bl (isBoolD (ds.getD i .none))) hz (fun _ => rfl) (fun _ _ _ _ _ _ q => q) t_yes (fun D i H' _ hi _ sm _ Qe q => ?_) (fun D H' ys hD' sm eD sel => ?_)
      · have hi' := dpAll_getD (dpAll_same sm (dpAll_same (same_new hp) ha)) hi
        walk_at "ex"
        exact q _ _ (Same.refl _) rfl
      · have e := sel_map (g := fun d => V.bl (isBoolD d)) PyData.none sel el fun i _ => rfl
        have e2 : SqL K H' D ((ds.map isBoolD).map V.bl) := by rw [List.map_map]; exact SqL.of (e ▸ eD)
        walk_at "ex"
        have e3 : (ds.map isBoolD).all id = isBools d := by rcases hd with rfl | rfl <;> rfl
        show Q (V.bl ((ds.map isBoolD).all id)) H'
        rw [e3]
        exact k _ ((same_new hp).trans sm)
    · have e3 : isBools d = false := by cases d <;> first | rfl | exact absurd rfl hs
      rw [e3] at k
      exact k _ (same_new hp)

theorem cal_are_bools {P : Program} {w : World} {K : PySem.W.Frag} {mg : Str → Option Value} {base : Heap} {c : Ad} (T : Txt K mg c) : CalX CX0 P w K mg base 1 "are_bools" (spAB K) := by
  obtain ⟨f, fd, F, m⟩ := T.f_are_bools
  exact ⟨f, fd, _, ok_are_bools F T, m, F.kp, F.binds (ps := ["value"]) fun _ _ _ _ _ _ us hl => match us, hl with | [_], _ => rfl⟩
theorem ok_least_cycle {P : Program} {w : World} {K : PySem.W.Frag} {mg : Str → Option Value} {base : Heap} {c : Ad} {f : Addr} {fd : FuncData} (F : Fun K "least_cycle" "least_cycle" s_least_cycle f fd) (T : Txt K mg c) : FnOk P w K mg base CX0 1 f fd ["cycle"] (spLC K) := by
  refine F.ok sc_least_cycle (fun vs H Q E h => ?_) (fun cdv A outer s H vs Q E hr h => ?_)
  · obtain ⟨a, bs, rfl, _⟩ := h; rfl
  · obtain ⟨a, bs, rfl, hS, l0, l1, k⟩ := h
    refine ⟨_, (pss_cons (ps_forI (ps_for PassesOwn.never rfl (pi_range2 (by rfl) T.b_range (pa_cons pe_int (pa_cons (pe_op op_add (pe_callB (kLen K) (by rfl) T.b_len (by decide +kernel) (pa_cons (pv 0) pa_nil)) pe_int) pa_nil))) (pg_name (i := 1) sc_least_cycle.nd rfl (by first | exact Or.inl rfl | exact Or.inr rfl))
 (pss_one (ps_if (PW.pt (pw_and (pt_cmpR op_eq (pe_op op_mod (pe_callB (kLen K) (by rfl) T.b_len (by decide +kernel) (pa_cons (pv 0) pa_nil)) (pv 1)) pe_int (nomark _)) (pw_and1 (pt_cmpR (kEq K hr.units) (pe_op (kRepT K) (pe_slice (kSlT K) (pv 0) po_none (po_some (pv 1))) (pe_op op_fdivW (pe_callB (kLen K) (by rfl) T.b_len (by decide +kernel) (pa_cons (pv 0) pa_nil)) (pv 1))) (pv 0) (nomark _)))))
 (pss_one (ps_ret (pe_slice (kSlT K) (pv 0) po_none (po_some (pv 1)))))
 pss_nil))))
 (pss_one (ps_ret (pv 0)))), ?_⟩
    have hlen : (bs.map V.bl).length = bs.length := List.length_map _
    walk_at "ex"
    refine foi_range (fun i σ H' => ∃ y, σ = [some (.ref a), y] ∧ Same H H' ∧ ∀ j < i, tells bs (j + 1) = false) ⟨none, rfl, Same.refl H, fun j h => absurd h (Nat.not_lt_zero j)⟩ ?_ ?_
    · rintro i σ H' hi ⟨y, rfl, sm, no⟩
      have hi2 : i < bs.length := by omega
      have ecut : cutV (bs.map V.bl) none (some (1 + (i : Int))) = (bs.take (i + 1)).map V.bl := by
        rw [cut_toI (by omega) (by omega), List.map_take, show (1 + (i : Int)).toNat = i + 1 by omega]
      have hS' := sqT_same sm hS
      walk_at "ex"
      refine ite2 (fun h => ?_) (fun h => ?_)
      · walk_at "ex"
        intro p H1 sm1 hp
        rw [ecut] at hp
        have hq : (1 : Int) ≤ (bs.map V.bl).length / (1 + (i : Int)) := (Int.le_ediv_iff_mul_le (by omega)).mpr (by omega)
        have hq2 : ((bs.map V.bl).length : Int) / (1 + (i : Int)) ≤ 1000 := Int.le_trans (Int.ediv_le_self _ (by omega)) (by omega)
        have hne : (bs.take (i + 1)).map V.bl ≠ [] := fun e => by
          have := congrArg List.length e
          rw [List.length_map, List.length_take, List.length_nil] at this; omega
        have hml : ((bs.take (i + 1)).map V.bl).length ≤ 1000 := by rw [List.length_map, List.length_take]; omega
        walk_at "ex"
        intro p2 H2 sm2 hp2
        have e4 : (((bs.map V.bl).length : Int) / (1 + (i : Int))).toNat = bs.length / (i + 1) := by
          rw [hlen, show (1 + (i : Int)) = ((i + 1 : Nat) : Int) by omega]; exact Int.toNat_natCast _
        rw [rep_map, e4] at hp2
        have d1 := dp_tupB hp2
        have d2 := dp_tupB (sqT_same sm2 (sqT_same sm1 hS'))
        walk_at "ex"
        have e5 : tells bs (i + 1) = decide ((List.replicate (bs.length / (i + 1)) (bs.take (i + 1))).flatten = bs) := by
          unfold tells
          have hm : ((bs.map V.bl).length : Int) % (1 + (i : Int)) = 0 := V.int.inj (of_decide_eq_true h)
          have hm2 : bs.length % (i + 1) = 0 := by
            rw [hlen, show (1 + (i : Int)) = ((i + 1 : Nat) : Int) by omega] at hm; omega
          rw [hm2]; rfl
        rw [eqv_tupB]
        refine ite2 (fun h2 => ?_) (fun h2 => ?_)
        · walk_at "ex"
          have e6 : leastCycle bs = bs.take (i + 1) := leastCycle_at hi2 no (by rw [e5]; exact h2)
          rw [ecut, ← e6]
          exact fun p3 H3 sm3 hp3 => k p3 H3 (sm.trans (sm1.trans (sm2.trans sm3))) hp3
        · refine ⟨_, rfl, sm.trans (sm1.trans sm2), fun j hj => ?_⟩
          by_cases ej : j = i
          · rw [ej, e5]; exact decide_eq_false fun z => h2 (decide_eq_true z)
          · exact no j (by omega)
      · refine ⟨_, rfl, sm, fun j hj => ?_⟩
        by_cases ej : j = i
        · rw [ej]
          unfold tells
          have hm2 : bs.length % (i + 1) ≠ 0 := fun z => h (decide_eq_true (by
            show V.int (((bs.map V.bl).length : Int) % (1 + (i : Int))) = V.int 0
            rw [hlen, show (1 + (i : Int)) = ((i + 1 : Nat) : Int) by omega]
            exact congrArg V.int (by omega)))
          rw [Bool.and_eq_false_iff]
          exact .inl (beq_eq_false_iff_ne.mpr hm2)
        · exact no j (by omega)
    · rintro σ H' ⟨y, rfl, sm, no⟩
      have e6 : leastCycle bs = bs := leastCycle_none fun j hj => no j (by omega)
      walk_at "ex"
      have kk := k a H' sm
      rw [e6] at kk
      exact kk (sqT_same sm hS)

theorem cal_least_cycle {P : Program} {w : World} {K : PySem.W.Frag} {mg : Str → Option Value} {base : Heap} {c : Ad} (T : Txt K mg c) : CalX CX0 P w K mg base 1 "least_cycle" (spLC K) := by
  obtain ⟨f, fd, F, m⟩ := T.f_least_cycle
  exact ⟨f, fd, _, ok_least_cycle F T, m, F.kp, F.binds (ps := ["cycle"]) fun _ _ _ _ _ _ us hl => match us, hl with | [_], _ => rfl⟩
theorem ok_least_form {P : Program} {w : World} {K : PySem.W.Frag} {mg : Str → Option Value} {base : Heap} {c : Ad} {f : Addr} {fd : FuncData} (F : Fun K "least_form" "least_form" s_least_form f fd) (T : Txt K mg c) : FnOk P w K mg base CX0 2 f fd ["begin", "cycle"] (spLF K) := by
  refine F.ok sc_least_form (fun vs H Q E h => ?_) (fun cdv A outer s H vs Q E hr h => ?_)
  · obtain ⟨a, b, bg, cy, rfl, _⟩ := h; rfl
  · obtain ⟨a, b, bg, cy, rfl, hA, hB, l0, l1, l2, k⟩ := h
    refine ⟨_, (pss_cons (ps_set (i := 1) sc_least_form.nd rfl (by first | exact Or.inl rfl | exact Or.inr rfl) (pe_cl (cal_least_cycle (K := K) T) hr (by decide) (by rfl) (pa_cons (pv 1) pa_nil)))
 (pss_cons (ps_whI (ps_while PassesOwn.never (PW.pt (pw_and (pt_cmpR op_gt (pe_callB (kLen K) (by rfl) T.b_len (by decide +kernel) (pa_cons (pv 0) pa_nil)) pe_int (nomark _)) (pw_and1 (pt_cmpR op_eq (pe_ix (kIxT K) (pv 0) (pe_un un_neg pe_int) (fun _ _ => rfl)) (pe_ix (kIxT K) (pv 1) (pe_un un_neg pe_int) (fun _ _ => rfl)) (nomark _)))))
 (pss_one (ps_par (i := 0) (j := 1) rfl sc_least_form.nd rfl rfl (by decide) rfl rfl (pa_cons (pe_slice (kSlT K) (pv 0) po_none (po_some (pe_un un_neg pe_int))) (pa_cons (pe_op (kCatT K) (pe_slice (kSlT K) (pv 1) (po_some (pe_un un_neg pe_int)) po_none) (pe_slice (kSlT K) (pv 1) po_none (po_some (pe_un un_neg pe_int)))) pa_nil)) (by rfl)))))
 (pss_one (ps_ret (pe_tup (pa_cons (pv 0) (pa_cons (pv 1) pa_nil))))))), ?_⟩
    walk_at "ex"
    intro p H1 sm1 hp
    obtain ⟨z0, z1⟩ := leastCycle_len l1
    walk_at "ex"
    refine wh_by (fun m σ H' => ∃ (x y : List Bool) (q r : Addr), σ = [some (.ref q), some (.ref r)] ∧ Same H H' ∧ SqT K H' q (x.map V.bl) ∧ SqT K H' r (y.map V.bl) ∧ x.length = m ∧ x.length ≤ 1000 ∧ 0 < y.length ∧ y.length ≤ 1000 ∧ shrink x.length x y = leastForm bg cy) bg.length
      ⟨bg, leastCycle cy, a, p, rfl, sm1, sqT_same sm1 hA, hp, rfl, l0, z0, by omega, rfl⟩ ?_
    rintro m σ H' ⟨x, y, q, r, rfl, sm, hq, hr', em, x1, y0, y1, es⟩ Qt qt qf
    have lx : (x.map V.bl).length = x.length := List.length_map _
    have ly : (y.map V.bl).length = y.length := List.length_map _
    have fin : shrink x.length x y = (x, y) → ({ nx := tRet (tTup (tCons (tVar 0) (tCons (tVar 1) tNil))) { nx := fun _ H' => Q .non H', rt := Q }, rt := Q } : Ends).nx [some (.ref q), some (.ref r)] H' := fun e => by
      walk_at "ex"
      intro p3 hp3
      rw [e] at es
      exact k p3 q r _ (Same.up sm hp3) (SqT.of upd_same) (by rw [← es]; exact sqT_up hp3 hq) (by rw [← es]; exact sqT_up hp3 hr')
    walk_at "ex"
    refine ite2 (fun h => ?_) (fun h => ?_)
    · have x0 : 0 < x.length := by have := of_decide_eq_true h; omega
      obtain ⟨xl, ex⟩ : ∃ b, x.getLast? = some b := ⟨_, List.getLast?_eq_getLast (List.ne_nil_of_length_pos x0)⟩
      obtain ⟨yl, ey⟩ : ∃ b, y.getLast? = some b := ⟨_, List.getLast?_eq_getLast (List.ne_nil_of_length_pos y0)⟩
      have h1 := last_bl ex
      have h2 := last_bl ey
      walk_at "ex"
      by_cases e : xl = yl
      · show Qt (decide (V.bl xl = V.bl yl)) H'
        rw [decide_eq_true (congrArg V.bl e)]
        refine qt H' ?_
        walk_at "ex"
        intro p1 H2 s2 hp1
        rw [cut_init, ← List.map_dropLast] at hp1
        walk_at "ex"
        intro p2 H3 s3 hp2
        rw [cut_last, ly, ← List.map_drop] at hp2
        walk_at "ex"
        intro p3 H4 s4 hp3
        rw [cut_init, ← List.map_dropLast] at hp3
        have lz : ((y.drop (y.length - 1)).map V.bl).length + (y.dropLast.map V.bl).length ≤ 100000 := by
          rw [List.length_map, List.length_map, List.length_drop, List.length_dropLast]; omega
        walk_at "ex"
        intro p4 H5 s5 hp4
        rw [← List.map_append] at hp4
        have ed : x.dropLast.length = x.length - 1 := List.length_dropLast
        refine ⟨_, _, rfl, x.length - 1, by omega, x.dropLast, _, p1, p4, rfl, sm.trans (s2.trans (s3.trans (s4.trans s5))), sqT_same s5 (sqT_same s4 (sqT_same s3 hp1)), hp4, ed, by omega, ?_, ?_, ?_⟩
        · rw [List.length_append, List.length_drop, List.length_dropLast]; omega
        · rw [List.length_append, List.length_drop, List.length_dropLast]; omega
        · rw [← es, ed]
          obtain ⟨n, en⟩ : ∃ n, x.length = n + 1 := ⟨x.length - 1, by omega⟩
          rw [en, Nat.add_sub_cancel]
          show _ = (if x.getLast? = y.getLast? then shrink n x.dropLast (y.drop (y.length - 1) ++ y.dropLast) else (x, y))
          rw [if_pos (by rw [ex, ey, e])]
      · show Qt (decide (V.bl xl = V.bl yl)) H'
        rw [decide_eq_false fun z => e (V.bl.inj z)]
        refine qf H' (fin ?_)
        obtain ⟨n, en⟩ : ∃ n, x.length = n + 1 := ⟨x.length - 1, by omega⟩
        rw [en]
        show (if x.getLast? = y.getLast? then shrink n x.dropLast (y.drop (y.length - 1) ++ y.dropLast) else (x, y)) = (x, y)
        rw [if_neg fun z => e (by rw [ex, ey] at z; exact Option.some.inj z)]
    · have x0 : x.length = 0 := by
        have : ¬ (0 : Int) < (x.map V.bl).length := fun z => h (decide_eq_true z)
        omega
      exact qf H' (fin (by rw [x0]; rfl))

theorem cal_least_form {P : Program} {w : World} {K : PySem.W.Frag} {mg : Str → Option Value} {base : Heap} {c : Ad} (T : Txt K mg c) : CalX CX0 P w K mg base 2 "least_form" (spLF K) := by
  obtain ⟨f, fd, F, m⟩ := T.f_least_form
  exact ⟨f, fd, _, ok_least_form F T, m, F.kp, F.binds (ps := ["begin", "cycle"]) fun _ _ _ _ _ _ us hl => match us, hl with | [_, _], _ => rfl⟩
end AA

namespace AA
open PySem PySem.Spec PyProof.Rows L2
local macro_rules | `(tactic| walk_at "hp") => `(tactic| (first | assumption | exact upd_same | (refine' at_up (by assumption) ?hh; (case hh => walk_at "hp")) | (refine' at_same (by assumption) ?hh; (case hh => walk_at "hp"))))
local macro_rules | `(tactic| walk_at "sq") => `(tactic| (first | assumption | exact SqL.of upd_same | exact SqT.of upd_same | exact SqL.of (by assumption) | exact SqT.of (by assumption) | (refine' sqL_up (by assumption) ?hh; (case hh => walk_at "sq")) | (refine' sqT_up (by assumption) ?hh; (case hh => walk_at "sq")) | (refine' sqL_same (by assumption) ?hh; (case hh => walk_at "sq")) | (refine' sqT_same (by assumption) ?hh; (case hh => walk_at "sq")) | (refine' dp_up (by assumption) ?hh; (case hh => walk_at "sq")) | (refine' dp_same (by assumption) ?hh; (case hh => walk_at "sq"))))
local macro_rules | `(tactic| walk_at "sv") => `(tactic| (first | exact Eq.refl _ | assumption | omega | walk_at "sq" | walk_at "hp" | exact Or.inl ⟨_, by walk_at "sq", rfl⟩ | exact Or.inr ⟨_, by walk_at "sq", rfl⟩ | exact Or.inl ⟨by omega, by omega⟩ | exact Or.inr ⟨by omega, by omega⟩ | exact ⟨by decide, by decide, by decide⟩ | exact ⟨by decide, by decide, by omega⟩ | exact wide_div (b := 100) (by first | assumption | omega) (by omega) (by decide) (by decide) | (show (0 : Int) < _; omega) | exact atI_bit | exact cls_lt | exact ClsV.ty _ | exact ClsV.own _ | (refine' ty_dp ?hh; (case hh => walk_at "sq")) | exact kit_seq _ | exact shaped_tupB _ | exact shaped_lstB _ | exact kit_bool _ | exact kit_int _ | exact kit_str _ | exact kit_tup _ | exact Nat.le_of_ble_eq_true rfl))
local macro_rules | `(tactic| walk_at "ex") => `(tactic| repeat (first | (apply Exists.intro) | (apply And.intro; focus (walk_at "sv")) | refine Or.inl ⟨_, rfl, ?_⟩ | refine Or.inr ⟨_, rfl, ?_⟩ | refine for_go ?_ | refine lc_go ?_))
local macro_rules | `(tactic| walk_at "lit") => `(tactic| repeat' (first | exact evd_bl | exact evd_int | exact evd_str | exact evd_non | exact evd_neg | exact evds_nil | refine evds_cons ?_ ?_ | refine evd_tup ?_ | refine evd_lst ?_ | exact evd_rep (n := 3) (ds := [.bool false]) (evdl (evds_cons evd_bl evds_nil)) (fun _ _ _ q => q) (by decide) (by decide)))
theorem err_InvalidLengths {P : Program} {w : World} {K : PySem.W.Frag} {mg : Str → Option Value} {base : Heap} {c : Ad} (T : Txt K mg c) : Err1 P w K mg base 1 "InvalidLengths" "word" c.InvalidLengths := by
  obtain ⟨fI, fd, i, ty, F⟩ := T.e_InvalidLengths.ini
  refine ⟨T.e_InvalidLengths.oex, T.e_InvalidLengths.gC, fI, fd, i, ty, F.ok sc_InvalidLengths (fun vs H Q E h => ?_) (fun cdv A outer s H vs Q E hr h => ?_), F.binds (ps := ["self", "word"]) fun _ _ _ _ _ _ us hl => match us, hl with | [_, _], _ => rfl⟩
  · obtain ⟨a, v, rfl, _⟩ := h; rfl
  · obtain ⟨a, v, rfl, ha, k⟩ := h
    refine ⟨_, pss_cons (ps_expr (pe_base K T.base rfl (pa_cons (pv 0) (pa_cons pe_str pa_nil)))) (pss_one (kOst K (pv 0) (pv 1))), ?_⟩
    exact ⟨_, rfl, a, c.InvalidLengths, _, rfl, Nat.le_of_ble_eq_true rfl, T.e_InvalidLengths.oex, ha, _, rfl, _, rfl, a, c.InvalidLengths, rfl, T.e_InvalidLengths.oex, T.e_InvalidLengths.no, .inl ⟨ha, fun dx nd ne => k dx nd ne⟩⟩
theorem ok_Lengths_init {P : Program} {w : World} {K : PySem.W.Frag} {mg : Str → Option Value} {base : Heap} {c : Ad} {f : Addr} {fd : FuncData} (F : Fun K "__init__" "Lengths.__init__" s_Lengths_init f fd) (T : Txt K mg c) : FnOk P w K mg base (L2.CX P w) 4 f fd ["self", "begin", "cycle"] (spLenInit K c.Lengths c.InvalidLengths) := by
  refine F.okX sc_Lengths_init (fun vs H Q E h => ?_) (fun cdv A outer s H vs Q E hr h => ?_)
  · obtain ⟨x, dx, v1, v2, d1, d2, rfl, _⟩ := h; rfl
  · obtain ⟨x, dx, v1, v2, d1, d2, rfl, hx, h1, h2, l1, l2, kb, kc, k⟩ := h
    refine ⟨_, (pss_cons (ps_if (pt_not (pt_val (pe_cl (cal_are_bools (K := K) T) hr (by decide) (by rfl) (pa_cons (pv 1) pa_nil))))
 (pss_one (ps_raise rfl (takes_of rfl rfl rfl rfl) (pmk_err1 (err_InvalidLengths T) hr (by decide) rfl (pa_cons pe_str pa_nil))))
 pss_nil)
 (pss_cons (ps_if (PW.pt (pw_or (pt_not (pt_val (pe_cl (cal_are_bools (K := K) T) hr (by decide) (by rfl) (pa_cons (pv 2) pa_nil)))) (pw_or1 (pt_cmpR op_eq (pe_callB (kLen K) (by rfl) T.b_len (by decide +kernel) (pa_cons (pv 2) pa_nil)) pe_int (nomark _)))))
 (pss_one (ps_raise rfl (takes_of rfl rfl rfl rfl) (pmk_err1 (err_InvalidLengths T) hr (by decide) rfl (pa_cons pe_str pa_nil))))
 pss_nil)
 (pss_one (ps_asg (pe_cl (cal_least_form (K := K) T) hr (by decide) (by rfl) (pa_cons (pe_callTy (kTup K) (by rfl) T.b_tuple (by decide +kernel) (pa_cons (pv 1) pa_nil)) (pa_cons (pe_callTy (kTup K) (by rfl) T.b_tuple (by decide +kernel) (pa_cons (pv 2) pa_nil)) pa_nil))) (kGtup K 2 rfl (pgs_cons (kGfld K (pv 0)) (pgs_cons (kGfld K (pv 0)) pgs_nil))))))), ?_⟩
    have m1 : lenD d1 ≤ 100000 := by omega
    have m2 : lenD d2 ≤ 100000 := by omega
    walk_at "ex"
    intro H1 s1
    walk_at "ex"
    cases b1 : isBools d1
    · refine iteT ?_
      walk_at "ex"
      intro d H2 s2 nd ed
      exact kb b1 d H2 (s1.trans s2) (s1.free nd) ed
    · refine iteF ?_
      walk_at "ex"
      intro H2 s2
      have s12 := s1.trans s2
      walk_at "ex"
      cases b2 : isBools d2
      · refine iteT ?_
        refine iteT ?_
        walk_at "ex"
        intro d H3 s3 nd ed
        exact kc b1 (.inl b2) d H3 (s12.trans s3) (s12.free nd) ed
      · refine iteF ?_
        obtain ⟨a1, e1, q1⟩ := dp_bits h1 b1
        obtain ⟨a2, e2, q2⟩ := dp_bits h2 b2
        subst e1 e2
        have z1 := bits_len d1
        have z2 := bits_len d2
        have q1' := seq_up s12 q1
        have q2' := seq_up s12 q2
        have ln : LenV K (.ref a2) H2 (lenD d2) := by
          rw [← z2]
          rcases q2' with q | q
          · exact .inl ⟨_, q, (List.length_map _).symm⟩
          · exact .inr ⟨_, q, (List.length_map _).symm⟩
        walk_at "ex"
        refine ite2 (fun h => ?_) (fun h => ?_)
        · walk_at "ex"
          intro d H3 s3 nd ed
          have : ((lenD d2 : Nat) : Int) = 0 := V.int.inj (of_decide_eq_true h)
          exact kc b1 (.inr (by omega)) d H3 (s12.trans s3) (s12.free nd) ed
        · have l3 : 0 < lenD d2 := Nat.pos_of_ne_zero fun z => h (decide_eq_true (by rw [z]; rfl))
          walk_at "ex"
          intro p1 H3 s3 hp1
          have q2'' := seq_up s3 q2'
          walk_at "ex"
          intro p2 H4 s4 hp2
          have w0 : (bits d1).length ≤ 1000 := by omega
          have w1 : 0 < (bits d2).length := by omega
          have w2 : (bits d2).length ≤ 1000 := by omega
          walk_at "ex"
          intro p q r H5 s5 hp hq hr'
          have sA : Same H H5 := s12.trans (s3.trans (s4.trans s5))
          have hx5 := sA _ _ hx
          have cl := T.c_Lengths.cl
          have n1 := T.n_Lengths_begin
          have n2 := T.n_Lengths_cycle
          walk_at "ex"
          have bt : But x H (upd (upd H5 x (.ins c.Lengths dx [("begin", .ref q)])) x (.ins c.Lengths dx (putF "cycle" (.ref r) [("begin", .ref q)]))) := (But.of sA).trans (but_upd.trans but_upd)
          have up : ∀ {z : Addr} {ys : List V}, SqT K H5 z ys → SqT K (upd (upd H5 x (.ins c.Lengths dx [("begin", .ref q)])) x (.ins c.Lengths dx (putF "cycle" (.ref r) [("begin", .ref q)]))) z ys := fun h => sqT_ins (by exact upd_same) (sqT_ins hx5 h)
          exact k b1 b2 l3 q r _ bt (by rw [upd_same]; exact congrArg (fun z => some (HO.ins c.Lengths dx z)) (put_bc _ _)) (up hq) (up hr')

end AA

namespace AA
open PySem PySem.Spec PyProof.Rows L2
local macro_rules | `(tactic| walk_at "hp") => `(tactic| (first | assumption | exact upd_same | (refine' at_up (by assumption) ?hh; (case hh => walk_at "hp")) | (refine' at_same (by assumption) ?hh; (case hh => walk_at "hp"))))
local macro_rules | `(tactic| walk_at "sq") => `(tactic| (first | assumption | exact SqL.of upd_same | exact SqT.of upd_same | exact SqL.of (by assumption) | exact SqT.of (by assumption) | (refine' sqL_up (by assumption) ?hh; (case hh => walk_at "sq")) | (refine' sqT_up (by assumption) ?hh; (case hh => walk_at "sq")) | (refine' sqL_same (by assumption) ?hh; (case hh => walk_at "sq")) | (refine' sqT_same (by assumption) ?hh; (case hh => walk_at "sq")) | (refine' dp_up (by assumption) ?hh; (case hh => walk_at "sq")) | (refine' dp_same (by assumption) ?hh; (case hh => walk_at "sq"))))
local macro_rules | `(tactic| walk_at "sv") => `(tactic| (first | exact Eq.refl _ | assumption | omega | walk_at "sq" | walk_at "hp" | exact Or.inl ⟨_, by walk_at "sq", rfl⟩ | exact Or.inr ⟨_, by walk_at "sq", rfl⟩ | exact Or.inl ⟨by omega, by omega⟩ | exact Or.inr ⟨by omega, by omega⟩ | exact ⟨by decide, by decide, by decide⟩ | exact ⟨by decide, by decide, by omega⟩ | exact wide_div (b := 100) (by first | assumption | omega) (by omega) (by decide) (by decide) | (show (0 : Int) < _; omega) | exact atI_bit | exact cls_lt | exact ClsV.ty _ | exact ClsV.own _ | (refine' ty_dp ?hh; (case hh => walk_at "sq")) | exact kit_seq _ | exact shaped_tupB _ | exact shaped_lstB _ | exact kit_bool _ | exact kit_int _ | exact kit_str _ | exact kit_tup _ | exact Nat.le_of_ble_eq_true rfl))
local macro_rules | `(tactic| walk_at "ex") => `(tactic| repeat (first | (apply Exists.intro) | (apply And.intro; focus (walk_at "sv")) | refine Or.inl ⟨_, rfl, ?_⟩ | refine Or.inr ⟨_, rfl, ?_⟩ | refine for_go ?_ | refine lc_go ?_))
local macro_rules | `(tactic| walk_at "lit") => `(tactic| repeat' (first | exact evd_bl | exact evd_int | exact evd_str | exact evd_non | exact evd_neg | exact evds_nil | refine evds_cons ?_ ?_ | refine evd_tup ?_ | refine evd_lst ?_ | exact evd_rep (n := 3) (ds := [.bool false]) (evdl (evds_cons evd_bl evds_nil)) (fun _ _ _ q => q) (by decide) (by decide)))

def vals1 : List PyData := [.tuple [.list [], .bool true], .tuple [.tuple [], .bool true], .tuple [.list [.bool true], .bool true], .tuple [.tuple [.bool false, .bool true], .bool true], .tuple [.list [.bool false, .bool false, .bool false], .bool true], .tuple [.none, .bool false]]
def vals2 : List PyData := [.tuple [.int 0, .bool false], .tuple [.str "1", .bool false], .tuple [.list [.int 1], .bool false], .tuple [.tuple [.int 0, .bool true], .bool false], .tuple [.list [.none], .bool false], .tuple [.bool true, .bool false]]
def vals3 : PyData := .tuple [.list [.bool true, .str "0"], .bool false]
def vals4 : List PyData := [.tuple [.list [.list [.bool true]], .bool false], .tuple [.tuple [.bool true, .int 1], .bool false], .tuple [.str "", .bool false]]
def valsAll : List PyData := vals1 ++ vals2 ++ [vals3] ++ vals4
/-- a value, and whether it is a row of bools -/
def GoodV (d : PyData) : Prop := ∃ e, d = .tuple [e, .bool (isBools e)] ∧ lenD e ≤ 10
theorem vals_good : ∀ d ∈ valsAll, GoodV d := by
  intro d h
  have h' : d ∈ ([.tuple [.list [], .bool true], .tuple [.tuple [], .bool true], .tuple [.list [.bool true], .bool true], .tuple [.tuple [.bool false, .bool true], .bool true], .tuple [.list [.bool false, .bool false, .bool false], .bool true], .tuple [.none, .bool false]] ++ [.tuple [.int 0, .bool false], .tuple [.str "1", .bool false], .tuple [.list [.int 1], .bool false], .tuple [.tuple [.int 0, .bool true], .bool false], .tuple [.list [.none], .bool false], .tuple [.bool true, .bool false]] ++ [.tuple [.list [.bool true, .str "0"], .bool false]] ++ [.tuple [.list [.list [.bool true]], .bool false], .tuple [.tuple [.bool true, .int 1], .bool false], .tuple [.str "", .bool false]] : List PyData) := h
  simp only [List.cons_append, List.nil_append, List.mem_cons, List.not_mem_nil, or_false] at h'
  rcases h' with rfl | rfl | rfl | rfl | rfl | rfl | rfl | rfl | rfl | rfl | rfl | rfl | rfl | rfl | rfl | rfl <;> exact ⟨_, rfl, by decide⟩
def spValue (K : PySem.W.Frag) : Sp := fun vs H Q _ => ∃ b : Addr, vs = [.ref b] ∧ Box H b ∧ ∀ v e H', But b H H' → Box H' b → Dp K (L2.del H' b) v (.tuple [e, .bool (isBools e)]) → lenD e ≤ 10 → Q v H'

def refusal (d1 d2 : PyData) : V := if isBools d1 = true then (if isBools d2 = true ∧ 0 < lenD d2 then .non else .str "cycle") else .str "begin"
def spRef (K : PySem.W.Frag) : Sp := fun vs H Q _ => ∃ (v1 v2 : V) (d1 d2 : PyData), vs = [v1, v2] ∧ Dp K H v1 d1 ∧ Dp K H v2 d2 ∧ lenD d1 ≤ 1000 ∧ lenD d2 ≤ 1000 ∧ ∀ H', Same H H' → Q (refusal d1 d2) H'

def spLaw (K : PySem.W.Frag) : Sp := fun vs H Q _ => ∃ (a : Addr) (ns : List Int), vs = [.ref a] ∧ SqL K H a (ns.map V.int) ∧ ns.length ≤ 63 ∧ ∀ H', Q (.bl true) H'
theorem ok_law_value {P : Program} {w : World} {K : PySem.W.Frag} {mg : Str → Option Value} {base : Heap} {c : Ad} {f : Addr} {fd : FuncData} (F : Fun K "_law_value" "_law_value" s_law_value f fd) (T : Txt K mg c) : FnOk P w K mg base CX0 3 f fd ["_law_box_here"] (spValue K) := by
  refine F.ok sc_law_value (fun vs H Q E h => ?_) (fun cdv A outer s H vs Q E hr h => ?_)
  · obtain ⟨b, rfl, _⟩ := h; rfl
  · obtain ⟨b, rfl, hB, k⟩ := h
    refine ⟨_, (pss_cons (ps_set (i := 1) sc_law_value.nd rfl (by first | exact Or.inl rfl | exact Or.inr rfl) (pe_lst (pa_cons (pe_tup (pa_cons (pe_lst pa_nil) (pa_cons pe_bl pa_nil))) (pa_cons (pe_tup (pa_cons (pe_tup pa_nil) (pa_cons pe_bl pa_nil))) (pa_cons (pe_tup (pa_cons (pe_lst (pa_cons pe_bl pa_nil)) (pa_cons pe_bl pa_nil))) (pa_cons (pe_tup (pa_cons (pe_tup (pa_cons pe_bl (pa_cons pe_bl pa_nil))) (pa_cons pe_bl pa_nil))) (pa_cons (pe_tup (pa_cons (pe_op op_rep (pe_lst (pa_cons pe_bl pa_nil)) pe_int) (pa_cons pe_bl pa_nil))) (pa_cons (pe_tup (pa_cons pe_non (pa_cons pe_bl pa_nil))) pa_nil))))))))
 (pss_cons (ps_set (i := 1) sc_law_value.nd rfl (by first | exact Or.inl rfl | exact Or.inr rfl) (pe_op op_cat (pv 1) (pe_lst (pa_cons (pe_tup (pa_cons pe_int (pa_cons pe_bl pa_nil))) (pa_cons (pe_tup (pa_cons pe_str (pa_cons pe_bl pa_nil))) (pa_cons (pe_tup (pa_cons (pe_lst (pa_cons pe_int pa_nil)) (pa_cons pe_bl pa_nil))) (pa_cons (pe_tup (pa_cons (pe_tup (pa_cons pe_int (pa_cons pe_bl pa_nil))) (pa_cons pe_bl pa_nil))) (pa_cons (pe_tup (pa_cons (pe_lst (pa_cons pe_non pa_nil)) (pa_cons pe_bl pa_nil))) (pa_cons (pe_tup (pa_cons pe_bl (pa_cons pe_bl pa_nil))) pa_nil)))))))))
 (pss_cons (ps_expr (kBm K (pe_bm PySem.F.plainAttrs_list PySem.F.slot_list_append PySem.F.type_list_append mt_append (pv 1) (pa_cons (pe_tup (pa_cons (pe_lst (pa_cons pe_bl (pa_cons pe_str pa_nil))) (pa_cons pe_bl pa_nil))) pa_nil))))
 (pss_one (ps_ret (pe_cl (cal_law_pick (K := K) T) hr (by decide) (by rfl) (pa_cons (pv 0) (pa_cons (pe_op op_cat (pv 1) (pe_lst (pa_cons (pe_tup (pa_cons (pe_lst (pa_cons (pe_lst (pa_cons pe_bl pa_nil)) pa_nil)) (pa_cons pe_bl pa_nil))) (pa_cons (pe_tup (pa_cons (pe_tup (pa_cons pe_bl (pa_cons pe_int pa_nil))) (pa_cons pe_bl pa_nil))) (pa_cons (pe_tup (pa_cons pe_str (pa_cons pe_bl pa_nil))) pa_nil))))) pa_nil)))))))), ?_⟩
    have hB0 := hB
    obtain ⟨bx, bs, bc, hb, b0, b1⟩ := hB0
    dsimp only [tSeq, tAsg, tOp]
    refine lst_lit (K := K) (W := L2.del H b) vals1 same_of_del ?_ fun p1 xs1 H1 W1 g1 n1 w1 hp1 ha1 => ?_
    · walk_at "lit"
    have z1 := dpAll_len ha1
    dsimp only [gName, tSeq, tAsg, tOp]
    refine ⟨_, rfl, ?_⟩
    refine lst_lit (K := K) (W := W1) vals2 g1.wh ?_ fun p2 xs2 H2 W2 g2 n2 w2 hp2 ha2 => ?_
    · walk_at "lit"
    have z2 := dpAll_len ha2
    refine cat_dp g2.wh (g2.hh _ _ hp1) hp2 (by rw [z1, z2]; decide) fun p3 H3 g3 n3 w3 hp3 => ?_
    have ha3 := dpAll_append (dpAll_same g2.ww ha1) ha2
    have z3 := dpAll_len ha3
    dsimp only [gName, tSeq, tAsg, tOp, tDrop, tBM]
    refine ⟨_, rfl, .inl ⟨rfl, _, SqL.of hp3⟩, ?_⟩
    dsimp only [tCons]
    refine any_lit (K := K) (W := W2) vals3 g3.wh ?_ fun v4 H4 W4 g4 hv4 => ?_
    · walk_at "lit"
    refine ⟨p3, _, v4, rfl, rfl, g4.hh _ _ hp3, by rw [z3]; exact Nat.le_of_ble_eq_true rfl, ?_⟩
    have o3 : W4 p3 = none := by
      rw [g4.old p3 (by rw [hp3]; simp)]; exact w3
    have s5 : Same W4 (upd H4 p3 (.lst (xs1 ++ xs2 ++ [v4]))) := Same.mut g4.wh o3
    have ha5 := dpAll_append (dpAll_same g4.ww ha3) (.cons hv4 .nil)
    have z5 := dpAll_len ha5
    dsimp only [tRet, tCallS, tCons, tOp]
    refine ⟨_, rfl, _, rfl, ?_⟩
    refine lst_lit (K := K) (W := W4) vals4 s5 ?_ fun p6 xs6 H6 W6 g6 n6 w6 hp6 ha6 => ?_
    · walk_at "lit"
    have z6 := dpAll_len ha6
    refine cat_dp g6.wh (g6.hh _ _ upd_same) hp6 (by rw [z5, z6]; decide) fun p7 H7 g7 n7 w7 hp7 => ?_
    have ha7 := dpAll_append (dpAll_same g6.ww ha5) ha6
    have z7 := dpAll_len ha7
    have e1 := g1.hh _ _ hb
    have e4 := g4.hh _ _ (g3.hh _ _ (g2.hh _ _ e1))
    have nb3 : b ≠ p3 := fun q => by rw [← q, g2.hh _ _ e1] at n3; cases n3
    have e5 : (upd H4 p3 (.lst (xs1 ++ xs2 ++ [v4]))) b = some (.lst [.int bx, .int bs, .int bc]) := by rw [upd_ne nb3]; exact e4
    have e7 := g7.hh _ _ (g6.hh _ _ e5)
    have w6b : W6 b = none := by
      rw [g6.old b (by rw [e5]; simp), g4.old b (by rw [g3.hh _ _ (g2.hh _ _ e1)]; simp), g2.old b (by rw [e1]; simp), g1.old b (by rw [hb]; simp)]
      exact del_same
    refine ⟨b, p7, _, rfl, ⟨bx, bs, bc, e7, b0, b1⟩, fun q => ?_, SqL.of hp7, by rw [z7]; exact Nat.le_of_ble_eq_true rfl, by rw [z7]; exact Nat.le_of_ble_eq_true rfl, fun v H' hv bt hB' => ?_⟩
    · rw [q, g6.hh _ _ e5] at n7; cases n7
    · obtain ⟨d, hd, hv'⟩ := dpAll_mem ha7 hv
      obtain ⟨e, rfl, le⟩ := vals_good d hd
      have b15 : But b H (upd H4 p3 (.lst (xs1 ++ xs2 ++ [v4]))) := fun a o h => by
        by_cases qa : a = b
        · rw [qa, del_same] at h; cases h
        · rw [del_ne qa] at h ⊢
          have na : a ≠ p3 := fun q => by rw [← q, g2.hh _ _ (g1.hh _ _ h)] at n3; cases n3
          rw [upd_ne na]; exact g4.hh _ _ (g3.hh _ _ (g2.hh _ _ (g1.hh _ _ h)))
      refine k v e H' (b15.trans ((But.of (g6.hh.trans g7.hh)).trans bt)) hB' (dp_same (Same.trans (same_into_del w6b g7.wh) bt) hv') le

theorem cal_law_value {P : Program} {w : World} {K : PySem.W.Frag} {mg : Str → Option Value} {base : Heap} {c : Ad} (T : Txt K mg c) : CalX CX0 P w K mg base 3 "_law_value" (spValue K) := by
  obtain ⟨f, fd, F, m⟩ := T.f_law_value
  exact ⟨f, fd, _, ok_law_value F T, m, F.kp, F.binds (ps := ["_law_box_here"]) fun _ _ _ _ _ _ us hl => match us, hl with | [_], _ => rfl⟩
end AA

namespace AA
open PySem PySem.Spec PyProof.Rows L2
local macro_rules | `(tactic| walk_at "hp") => `(tactic| (first | assumption | exact upd_same | (refine' at_up (by assumption) ?hh; (case hh => walk_at "hp")) | (refine' at_same (by assumption) ?hh; (case hh => walk_at "hp"))))
local macro_rules | `(tactic| walk_at "sq") => `(tactic| (first | assumption | exact SqL.of upd_same | exact SqT.of upd_same | exact SqL.of (by assumption) | exact SqT.of (by assumption) | (refine' sqL_up (by assumption) ?hh; (case hh => walk_at "sq")) | (refine' sqT_up (by assumption) ?hh; (case hh => walk_at "sq")) | (refine' sqL_same (by assumption) ?hh; (case hh => walk_at "sq")) | (refine' sqT_same (by assumption) ?hh; (case hh => walk_at "sq")) | (refine' dp_up (by assumption) ?hh; (case hh => walk_at "sq")) | (refine' dp_same (by assumption) ?hh; (case hh => walk_at "sq"))))
local macro_rules | `(tactic| walk_at "sv") => `(tactic| (first | exact Eq.refl _ | assumption | omega | walk_at "sq" | walk_at "hp" | exact Or.inl ⟨_, by walk_at "sq", rfl⟩ | exact Or.inr ⟨_, by walk_at "sq", rfl⟩ | exact Or.inl ⟨by omega, by omega⟩ | exact Or.inr ⟨by omega, by omega⟩ | exact ⟨by decide, by decide, by decide⟩ | exact ⟨by decide, by decide, by omega⟩ | exact wide_div (b := 100) (by first | assumption | omega) (by omega) (by decide) (by decide) | (show (0 : Int) < _; omega) | exact atI_bit | exact cls_lt | exact ClsV.ty _ | exact ClsV.own _ | (refine' ty_dp ?hh; (case hh => walk_at "sq")) | exact kit_seq _ | exact shaped_tupB _ | exact shaped_lstB _ | exact kit_bool _ | exact kit_int _ | exact kit_str _ | exact kit_tup _ | exact Nat.le_of_ble_eq_true rfl))
local macro_rules | `(tactic| walk_at "ex") => `(tactic| repeat (first | (apply Exists.intro) | (apply And.intro; focus (walk_at "sv")) | refine Or.inl ⟨_, rfl, ?_⟩ | refine Or.inr ⟨_, rfl, ?_⟩ | refine for_go ?_ | refine lc_go ?_))
local macro_rules | `(tactic| walk_at "lit") => `(tactic| repeat' (first | exact evd_bl | exact evd_int | exact evd_str | exact evd_non | exact evd_neg | exact evds_nil | refine evds_cons ?_ ?_ | refine evd_tup ?_ | refine evd_lst ?_ | exact evd_rep (n := 3) (ds := [.bool false]) (evdl (evds_cons evd_bl evds_nil)) (fun _ _ _ q => q) (by decide) (by decide)))
theorem lookup1 (f : Str) (v : V) : List.lookup f [(f, v)] = some v := by simp [List.lookup]
theorem ok_law_refusal {P : Program} {w : World} {K : PySem.W.Frag} {mg : Str → Option Value} {base : Heap} {c : Ad} {f : Addr} {fd : FuncData} (F : Fun K "_law_refusal" "_law_refusal" s_law_refusal f fd) (T : Txt K mg c) : FnOk P w K mg base CX0 6 f fd ["_law_begin", "_law_cycle"] (spRef K) := by
  refine F.ok sc_law_refusal (fun vs H Q E h => ?_) (fun cdv A outer s H vs Q E hr h => ?_)
  · obtain ⟨v1, v2, d1, d2, rfl, _⟩ := h; rfl
  · obtain ⟨v1, v2, d1, d2, rfl, h1, h2, l1, l2, k⟩ := h
    obtain ⟨fI, fdI, M, FI⟩ := T.c_Lengths.ini
    have bI := FI.binds (ps := ["self", "begin", "cycle"]) fun _ _ _ _ _ _ us hl => match us, hl with | [_, _, _], _ => rfl
    refine ⟨_, (pss_cons (ps_set (i := 2) sc_law_refusal.nd rfl (by first | exact Or.inl rfl | exact Or.inr rfl) pe_non)
 (pss_cons (ps_try_as (i := 3) (tb := fun W => tDrop (tMakeS c.Lengths (spLenInit K c.Lengths c.InvalidLengths) [] (WE W) (tCons (tVar 0) (tCons (tVar 1) tNil)))) (ts := fun a cls d => tAsg (tXf a cls d c.InvalidLengths "word" (tVar 3)) (gName 2)) (Wout := fun _ _ _ _ => False) rfl rfl sc_law_refusal.nd rfl rfl ⟨rfl, by decide, .inl T.e_InvalidLengths.gC⟩ takes0
  (fun W pn xe tk _ => pss_one (ps_expr (by exact (pe_makeS M (ok_Lengths_init FI T) (hr.mono (by decide)) rfl T.c_Lengths.gC bI .nil (fun σ => passAt tk σ) (by exact (pa_cons (pv 0) (pa_cons (pv 1) pa_nil)))))))
  (fun a oe cls d pn hz hf => pss_one (ps_set (i := 2) sc_law_refusal.nd rfl (Or.inl rfl) (by exact (pe_xf T.e_InvalidLengths.xf T.e_InvalidLengths.no hz hf (pv 3))))))
 (pss_one (ps_ret (pv 2))))), ?_⟩
    walk_at "ex"
    intro x dx nx ndx ne
    have s0 : Same H (upd (upd H dx (.own x)) x (.ins c.Lengths dx [])) := fun b o e => by
      rw [upd_ne (ne_of_none e nx), upd_ne (ne_of_none e ndx)]; exact e
    have te := T.e_InvalidLengths.te
    refine ⟨x, dx, v1, v2, d1, d2, rfl, upd_same, dp_same s0 h1, dp_same s0 h2, l1, l2, fun b1 d H' sm nd ed => ?_, fun b1 b2 d H' sm nd ed => ?_, fun b1 b2 l p q H' bt hx hp hq => ?_⟩
    · refine ⟨true, te, fun _ a na => ?_, fun z => Bool.noConfusion z⟩
      have lk := lookup1 "word" (V.str "begin")
      walk_at "ex"
      have := k H' (s0.trans sm)
      rw [show refusal d1 d2 = .str "begin" by unfold refusal; rw [if_neg (by rw [b1]; decide)]] at this
      exact this
    · refine ⟨true, te, fun _ a na => ?_, fun z => Bool.noConfusion z⟩
      have lk := lookup1 "word" (V.str "cycle")
      walk_at "ex"
      have := k H' (s0.trans sm)
      rw [show refusal d1 d2 = .str "cycle" by
        unfold refusal
        rw [if_pos b1, if_neg]
        rintro ⟨q1, q2⟩
        rcases b2 with b2 | b2
        · rw [b2] at q1; cases q1
        · omega] at this
      exact this
    · refine ⟨rfl, ?_⟩
      walk_at "ex"
      have sH : Same H H' := fun b o e => by
        have nb := ne_of_none e nx
        have z := bt b o (by rw [del_ne nb]; exact s0 b o e)
        rw [del_ne nb] at z; exact z
      have := k H' sH
      rw [show refusal d1 d2 = .non by unfold refusal; rw [if_pos b1, if_pos ⟨b2, l⟩]] at this
      exact this

theorem cal_law_refusal {P : Program} {w : World} {K : PySem.W.Frag} {mg : Str → Option Value} {base : Heap} {c : Ad} (T : Txt K mg c) : CalX CX0 P w K mg base 6 "_law_refusal" (spRef K) := by
  obtain ⟨f, fd, F, m⟩ := T.f_law_refusal
  exact ⟨f, fd, _, ok_law_refusal F T, m, F.kp, F.binds (ps := ["_law_begin", "_law_cycle"]) fun _ _ _ _ _ _ us hl => match us, hl with | [_, _], _ => rfl⟩
end AA

namespace AA
open PySem PySem.Spec PyProof.Rows L2
local macro_rules | `(tactic| walk_at "hp") => `(tactic| (first | assumption | exact upd_same | (refine' at_up (by assumption) ?hh; (case hh => walk_at "hp")) | (refine' at_same (by assumption) ?hh; (case hh => walk_at "hp"))))
local macro_rules | `(tactic| walk_at "sq") => `(tactic| (first | assumption | exact SqL.of upd_same | exact SqT.of upd_same | exact SqL.of (by assumption) | exact SqT.of (by assumption) | (refine' sqL_up (by assumption) ?hh; (case hh => walk_at "sq")) | (refine' sqT_up (by assumption) ?hh; (case hh => walk_at "sq")) | (refine' sqL_same (by assumption) ?hh; (case hh => walk_at "sq")) | (refine' sqT_same (by assumption) ?hh; (case hh => walk_at "sq")) | (refine' dp_up (by assumption) ?hh; (case hh => walk_at "sq")) | (refine' dp_same (by assumption) ?hh; (case hh => walk_at "sq"))))
local macro_rules | `(tactic| walk_at "sv") => `(tactic| (first | exact Eq.refl _ | assumption | omega | walk_at "sq" | walk_at "hp" | exact Or.inl ⟨_, by walk_at "sq", rfl⟩ | exact Or.inr ⟨_, by walk_at "sq", rfl⟩ | exact Or.inl ⟨by omega, by omega⟩ | exact Or.inr ⟨by omega, by omega⟩ | exact ⟨by decide, by decide, by decide⟩ | exact ⟨by decide, by decide, by omega⟩ | exact wide_div (b := 100) (by first | assumption | omega) (by omega) (by decide) (by decide) | (show (0 : Int) < _; omega) | exact atI_bit | exact cls_lt | exact ClsV.ty _ | exact ClsV.own _ | (refine' ty_dp ?hh; (case hh => walk_at "sq")) | exact kit_seq _ | exact shaped_tupB _ | exact shaped_lstB _ | exact kit_bool _ | exact kit_int _ | exact kit_str _ | exact kit_tup _ | exact Nat.le_of_ble_eq_true rfl))
local macro_rules | `(tactic| walk_at "ex") => `(tactic| repeat (first | (apply Exists.intro) | (apply And.intro; focus (walk_at "sv")) | refine Or.inl ⟨_, rfl, ?_⟩ | refine Or.inr ⟨_, rfl, ?_⟩ | refine for_go ?_ | refine lc_go ?_))
local macro_rules | `(tactic| walk_at "lit") => `(tactic| repeat' (first | exact evd_bl | exact evd_int | exact evd_str | exact evd_non | exact evd_neg | exact evds_nil | refine evds_cons ?_ ?_ | refine evd_tup ?_ | refine evd_lst ?_ | exact evd_rep (n := 3) (ds := [.bool false]) (evdl (evds_cons evd_bl evds_nil)) (fun _ _ _ q => q) (by decide) (by decide)))
theorem rep_ok1 : reprOk (.str "begin") := by show (reprText "begin").length ≤ sizeLine; decide +kernel
theorem rep_ok2 : reprOk (.str "cycle") := by show (reprText "cycle").length ≤ sizeLine; decide +kernel
theorem box_same {H H' : Hp} {b : Addr} (h : Box H b) (s : Same H H') : Box H' b := let ⟨x, z, c, e, r⟩ := h; ⟨x, z, c, s _ _ e, r⟩
theorem dp_pair {K : PySem.W.Frag} {W : Hp} {v : V} {d : PyData} {f : Bool} (h : Dp K W v (.tuple [d, .bool f])) : ∃ p x, v = .ref p ∧ SqT K W p [x, .bl f] ∧ Dp K W x d := by
  cases h with
  | tup s a =>
    cases a with
    | cons h1 t =>
      cases t with
      | cons h2 t2 =>
        cases t2
        cases h2
        exact ⟨_, _, rfl, s, h1⟩
theorem ok_law {P : Program} {w : World} {K : PySem.W.Frag} {mg : Str → Option Value} {base : Heap} {c : Ad} {f : Addr} {fd : FuncData} (F : Fun K "law" "law" s_law f fd) (T : Txt K mg c) : FnOk P w K mg base CX0 7 f fd ["_law_script"] (spLaw K) := by
  refine F.ok sc_law (fun vs H Q E h => ?_) (fun cdv A outer s H vs Q E hr h => ?_)
  · obtain ⟨a, ns, rfl, _⟩ := h; rfl
  · obtain ⟨a, ns, rfl, hS, hl, k⟩ := h
    refine ⟨_, (pss_cons (ps_forI (ps_for PassesOwn.never rfl (pi_range1 (by rfl) T.b_range (pa_cons (pe_callB (call_max2 rfl) (by rfl) T.b_max (by decide +kernel) (pa_cons pe_int (pa_cons (pe_callB (call_min2 rfl) (by rfl) T.b_min (by decide +kernel) (pa_cons pe_int (pa_cons (pe_callB (kLen K) (by rfl) T.b_len (by decide +kernel) (pa_cons (pv 0) pa_nil)) pa_nil))) pa_nil))) pa_nil)) (pg_name (i := 1) sc_law.nd rfl (by first | exact Or.inl rfl | exact Or.inr rfl))
 (pss_cons (ps_set (i := 2) sc_law.nd rfl (by first | exact Or.inl rfl | exact Or.inr rfl) (pe_cl (cal_law_box (K := K) T) hr (by decide) (by rfl) (pa_cons (pv 0) (pa_cons (pv 1) (pa_cons pe_int pa_nil)))))
 (pss_one (ps_forI (ps_for PassesOwn.never rfl (pi_range1 (by rfl) T.b_range (pa_cons pe_int pa_nil)) (pg_name (i := 3) sc_law.nd rfl (by first | exact Or.inl rfl | exact Or.inr rfl))
 (pss_cons (ps_asg (pe_cl (cal_law_value (K := K) T) hr (by decide) (by rfl) (pa_cons (pv 2) pa_nil)) (kGtup K 2 rfl (pgs_cons (pg_name (i := 4) sc_law.nd rfl (by first | exact Or.inl rfl | exact Or.inr rfl)) (pgs_cons (pg_name (i := 5) sc_law.nd rfl (by first | exact Or.inl rfl | exact Or.inr rfl)) pgs_nil))))
 (pss_cons (ps_asg (pe_cl (cal_law_value (K := K) T) hr (by decide) (by rfl) (pa_cons (pv 2) pa_nil)) (kGtup K 2 rfl (pgs_cons (pg_name (i := 6) sc_law.nd rfl (by first | exact Or.inl rfl | exact Or.inr rfl)) (pgs_cons (pg_name (i := 7) sc_law.nd rfl (by first | exact Or.inl rfl | exact Or.inr rfl)) pgs_nil))))
 (pss_cons (ps_set (i := 8) sc_law.nd rfl (by first | exact Or.inl rfl | exact Or.inr rfl) (pe_ifExp (PW.pt (pw_and (pt_val (pv 7)) (pw_and1 (pt_cmpR op_gt (pe_callB (kLen K) (by rfl) T.b_len (by decide +kernel) (pa_cons (pv 6) pa_nil)) pe_int (nomark _))))) pe_non pe_str))
 (pss_one (ps_if (pt_cmpR op_ne (pe_callB call_reprS (by rfl) T.b_repr (by decide +kernel) (pa_cons (pe_cl (cal_law_refusal (K := K) T) hr (by decide) (by rfl) (pa_cons (pv 4) (pa_cons (pv 6) pa_nil))) pa_nil)) (pe_callB call_reprS (by rfl) T.b_repr (by decide +kernel) (pa_cons (pe_ifExp (pt_val (pv 5)) (pv 8) pe_str) pa_nil)) (nomark _))
 (pss_one (ps_ret pe_bl))
 pss_nil)))))))))))
 (pss_one (ps_ret (pe_cmpR op_eq (pe_cl (cal_law_refusal (K := K) T) hr (by decide) (by rfl) (pa_cons (pe_lst pa_nil) (pa_cons (pe_lst pa_nil) pa_nil))) pe_str (nomark _))))), ?_⟩
    have hlen : (ns.map V.int).length = ns.length := List.length_map _
    walk_at "ex"
    refine foi_range (fun i σ H' => ∃ y1 y2 y3 y4 y5 y6 y7 y8, σ = [some (.ref a), y1, y2, y3, y4, y5, y6, y7, y8] ∧ SqL K H' a (ns.map V.int)) ⟨_, _, _, _, _, _, _, _, rfl, hS⟩ ?_ ?_
    · rintro i σ H1 hi ⟨y1, y2, y3, y4, y5, y6, y7, y8, rfl, hS1⟩
      have hi3 : (i : Int) < 3 := by split at hi <;> omega
      walk_at "ex"
      intro b H2 nb s2 hB
      walk_at "ex"
      refine foi_range (fun j σ H' => ∃ z1 z3 z4 z5 z6 z7 z8, σ = [some (.ref a), z1, some (.ref b), z3, z4, z5, z6, z7, z8] ∧ Box H' b ∧ Same H1 (L2.del H' b)) ⟨_, _, _, _, _, _, _, rfl, hB, same_into_del nb s2⟩ ?_ ?_
      · rintro j σ H3 hj ⟨z1, z3, z4, z5, z6, z7, z8, rfl, hB3, s3⟩
        walk_at "ex"
        intro t1 e1 H4 bt4 hB4 ht1 le1
        obtain ⟨p1, v1, rfl, hp1, hv1⟩ := dp_pair ht1
        have sd4 : Same (L2.del H4 b) H4 := same_of_del
        walk_at "ex"
        intro t2 e2 H5 bt5 hB5 ht2 le2
        obtain ⟨p2, v2, rfl, hp2, hv2⟩ := dp_pair ht2
        have sd5 : Same (L2.del H5 b) H5 := same_of_del
        have hv1' := dp_same sd5 (dp_same bt5 hv1)
        have hv2' := dp_same sd5 hv2
        have lv : isBools e2 = true → LenV K v2 H5 (lenD e2) := fun hb => by
          obtain ⟨a2, rfl, q2⟩ := dp_bits hv2' hb
          rw [← bits_len e2]
          rcases q2 with q | q
          · exact .inl ⟨_, q, (List.length_map _).symm⟩
          · exact .inr ⟨_, q, (List.length_map _).symm⟩
        walk_at "ex"
        cases hb2 : isBools e2
        · refine iteF (iteF ?_)
          have hok2 := rep_ok1
          have hok3 := rep_ok2
          cases hb1 : isBools e1
          · skip
            have er : refusal e1 e2 = .str "begin" := by unfold refusal; rw [if_neg (by rw [hb1]; decide)]
            have hok : reprOk (refusal e1 e2) := by rw [er]; exact rep_ok1
            walk_at "ex"
            intro H6 s6
            walk_at "ex"
            refine iteNS (by rw [er]) ?_
            exact ⟨_, _, _, _, _, _, _, rfl, box_same hB5 s6, s3.trans (bt4.trans (bt5.trans (But.of s6)))⟩
          · skip
            have er : refusal e1 e2 = .str "cycle" := by unfold refusal; rw [if_pos hb1, if_neg fun q => by rw [hb2] at q; exact Bool.noConfusion q.1]
            have hok : reprOk (refusal e1 e2) := by rw [er]; exact rep_ok2
            walk_at "ex"
            intro H6 s6
            walk_at "ex"
            refine iteNS (by rw [er]) ?_
            exact ⟨_, _, _, _, _, _, _, rfl, box_same hB5 s6, s3.trans (bt4.trans (bt5.trans (But.of s6)))⟩
        · refine iteT ?_
          have hok2 := rep_ok1
          have hok3 := rep_ok2
          have hok4 : reprOk .non := True.intro
          have lv' := lv hb2
          walk_at "ex"
          by_cases hl2 : 0 < lenD e2
          · rw [decide_eq_true (show (0 : Int) < (lenD e2 : Int) by omega)]
            refine iteT ?_
            cases hb1 : isBools e1
            · skip
              have er : refusal e1 e2 = .str "begin" := by unfold refusal; rw [if_neg (by rw [hb1]; decide)]
              have hok : reprOk (refusal e1 e2) := by rw [er]; exact rep_ok1
              walk_at "ex"
              intro H6 s6
              walk_at "ex"
              refine iteNS (by rw [er]) ?_
              exact ⟨_, _, _, _, _, _, _, rfl, box_same hB5 s6, s3.trans (bt4.trans (bt5.trans (But.of s6)))⟩
            · skip
              have er : refusal e1 e2 = .non := by unfold refusal; rw [if_pos hb1, if_pos ⟨hb2, hl2⟩]
              have hok : reprOk (refusal e1 e2) := by rw [er]; exact True.intro
              walk_at "ex"
              intro H6 s6
              walk_at "ex"
              refine iteNS (by rw [er]) ?_
              exact ⟨_, _, _, _, _, _, _, rfl, box_same hB5 s6, s3.trans (bt4.trans (bt5.trans (But.of s6)))⟩
          · rw [decide_eq_false (show ¬ (0 : Int) < (lenD e2 : Int) by omega)]
            refine iteF ?_
            cases hb1 : isBools e1
            · skip
              have er : refusal e1 e2 = .str "begin" := by unfold refusal; rw [if_neg (by rw [hb1]; decide)]
              have hok : reprOk (refusal e1 e2) := by rw [er]; exact rep_ok1
              walk_at "ex"
              intro H6 s6
              walk_at "ex"
              refine iteNS (by rw [er]) ?_
              exact ⟨_, _, _, _, _, _, _, rfl, box_same hB5 s6, s3.trans (bt4.trans (bt5.trans (But.of s6)))⟩
            · skip
              have er : refusal e1 e2 = .str "cycle" := by unfold refusal; rw [if_pos hb1, if_neg fun q => hl2 q.2]
              have hok : reprOk (refusal e1 e2) := by rw [er]; exact rep_ok2
              walk_at "ex"
              intro H6 s6
              walk_at "ex"
              refine iteNS (by rw [er]) ?_
              exact ⟨_, _, _, _, _, _, _, rfl, box_same hB5 s6, s3.trans (bt4.trans (bt5.trans (But.of s6)))⟩
      · rintro σ H3 ⟨z1, z3, z4, z5, z6, z7, z8, rfl, hB3, s3⟩
        exact ⟨_, _, _, _, _, _, _, _, rfl, sqL_same (s3.trans same_of_del) hS1⟩
    · rintro σ H1 ⟨y1, y2, y3, y4, y5, y6, y7, y8, rfl, hS1⟩
      walk_at "ex"
      intro q1 n1
      walk_at "ex"
      intro q2 n2
      have d1 : Dp K (upd (upd H1 q1 (.lst [])) q2 (.lst [])) (.ref q1) (.list []) := .lst (SqL.of (at_up n2 upd_same)) .nil
      have d2 : Dp K (upd (upd H1 q1 (.lst [])) q2 (.lst [])) (.ref q2) (.list []) := .lst (SqL.of upd_same) .nil
      walk_at "ex"
      intro H2 s2
      have er : refusal (.list []) (.list []) = .str "cycle" := rfl
      rw [er]
      walk_at "ex"
      show Q (V.bl (decide (V.str "cycle" = V.str "cycle"))) H2
      rw [decide_eq_true rfl]
      exact k H2

theorem cal_law {P : Program} {w : World} {K : PySem.W.Frag} {mg : Str → Option Value} {base : Heap} {c : Ad} (T : Txt K mg c) : CalX CX0 P w K mg base 7 "law" (spLaw K) := by
  obtain ⟨f, fd, F, m⟩ := T.f_law
  exact ⟨f, fd, _, ok_law F T, m, F.kp, F.binds (ps := ["_law_script"]) fun _ _ _ _ _ _ us hl => match us, hl with | [_], _ => rfl⟩
end AA

namespace AA
open PySem PySem.Spec PyProof.Rows L2

theorem at_mk {K : PySem.W.Frag} {h : Heap} {mg : Str → Option Value} (X : K.In h) (G : h.Ns mainGlobals mg) {x : Str} {st : Stmt} {f : Addr} {oc : Value} {od an : Option Addr} {osl : Array (Option Value)} {kV doc pm cdv ct : Value} (a : PySem.W.nsIn K mainGlobals x = some (some (.ref f)))
    (l : K.lookup f = some ⟨oc, od, .func (PySem.W.fnOf x x (defArgs st) (defBody st) (defScope st) .none kV doc pm an cdv ct), osl⟩) (cc : PySem.W.codeIn K cdv x = true) (k : PySem.W.keepIn K (.ref f) = true) : At K mg x st :=
  ⟨f, _, fun_mk l cc k, PySem.W.mg_of X G a⟩
theorem base_mk {K : PySem.W.Frag} {h : Heap} {mg : Str → Option Value} (X : K.In h) (G : h.Ns mainGlobals mg) {x : Str} {B : Addr} (a : PySem.W.nsIn K mainGlobals x = some (some (.ref B))) (ga : PySem.W.specialIn K (.ref B) "__getattribute__" = some (some (.builtin "type.__getattribute__")))
    (rd : PySem.W.readsIn K B (.type "type") = true) (fc : PySem.W.findCls K (.ref B) (.type "type") "__init__" = some (.val (.builtin "ValueError.__init__"))) : BaseC K mg x := ⟨B, _, PySem.W.mg_of X G a, ga, rd, fc⟩
theorem err_mk {K : PySem.W.Frag} {h : Heap} {mg : Str → Option Value} (X : K.In h) (G : h.Ns mainGlobals mg) {x q fld : Str} {st : Stmt} {C f : Addr} {oc : Value} {od an : Option Addr} {osl : Array (Option Value)} {kV doc pm cdv ct : Value}
    {nm qn : Str} {N : Addr} {bs bm : List Value} {sn : List Str} {sub : List Value} {ab : Bool} {col : Option Bool} {dd : Option Addr} {m0 m1 m2 m3 m5 : Option Value} (a : PySem.W.nsIn K mainGlobals x = some (some (.ref C)))
    (xL : K.lookup C = some (excClassObj nm qn C N bs bm true sn sub ab col dd m0 m1 m2 m3 m5 "ValueError.__new__")) (bv : PySem.HandSPX.refsVE bm = true) (sa : PySem.W.findIn K (.ref C) "__setattr__" = some (some (.builtin "object.__setattr__")))
    (ga : PySem.W.findIn K (.ref C) "__getattribute__" = some (some (.builtin "BaseException.__getattribute__"))) (gg : PySem.W.findIn K (.ref C) "__getattr__" = some none) (nf : PySem.W.findIn K (.ref C) fld = some none)
    (ia : PySem.W.findIn K (.ref C) "__init__" = some (some (.ref f))) (it : PySem.W.typeIn K (.ref f) = some (.type "function")) (l : K.lookup f = some ⟨oc, od, .func (PySem.W.fnOf "__init__" q (defArgs st) (defBody st) (defScope st) .none kV doc pm an cdv ct), osl⟩) (cc : PySem.W.codeIn K cdv q = true) (kf : PySem.W.keepIn K (.ref f) = true)
    (kC : PySem.W.keepIn K (.ref C) = true) (eC : PySem.W.subIn K (.ref C) (.type "BaseException") = some true) (tC : PySem.W.typeIn K (.ref C) = some (.type "type")) (hC : PySem.W.hasDictIn K C = true) (iC : PySem.W.isClsIn K C = true) (sC : PySem.W.subIn K (.ref C) (.ref C) = some true) : ErrF K mg x q fld C st :=
  ⟨⟨⟨_, _, _, _, _, _, _, _, _, _, _, _, _, _, _, xL, bv⟩, sa, eC, tC, kC⟩, PySem.W.mg_of X G a, exm_own eC iC tC sC, nf, ⟨ga, gg, eC, hC⟩, f, _, ia, it, fun_mk l cc kf⟩
theorem cls_mk {K : PySem.W.Frag} {h : Heap} {mg : Str → Option Value} (X : K.In h) (G : h.Ns mainGlobals mg) {x q : Str} {st : Stmt} {C f : Addr} {oc : Value} {od an : Option Addr} {osl : Array (Option Value)} {kV doc pm cdv ct : Value} (a : PySem.W.nsIn K mainGlobals x = some (some (.ref C)))
    (pg : PySem.W.plainGet K C Str.empty = true) (hd : PySem.W.hasDictIn K C = true) (po : PySem.W.plainOver K C = true) (sa : PySem.W.findIn K (.ref C) "__setattr__" = some (some (.builtin "object.__setattr__"))) (mk : PySem.W.makesIn K C = true) (kc : PySem.W.keepIn K (.ref C) = true)
    (ia : PySem.W.findIn K (.ref C) "__init__" = some (some (.ref f))) (ifn : PySem.W.isFn K (.ref f) = true) (l : K.lookup f = some ⟨oc, od, .func (PySem.W.fnOf "__init__" q (defArgs st) (defBody st) (defScope st) .none kV doc pm an cdv ct), osl⟩) (cc : PySem.W.codeIn K cdv q = true) (kf : PySem.W.keepIn K (.ref f) = true) : ClsF K mg x q C st :=
  ⟨PySem.W.mg_of X G a, ⟨pg, hd, po, sa⟩, f, _, ⟨mk, ia, ifn, kc⟩, fun_mk l cc kf⟩
theorem law_fn {l : PySem.W.OpenLaw} {w : World} {K : PySem.W.Frag} {mg : Str → Option Value} {fa : Addr} {c : Ad} (hfa : mg "law" = some (.ref fa)) (T : Txt K mg c) :
    ∃ fd : FuncData, (∀ (s : Shared) (v : Value), BindsTo s fd ⟨[v], []⟩ [("_law_script", v)]) ∧ ∀ base : Heap, K.In base → base.Ns mainGlobals mg → FnOk l.prog w K mg base CX0 7 fa fd ["_law_script"] (spLaw K) := by
  obtain ⟨f, fd, F, m⟩ := T.f_law
  have e := hfa.symm.trans m
  cases e
  refine ⟨fd, fun s v => ?_, fun base _ _ => ok_law F T⟩
  obtain ⟨oc, od, kV, doc, pm, an, cdv, ct, osl, rfl, lk, hcd⟩ := F.ex
  exact .of_eq rfl
end AA
open PySem PySem.W PyProof.Rows in
set_option maxRecDepth 100000 in
set_option maxHeartbeats 0 in
theorem PySem.Challenge.cw_anyanswer_k03_lengths_refused_holds : PySem.Challenge.rw_anyanswer_k03_lengths_refused.Holds := by
  w_on; o_law; k_head; (case hw => w_witness2)
  k_fill
  refine L2.walk_of (l := PySem.Challenge.rw_anyanswer_k03_lengths_refused) (n := 63) (k := 7) (x := "_law_script") (CX := fun _ => L2.CX0) (sp := fun w => AA.spLaw _) rfl (by decide) rfl ⟨rfl, by decide, by decide⟩ (fun w h Y => PySem.W.kIn_of Y) ?F (fun _ _ a ns hl _ hS => ⟨a, ns, rfl, hS, hl, fun _ => rfl⟩) (fun _ _ _ _ _ h => h)
  case F =>
    intro w mg fa h KX G hmg
    refine' AA.law_fn (c := AA.Ad.mk _ _) hmg ?T
    case T =>
      refine' AA.Txt.mk ?b_repr ?b_max ?b_min ?b_int ?b_len ?b_abs ?b_isinstance ?b_list ?b_tuple ?b_bool ?b_all ?b_range ?f_law_take ?f_law_box ?f_law_pick ?f_are_bools ?f_least_cycle ?f_least_form ?f_law_value ?f_law_refusal ?f_law ?base ?e_InvalidLengths ?c_Lengths ?n_Lengths_begin ?n_Lengths_cycle
      case e_InvalidLengths =>
        try dsimp only
        refine' AA.err_mk KX G ?a ?xL ?bv ?sa ?ga ?gg ?nf ?ia ?it ?l ?cc ?kf ?kC ?eC ?tC ?hC ?iC ?sC
        case a => k_is
        case xL => k_is
        case bv => first | rfl | decide +kernel
        case sa => k_is
        case ga => k_is
        case gg => k_is
        case nf => k_is
        case ia => k_is
        case it => k_is
        case l => k_is
        case cc => k_is
        case kf => k_is
        case kC => k_is
        case eC => k_is
        case tC => k_is
        case hC => k_is
        case iC => k_is
        case sC => first | rfl | k_is
      case c_Lengths =>
        try dsimp only
        refine' AA.cls_mk KX G ?a ?pg ?hd ?po ?sa ?mk ?kc ?ia ?ifn ?l ?cc ?kf
        case a => k_is
        case pg => k_is
        case hd => k_is
        case po => k_is
        case sa => k_is
        case mk => k_is
        case kc => k_is
        case ia => k_is
        case ifn => k_is
        case l => k_is
        case cc => k_is
        case kf => k_is
      case b_repr =>
        try dsimp only
        refine' PySem.W.mg_none_of KX G ?z
        case z => k_is
      case b_max =>
        try dsimp only
        refine' PySem.W.mg_none_of KX G ?z
        case z => k_is
      case b_min =>
        try dsimp only
        refine' PySem.W.mg_none_of KX G ?z
        case z => k_is
      case b_int =>
        try dsimp only
        refine' PySem.W.mg_none_of KX G ?z
        case z => k_is
      case b_len =>
        try dsimp only
        refine' PySem.W.mg_none_of KX G ?z
        case z => k_is
      case b_abs =>
        try dsimp only
        refine' PySem.W.mg_none_of KX G ?z
        case z => k_is
      case b_isinstance =>
        try dsimp only
        refine' PySem.W.mg_none_of KX G ?z
        case z => k_is
      case b_list =>
        try dsimp only
        refine' PySem.W.mg_none_of KX G ?z
        case z => k_is
      case b_tuple =>
        try dsimp only
        refine' PySem.W.mg_none_of KX G ?z
        case z => k_is
      case b_bool =>
        try dsimp only
        refine' PySem.W.mg_none_of KX G ?z
        case z => k_is
      case b_all =>
        try dsimp only
        refine' PySem.W.mg_none_of KX G ?z
        case z => k_is
      case b_range =>
        try dsimp only
        refine' PySem.W.mg_none_of KX G ?z
        case z => k_is
      case f_law_take =>
        try dsimp only
        refine' AA.at_mk KX G ?a ?l ?c ?k
        case a => k_is
        case l => k_is
        case c => k_is
        case k => k_is
      case f_law_box =>
        try dsimp only
        refine' AA.at_mk KX G ?a ?l ?c ?k
        case a => k_is
        case l => k_is
        case c => k_is
        case k => k_is
      case f_law_pick =>
        try dsimp only
        refine' AA.at_mk KX G ?a ?l ?c ?k
        case a => k_is
        case l => k_is
        case c => k_is
        case k => k_is
      case f_are_bools =>
        try dsimp only
        refine' AA.at_mk KX G ?a ?l ?c ?k
        case a => k_is
        case l => k_is
        case c => k_is
        case k => k_is
      case f_least_cycle =>
        try dsimp only
        refine' AA.at_mk KX G ?a ?l ?c ?k
        case a => k_is
        case l => k_is
        case c => k_is
        case k => k_is
      case f_least_form =>
        try dsimp only
        refine' AA.at_mk KX G ?a ?l ?c ?k
        case a => k_is
        case l => k_is
        case c => k_is
        case k => k_is
      case f_law_value =>
        try dsimp only
        refine' AA.at_mk KX G ?a ?l ?c ?k
        case a => k_is
        case l => k_is
        case c => k_is
        case k => k_is
      case f_law_refusal =>
        try dsimp only
        refine' AA.at_mk KX G ?a ?l ?c ?k
        case a => k_is
        case l => k_is
        case c => k_is
        case k => k_is
      case f_law =>
        try dsimp only
        refine' AA.at_mk KX G ?a ?l ?c ?k
        case a => k_is
        case l => k_is
        case c => k_is
        case k => k_is
      case base =>
        try dsimp only
        refine' AA.base_mk KX G ?a ?ga ?rd ?fc
        case a => k_is
        case ga => k_is
        case rd => k_is
        case fc => k_is
      case n_Lengths_begin =>
        show PySem.W.findIn _ _ _ = some none
        try dsimp only
        k_is
      case n_Lengths_cycle =>
        show PySem.W.findIn _ _ _ = some none
        try dsimp only
        k_is
