import PyProof.Rows.All
import Wide.All
import OpenK.AllK
import Wide.FinOn
import KE.KStateDown
import HandS.ForMost
import HandS.ForExc
import HandS.IsInst
import HandS.Wide
import HandS.Conv
import HandS.TupAny
import HandS.TupMul
import HandS.TupLe
import HandS.Deep
import HandS.Zip
import HandS.Flow
import HandS.Codes
import HandS.Head2
import HandS.HeadEnd
import HandS.HeadHook2
import HandS.EndBits
import HandS.Walk
import PySem.Challenge.RW_floorhall_k05_texts_refused
import PyProof.ReprRoads
import PyProof.ReprReads
import PyProof.CallFns
import HandS.RaiseMore
import HandS.Replace
import HandS.ReplaceLit
import HandS.ExcIs
import HandS.ExcValue
import HandS.TryOnly
import PyProof.StrOps2
import PyProof.InstEq
import PyProof.NeKinds
set_option Elab.async false
set_option linter.all false
set_option maxRecDepth 100000
set_option maxHeartbeats 0
namespace Fl
open PySem PySem.Spec PyProof.Rows L2

/-! ### things: what the laws hand about, without the heap -/
inductive Th where
  | non | bl (b : Bool) | int (i : Int) | str (x : Str) | tup (l : List Th) | fn (l : List Th) | oth
def isSign (c : Nat) : Bool := Nat.ble 97 c && Nat.ble c 122
def sTrue : Str := "true"
def sFalse : Str := "false"
def wordB (x : Str) : Bool := decide (1 ≤ x.length) && (decide (x.length ≤ 8) && (!decide (x = sTrue) && (!decide (x = sFalse) && x.cps.toList.all isSign)))
def numB (i : Int) : Bool := decide (-1000000000 ≤ i) && decide (i ≤ 1000000000)
mutual
def Th.worth (f : Bool) : Th → Bool
  | .non => false
  | .bl _ => true
  | .int i => numB i
  | .str x => wordB x
  | .tup l => Th.worths f l
  | .fn _ => f
  | .oth => false
def Th.worths (f : Bool) : List Th → Bool
  | [] => true
  | t :: r => t.worth f && Th.worths f r
end
mutual
def Th.nodes : Th → Nat
  | .tup l => Th.nodesL l + 1
  | .non => 1
  | .bl _ => 1
  | .int _ => 1
  | .str _ => 1
  | .fn _ => 1
  | .oth => 1
def Th.nodesL : List Th → Nat
  | [] => 0
  | t :: r => t.nodes + Th.nodesL r
end
mutual
def Th.depth : Th → Nat
  | .tup l => Th.depthL l + 1
  | .non => 0
  | .bl _ => 0
  | .int _ => 0
  | .str _ => 0
  | .fn _ => 0
  | .oth => 0
def Th.depthL : List Th → Nat
  | [] => 0
  | t :: r => max t.depth (Th.depthL r)
end
theorem depthL_app (a b : List Th) : Th.depthL (a ++ b) = max (Th.depthL a) (Th.depthL b) := by
  induction a with
  | nil => simp [Th.depthL]
  | cons t r ih => rw [List.cons_append, Th.depthL, Th.depthL, ih]; omega
theorem Th.nodes_pos (t : Th) : 1 ≤ t.nodes := by cases t <;> simp [Th.nodes]
theorem nodesL_app (a b : List Th) : Th.nodesL (a ++ b) = Th.nodesL a + Th.nodesL b := by
  induction a with
  | nil => simp [Th.nodesL]
  | cons t r ih => rw [List.cons_append, Th.nodesL, Th.nodesL, ih]; omega
theorem worths_app (f : Bool) (a b : List Th) : Th.worths f (a ++ b) = (Th.worths f a && Th.worths f b) := by
  induction a with
  | nil => simp [Th.worths]
  | cons t r ih => rw [List.cons_append, Th.worths, Th.worths, ih, Bool.and_assoc]
theorem len_nodesL (a : List Th) : a.length ≤ Th.nodesL a := by
  induction a with
  | nil => exact Nat.zero_le _
  | cons t r ih =>
    have := t.nodes_pos
    rw [Th.nodesL, List.length_cons]
    omega

/-! ### what stands for what -/
/-- the fields of a function -/
def fnF (n b s o : V) : List (Str × V) := putF "mine" o (putF "known" s (putF "part" b (putF "params" n [])))
mutual
inductive Is (C : Addr) (H : Hp) : V → Th → Prop
  | non : Is C H .non .non
  | bl (b : Bool) : Is C H (.bl b) (.bl b)
  | int (i : Int) : Is C H (.int i) (.int i)
  | str (x : Str) (h : x.length ≤ 100000) : Is C H (.str x) (.str x)
  | tup {p : Addr} {xs : List V} {ts : List Th} : H p = some (.tup xs) → Iss C H xs ts → Is C H (.ref p) (.tup ts)
  | fn {a dx : Addr} {n b s o : V} {l : List Th} : H a = some (.ins C dx (fnF n b s o)) → Iss C H [n, b, s, o] l → Is C H (.ref a) (.fn l)
  | lst {a : Addr} {xs : List V} : H a = some (.lst xs) → Is C H (.ref a) .oth
  | dct {a : Addr} {kvs : List (Key × V)} : H a = some (.dK kvs) → Is C H (.ref a) .oth
inductive Iss (C : Addr) (H : Hp) : List V → List Th → Prop
  | nil : Iss C H [] []
  | cons {v : V} {vs : List V} {t : Th} {ts : List Th} : Is C H v t → Iss C H vs ts → Iss C H (v :: vs) (t :: ts)
end
theorem Iss.len {C : Addr} {H : Hp} : ∀ {xs : List V} {ts : List Th}, Iss C H xs ts → xs.length = ts.length
  | _, _, .nil => rfl
  | _, _, .cons _ r => congrArg Nat.succ r.len
theorem Iss.app {C : Addr} {H : Hp} : ∀ {xs ys : List V} {ts us : List Th}, Iss C H xs ts → Iss C H ys us → Iss C H (xs ++ ys) (ts ++ us)
  | _, _, _, _, .nil, s => s
  | _, _, _, _, .cons h r, s => .cons h (r.app s)
theorem Iss.one {C : Addr} {H : Hp} {v : V} {t : Th} (h : Is C H v t) : Iss C H [v] [t] := .cons h .nil
/-- the last of some -/
theorem Iss.last {C : Addr} {H : Hp} : ∀ {xs : List V} {ts : List Th}, Iss C H xs ts → xs ≠ [] → ∃ (ys : List V) (y : V) (us : List Th) (u : Th), xs = ys ++ [y] ∧ ts = us ++ [u] ∧ Iss C H ys us ∧ Is C H y u
  | _, _, .nil, h => absurd rfl h
  | _, _, .cons (vs := []) h r, _ => by
    cases r
    exact ⟨[], _, [], _, rfl, rfl, .nil, h⟩
  | _, _, .cons (vs := a :: b) h r, _ => by
    obtain ⟨ys, y, us, u, e1, e2, h1, h2⟩ := r.last (List.cons_ne_nil _ _)
    exact ⟨_ :: ys, y, _ :: us, u, by rw [e1]; rfl, by rw [e2]; rfl, .cons h h1, h2⟩
mutual
theorem Is.same {C : Addr} {H H' : Hp} (s : Same H H') : ∀ {v : V} {t : Th}, Is C H v t → Is C H' v t
  | _, _, .non => .non
  | _, _, .bl b => .bl b
  | _, _, .int i => .int i
  | _, _, .str x h => .str x h
  | _, _, .tup h r => .tup (s _ _ h) (r.same s)
  | _, _, .fn h r => .fn (s _ _ h) (r.same s)
  | _, _, .lst h => .lst (s _ _ h)
  | _, _, .dct h => .dct (s _ _ h)
theorem Iss.same {C : Addr} {H H' : Hp} (s : Same H H') : ∀ {xs : List V} {ts : List Th}, Iss C H xs ts → Iss C H' xs ts
  | _, _, .nil => .nil
  | _, _, .cons h r => .cons (h.same s) (r.same s)
end
theorem same_new {H : Hp} {p : Addr} (h : H p = none) (o : HO) : Same H (upd H p o) := fun b u q => by rw [upd_ne (ne_of_none q h)]; exact q
/-- an object that is not of H may change -/
theorem same_mut {H H' : Hp} {p : Addr} {o : HO} (e : Same H H') (h : H p = none) : Same H (upd H' p o) := fun a u ha => by
  rw [upd_ne (ne_of_none ha h)]
  exact e a u ha

/-! ### further rules of the layer -/
theorem extend_tup (l : Addr) (items : Array Value) (n : Nat) (b : Addr) (items2 : Array Value) (n2 : Nat) (dd : Option Addr) (sl : Array (Option Value))
    (a0 : ¬(!items.isEmpty && Builtin.List.listTooLong (items.size + items2.size)) = true) (a1 : items.size ≤ sizeLine) (a2 : items.size + items2.size ≤ sizeLine + 1) :
    Meets (Builtin.«list.extend» ⟨[.ref l, .ref b], []⟩) (fun _ R s => s.heap.get? l = some { cls := .type "list", dict := none, data := .seq items n, slots := #[] } ∧
      s.heap.get? b = some { cls := .type "tuple", dict := dd, data := .seq items2 n2, slots := sl } ∧ R (.ok (.ret Value.none)) { s with heap := s.heap.update l (Obj.mapSeq fun x => x ++ items2), toks := s.toks }) :=
  .of_wp fun prog w A R s h => by
    obtain ⟨hp, g, d, tk, os⟩ := s
    obtain ⟨hl, hb, h⟩ := h
    have f1 := AutoSeq1.idx_int
    have f2 := AutoSeq1.sub_tuple_tuple
    have f3 := AutoSeq1.sub_list_list
    have f4 := AutoSeq1.sub_tuple_list
    have f5 := AutoSeq1.sub_list_tuple
    have a3 : (items ++ items2).size ≤ sizeLine + 1 := by
      rw [Array.size_append]
      exact a2
    wp_walk using (wpAny_updateSeq hl rfl (hz := a1) (_hz' := a3)), wpAny_loadPart' hl, wpAny_loadPart' hb
    exact ⟨_, rfl, h⟩
section
variable {X : Cx}
/-- xs.extend(t), t a tuple -/
def rExtT (K : PySem.W.Frag) : V → List V → Hp → VK → Prop := fun x vs H Q => ∃ l b xs zs, x = .ref l ∧ vs = [.ref b] ∧ H l = some (.lst xs) ∧ SqT K H b zs ∧ xs.length + zs.length ≤ sizeLine ∧ Q .non (upd H l (.lst (xs ++ zs)))
theorem mt_extT : MtM X "list.extend" (rExtT X.K) := by
  intro pins s σ H x vs v us Q I rx rv h
  obtain ⟨l, b, xs, zs, rfl, rfl, hH, hB, hz, q⟩ := h
  cases rx
  obtain ⟨u, rfl, ru⟩ := rv.one
  cases ru
  obtain ⟨_, its, n, r, hl, e⟩ := I.lstM hH
  obtain ⟨its2, r2, ⟨⟨cls, dd, data, sl⟩, ho, hc, n2, hd⟩, _⟩ := I.tuple hB
  simp only at hc hd
  subst hc hd
  have hl2 := r2.length
  have g1 : its.toArray.size ≤ sizeLine := by
    rw [List.size_toArray]
    omega
  have g2 : its.toArray.size + its2.toArray.size ≤ sizeLine := by
    rw [List.size_toArray, List.size_toArray]
    omega
  have g3 : ¬ (!its.toArray.isEmpty && Builtin.List.listTooLong (its.toArray.size + its2.toArray.size)) = true := by
    rw [notLongL g2, Bool.and_false]
    intro z
    cases z
  refine call_meets F.slot_list_extend ⟨_, e, rfl⟩ F.entry_list_extend (F.args_list_extend_2 _ _) (extend_tup l its.toArray n b its2.toArray n2 dd sl g3 g1 (by omega)) ⟨e, ho, ?_⟩
  exact ⟨.non, _, I.lset (its' := its ++ its2) hH e (by simp) (r.append r2) (by rw [List.length_append]; omega), rfl, q⟩
end
end Fl
namespace Fl
open PySem PySem.Spec PyProof.Rows L2

theorem hu64 {A : Around} {k : Nat} (hr : Room k A) : A.units + 64 < cLine := hr.units

/-! ### defs by name -/
theorem pe_gk {X : Cx} {x : Str} {v : V} {pos : Pos} (hg : Gl X x) (h : ∃ u, X.mg x = some u ∧ RelV v u) (hd : (x == ("__debug__" : Str)) = false := by decide) : PE X (.Name x pos) (tC v) := by
  obtain ⟨u, e, r⟩ := h
  exact pe_glob hg e r hd

def bindOk (st : Stmt) (x : Str) (ps : List Str) : Prop := ∀ (kV doc pm : Value) (an : Option Addr) (cdv ct : Value) (us : List Value), us.length = ps.length →
  bindArgs (PySem.W.fnOf x x (defArgs st) (defBody st) (defScope st) .none kV doc pm an cdv ct) ⟨us, []⟩ = pure (ps.zip us)
/-- the def st, by its own name q, stands behind the name x -/
structure FnP (K : PySem.W.Frag) (mg : Str → Option Value) (x : Str) (st : Stmt) (q : Str := x) : Prop where
  ex : ∃ fd, FunD K q q (defArgs st) (defBody st) (defScope st) [] [] (He.ga K x) fd
  gl : mg x = some (.ref (He.ga K x))
/-- the name x stands for a def that keeps the promise sp -/
structure Cl (P : Program) (w : World) (K : PySem.W.Frag) (mg : Str → Option Value) (base : Heap) (k : Nat) (x : Str) (ps : List Str) (sp : Sp) : Prop where
  ex : ∃ f fd, FnOk P w K mg base (L2.CX P w) k f fd ps sp ∧ Binds K fd ps [] ∧ PySem.W.keepIn K (.ref f) = true ∧ mg x = some (.ref f)
section
variable {X : Cx} {k j : Nat} {x : Str} {ps : List Str} {sp : Sp} {E : XK} {p pos : Pos} {e : Expr} {es : List Expr} {t : TA}
theorem pe_b (c : Cl X.prog X.w X.K X.mg X.base k x ps sp) (hr : Room j X.A) (hk : k ≤ j) (hg : Gl X x) (hx : Passes (L2.CX X.prog X.w) X E) (ha : PA X (e :: es) t) (hdb : (x == ("__debug__" : Str)) = false := by decide)
    (he : starEach (e :: es) X.env = (false, eval e X.env) :: starEach es X.env := by rfl) (hpl : (backTo pos (starEach es X.env)).any (·.1) = false := by rfl) : PE X (.Call (.Name x p) (e :: es) [] pos) (tCall sp [] E t) := by
  obtain ⟨f, fd, F, b, kp, g⟩ := c.ex
  exact pe_call F (hr.mono hk) hg g kp b .nil hx ha hdb he hpl
theorem pe_bS {E : L2.St → XK} (c : Cl X.prog X.w X.K X.mg X.base k x ps sp) (hr : Room j X.A) (hk : k ≤ j) (hg : Gl X x) (hx : ∀ σ, PassesAt (L2.CX X.prog X.w) X σ (E σ)) (ha : PA X (e :: es) t) (hdb : (x == ("__debug__" : Str)) = false := by decide)
    (he : starEach (e :: es) X.env = (false, eval e X.env) :: starEach es X.env := by rfl) (hpl : (backTo pos (starEach es X.env)).any (·.1) = false := by rfl) : PE X (.Call (.Name x p) (e :: es) [] pos) (tCallS sp E t) := by
  obtain ⟨f, fd, F, b, kp, g⟩ := c.ex
  exact pe_callS F (hr.mono hk) hg g kp b hx ha hdb he hpl
end
section
variable {P : Program} {w : World} {K : PySem.W.Frag} {mg : Str → Option Value} {base : Heap} {x : Str} {st : Stmt} {N ps : List Str} {k : Nat} {sp : Sp}
theorem Cl.imp {sp' : Sp} (c : Cl P w K mg base k x ps sp) (h : ∀ vs H Q E, sp' vs H Q E → sp vs H Q E) : Cl P w K mg base k x ps sp' := by
  obtain ⟨f, fd, F, b, kp, g⟩ := c.ex
  exact ⟨f, fd, F.imp h, b, kp, g⟩
theorem cl_mk {q : Str} (F : FnP K mg x st q) (S : FnScope N ps (defScope st)) (hb : bindOk st q ps) (len : ∀ vs H Q E, sp vs H Q E → vs.length = ps.length)
    (body : ∀ (cdv : Value) (A : Around) (outer : List Env) (s : Shared) (H : Hp) (vs : List V) (Q : VK) (E : XK), Room k (A.deeper (envOfC q (defScope st) s.heap.objs.size (He.ga K x) cdv)) → sp vs H Q E →
      ∃ t, PSs (cxOf (L2.CX P w) P w K mg base N q (defScope st) (He.ga K x) cdv A outer s H E) (defBody st) t ∧ t { nx := fun _ H' => Q .non H', rt := Q } (start N vs) H) : Cl P w K mg base (k + 1) x ps sp := by
  obtain ⟨fd, D⟩ := F.ex
  refine ⟨_, fd, D.ok S len body, ?_, D.kp, F.gl⟩
  obtain ⟨oc, od, dV, kV, doc, pm, an, cdv, ct, osl, rfl, lk, hcd, hd, hkw⟩ := D.ex
  rcases hd with ⟨_, e⟩ | ⟨e, _⟩
  · subst e
    exact Binds.all fun us hl => hb kV doc pm an cdv ct us hl
  · exact absurd rfl e
end
def sp1 (f : V → Hp → VK → XK → Prop) : Sp := fun vs H Q E => ∃ a, vs = [a] ∧ f a H Q E
def sp2 (f : V → V → Hp → VK → XK → Prop) : Sp := fun vs H Q E => ∃ a b, vs = [a, b] ∧ f a b H Q E
def sp3 (f : V → V → V → Hp → VK → XK → Prop) : Sp := fun vs H Q E => ∃ a b c, vs = [a, b, c] ∧ f a b c H Q E
def sp4 (f : V → V → V → V → Hp → VK → XK → Prop) : Sp := fun vs H Q E => ∃ a b c d, vs = [a, b, c, d] ∧ f a b c d H Q E
section
variable {P : Program} {w : World} {K : PySem.W.Frag} {mg : Str → Option Value} {base : Heap} {x p1 p2 p3 : Str} {st : Stmt} {N : List Str} {k : Nat}
theorem cl_1 {f : V → Hp → VK → XK → Prop} {q : Str} (F : FnP K mg x st q) (S : FnScope N [p1] (defScope st)) (hb : bindOk st q [p1])
    (body : ∀ (cdv : Value) (A : Around) (outer : List Env) (s : Shared) (H : Hp) (a : V) (Q : VK) (E : XK), Room k (A.deeper (envOfC q (defScope st) s.heap.objs.size (He.ga K x) cdv)) → f a H Q E →
      ∃ t, PSs (cxOf (L2.CX P w) P w K mg base N q (defScope st) (He.ga K x) cdv A outer s H E) (defBody st) t ∧ t { nx := fun _ H' => Q .non H', rt := Q } (start N [a]) H) : Cl P w K mg base (k + 1) x [p1] (sp1 f) :=
  cl_mk F S hb (fun vs H Q E h => by obtain ⟨a, rfl, _⟩ := h; rfl) fun cdv A outer s H vs Q E hr h => by
    obtain ⟨a, rfl, h⟩ := h
    exact body cdv A outer s H a Q E hr h
theorem cl_2 {f : V → V → Hp → VK → XK → Prop} {q : Str} (F : FnP K mg x st q) (S : FnScope N [p1, p2] (defScope st)) (hb : bindOk st q [p1, p2])
    (body : ∀ (cdv : Value) (A : Around) (outer : List Env) (s : Shared) (H : Hp) (a b : V) (Q : VK) (E : XK), Room k (A.deeper (envOfC q (defScope st) s.heap.objs.size (He.ga K x) cdv)) → f a b H Q E →
      ∃ t, PSs (cxOf (L2.CX P w) P w K mg base N q (defScope st) (He.ga K x) cdv A outer s H E) (defBody st) t ∧ t { nx := fun _ H' => Q .non H', rt := Q } (start N [a, b]) H) : Cl P w K mg base (k + 1) x [p1, p2] (sp2 f) :=
  cl_mk F S hb (fun vs H Q E h => by obtain ⟨a, b, rfl, _⟩ := h; rfl) fun cdv A outer s H vs Q E hr h => by
    obtain ⟨a, b, rfl, h⟩ := h
    exact body cdv A outer s H a b Q E hr h
theorem cl_3 {f : V → V → V → Hp → VK → XK → Prop} {q : Str} (F : FnP K mg x st q) (S : FnScope N [p1, p2, p3] (defScope st)) (hb : bindOk st q [p1, p2, p3])
    (body : ∀ (cdv : Value) (A : Around) (outer : List Env) (s : Shared) (H : Hp) (a b c : V) (Q : VK) (E : XK), Room k (A.deeper (envOfC q (defScope st) s.heap.objs.size (He.ga K x) cdv)) → f a b c H Q E →
      ∃ t, PSs (cxOf (L2.CX P w) P w K mg base N q (defScope st) (He.ga K x) cdv A outer s H E) (defBody st) t ∧ t { nx := fun _ H' => Q .non H', rt := Q } (start N [a, b, c]) H) : Cl P w K mg base (k + 1) x [p1, p2, p3] (sp3 f) :=
  cl_mk F S hb (fun vs H Q E h => by obtain ⟨a, b, c, rfl, _⟩ := h; rfl) fun cdv A outer s H vs Q E hr h => by
    obtain ⟨a, b, c, rfl, h⟩ := h
    exact body cdv A outer s H a b c Q E hr h
end

/-! ### classes by name -/
/-- the name x stands for a class at C whose __init__ keeps the promise sp -/
structure Nw (P : Program) (w : World) (K : PySem.W.Frag) (mg : Str → Option Value) (base : Heap) (k : Nat) (x : Str) (C : Addr) (ps : List Str) (sp : Sp) : Prop where
  ex : ∃ f fd, Mk K C f ∧ FnOk P w K mg base (L2.CX P w) k f fd ps sp ∧ Binds K fd ps [] ∧ mg x = some (.ref C)
section
variable {X : Cx} {k j : Nat} {x : Str} {C : Addr} {ps : List Str} {sp : Sp} {E : XK} {p pos : Pos} {e : Expr} {es : List Expr} {t : TA}
theorem pe_new (c : Nw X.prog X.w X.K X.mg X.base k x C ps sp) (hr : Room j X.A) (hk : k + 1 ≤ j) (hg : Gl X x) (hx : Passes (L2.CX X.prog X.w) X E) (ha : PA X (e :: es) t) (hdb : (x == ("__debug__" : Str)) = false := by decide)
    (he : starEach (e :: es) X.env = (false, eval e X.env) :: starEach es X.env := by rfl) (hpl : (backTo pos (starEach es X.env)).any (·.1) = false := by rfl) : PE X (.Call (.Name x p) (e :: es) [] pos) (tMake C sp [] E t) := by
  obtain ⟨f, fd, M, F, b, g⟩ := c.ex
  exact pe_make M F (hr.mono hk) hg g b .nil hx ha hdb he hpl
end
/-- the method st stands in the class at C by the name x (qualified qn) -/
structure MtP (K : PySem.W.Frag) (C : Addr) (x qn : Str) (st : Stmt) : Prop where
  ex : ∃ fd, FunD K x qn (defArgs st) (defBody st) (defScope st) [] [] (He.ma K C x) fd
def bindOkM (st : Stmt) (x qn : Str) (ps : List Str) : Prop := ∀ (kV doc pm : Value) (an : Option Addr) (cdv ct : Value) (us : List Value), us.length = ps.length →
  bindArgs (PySem.W.fnOf x qn (defArgs st) (defBody st) (defScope st) .none kV doc pm an cdv ct) ⟨us, []⟩ = pure (ps.zip us)
theorem mt_mk {P : Program} {w : World} {K : PySem.W.Frag} {mg : Str → Option Value} {base : Heap} {C : Addr} {x qn : Str} {st : Stmt} {N ps : List Str} {k : Nat} {sp : Sp} (F : MtP K C x qn st) (S : FnScope N ps (defScope st)) (hb : bindOkM st x qn ps)
    (len : ∀ vs H Q E, sp vs H Q E → vs.length = ps.length)
    (body : ∀ (cdv : Value) (A : Around) (outer : List Env) (s : Shared) (H : Hp) (vs : List V) (Q : VK) (E : XK), Room k (A.deeper (envOfC qn (defScope st) s.heap.objs.size (He.ma K C x) cdv)) → sp vs H Q E →
      ∃ t, PSs (cxOf (L2.CX P w) P w K mg base N qn (defScope st) (He.ma K C x) cdv A outer s H E) (defBody st) t ∧ t { nx := fun _ H' => Q .non H', rt := Q } (start N vs) H) :
    ∃ fd, FnOk P w K mg base (L2.CX P w) (k + 1) (He.ma K C x) fd ps sp ∧ Binds K fd ps [] := by
  obtain ⟨fd, D⟩ := F.ex
  refine ⟨fd, D.ok S len body, ?_⟩
  obtain ⟨oc, od, dV, kV, doc, pm, an, cdv, ct, osl, rfl, lk, hcd, hd, hkw⟩ := D.ex
  rcases hd with ⟨_, e⟩ | ⟨e, _⟩
  · subst e
    exact Binds.all fun us hl => hb kV doc pm an cdv ct us hl
  · exact absurd rfl e

/-! ### a list beside the empty one -/
section
variable {X : Cx}
def rNil (K : PySem.W.Frag) (ne : Bool) : R2 := fun x y H Q => ∃ l p xs, x = .ref l ∧ y = .ref p ∧ SqL K H l xs ∧ SqL K H p [] ∧ Q (.bl (if ne then !xs.isEmpty else xs.isEmpty)) H
theorem op_neNil (hu : X.A.units < cLine) : OpR X (compareOp .NotEq) (rNil X.K true) := by
  intro pins s σ H x y v u Q I rx ry h
  obtain ⟨l, p, xs, rfl, rfl, hl, hp, q⟩ := h
  cases rx
  cases ry
  obtain ⟨its, r, p1, _⟩ := I.list hl
  obtain ⟨its2, r2, p2, _⟩ := I.list hp
  cases r2
  have l1 : s.heap.IsList l its.toArray := p1.isList
  have l2 : s.heap.IsList p ([] : List Value).toArray := p2.isList
  cases r with
  | nil => exact SeqAt.RcNeAt.lists (e := fun _ => true) l1 l2 rfl hu (fun j h1 _ => absurd h1 (Nat.not_lt_zero _)) X.prog X.w X.xe _ ⟨.bl false, H, I, rfl, q⟩
  | cons r1 r2 => exact SeqAt.RcNeAt.lists_lengths l1 l2 (by simp) hu X.prog X.w X.xe _ ⟨.bl true, H, I, rfl, q⟩
theorem op_eqNil (hu : X.A.units < cLine) : OpR X (compareOp .Eq) (rNil X.K false) := by
  intro pins s σ H x y v u Q I rx ry h
  obtain ⟨l, p, xs, rfl, rfl, hl, hp, q⟩ := h
  cases rx
  cases ry
  obtain ⟨its, r, p1, _⟩ := I.list hl
  obtain ⟨its2, r2, p2, _⟩ := I.list hp
  cases r2
  have l1 : s.heap.IsList l its.toArray := p1.isList
  have l2 : s.heap.IsList p ([] : List Value).toArray := p2.isList
  cases r with
  | nil => exact SeqAt.RcAt.lists (e := fun _ => true) l1 l2 rfl hu (fun j h1 _ => absurd h1 (Nat.not_lt_zero _)) X.prog X.w X.xe _ ⟨.bl true, H, I, rfl, q⟩
  | cons r1 r2 => exact SeqAt.RcAt.lists_lengths l1 l2 (by simp) hu X.prog X.w X.xe _ ⟨.bl false, H, I, rfl, q⟩
end

/-! ### tuples -/
section
variable {X : Cx} {K : PySem.W.Frag} {H : Hp} {Q : VK} {a b : Addr} {xs ys : List V}
def rTupNil (K : PySem.W.Frag) (ne : Bool) : R2 := fun x y H Q => (∃ p q xs, x = .ref p ∧ y = .ref q ∧ H p = some (.tup xs) ∧ H q = some (.tup []) ∧ Q (.bl (if ne then !xs.isEmpty else xs.isEmpty)) H)
theorem op_eqTN (hu : X.A.units < cLine) : OpR X (compareOp .Eq) (rTupNil X.K false) := by
  intro pins s σ H x y v u Q I rx ry h
  obtain ⟨p, q, xs, rfl, rfl, hp, hq, k⟩ := h
  cases rx
  cases ry
  obtain ⟨its, r, p1, _⟩ := I.tuple (SqT.of (K := X.K) hp)
  obtain ⟨its2, r2, p2, _⟩ := I.tuple (SqT.of (K := X.K) hq)
  cases r2
  refine SeqAt.RcAt.tuples (e := fun _ => true) p1 p2 hu (fun j _ h2 => absurd h2 (Nat.not_lt_zero _)) X.prog X.w X.xe _ ?_
  cases r with
  | nil => exact ⟨.bl true, H, I, rfl, k⟩
  | cons r1 r2 => exact ⟨.bl false, H, I, by simp; rfl, k⟩
theorem op_neTN (hu : X.A.units < cLine) : OpR X (compareOp .NotEq) (rTupNil X.K true) := by
  intro pins s σ H x y v u Q I rx ry h
  obtain ⟨p, q, xs, rfl, rfl, hp, hq, k⟩ := h
  cases rx
  cases ry
  obtain ⟨its, r, p1, _⟩ := I.tuple (SqT.of (K := X.K) hp)
  obtain ⟨its2, r2, p2, _⟩ := I.tuple (SqT.of (K := X.K) hq)
  cases r2
  refine SeqAt.RcNeAt.tuples (e := fun _ => true) p1 p2 hu (fun j _ h2 => absurd h2 (Nat.not_lt_zero _)) X.prog X.w X.xe _ ?_
  cases r with
  | nil => exact ⟨.bl false, H, I, rfl, k⟩
  | cons r1 r2 => exact ⟨.bl true, H, I, by simp; rfl, k⟩
/-- t + u, what comes is a tuple of both -/
theorem rd_cat (ha : H a = some (.tup xs)) (hb : H b = some (.tup ys)) (hl : xs.length + ys.length ≤ sizeLine) (q : ∀ p H', Same H H' → H' p = some (.tup (xs ++ ys)) → Q (.ref p) H') : rCatA K (.ref a) (.ref b) H Q := by
  refine ⟨a, b, xs, ys, rfl, rfl, SqT.of ha, SqT.of hb, hl, fun e => ?_, fun _ e => ?_, fun _ _ p np => ?_⟩
  · subst e
    exact q b H (.refl _) hb
  · subst e
    rw [List.append_nil] at q
    exact q a H (.refl _) ha
  · exact q p _ (same_new np _) upd_same
theorem sIx_none0 (n d : Nat) : HT.sIx n d none = d := rfl
theorem sIx_pos {n d : Nat} {i : Int} (h : 0 ≤ i) : HT.sIx n d (some i) = min i.toNat n := by
  obtain ⟨j, rfl⟩ : ∃ j : Nat, i = (j : Int) := ⟨i.toNat, by omega⟩
  exact HT.sIx_nat n d j
/-- t[:i] -/
theorem rd_take {i : Int} (ha : H a = some (.tup xs)) (h0 : 0 ≤ i) (q : ∀ p H', Same H H' → H' p = some (.tup (xs.take i.toNat)) → Q (.ref p) H') : rSlA K (.ref a) none (some i) H Q := by
  refine ⟨a, xs, rfl, SqT.of ha, fun e => ?_, fun _ p np => ?_⟩
  · obtain ⟨_, e2⟩ := e
    rw [sIx_pos h0] at e2
    have : xs.take i.toNat = xs := List.take_of_length_le (by omega)
    rw [this] at q
    exact q a H (.refl _) ha
  · refine q p _ (same_new np _) ?_
    rw [upd_same]
    unfold cutV
    rw [sIx_none0, sIx_pos h0, List.drop_zero, Nat.sub_zero]
    by_cases hi : i.toNat ≤ xs.length
    · rw [Nat.min_eq_left hi]
    · rw [Nat.min_eq_right (by omega), List.take_of_length_le (Nat.le_refl _), List.take_of_length_le (by omega)]
/-- t[i:] -/
theorem rd_drop {i : Int} (ha : H a = some (.tup xs)) (h0 : 0 ≤ i) (q : ∀ p H', Same H H' → H' p = some (.tup (xs.drop i.toNat)) → Q (.ref p) H') : rSlA K (.ref a) (some i) none H Q := by
  refine ⟨a, xs, rfl, SqT.of ha, fun e => ?_, fun _ p np => ?_⟩
  · obtain ⟨e1, _⟩ := e
    rw [sIx_pos h0] at e1
    have : xs.drop i.toNat = xs := by
      by_cases hx : xs = []
      · rw [hx]
        exact List.drop_nil
      · have : 0 < xs.length := List.length_pos_iff.mpr hx
        have e3 : i.toNat = 0 := by omega
        rw [e3]
        exact List.drop_zero
    rw [this] at q
    exact q a H (.refl _) ha
  · refine q p _ (same_new np _) ?_
    rw [upd_same]
    unfold cutV
    rw [sIx_none0, sIx_pos h0]
    by_cases hi : i.toNat ≤ xs.length
    · rw [Nat.min_eq_left hi, List.take_of_length_le (by rw [List.length_drop]; exact Nat.le_refl _)]
    · rw [Nat.min_eq_right (by omega), List.drop_length, List.drop_eq_nil_of_le (by omega)]
      simp
end

/-! ### kinds of things -/
/-- what the written part says of the class of functions and of the built-in ones -/
structure Kf (K : PySem.W.Frag) (C : Addr) : Prop where
  cl : Cls K C
  ca : PySem.W.findIn K (.ref C) "__class__" = some (some (.builtin "object.__class__"))
  cn : PySem.W.specialIn K (.builtin "object.__class__") "__get__" = some (some (.builtin "getset_descriptor.__get__"))
  ct : PySem.W.takesIn K (.builtin "object.__class__") = some true
  cm : PySem.W.mroIn K C (.type "object") = some true
  fi : PySem.W.kitOne K (.ref C) (.type "int") = some false
  fb : PySem.W.kitOne K (.ref C) (.type "bool") = some false
  fs : PySem.W.kitOne K (.ref C) (.type "str") = some false
  ft : PySem.W.kitOne K (.ref C) (.type "tuple") = some false
  ff : PySem.W.kitOne K (.ref C) (.ref C) = some true
  nf : PySem.W.kitOne K (.type "NoneType") (.ref C) = some false
  bf : PySem.W.kitOne K (.type "bool") (.ref C) = some false
  if_ : PySem.W.kitOne K (.type "int") (.ref C) = some false
  sf : PySem.W.kitOne K (.type "str") (.ref C) = some false
  tf : PySem.W.kitOne K (.type "tuple") (.ref C) = some false
  lf : PySem.W.kitOne K (.type "list") (.ref C) = some false
  df : PySem.W.kitOne K (.type "dict") (.ref C) = some false
def Th.isInt : Th → Bool
  | .int _ => true
  | .bl _ => true
  | _ => false
def Th.isBl : Th → Bool
  | .bl _ => true
  | _ => false
def Th.isStr : Th → Bool
  | .str _ => true
  | _ => false
def Th.isTup : Th → Bool
  | .tup _ => true
  | _ => false
def Th.isFn : Th → Bool
  | .fn _ => true
  | _ => false
section
variable {K : PySem.W.Frag} {C : Addr} {H : Hp} {v : V} {t : Th}
theorem is_int (T : Kf K C) (h : Is C H v t) : ∃ u, TyX K H v u ∧ PySem.W.kitOne K u (.type "int") = some t.isInt := by
  cases h with
  | non => exact ⟨_, .base .non, kit_ty (r := false) (by decide +kernel)⟩
  | bl b => exact ⟨_, .base (.bl _), kit_ty (r := true) (by decide +kernel)⟩
  | int i => exact ⟨_, .base (.int _), kit_ty (r := true) (by decide +kernel)⟩
  | str x _ => exact ⟨_, .base (.str _), kit_ty (r := false) (by decide +kernel)⟩
  | tup e _ => exact ⟨_, .base (.tup e), kit_ty (r := false) (by decide +kernel)⟩
  | lst e => exact ⟨_, .base (.lst e), kit_ty (r := false) (by decide +kernel)⟩
  | dct e => exact ⟨_, .base (.dK e), kit_ty (r := false) (by decide +kernel)⟩
  | fn e => exact ⟨_, .base (.ins e T.cl T.ca T.cn T.ct T.cm), T.fi⟩
theorem is_bool (T : Kf K C) (h : Is C H v t) : ∃ u, TyX K H v u ∧ PySem.W.kitOne K u (.type "bool") = some t.isBl := by
  cases h with
  | non => exact ⟨_, .base .non, kit_ty (r := false) (by decide +kernel)⟩
  | bl b => exact ⟨_, .base (.bl _), kit_ty (r := true) (by decide +kernel)⟩
  | int i => exact ⟨_, .base (.int _), kit_ty (r := false) (by decide +kernel)⟩
  | str x _ => exact ⟨_, .base (.str _), kit_ty (r := false) (by decide +kernel)⟩
  | tup e _ => exact ⟨_, .base (.tup e), kit_ty (r := false) (by decide +kernel)⟩
  | lst e => exact ⟨_, .base (.lst e), kit_ty (r := false) (by decide +kernel)⟩
  | dct e => exact ⟨_, .base (.dK e), kit_ty (r := false) (by decide +kernel)⟩
  | fn e => exact ⟨_, .base (.ins e T.cl T.ca T.cn T.ct T.cm), T.fb⟩
theorem is_str (T : Kf K C) (h : Is C H v t) : ∃ u, TyX K H v u ∧ PySem.W.kitOne K u (.type "str") = some t.isStr := by
  cases h with
  | non => exact ⟨_, .base .non, kit_ty (r := false) (by decide +kernel)⟩
  | bl b => exact ⟨_, .base (.bl _), kit_ty (r := false) (by decide +kernel)⟩
  | int i => exact ⟨_, .base (.int _), kit_ty (r := false) (by decide +kernel)⟩
  | str x _ => exact ⟨_, .base (.str _), kit_ty (r := true) (by decide +kernel)⟩
  | tup e _ => exact ⟨_, .base (.tup e), kit_ty (r := false) (by decide +kernel)⟩
  | lst e => exact ⟨_, .base (.lst e), kit_ty (r := false) (by decide +kernel)⟩
  | dct e => exact ⟨_, .base (.dK e), kit_ty (r := false) (by decide +kernel)⟩
  | fn e => exact ⟨_, .base (.ins e T.cl T.ca T.cn T.ct T.cm), T.fs⟩
theorem is_tup (T : Kf K C) (h : Is C H v t) : ∃ u, TyX K H v u ∧ PySem.W.kitOne K u (.type "tuple") = some t.isTup := by
  cases h with
  | non => exact ⟨_, .base .non, kit_ty (r := false) (by decide +kernel)⟩
  | bl b => exact ⟨_, .base (.bl _), kit_ty (r := false) (by decide +kernel)⟩
  | int i => exact ⟨_, .base (.int _), kit_ty (r := false) (by decide +kernel)⟩
  | str x _ => exact ⟨_, .base (.str _), kit_ty (r := false) (by decide +kernel)⟩
  | tup e _ => exact ⟨_, .base (.tup e), kit_ty (r := true) (by decide +kernel)⟩
  | lst e => exact ⟨_, .base (.lst e), kit_ty (r := false) (by decide +kernel)⟩
  | dct e => exact ⟨_, .base (.dK e), kit_ty (r := false) (by decide +kernel)⟩
  | fn e => exact ⟨_, .base (.ins e T.cl T.ca T.cn T.ct T.cm), T.ft⟩
theorem is_fn (T : Kf K C) (h : Is C H v t) : ∃ u, TyX K H v u ∧ PySem.W.kitOne K u (.ref C) = some t.isFn := by
  cases h with
  | non => exact ⟨_, .base .non, T.nf⟩
  | bl b => exact ⟨_, .base (.bl _), T.bf⟩
  | int i => exact ⟨_, .base (.int _), T.if_⟩
  | str x _ => exact ⟨_, .base (.str _), T.sf⟩
  | tup e _ => exact ⟨_, .base (.tup e), T.tf⟩
  | fn e => exact ⟨_, .base (.ins e T.cl T.ca T.cn T.ct T.cm), T.ff⟩
  | lst e => exact ⟨_, .base (.lst e), T.lf⟩
  | dct e => exact ⟨_, .base (.dK e), T.df⟩
end
end Fl
namespace Fl
open PySem PySem.Spec PyProof.Rows L2
def top (i : Nat) : Stmt := PySem.Challenge.pw_floorhall_k05_texts_refused.main.body.getD i (.Pass ⟨0, 0, 0, 0⟩)
abbrev s_is_number : Stmt := top 15
theorem sc_is_number : FnScope ["thing"] ["thing"] (defScope s_is_number) := ⟨rfl, rfl, rfl, by decide +kernel, rfl, by decide +kernel, by decide +kernel⟩
abbrev s_is_word : Stmt := top 16
theorem sc_is_word : FnScope ["thing", "sign"] ["thing"] (defScope s_is_word) := ⟨rfl, rfl, rfl, by decide +kernel, rfl, by decide +kernel, by decide +kernel⟩
abbrev s_is_made_of : Stmt := top 17
theorem sc_is_made_of : FnScope ["thing", "with_functions", "pile", "one"] ["thing", "with_functions"] (defScope s_is_made_of) := ⟨rfl, rfl, rfl, by decide +kernel, rfl, by decide +kernel, by decide +kernel⟩
abbrev s_is_plain : Stmt := top 18
theorem sc_is_plain : FnScope ["thing"] ["thing"] (defScope s_is_plain) := ⟨rfl, rfl, rfl, by decide +kernel, rfl, by decide +kernel, by decide +kernel⟩
abbrev s_need_plain : Stmt := top 19
theorem sc_need_plain : FnScope ["thing"] ["thing"] (defScope s_need_plain) := ⟨rfl, rfl, rfl, by decide +kernel, rfl, by decide +kernel, by decide +kernel⟩

abbrev XcP (K : PySem.W.Frag) (x : Str) : Prop := PySem.W.excIn K (He.ga K x) He.veBase "ValueError.__new__" = true ∧ PySem.W.keepIn K (.ref (He.ga K x)) = true ∧
  PySem.W.subIn K (.ref (He.ga K x)) (.type "BaseException") = some true ∧ PySem.W.typeIn K (.ref (He.ga K x)) = some (.type "type")
structure Tw (K : PySem.W.Frag) (mg : Str → Option Value) : Prop where
  kf : Kf K (He.ga K "Function")
  g_Function : mg "Function" = some (.ref (He.ga K "Function"))
  z_isinstance : mg "isinstance" = none
  z_int : mg "int" = none
  z_bool : mg "bool" = none
  z_str : mg "str" = none
  z_tuple : mg "tuple" = none
  z_abs : mg "abs" = none
  z_all : mg "all" = none
  z_len : mg "len" = none
  g_BadWorth : mg "BadWorth" = some (.ref (He.ga K "BadWorth"))
  x_BadWorth : XcP K "BadWorth"
  c_MOST_NUMBER : ∃ u, mg "MOST_NUMBER" = some u ∧ RelV (.int 1000000000) u
  c_MOST_SIGNS : ∃ u, mg "MOST_SIGNS" = some u ∧ RelV (.int 8) u
  c_SMALL : ∃ u, mg "SMALL" = some u ∧ RelV (.str "abcdefghijklmnopqrstuvwxyz") u
abbrev CF (K : PySem.W.Frag) : Addr := He.ga K "Function"
def Th.num : Th → Bool
  | .int i => numB i
  | _ => false
def Th.wrd : Th → Bool
  | .str x => wordB x
  | _ => false
def spNumber (K : PySem.W.Frag) : Sp := sp1 fun v H Q _ => ∃ t, Is (CF K) H v t ∧ Q (.bl t.num) H
def spWord (K : PySem.W.Frag) : Sp := sp1 fun v H Q _ => ∃ t, Is (CF K) H v t ∧ ∀ H', Same H H' → Q (.bl t.wrd) H'
theorem inTF (x : Str) : inV (.str x) [.str sTrue, .str sFalse] = (decide (x = sTrue) || decide (x = sFalse)) := by
  show (sTrue == x || (sFalse == x || false)) = _
  rw [Bool.or_false]
  congr 1
  · by_cases h : x = sTrue
    · rw [h, decide_eq_true rfl, beq_self_eq_true]
    · rw [decide_eq_false h]
      exact beq_eq_false_iff_ne.mpr fun e => h e.symm
  · by_cases h : x = sFalse
    · rw [h, decide_eq_true rfl, beq_self_eq_true]
    · rw [decide_eq_false h]
      exact beq_eq_false_iff_ne.mpr fun e => h e.symm
theorem take_snoc {α : Type} : ∀ {l : List α} {i : Nat} {x : α}, l[i]? = some x → l.take (i + 1) = l.take i ++ [x]
  | [], i, x, h => by simp at h
  | a :: l, 0, x, h => by
    have e : a = x := Option.some.inj h
    rw [e]
    rfl
  | a :: l, i + 1, x, h => by
    have z := take_snoc (l := l) (i := i) (x := x) h
    rw [List.take_succ_cons, z]
    rfl
theorem sign_mem (c : Nat) : decide (c ∈ ("abcdefghijklmnopqrstuvwxyz" : Str).cps.toList) = isSign c := by
  have e : (("abcdefghijklmnopqrstuvwxyz" : Str).cps.toList : List Nat) = List.range' 97 26 := by decide +kernel
  have z : (c ∈ List.range' 97 26) ↔ isSign c = true := by
    rw [List.mem_range'_1]
    unfold isSign
    rw [Bool.and_eq_true, Nat.ble_eq, Nat.ble_eq]
    omega
  cases h : isSign c with
  | true => exact decide_eq_true (by rw [e]; exact z.mpr h)
  | false => exact decide_eq_false (by rw [e]; intro m; rw [z.mp m] at h; cases h)
section
variable {P : Program} {w : World} {K : PySem.W.Frag} {mg : Str → Option Value} {base : Heap}
theorem ok_is_number (F : FnP K mg "is_number" s_is_number) (T : Tw K mg) : Cl P w K mg base 1 "is_number" ["thing"] (spNumber K) := by
  refine cl_1 F sc_is_number (fun _ _ _ _ _ _ us hl => match us, hl with | [_], _ => rfl) fun cdv A outer s H v Q E hr h => ?_
  obtain ⟨t, h, q⟩ := h
  refine ⟨_, PSs.nox (pss_one (ps_ret (pe_and (pe_callB call_isi rfl T.z_isinstance PyProof.Rows.boot_isinstance (pa_cons (pv 0) (pa_cons (pe_bltn (v := .ty "int") rfl T.z_int (by decide +kernel) rfl) pa_nil))) (pe_and (pe_not (pe_callB call_isi rfl T.z_isinstance PyProof.Rows.boot_isinstance (pa_cons (pv 0) (pa_cons (pe_bltn (v := .ty "bool") rfl T.z_bool (by decide +kernel) rfl) pa_nil)))) (pe_one (pe_cmpR op_le (pe_callB call_abs rfl T.z_abs PyProof.Rows.boot_abs (pa_cons (pv 0) pa_nil)) (pe_gk rfl T.c_MOST_NUMBER) (nomark _))))))), ?_⟩
  obtain ⟨u1, y1, k1⟩ := is_int T.kf h
  obtain ⟨u2, y2, k2⟩ := is_bool T.kf h
  refine ⟨v, rfl, v, _, u1, _, _, rfl, .ty _, y1, k1, _, rfl, ?_⟩
  cases h with
  | int i =>
    refine iteT ⟨_, rfl, _, _, u2, _, _, rfl, .ty _, y2, k2, _, rfl, _, rfl, iteT ?_⟩
    refine ⟨_, rfl, _, rfl, _, _, rfl, rfl, ?_⟩
    have e : decide ((if i < 0 then -i else i) ≤ 1000000000) = numB i := by
      unfold numB
      rw [← Bool.decide_and]
      refine decide_eq_decide.mpr ?_
      split <;> omega
    show Q (.bl (decide ((if i < 0 then -i else i) ≤ 1000000000))) H
    rw [e]
    exact q
  | bl b => exact iteT ⟨_, rfl, _, _, u2, _, _, rfl, .ty _, y2, k2, _, rfl, _, rfl, iteF q⟩
  | non => exact iteF q
  | str x _ => exact iteF q
  | tup _ _ => exact iteF q
  | fn _ => exact iteF q
  | lst _ => exact iteF q
  | dct _ => exact iteF q
theorem ok_is_word (F : FnP K mg "is_word" s_is_word) (T : Tw K mg) : Cl P w K mg base 1 "is_word" ["thing"] (spWord K) := by
  refine cl_1 F sc_is_word (fun _ _ _ _ _ _ us hl => match us, hl with | [_], _ => rfl) fun cdv A outer s H v Q E hr h => ?_
  obtain ⟨t, h, q⟩ := h
  refine ⟨_, PSs.nox (pss_cons (ps_if (PW.pt (pw_or (pt_not (pt_val (pe_callB call_isi rfl T.z_isinstance PyProof.Rows.boot_isinstance (pa_cons (pv 0) (pa_cons (pe_bltn (v := .ty "str") rfl T.z_str (by decide +kernel) rfl) pa_nil))))) (pw_or (pt_not (pt_chain op_le op_le pe_int (pe_callB call_len_str rfl T.z_len PySem.boot_len (pa_cons (pv 0) pa_nil)) (pe_gk rfl T.c_MOST_SIGNS))) (pw_or1 (pt_cmpR op_in_seq (pv 0) (pe_tup (pa_cons pe_str (pa_cons pe_str pa_nil))) rfl))))) (pss_one (ps_ret pe_bl)) pss_nil) (pss_one (ps_ret (pe_callB (cr_all rfl) rfl T.z_all PyProof.Rows.boot_all (pa_cons (pe_lc (own := [("sign", 1)]) (g := gName 1) (tt := tYes) rfl sc_is_word.nd (pi_str (pv 0)) (blkOk_by (own := [("sign", 1)]) (N := ["thing", "sign"]) (sc := defScope s_is_word) (by decide +kernel)) (fun _ _ _ _ _ => (pg_name (i := 1) sc_is_word.nd rfl (Or.inl rfl))) (fun _ _ _ _ _ => pts_nil) (fun _ _ _ _ _ => (pe_cmpR op_in_sign (pv 1) (pe_gk rfl T.c_SMALL) rfl))) pa_nil))))), ?_⟩
  obtain ⟨u1, y1, k1⟩ := is_str T.kf h
  refine ⟨v, rfl, v, _, u1, _, _, rfl, .ty _, y1, k1, _, rfl, ?_⟩
  cases h with
  | str x hx =>
    refine iteF ⟨_, rfl, x, rfl, Nat.le_trans hx (by decide), _, _, rfl, rfl, _, rfl, ite2 (fun c1 => ?_) (fun c1 => ?_)⟩
    case refine_2 =>
      refine ⟨_, rfl, iteT (iteT ?_)⟩
      have e : (Th.str x).wrd = false := by
        show wordB x = false
        unfold wordB
        rw [decide_eq_false (by intro z; exact c1 (decide_eq_true (by omega))), Bool.false_and]
      rw [← e]
      exact q _ (.refl _)
    refine ⟨_, _, rfl, rfl, _, rfl, ite2 (fun c2 => ?_) (fun c2 => ?_)⟩
    · refine iteT ?_
      have c3 : ¬ x.length ≤ 8 := by
        intro z
        rw [decide_eq_true (by omega)] at c2
        exact Bool.noConfusion c2
      have e : (Th.str x).wrd = false := by
        show wordB x = false
        unfold wordB
        rw [decide_eq_false c3, Bool.false_and, Bool.and_false]
      rw [← e]
      exact q _ (.refl _)
    have d1 : 1 ≤ x.length := by
      have := of_decide_eq_true c1
      omega
    have d2 : x.length ≤ 8 := by
      have z : ¬ (!decide ((x.length : Int) ≤ 8)) = true := c2
      rw [Bool.not_eq_true', decide_eq_false_iff_not] at z
      omega
    refine ⟨_, rfl, (by show 2 ≤ sizeLine; decide), fun p np => ⟨p, _, rfl, .inr (SqT.of upd_same), rfl, rfl, _, rfl, ?_⟩⟩
    have s1 : Same H (upd H p (.tup [.str sTrue, .str sFalse])) := same_new np _
    have ein : inV (.str x) [.str sTrue, .str sFalse] = (decide (x = sTrue) || decide (x = sFalse)) := inTF x
    show (if (if false = true then !inV (.str x) [.str sTrue, .str sFalse] else inV (.str x) [.str sTrue, .str sFalse]) = true then _ else _)
    rw [if_neg Bool.false_ne_true, ein]
    refine ite2 (fun c3 => ?_) (fun c3 => ?_)
    · have e : (Th.str x).wrd = false := by
        show wordB x = false
        unfold wordB
        rcases Bool.or_eq_true_iff.mp c3 with z | z <;> rw [z] <;> simp
      rw [← e]
      exact q _ s1
    rw [Bool.or_eq_true, not_or, Bool.not_eq_true, Bool.not_eq_true] at c3
    refine ⟨_, rfl, x, rfl, fun D nD => lc_it walk_str (fun i H' => Same H H' ∧ H' D = some (.lst (((x.cps.toList.take i).map isSign).map V.bl)) ∧ H D = none) ⟨s1.trans (same_new nD _), upd_same, s1.free nD⟩ (fun _ _ _ _ => trivial) ?_ ?_⟩
    · rintro i y H1 H2 hi ⟨r1, r2, r3⟩ ⟨rfl, c, hc, rfl⟩
      refine ⟨rfl, _, rfl, c, _, rfl, rfl, _, r2, ?_, same_mut r1 r3, ?_, r3⟩
      · rw [List.length_map, List.length_map]
        have := List.length_take_le' i x.cps.toList
        have e8 : x.cps.toList.length ≤ 8 := by
          rw [Array.length_toList]
          exact d2
        exact small1000 (by omega)
      · have hc' : x.cps.toList[i]? = some c := by
          rw [Array.getElem?_toList]
          exact hc
        rw [upd_same, take_snoc hc', List.map_append, List.map_append]
        show some (HO.lst (_ ++ [V.bl (decide (c ∈ ("abcdefghijklmnopqrstuvwxyz" : Str).cps.toList))])) = _
        rw [sign_mem c]
        rfl
    · rintro H1 ⟨r1, r2, r3⟩
      refine ⟨D, _, rfl, SqL.of r2, ?_⟩
      have e : (((x.cps.toList.take x.cps.size).map isSign).all id) = (Th.str x).wrd := by
        rw [← Array.length_toList, List.take_length, List.all_map]
        show x.cps.toList.all isSign = wordB x
        unfold wordB
        rw [decide_eq_true d1, decide_eq_true d2, c3.1, c3.2]
        rfl
      rw [e]
      exact q _ r1
  | int i => exact iteT (iteT (q _ (.refl _)))
  | bl b => exact iteT (iteT (q _ (.refl _)))
  | non => exact iteT (iteT (q _ (.refl _)))
  | tup _ _ => exact iteT (iteT (q _ (.refl _)))
  | fn _ => exact iteT (iteT (q _ (.refl _)))
  | lst _ => exact iteT (iteT (q _ (.refl _)))
  | dct _ => exact iteT (iteT (q _ (.refl _)))
def spMade (K : PySem.W.Frag) : Sp := sp2 fun v b H Q _ => ∃ t f, b = .bl f ∧ Is (CF K) H v t ∧ t.nodes ≤ 1000000 ∧ ∀ H', Same H H' → Q (.bl (t.worth f)) H'
def MadeW (C : Addr) (H : Hp) (v : V) (f : Bool) (p : Addr) (t : Th) : Nat → L2.St → Hp → Prop := fun m σ H1 =>
  ∃ (xs : List V) (ts : List Th) (o : Option V), σ = [some v, some (.bl f), some (.ref p), o] ∧ Same H H1 ∧ H1 p = some (.lst xs) ∧ Iss C H xs ts ∧ m = Th.nodesL ts ∧ m ≤ 1000000 ∧ Th.worths f ts = t.worth f
theorem ok_is_made_of (F : FnP K mg "is_made_of" s_is_made_of) (T : Tw K mg) (B_is_number : Cl P w K mg base 1 "is_number" ["thing"] (spNumber K)) (B_is_word : Cl P w K mg base 1 "is_word" ["thing"] (spWord K)) :
    Cl P w K mg base 2 "is_made_of" ["thing", "with_functions"] (spMade K) := by
  refine cl_2 F sc_is_made_of (fun _ _ _ _ _ _ us hl => match us, hl with | [_, _], _ => rfl) fun cdv A outer s H v b Q E hr h => ?_
  obtain ⟨t, f, rfl, h, hn, q⟩ := h
  refine ⟨_, PSs.nox (pss_cons (ps_set (i := 2) sc_is_made_of.nd rfl (Or.inl rfl) (pe_lst (pa_cons (pv 0) pa_nil))) (pss_cons (ps_while PassesOwn.never (pt_cmpR (op_neNil hr.units0) (pv 2) (pe_lst pa_nil) (nomark _)) (pss_cons (ps_set (i := 3) sc_is_made_of.nd rfl (Or.inl rfl) (pe_bm0 PySem.F.plainAttrs_list PySem.F.slot_list_pop PySem.F.type_list_pop mt_pop (pv 2))) (pss_one (ps_if (pt_val (pe_callB call_isi rfl T.z_isinstance PyProof.Rows.boot_isinstance (pa_cons (pv 3) (pa_cons (pe_bltn (v := .ty "tuple") rfl T.z_tuple (by decide +kernel) rfl) pa_nil)))) (pss_one (ps_expr (pe_bm PySem.F.plainAttrs_list PySem.F.slot_list_extend PySem.F.type_list_extend (mt_extT) (pv 2) (pa_cons (pv 3) pa_nil)))) (pss_one (ps_if (pt_val (pe_callB call_isi rfl T.z_isinstance PyProof.Rows.boot_isinstance (pa_cons (pv 3) (pa_cons (pe_glob (v := .ref (He.ga K "Function")) rfl T.g_Function rfl) pa_nil)))) (pss_one (ps_if (pt_not (pt_val (pv 1))) (pss_one (ps_ret pe_bl)) pss_nil)) (pss_one (ps_if (PW.pt (pw_and (pt_not (pt_val (pe_callB call_isi rfl T.z_isinstance PyProof.Rows.boot_isinstance (pa_cons (pv 3) (pa_cons (pe_bltn (v := .ty "bool") rfl T.z_bool (by decide +kernel) rfl) pa_nil))))) (pw_and (pt_not (pt_val (pe_b B_is_number hr (by omega) rfl passL (pa_cons (pv 3) pa_nil)))) (pw_and1 (pt_not (pt_val (pe_b B_is_word hr (by omega) rfl passL (pa_cons (pv 3) pa_nil)))))))) (pss_one (ps_ret pe_bl)) pss_nil)))))))) (pss_one (ps_ret pe_bl)))), ?_⟩
  refine ⟨_, rfl, (by show 1 ≤ sizeLine; decide), fun p np => ?_⟩
  refine ⟨MadeW (CF K) H v f p t, ⟨_, [v], [t], none, rfl, same_new np _, upd_same, .one h, rfl, by simpa [Th.nodesL] using hn, by simp [Th.worths]⟩, ?_⟩
  rintro m σ H1 ⟨xs, ts, o, rfl, s1, hp, hi, rfl, hm, hw⟩
  refine ⟨_, rfl, (by show 0 ≤ sizeLine; decide), fun d nd => ⟨p, d, xs, rfl, rfl, SqL.of (by rw [upd_ne (ne_of_none hp nd)]; exact hp), SqL.of upd_same, _, rfl, ?_⟩⟩
  have s2 : Same H (upd H1 d (.lst [])) := s1.trans (same_new nd _)
  have hp2 : upd H1 d (.lst []) p = some (.lst xs) := by
    rw [upd_ne (ne_of_none hp nd)]
    exact hp
  by_cases hx : xs = []
  · subst hx
    cases hi
    refine iteF ?_
    have e : t.worth f = true := hw.symm
    rw [e] at q
    exact q _ s2
  obtain ⟨ys, y, us, u, rfl, rfl, h1, h2⟩ := hi.last hx
  have hne : (!(ys ++ [y]).isEmpty) = true := by cases ys <;> rfl
  show (if (!(ys ++ [y]).isEmpty) = true then _ else _)
  rw [hne]
  refine iteT ?_
  rw [nodesL_app] at hm
  rw [worths_app] at hw
  have eu : Th.nodesL [u] = u.nodes := by simp [Th.nodesL]
  have ew : Th.worths f [u] = u.worth f := by simp [Th.worths]
  rw [eu] at hm
  rw [ew] at hw
  have up := u.nodes_pos
  have hyl : ys.length ≤ Th.nodesL us := by
    rw [h1.len]
    exact len_nodesL us
  refine ⟨_, fun σ' H' z => z, ?_⟩
  refine ⟨_, rfl, .inl ⟨rfl, _, .inl (.inl hp2)⟩, p, _, y, rfl, rfl, hp2, (by simp), ?_⟩
  rw [List.dropLast_concat]
  have s3 : Same H (upd (upd H1 d (.lst [])) p (.lst ys)) := same_mut s2 np
  have hp3 : upd (upd H1 d (.lst [])) p (.lst ys) p = some (.lst ys) := upd_same
  obtain ⟨u1, y1, k1⟩ := is_tup T.kf (h2.same s3)
  obtain ⟨u2, y2, k2⟩ := is_fn T.kf (h2.same s3)
  obtain ⟨u3, y3, k3⟩ := is_bool T.kf (h2.same s3)
  refine ⟨y, rfl, y, _, u1, _, _, rfl, .ty _, y1, k1, _, rfl, ?_⟩
  have good : u.worth f = true → ∀ H', Same H H' → H' p = some (.lst ys) → ∃ m', m' < Th.nodesL (us ++ [u]) ∧ MadeW (CF K) H v f p t m' [some v, some (.bl f), some (.ref p), some y] H' := fun e H' s5 hp5 =>
    ⟨Th.nodesL us, by rw [nodesL_app, eu]; omega, ys, us, _, rfl, s5, hp5, h1, rfl, by omega, by rw [← hw, e, Bool.and_true]⟩
  have bad : u.worth f = false → ∀ H', Same H H' → Q (.bl false) H' := fun e H' s5 => by
    have e2 : t.worth f = false := by rw [← hw, e, Bool.and_false]
    rw [e2] at q
    exact q _ s5
  cases h2 with
  | tup ht hts =>
    rename_i p2 zs l
    refine iteT ?_
    refine ⟨_, rfl, .inl ⟨rfl, _, .inl (.inl hp3)⟩, _, rfl, p, p2, ys, zs, rfl, rfl, hp3, SqT.of (s3 _ _ ht), ?_, ?_⟩
    · have e1 := hts.len
      have e2 := len_nodesL l
      simp only [Th.nodes] at hm
      rw [sizeLine_eq]
      omega
    refine ⟨Th.nodesL (us ++ l), ?_, ys ++ zs, us ++ l, _, rfl, same_mut s3 np, upd_same, h1.app hts, rfl, ?_, ?_⟩
    · rw [nodesL_app, nodesL_app, eu]
      simp only [Th.nodes]
      omega
    · rw [nodesL_app]
      simp only [Th.nodes] at hm
      omega
    · rw [worths_app]
      simpa [Th.worth] using hw
  | fn ha =>
    refine iteF ?_
    refine ⟨_, rfl, _, _, u2, _, _, rfl, .own _, y2, k2, _, rfl, iteT ?_⟩
    refine ⟨_, rfl, f, rfl, ?_⟩
    cases f with
    | true => exact iteF (good rfl _ s3 hp3)
    | false => exact iteT (bad rfl _ s3)
  | bl c =>
    refine iteF ⟨_, rfl, _, _, u2, _, _, rfl, .own _, y2, k2, _, rfl, iteF ?_⟩
    exact ⟨_, rfl, _, _, u3, _, _, rfl, .ty _, y3, k3, _, rfl, iteF (iteF (good rfl _ s3 hp3))⟩
  | int i =>
    refine iteF ⟨_, rfl, _, _, u2, _, _, rfl, .own _, y2, k2, _, rfl, iteF ?_⟩
    refine ⟨_, rfl, _, _, u3, _, _, rfl, .ty _, y3, k3, _, rfl, iteT ?_⟩
    refine ⟨_, rfl, _, rfl, _, .int i, _, rfl, ?_⟩
    cases e : numB i with
    | true =>
      show (if (!numB i) = true then _ else _)
      rw [e]
      exact iteF (iteF (good e _ s3 hp3))
    | false =>
      show (if (!numB i) = true then _ else _)
      rw [e]
      refine iteT ⟨_, rfl, _, rfl, _, .int i, fun H' s4 => ⟨_, rfl, iteT (bad e _ (s3.trans s4))⟩⟩
  | str x hxl =>
    refine iteF ⟨_, rfl, _, _, u2, _, _, rfl, .own _, y2, k2, _, rfl, iteF ?_⟩
    refine ⟨_, rfl, _, _, u3, _, _, rfl, .ty _, y3, k3, _, rfl, iteT ?_⟩
    refine ⟨_, rfl, _, rfl, _, .str x hxl, _, rfl, iteT ⟨_, rfl, _, rfl, _, .str x hxl, fun H' s4 => ⟨_, rfl, ?_⟩⟩⟩
    cases e : wordB x with
    | true =>
      show (if (!wordB x) = true then _ else _)
      rw [e]
      exact iteF (good e _ (s3.trans s4) (s4 _ _ hp3))
    | false =>
      show (if (!wordB x) = true then _ else _)
      rw [e]
      exact iteT (bad e _ (s3.trans s4))
  | non =>
    refine iteF ⟨_, rfl, _, _, u2, _, _, rfl, .own _, y2, k2, _, rfl, iteF ?_⟩
    refine ⟨_, rfl, _, _, u3, _, _, rfl, .ty _, y3, k3, _, rfl, iteT ?_⟩
    exact ⟨_, rfl, _, rfl, _, .non, _, rfl, iteT ⟨_, rfl, _, rfl, _, .non, fun H' s4 => ⟨_, rfl, iteT (bad rfl _ (s3.trans s4))⟩⟩⟩
  | lst ha =>
    refine iteF ⟨_, rfl, _, _, u2, _, _, rfl, .own _, y2, k2, _, rfl, iteF ?_⟩
    refine ⟨_, rfl, _, _, u3, _, _, rfl, .ty _, y3, k3, _, rfl, iteT ?_⟩
    exact ⟨_, rfl, _, rfl, _, .lst (s3 _ _ ha), _, rfl, iteT ⟨_, rfl, _, rfl, _, .lst (s3 _ _ ha), fun H' s4 => ⟨_, rfl, iteT (bad rfl _ (s3.trans s4))⟩⟩⟩
  | dct ha =>
    refine iteF ⟨_, rfl, _, _, u2, _, _, rfl, .own _, y2, k2, _, rfl, iteF ?_⟩
    refine ⟨_, rfl, _, _, u3, _, _, rfl, .ty _, y3, k3, _, rfl, iteT ?_⟩
    exact ⟨_, rfl, _, rfl, _, .dct (s3 _ _ ha), _, rfl, iteT ⟨_, rfl, _, rfl, _, .dct (s3 _ _ ha), fun H' s4 => ⟨_, rfl, iteT (bad rfl _ (s3.trans s4))⟩⟩⟩
/-- is_worth, is_plain -/
def spIs (K : PySem.W.Frag) (f : Bool) : Sp := sp1 fun v H Q _ => ∃ t, Is (CF K) H v t ∧ t.nodes ≤ 1000000 ∧ ∀ H', Same H H' → Q (.bl (t.worth f)) H'
theorem ok_is_plain (F : FnP K mg "is_plain" s_is_plain) (B_is_made_of : Cl P w K mg base 2 "is_made_of" ["thing", "with_functions"] (spMade K)) : Cl P w K mg base 3 "is_plain" ["thing"] (spIs K false) := by
  refine cl_1 F sc_is_plain (fun _ _ _ _ _ _ us hl => match us, hl with | [_], _ => rfl) fun cdv A outer s H v Q E hr h => ?_
  obtain ⟨t, h, hn, q⟩ := h
  exact ⟨_, PSs.nox (pss_one (ps_ret (pe_b B_is_made_of hr (by omega) rfl passL (pa_cons (pv 0) (pa_cons pe_bl pa_nil))))), _, rfl, _, _, rfl, t, false, rfl, h, hn, q⟩
/-- need_worth, need_plain: the thing, or BadWorth -/
def spNeed (K : PySem.W.Frag) (f : Bool) : Sp := sp1 fun v H Q E => ∃ t, Is (CF K) H v t ∧ t.nodes ≤ 1000000 ∧ (t.worth f = true → ∀ H', Same H H' → Q v H') ∧ (t.worth f = false → ∀ H', Same H H' → E (.ref (He.ga K "BadWorth")) none H')
theorem ok_need_plain (F : FnP K mg "need_plain" s_need_plain) (T : Tw K mg) (B_is_plain : Cl P w K mg base 3 "is_plain" ["thing"] (spIs K false)) : Cl P w K mg base 4 "need_plain" ["thing"] (spNeed K false) := by
  refine cl_1 F sc_need_plain (fun _ _ _ _ _ _ us hl => match us, hl with | [_], _ => rfl) fun cdv A outer s H v Q E hr h => ?_
  obtain ⟨t, h, hn, q, qe⟩ := h
  refine ⟨_, (pss_cons (ps_if (pt_not (pt_val (pe_b B_is_plain hr (by omega) rfl passL (pa_cons (pv 0) pa_nil)))) (pss_one (ps_raise rfl (takes_of rfl rfl rfl rfl) (pmk_own PySem.F.excBase_ValueError T.x_BadWorth.1 T.g_BadWorth T.x_BadWorth.2.1 (raises_own T.x_BadWorth.2.2.1 T.x_BadWorth.2.2.2) rfl))) pss_nil) (pss_one (ps_ret (pv 0)))), ?_⟩
  refine ⟨_, rfl, _, rfl, t, h, hn, fun H' s1 => ⟨_, rfl, ?_⟩⟩
  cases e : t.worth false with
  | true => exact iteF ⟨_, rfl, q e _ s1⟩
  | false => exact iteT (qe e _ s1)
end
end Fl
namespace Fl
open PySem PySem.Spec PyProof.Rows L2
abbrev s_law_mixed : Stmt := top 33
theorem sc_law_mixed : FnScope ["_law_cell", "_law_k"] ["_law_cell", "_law_k"] (defScope s_law_mixed) := ⟨rfl, rfl, rfl, by decide +kernel, rfl, by decide +kernel, by decide +kernel⟩
abbrev s_law_begun : Stmt := top 34
theorem sc_law_begun : FnScope ["_law_script", "_law_cell"] ["_law_script"] (defScope s_law_begun) := ⟨rfl, rfl, rfl, by decide +kernel, rfl, by decide +kernel, by decide +kernel⟩
abbrev s_law_next : Stmt := top 35
theorem sc_law_next : FnScope ["_law_state", "_law_k", "_law_at", "_law_number"] ["_law_state"] (defScope s_law_next) := ⟨rfl, rfl, rfl, by decide +kernel, rfl, by decide +kernel, by decide +kernel⟩

def kCells : Key := Sum.inr "cells"
def kLeft : Key := Sum.inr "left"
def kAt : Key := Sum.inr "at"
theorem p31 : (0 : Int) < 2147483647 := by decide
theorem p1000 : (0 : Int) < 1000 := by decide
theorem p50 : (0 : Int) < 50 := by decide
theorem ixN_nat {n j : Nat} (h : j < n) : ixN n (j : Int) = some j := by
  unfold ixN
  rw [if_pos (by omega), if_pos (by omega)]
  rfl
theorem p32 : (0 : Int) < 2147483629 := by decide
/-- the script: locked, or one of the module's own objects -/
def Scr (K : PySem.W.Frag) (H : Hp) (a : Addr) (xs : List V) : Prop := (∃ o, H a = some (.frz o (.lst xs))) ∨ ∀ H', SqL K H' a xs
theorem Scr.sq {K : PySem.W.Frag} {H : Hp} {a : Addr} {xs : List V} (h : Scr K H a xs) : SqL K H a xs := by
  rcases h with ⟨o, h⟩ | h
  · exact .inl (.inr ⟨o, h⟩)
  · exact h H
theorem Scr.same {K : PySem.W.Frag} {H H' : Hp} {a : Addr} {xs : List V} (h : Scr K H a xs) (s : Same H H') : Scr K H' a xs := by
  rcases h with ⟨o, h⟩ | h
  · exact .inl ⟨o, s _ _ h⟩
  · exact .inr h
theorem scr_of {K : PySem.W.Frag} {H : Hp} {a : Addr} {xs : List V} (o : Only H) (h : SqL K H a xs) : Scr K H a xs := by
  rcases h with (h | ⟨ob, h⟩) | h
  · rcases o a with z | ⟨_, _, z⟩ <;> rw [h] at z <;> cases z
  · exact .inl ⟨ob, h⟩
  · exact .inr fun _ => .inr h
/-- the dict at d holds the script at a, what is left at l, how often it was drawn -/
def Dr (K : PySem.W.Frag) (d l a : Addr) (ns : List Int) (H : Hp) : Prop := ∃ (ls : List Int) (n : Int), H d = some (.dK [(kCells, .ref a), (kLeft, .ref l), (kAt, .int n)]) ∧ Scr K H a (ns.map V.int) ∧ H l = some (.lst (ls.map V.int)) ∧
  ls.length = ns.length ∧ (∀ z ∈ ls, 0 ≤ z) ∧ 0 ≤ n
theorem Dr.same {K : PySem.W.Frag} {d l a : Addr} {ns : List Int} {H H' : Hp} (r : Dr K d l a ns H) (s : Same H H') : Dr K d l a ns H' := by
  obtain ⟨ls, n, h1, h2, h3, h4, h5, h6⟩ := r
  exact ⟨ls, n, s _ _ h1, h2.same s, s _ _ h3, h4, h5, h6⟩
/-- all but what the draws change is as it was -/
def Fr (d l : Addr) (H H' : Hp) : Prop := ∀ b o, b ≠ d → b ≠ l → H b = some o → H' b = some o
theorem Fr.refl (d l : Addr) (H : Hp) : Fr d l H H := fun _ _ _ _ e => e
theorem Fr.trans {d l : Addr} {H H1 H2 : Hp} (a : Fr d l H H1) (b : Fr d l H1 H2) : Fr d l H H2 := fun x o h1 h2 e => b x o h1 h2 (a x o h1 h2 e)
theorem fr_same {d l : Addr} {H H' : Hp} (s : Same H H') : Fr d l H H' := fun x o _ _ e => s x o e
theorem val_at {a l : Addr} {n : Int} : valV [(kCells, V.ref a), (kLeft, .ref l), (kAt, .int n)] kAt = some (.int n) := by rfl
theorem val_left {a l : Addr} {n : Int} : valV [(kCells, V.ref a), (kLeft, .ref l), (kAt, .int n)] kLeft = some (.ref l) := by rfl
theorem val_cells {a l : Addr} {n : Int} : valV [(kCells, V.ref a), (kLeft, .ref l), (kAt, .int n)] kCells = some (.ref a) := by rfl
theorem put_at {a l : Addr} {n m : Int} : putK [(kCells, V.ref a), (kLeft, .ref l), (kAt, .int n)] kAt (.int m) = [(kCells, V.ref a), (kLeft, .ref l), (kAt, .int m)] := by rfl
theorem map_at {α β : Type} {f : α → β} {l : List α} {i : Nat} {y : β} (h : (l.map f)[i]? = some y) : ∃ z, l[i]? = some z ∧ y = f z := by
  rw [List.getElem?_map] at h
  cases e : l[i]? with
  | none =>
    rw [e] at h
    cases h
  | some z =>
    rw [e] at h
    exact ⟨z, rfl, (Option.some.inj h).symm⟩
def spMixed : Sp := sp2 fun v b H Q _ => ∃ c k : Int, v = .int c ∧ b = .int k ∧ 0 ≤ k ∧ k < 1000 ∧ ∀ r : Int, 0 ≤ r → r < 2147483629 → Q (.int r) H
structure Td (mg : Str → Option Value) : Prop where
  z_len : mg "len" = none
section
variable {P : Program} {w : World} {K : PySem.W.Frag} {mg : Str → Option Value} {base : Heap}
theorem ok_law_mixed (F : FnP K mg "_law_mixed" s_law_mixed) : Cl P w K mg base 1 "_law_mixed" ["_law_cell", "_law_k"] spMixed := by
  refine cl_2 F sc_law_mixed (fun _ _ _ _ _ _ us hl => match us, hl with | [_, _], _ => rfl) fun cdv A outer s H v b Q E hr h => ?_
  obtain ⟨c, k, rfl, rfl, h0, h1, q⟩ := h
  refine ⟨_, PSs.nox (pss_one (ps_ret (pe_op op_mod (pe_op op_mul (pe_op op_mod (pe_op op_add (pe_op op_add (pe_op op_mul (pv 0) (pe_op op_add pe_int (pe_op op_mul (pe_op op_mul pe_int (pv 1)) (pv 1)))) (pe_op op_mul pe_int (pv 1))) pe_int) pe_int) pe_int) pe_int))), ?_⟩
  have k2 : 0 ≤ 2 * k * k ∧ 2 * k * k ≤ 2000000 := by
    have z1 : k * k ≤ 1000 * k := Int.mul_le_mul_of_nonneg_right (by omega) h0
    have z0 : 0 ≤ k * k := Int.mul_nonneg h0 h0
    rw [Int.mul_assoc]
    omega
  refine ⟨_, rfl, _, rfl, _, _, rfl, rfl, .inr ⟨by omega, by omega⟩, _, rfl, _, _, rfl, rfl, .inl ⟨by omega, by omega⟩, ?_⟩
  refine ⟨_, _, rfl, rfl, _, _, rfl, rfl, .inr ⟨by omega, by omega⟩, _, rfl, _, _, rfl, rfl, .inr ⟨by omega, by omega⟩, _, _, rfl, rfl, _, _, rfl, rfl, ?_⟩
  refine ⟨_, _, rfl, rfl, p31, _, _, rfl, rfl, .inr ⟨by decide, by decide⟩, _, _, rfl, rfl, p32, ?_⟩
  exact q _ (Int.emod_nonneg _ (by decide)) (Int.emod_lt_of_pos _ (by decide))
/-- what _law_begun makes -/
def spBegun (K : PySem.W.Frag) : Sp := sp1 fun v H Q _ => ∃ a ns, v = .ref a ∧ Scr K H a (ns.map V.int) ∧ ns.length ≤ 63 ∧ ∀ d l H', Dr K d l a ns H' → Same H H' → H d = none → H l = none → Q (.ref d) H'
theorem ok_law_begun (F : FnP K mg "_law_begun" s_law_begun) : Cl P w K mg base 1 "_law_begun" ["_law_script"] (spBegun K) := by
  refine cl_1 F sc_law_begun (fun _ _ _ _ _ _ us hl => match us, hl with | [_], _ => rfl) fun cdv A outer s H v Q E hr h => ?_
  obtain ⟨a, ns, rfl, hS, hn, q⟩ := h
  refine ⟨_, PSs.nox (pss_one (ps_ret (pe_disp (pps_cons pe_str (pv 0) (pps_cons pe_str (pe_lc (own := [("_law_cell", 1)]) (g := gName 1) (tt := tYes) rfl sc_law_begun.nd (pi_list (pv 0)) (blkOk_by (own := [("_law_cell", 1)]) (N := ["_law_script", "_law_cell"]) (sc := defScope s_law_begun) (by decide +kernel)) (fun _ _ _ _ _ => (pg_name (i := 1) sc_law_begun.nd rfl (Or.inl rfl))) (fun _ _ _ _ _ => pts_nil) (fun _ _ _ _ _ => (pe_ifExp (pt_cmpR op_ge (pv 1) (pe_op op_pow pe_int pe_int) (nomark _)) (pv 1) pe_int))) (pps_cons pe_str pe_int pps_nil))) (by rfl) (by rfl) (fun z => by cases z) (by decide)))), ?_⟩
  refine fun d nd => ⟨_, rfl, _, rfl, a, rfl, ⟨_, (same_new nd _).seq hS.sq⟩, fun D nD => ?_⟩
  have sd := same_new nd (.dK [])
  have nD0 : H D = none := sd.free nD
  have ned : d ≠ D := fun e => by
    rw [e, upd_same] at nD
    cases nD
  refine lc_list (K := K) (a := a) (xs := ns.map V.int) (fun i H' => ∃ ls : List Int, Same H H' ∧ H' d = some (.dK []) ∧ H' D = some (.lst (ls.map V.int)) ∧ ls.length = i ∧ i ≤ 63 ∧ ∀ z ∈ ls, 0 ≤ z)
    ⟨[], sd.trans (same_new nD _), by rw [upd_ne ned]; exact upd_same, upd_same, rfl, Nat.zero_le _, List.forall_mem_nil _⟩ (fun i H' _ z => by obtain ⟨_, z, _⟩ := z; exact z.seq hS.sq) ?_ ?_
  · rintro i y H1 hi ⟨ls, r1, r2, r3, r4, r5, r6⟩
    obtain ⟨z, hz, rfl⟩ := map_at hi
    have hi63 : i < 63 := Nat.lt_of_lt_of_le (List.getElem?_eq_some_iff.mp hz).1 hn
    have step : ∀ m : Int, 0 ≤ m → ∃ ls' : List Int, Same H (upd H1 D (.lst (ls.map V.int ++ [V.int m]))) ∧ upd H1 D (.lst (ls.map V.int ++ [V.int m])) d = some (.dK []) ∧ upd H1 D (.lst (ls.map V.int ++ [V.int m])) D = some (.lst (ls'.map V.int)) ∧ ls'.length = i + 1 ∧ i + 1 ≤ 63 ∧ ∀ z ∈ ls', 0 ≤ z := fun m hm =>
      ⟨ls ++ [m], same_mut r1 nD0, by rw [upd_ne ned]; exact r2, by rw [upd_same, List.map_append]; rfl, by rw [List.length_append, r4]; rfl, hi63, fun x hx => by
        rcases List.mem_append.mp hx with h | h
        · exact r6 x h
        · rw [List.mem_singleton.mp h]
          exact hm⟩
    have hl : (ls.map V.int).length < sizeLine := by
      rw [List.length_map, r4]
      exact small1000 (by omega)
    refine ⟨rfl, _, rfl, _, _, rfl, rfl, ⟨by decide, by decide, by decide⟩, _, _, rfl, rfl, _, rfl, ?_⟩
    refine ite2 (fun c => ?_) (fun c => ?_)
    · refine ⟨_, rfl, _, r3, hl, step z ?_⟩
      have c2 : (10 : Int) ^ (18 : Int).toNat ≤ z := of_decide_eq_true c
      have e : (10 : Int) ^ (18 : Int).toNat = 1000000000000000000 := by decide
      omega
    · exact ⟨_, r3, hl, step 0 (Int.le_refl 0)⟩
  · rintro H1 ⟨ls, r1, r2, r3, r4, r5, r6⟩
    refine ⟨r2, [(kCells, .ref a), (kLeft, .ref D), (kAt, .int 0)], rfl, (by show 3 ≤ 15; decide), ?_⟩
    have s9 : Same H (upd H1 d (.dK (mergeK [] [(kCells, V.ref a), (kLeft, .ref D), (kAt, .int 0)]))) := same_mut r1 nd
    refine q d D _ ⟨ls, 0, ?_, hS.same s9, ?_, ?_, r6, Int.le_refl 0⟩ s9 nd nD0
    · rw [upd_same]
      rfl
    · rw [upd_ne ned.symm]
      exact r3
    · rw [r4, List.length_map]
/-- _law_next: a number; the state goes on -/
def spNext (K : PySem.W.Frag) : Sp := sp1 fun v H Q _ => ∃ d l a ns, v = .ref d ∧ Dr K d l a ns H ∧ ns.length ≤ 63 ∧ ∀ (r : Int) H', Dr K d l a ns H' → Fr d l H H' → 0 ≤ r → r < 2147483647 → Q (.int r) H'
theorem ok_law_next (F : FnP K mg "_law_next" s_law_next) (T : Td mg) (B_law_mixed : Cl P w K mg base 1 "_law_mixed" ["_law_cell", "_law_k"] spMixed) : Cl P w K mg base 2 "_law_next" ["_law_state"] (spNext K) := by
  refine cl_1 F sc_law_next (fun _ _ _ _ _ _ us hl => match us, hl with | [_], _ => rfl) fun cdv A outer s H v Q E hr h => ?_
  obtain ⟨d, l, a, ns, rfl, ⟨ls, n, h1, h2, h3, h4, h5, h6⟩, hn, q⟩ := h
  refine ⟨_, PSs.nox (pss_cons (ps_dput (hu_of hr) (pv 0) pe_str (pe_op op_add (pe_dget (hu_of hr) (pv 0) pe_str (fun _ _ => rfl)) pe_int) rfl) (pss_cons (ps_set (i := 1) sc_law_next.nd rfl (Or.inl rfl) (pe_dget (hu_of hr) (pv 0) pe_str (fun _ _ => rfl))) (pss_cons (ps_if (pt_cmpR (op_eqNil hr.units0) (pe_dget (hu_of hr) (pv 0) pe_str (fun _ _ => rfl)) (pe_lst pa_nil) (nomark _)) (pss_one (ps_ret (pe_b B_law_mixed hr (by omega) rfl passL (pa_cons (pe_b B_law_mixed hr (by omega) rfl passL (pa_cons (pe_op op_mul pe_int (pv 1)) (pa_cons (pe_op op_mod (pv 1) pe_int) pa_nil))) (pa_cons pe_int pa_nil))))) pss_nil) (pss_cons (ps_set (i := 2) sc_law_next.nd rfl (Or.inl rfl) (pe_op op_mod (pv 1) (pe_callB call_len_seq rfl T.z_len PySem.boot_len (pa_cons (pe_dget (hu_of hr) (pv 0) pe_str (fun _ _ => rfl)) pa_nil)))) (pss_cons (ps_if (pt_cmpR op_gt (pe_ix ix_list (pe_dget (hu_of hr) (pv 0) pe_str (fun _ _ => rfl)) (pv 2) (fun _ _ => rfl)) pe_int (nomark _)) (pss_cons (ps_set (i := 3) sc_law_next.nd rfl (Or.inl rfl) (pe_op op_mod (pe_ix ix_list (pe_dget (hu_of hr) (pv 0) pe_str (fun _ _ => rfl)) (pv 2) (fun _ _ => rfl)) pe_int)) (pss_cons (ps_asg (pe_op op_fdivW (pe_ix ix_list (pe_dget (hu_of hr) (pv 0) pe_str (fun _ _ => rfl)) (pv 2) (fun _ _ => rfl)) pe_int) (pg_sub (pe_dget (hu_of hr) (pv 0) pe_str (fun _ _ => rfl)) (pv 2) set_list)) (pss_one (ps_ret (pv 3))))) pss_nil) (pss_one (ps_ret (pe_b B_law_mixed hr (by omega) rfl passL (pa_cons (pe_b B_law_mixed hr (by omega) rfl passL (pa_cons (pe_op op_add (pe_ix ix_list (pe_dget (hu_of hr) (pv 0) pe_str (fun _ _ => rfl)) (pv 2) (fun _ _ => rfl)) (pe_op op_mul pe_int (pv 1))) (pa_cons (pe_op op_mod (pv 1) pe_int) pa_nil))) (pa_cons (pe_op op_mod (pv 1) pe_int) pa_nil)))))))))), ?_⟩
  have ld : l ≠ d := ne_of h3 h1 (by intro z; cases z)
  refine ⟨_, rfl, d, _, rfl, DGet.k (k := kAt) h1, _, _, rfl, rfl, ?_⟩
  refine ⟨_, rfl, d, _, rfl, DPut.k (k := kAt) h1 (by show 3 < sizeLine; decide), ?_⟩
  rw [put_at]
  -- the state behind the count
  have g1 : upd H d (.dK [(kCells, V.ref a), (kLeft, .ref l), (kAt, .int (n + 1))]) d = some (.dK [(kCells, V.ref a), (kLeft, .ref l), (kAt, .int (n + 1))]) := upd_same
  have g3 : upd H d (.dK [(kCells, V.ref a), (kLeft, .ref l), (kAt, .int (n + 1))]) l = some (.lst (ls.map V.int)) := by
    rw [upd_ne ld]
    exact h3
  have g2 : Scr K (upd H d (.dK [(kCells, V.ref a), (kLeft, .ref l), (kAt, .int (n + 1))])) a (ns.map V.int) := by
    rcases h2 with ⟨o, h⟩ | h
    · exact .inl ⟨o, by rw [upd_ne (ne_of h h1 (by intro z; cases z))]; exact h⟩
    · exact .inr h
  have gf : Fr d l H (upd H d (.dK [(kCells, V.ref a), (kLeft, .ref l), (kAt, .int (n + 1))])) := fun b o e1 _ e => by
    rw [upd_ne e1]
    exact e
  generalize upd H d (.dK [(kCells, V.ref a), (kLeft, .ref l), (kAt, .int (n + 1))]) = H1 at g1 g2 g3 gf ⊢
  have gd : ∀ H2, Same H1 H2 → Dr K d l a ns H2 := fun H2 s => ⟨ls, n + 1, s _ _ g1, g2.same s, s _ _ g3, h4, h5, by omega⟩
  refine ⟨_, rfl, d, _, rfl, DGet.k (k := kAt) g1, ?_⟩
  refine ⟨_, rfl, d, _, rfl, DGet.k (k := kCells) g1, (by show 0 ≤ sizeLine; decide), fun p np => ⟨a, p, _, rfl, rfl, (g2.same (same_new np _)).sq, SqL.of upd_same, _, rfl, ?_⟩⟩
  have s2 : Same H1 (upd H1 p (.lst [])) := same_new np _
  have fr2 : Fr d l H (upd H1 p (.lst [])) := gf.trans (fr_same s2)
  have dr2 := gd _ s2
  have q1 := s2 _ _ g1
  have q2 := (g2.same s2).sq
  have q3 := s2 _ _ g3
  generalize upd H1 p (.lst []) = H2 at s2 fr2 dr2 q1 q2 q3 ⊢
  have fin : ∀ r : Int, 0 ≤ r → r < 2147483629 → Q (.int r) H2 := fun r a b => q r H2 dr2 fr2 a (by omega)
  cases ns with
  | nil =>
    refine iteT ?_
    refine ⟨_, rfl, _, _, rfl, rfl, .inl ⟨by decide, by decide⟩, _, rfl, _, _, rfl, rfl, p1000, _, _, rfl, _, _, rfl, rfl, Int.emod_nonneg _ (by decide), Int.emod_lt_of_pos _ (by decide), fun r r0 r1 => ?_⟩
    exact ⟨_, _, rfl, _, _, rfl, rfl, by decide, by decide, fin⟩
  | cons c0 cs =>
    refine iteF ?_
    have pl : (0 : Int) < (((c0 :: cs).map V.int).length : Nat) := by
      rw [List.length_map, List.length_cons]
      omega
    refine ⟨_, rfl, _, rfl, d, _, rfl, DGet.k (k := kCells) q1, a, _, rfl, .inl q2, _, _, rfl, rfl, pl, ?_⟩
    have i0 : 0 ≤ (n + 1) % (((c0 :: cs).map V.int).length : Nat) := Int.emod_nonneg _ (by omega)
    have i1 : (n + 1) % (((c0 :: cs).map V.int).length : Nat) < (((c0 :: cs).map V.int).length : Nat) := Int.emod_lt_of_pos _ pl
    obtain ⟨j, ej⟩ : ∃ j : Nat, (n + 1) % (((c0 :: cs).map V.int).length : Nat) = (j : Int) := ⟨((n + 1) % (((c0 :: cs).map V.int).length : Nat)).toNat, by omega⟩
    have hj : j < (c0 :: cs).length := by
      rw [ej, List.length_map] at i1
      omega
    obtain ⟨x, hx⟩ : ∃ x, (c0 :: cs)[j]? = some x := ⟨_, List.getElem?_eq_getElem hj⟩
    obtain ⟨z, hz⟩ : ∃ z, ls[j]? = some z := ⟨_, List.getElem?_eq_getElem (by rw [h4]; exact hj)⟩
    have ax : atI ((c0 :: cs).map V.int) ((n + 1) % (((c0 :: cs).map V.int).length : Nat)) = some (.int x) := by
      rw [ej]
      exact atI_nat (by rw [List.getElem?_map, hx]; rfl)
    have az : atI (ls.map V.int) ((n + 1) % (((c0 :: cs).map V.int).length : Nat)) = some (.int z) := by
      rw [ej]
      exact atI_nat (by rw [List.getElem?_map, hz]; rfl)
    have z0 : 0 ≤ z := h5 z (List.mem_of_getElem? hz)
    refine ⟨_, rfl, d, _, rfl, DGet.k (k := kLeft) q1, _, rfl, l, _, _, _, rfl, rfl, SqL.of q3, az, _, _, rfl, rfl, _, rfl, ?_⟩
    refine ite2 (fun c => ?_) (fun c => ?_)
    · refine ⟨_, rfl, d, _, rfl, DGet.k (k := kLeft) q1, _, rfl, l, _, _, _, rfl, rfl, SqL.of q3, az, _, _, rfl, rfl, p31, ?_⟩
      refine ⟨_, rfl, d, _, rfl, DGet.k (k := kLeft) q1, _, rfl, l, _, _, _, rfl, rfl, SqL.of q3, az, _, _, rfl, rfl, ⟨p31, by decide⟩, ?_⟩
      have lz : j < (ls.map V.int).length := by
        rw [List.length_map, h4]
        exact hj
      refine ⟨_, rfl, d, _, rfl, DGet.k (k := kLeft) q1, _, rfl, l, _, _, j, rfl, rfl, q3, by rw [ej]; exact ixN_nat lz, ?_⟩
      refine ⟨_, rfl, q _ _ ⟨ls.set j (z / 2147483647), n + 1, ?_, ?_, ?_, by rw [List.length_set, h4], ?_, by omega⟩ ?_ (Int.emod_nonneg _ (by decide)) (Int.emod_lt_of_pos _ (by decide))⟩
      · rw [upd_ne ld.symm]
        exact q1
      · rcases dr2 with ⟨_, _, _, ⟨o, h⟩ | h, _⟩
        · exact .inl ⟨o, by rw [upd_ne (ne_of h q3 (by intro z; cases z))]; exact h⟩
        · exact .inr h
      · rw [upd_same, List.map_set]
      · intro y hy
        rcases List.mem_or_eq_of_mem_set hy with h | h
        · exact h5 y h
        · rw [h]
          exact Int.ediv_nonneg z0 (by decide)
      · intro b o e1 e2 e
        rw [upd_ne e2]
        exact fr2 b o e1 e2 e
    · refine ⟨_, rfl, d, _, rfl, DGet.k (k := kCells) q1, _, rfl, a, _, _, _, rfl, rfl, q2, ax, _, rfl, _, _, rfl, rfl, .inl ⟨by decide, by decide⟩, _, _, rfl, rfl, ?_⟩
      refine ⟨_, rfl, _, _, rfl, rfl, p1000, _, _, rfl, _, _, rfl, rfl, Int.emod_nonneg _ (by decide), Int.emod_lt_of_pos _ (by decide), fun r r0 r1 => ?_⟩
      have m0 : 0 ≤ (n + 1) % 50 := Int.emod_nonneg _ (by decide)
      have m1 : (n + 1) % 50 < 50 := Int.emod_lt_of_pos _ (by decide)
      exact ⟨_, rfl, _, _, rfl, rfl, p50, _, _, rfl, _, _, rfl, rfl, m0, by omega, fin⟩
end
end Fl
namespace Fl
open PySem PySem.Spec PyProof.Rows L2
abbrev s_Function___init__ : Stmt := inClass (top 14) 0
theorem sc_Function___init__ : FnScope ["self", "names", "body", "scope", "own"] ["self", "names", "body", "scope", "own"] (defScope s_Function___init__) := ⟨rfl, rfl, rfl, by decide +kernel, rfl, by decide +kernel, by decide +kernel⟩
abbrev s_law_leaf : Stmt := top 36
theorem sc_law_leaf : FnScope ["_law_state", "_law_number", "_law_way", "_law_some"] ["_law_state"] (defScope s_law_leaf) := ⟨rfl, rfl, rfl, by decide +kernel, rfl, by decide +kernel, by decide +kernel⟩
abbrev s_law_worth : Stmt := top 37
theorem sc_law_worth : FnScope ["_law_state", "_law_deep", "_law_is_plain_one", "_law_number", "_law_scope", "_law_k"] ["_law_state", "_law_deep", "_law_is_plain_one"] (defScope s_law_worth) := ⟨rfl, rfl, rfl, by decide +kernel, rfl, by decide +kernel, by decide +kernel⟩
abbrev s_law_nested : Stmt := top 38
theorem sc_law_nested : FnScope ["_law_worth_here", "_law_many", "_law_k"] ["_law_worth_here", "_law_many"] (defScope s_law_nested) := ⟨rfl, rfl, rfl, by decide +kernel, rfl, by decide +kernel, by decide +kernel⟩

/-! ### what changes no tuple and no instance; lists stay lists, dicts dicts -/
def Im (H H' : Hp) : Prop := (∀ b xs, H b = some (.tup xs) → H' b = some (.tup xs)) ∧ (∀ b C dx fs, H b = some (.ins C dx fs) → H' b = some (.ins C dx fs)) ∧
  (∀ b xs, H b = some (.lst xs) → ∃ ys, H' b = some (.lst ys)) ∧ ∀ b kv, H b = some (.dK kv) → ∃ kw, H' b = some (.dK kw)
theorem Im.im {H H' : Hp} (a : Im H H') : Im H H' := a
theorem Im.refl (H : Hp) : Im H H := ⟨fun _ _ e => e, fun _ _ _ _ e => e, fun _ _ e => ⟨_, e⟩, fun _ _ e => ⟨_, e⟩⟩
theorem Im.trans {H H1 H2 : Hp} (a : Im H H1) (b : Im H1 H2) : Im H H2 := ⟨fun p xs e => b.1 p xs (a.1 p xs e), fun p C dx fs e => b.2.1 p C dx fs (a.2.1 p C dx fs e), fun p xs e => by
  obtain ⟨_, z⟩ := a.2.2.1 p xs e
  exact b.2.2.1 p _ z, fun p xs e => by
  obtain ⟨_, z⟩ := a.2.2.2 p xs e
  exact b.2.2.2 p _ z⟩
theorem im_same {H H' : Hp} (s : Same H H') : Im H H' := ⟨fun p xs e => s _ _ e, fun p C dx fs e => s _ _ e, fun _ _ e => ⟨_, s _ _ e⟩, fun _ _ e => ⟨_, s _ _ e⟩⟩
theorem im_fr {K : PySem.W.Frag} {d l a : Addr} {ns : List Int} {H H' : Hp} (r : Dr K d l a ns H) (r' : Dr K d l a ns H') (s : Fr d l H H') : Im H H' := by
  obtain ⟨ls, n, h1, h2, h3, _⟩ := r
  obtain ⟨_, _, g1, _, g3, _⟩ := r'
  refine ⟨fun p xs e => s _ _ (ne_of e h1 (by intro z; cases z)) (ne_of e h3 (by intro z; cases z)) e, fun p C dx fs e => s _ _ (ne_of e h1 (by intro z; cases z)) (ne_of e h3 (by intro z; cases z)) e, fun b xs e => ?_, fun b kv e => ?_⟩
  · by_cases hb : b = l
    · rw [hb]
      exact ⟨_, g3⟩
    · exact ⟨_, s _ _ (ne_of e h1 (by intro z; cases z)) hb e⟩
  · by_cases hb : b = d
    · rw [hb]
      exact ⟨_, g1⟩
    · exact ⟨_, s _ _ hb (ne_of e h3 (by intro z; cases z)) e⟩
theorem im_lst {H : Hp} {D : Addr} {xs ys : List V} (h : H D = some (.lst xs)) : Im H (upd H D (.lst ys)) := by
  refine ⟨fun p xs e => ?_, fun p C dx fs e => ?_, fun b zs e => ?_, fun b kv e => ?_⟩
  · rw [upd_ne (ne_of e h (by intro z; cases z))]
    exact e
  · rw [upd_ne (ne_of e h (by intro z; cases z))]
    exact e
  · by_cases hb : b = D
    · rw [hb]
      exact ⟨_, upd_same⟩
    · exact ⟨_, by rw [upd_ne hb]; exact e⟩
  · rw [upd_ne (ne_of e h (by intro z; cases z))]
    exact ⟨_, e⟩
mutual
theorem Is.ik {C : Addr} {H H' : Hp} (s : Im H H') : ∀ {v : V} {t : Th}, Is C H v t → Is C H' v t
  | _, _, .non => .non
  | _, _, .bl b => .bl b
  | _, _, .int i => .int i
  | _, _, .str x h => .str x h
  | _, _, .tup h r => .tup (s.1 _ _ h) (r.ik s)
  | _, _, .fn h r => .fn (s.2.1 _ _ _ _ h) (r.ik s)
  | _, _, .lst h => .lst (s.2.2.1 _ _ h).choose_spec
  | _, _, .dct h => .dct (s.2.2.2 _ _ h).choose_spec
theorem Iss.ik {C : Addr} {H H' : Hp} (s : Im H H') : ∀ {xs : List V} {ts : List Th}, Iss C H xs ts → Iss C H' xs ts
  | _, _, .nil => .nil
  | _, _, .cons h r => .cons (h.ik s) (r.ik s)
end
theorem Is.im {C : Addr} {H H' : Hp} (s : Im H H') {v : V} {t : Th} (h : Is C H v t) (_ : t.worth true = true) : Is C H' v t := h.ik s
theorem Iss.im {C : Addr} {H H' : Hp} (s : Im H H') {xs : List V} {ts : List Th} (h : Iss C H xs ts) (_ : Th.worths true ts = true) : Iss C H' xs ts := h.ik s
mutual
theorem worth_up : ∀ {t : Th}, t.worth false = true → t.worth true = true
  | .non, h => h
  | .bl _, h => h
  | .int _, h => h
  | .str _, h => h
  | .tup l, h => worths_up (by simpa [Th.worth] using h)
  | .fn _, _ => rfl
  | .oth, h => h
theorem worths_up : ∀ {l : List Th}, Th.worths false l = true → Th.worths true l = true
  | [], _ => rfl
  | t :: r, h => by
    rw [Th.worths, Bool.and_eq_true] at h
    rw [Th.worths, Bool.and_eq_true]
    exact ⟨worth_up h.1, worths_up h.2⟩
end
/-- a leaf -/
inductive Leaf : V → Th → Prop
  | int (i : Int) (h : numB i = true) : Leaf (.int i) (.int i)
  | bl (b : Bool) : Leaf (.bl b) (.bl b)
  | str (x : Str) (h : wordB x = true) : Leaf (.str x) (.str x)
theorem wordB_len {x : Str} (h : wordB x = true) : x.length ≤ 8 := by
  unfold wordB at h
  simp only [Bool.and_eq_true, decide_eq_true_eq] at h
  exact h.2.1
theorem Leaf.is {u : V} {t : Th} (h : Leaf u t) (C : Addr) (H : Hp) : Is C H u t := by
  cases h with
  | int i _ => exact .int i
  | bl b => exact .bl b
  | str x h => exact .str x (by have := wordB_len h; omega)
theorem Leaf.ok {u : V} {t : Th} (h : Leaf u t) : t.worth false = true := by
  cases h with
  | int i h => exact h
  | bl b => rfl
  | str x h => exact h
theorem Leaf.nodes {u : V} {t : Th} (h : Leaf u t) : t.nodes = 1 := by
  cases h <;> rfl
theorem Leaf.depth {u : V} {t : Th} (h : Leaf u t) : t.depth = 0 := by
  cases h <;> rfl
def spLeaf (K : PySem.W.Frag) : Sp := sp1 fun v H Q _ => ∃ d l a ns, v = .ref d ∧ Dr K d l a ns H ∧ ns.length ≤ 63 ∧ ∀ (u : V) (t : Th) H', Dr K d l a ns H' → Fr d l H H' → Leaf u t → Q u H'
def leafWords : List V := [.str "add", .str "z", .str "quote", .str "abcdefgh", .str "tru", .str "x", .str "function", .str "row", .str "q", .str "falses", .str "mm"]
def isWordV : V → Bool
  | .str x => wordB x
  | _ => false
theorem leaf_words : leafWords.all isWordV = true := by decide +kernel
theorem leaf_word {i : Nat} {v : V} (h : leafWords[i]? = some v) : ∃ t, Leaf v t := by
  have z := List.all_eq_true.mp leaf_words v (List.mem_of_getElem? h)
  cases v with
  | str x => exact ⟨_, .str x z⟩
  | _ => cases z
theorem p2 : (0 : Int) < 2 := by decide
theorem p3 : (0 : Int) < 3 := by decide
theorem p5 : (0 : Int) < 5 := by decide
theorem p8 : (0 : Int) < 8 := by decide
theorem p11 : (0 : Int) < 11 := by decide
theorem p21 : (0 : Int) < 21 := by decide
theorem p2e9 : (0 : Int) < 2000000001 := by decide
theorem s1 : 1 ≤ sizeLine := by decide
theorem s2 : 2 ≤ sizeLine := by decide
theorem s3 : 3 ≤ sizeLine := by decide
theorem p4 : (0 : Int) < 4 := by decide
theorem p9 : (0 : Int) < 9 := by decide
theorem d5 : CDiv n 5 := ⟨by decide, by decide⟩
theorem d20 : CDiv n 20 := ⟨by decide, by decide⟩
theorem d180 : CDiv n 180 := ⟨by decide, by decide⟩
theorem at2 {x y : V} {i : Int} (h : i = 0 ∨ i = 1) : atI [x, y] i = some (if i = 0 then x else y) := by
  rcases h with e | e <;> subst e <;> rfl
theorem d8 : CDiv n 8 := ⟨by decide, by decide⟩
theorem pw9 : CPow 10 9 := ⟨by decide, by decide, by decide⟩
theorem ten9 : (10 : Int) ^ (9 : Int).toNat = 1000000000 := by decide
section
variable {P : Program} {w : World} {K : PySem.W.Frag} {mg : Str → Option Value} {base : Heap}
theorem ok_law_leaf (F : FnP K mg "_law_leaf" s_law_leaf) (B_law_next : Cl P w K mg base 2 "_law_next" ["_law_state"] (spNext K)) : Cl P w K mg base 3 "_law_leaf" ["_law_state"] (spLeaf K) := by
  refine cl_1 F sc_law_leaf (fun _ _ _ _ _ _ us hl => match us, hl with | [_], _ => rfl) fun cdv A outer s H v Q E hr h => ?_
  obtain ⟨d, l, a, ns, rfl, h1, hn, q⟩ := h
  refine ⟨_, PSs.nox (pss_cons (ps_set (i := 1) sc_law_leaf.nd rfl (Or.inl rfl) (pe_b B_law_next hr (by omega) rfl passL (pa_cons (pv 0) pa_nil))) (pss_cons (ps_set (i := 2) sc_law_leaf.nd rfl (Or.inl rfl) (pe_op op_mod (pv 1) pe_int)) (pss_cons (ps_if (pt_cmpR op_lt (pv 2) pe_int (nomark _)) (pss_one (ps_ret (pe_ix ix_list (pe_lst (pa_cons (pe_op op_sub (pe_op op_mod (pe_op op_fdiv (pv 1) pe_int) pe_int) pe_int) (pa_cons (pe_op op_sub (pe_op op_mod (pe_op op_fdiv (pv 1) pe_int) pe_int) (pe_op op_pow pe_int pe_int)) (pa_cons (pe_op op_mul (pe_op op_pow pe_int pe_int) (pe_op op_sub (pe_op op_mod (pe_op op_fdiv (pv 1) pe_int) pe_int) pe_int)) pa_nil)))) (pv 2) (fun _ _ => rfl)))) pss_nil) (pss_cons (ps_if (pt_cmpR op_eq (pv 2) pe_int (nomark _)) (pss_one (ps_ret (pe_cmpR op_eq (pe_op op_mod (pe_op op_fdiv (pv 1) pe_int) pe_int) pe_int (nomark _)))) pss_nil) (pss_cons (ps_set (i := 3) sc_law_leaf.nd rfl (Or.inl rfl) (pe_lst (pa_cons pe_str (pa_cons pe_str (pa_cons pe_str (pa_cons pe_str (pa_cons pe_str (pa_cons pe_str (pa_cons pe_str (pa_cons pe_str (pa_cons pe_str (pa_cons pe_str (pa_cons pe_str pa_nil))))))))))))) (pss_one (ps_ret (pe_ix ix_list (pv 3) (pe_op op_mod (pe_op op_fdiv (pv 1) pe_int) pe_int) (fun _ _ => rfl))))))))), ?_⟩
  refine ⟨_, rfl, _, rfl, d, l, a, ns, rfl, h1, hn, fun n H1 h2 f1 n0 n1 => ?_⟩
  have w0 : 0 ≤ n % 8 := Int.emod_nonneg _ (by decide)
  have w1 : n % 8 < 8 := Int.emod_lt_of_pos _ (by decide)
  refine ⟨_, rfl, _, _, rfl, rfl, p8, _, rfl, _, _, rfl, rfl, _, rfl, ite2 (fun c => ?_) (fun c => ?_)⟩
  · have c' : n % 8 < 3 := of_decide_eq_true c
    refine ⟨_, rfl, _, _, rfl, rfl, d8, _, _, rfl, rfl, p21, _, _, rfl, rfl, ?_⟩
    refine ⟨_, rfl, _, _, rfl, rfl, d8, _, _, rfl, rfl, p2e9, _, _, rfl, rfl, pw9, _, _, rfl, rfl, ?_⟩
    refine ⟨_, _, rfl, rfl, pw9, _, rfl, _, _, rfl, rfl, d8, _, _, rfl, rfl, p3, _, _, rfl, rfl, _, _, rfl, rfl, .inr ⟨?_, ?_⟩, (by show 3 ≤ sizeLine; decide), fun p np => ?_⟩
    · have := Int.emod_nonneg (n / 8) (show (3 : Int) ≠ 0 by decide)
      have := Int.emod_lt_of_pos (n / 8) p3
      show -(2 ^ 64) < n / 8 % 3 - 1
      omega
    · have := Int.emod_lt_of_pos (n / 8) p3
      show n / 8 % 3 - 1 < 2 ^ 64
      omega
    rw [ten9]
    have sp := same_new np (.lst [V.int (n / 8 % 21 - 10), V.int (n / 8 % 2000000001 - 1000000000), V.int (1000000000 * (n / 8 % 3 - 1))])
    have hp := upd_same (H := H1) (a := p) (o := .lst [V.int (n / 8 % 21 - 10), V.int (n / 8 % 2000000001 - 1000000000), V.int (1000000000 * (n / 8 % 3 - 1))])
    have fin : ∀ i : Int, numB i = true → Q (.int i) (upd H1 p (.lst [V.int (n / 8 % 21 - 10), V.int (n / 8 % 2000000001 - 1000000000), V.int (1000000000 * (n / 8 % 3 - 1))])) := fun i hi => q _ _ _ (h2.same sp) (f1.trans (fr_same sp)) (.int i hi)
    have e0 := Int.emod_nonneg (n / 8) (show (21 : Int) ≠ 0 by decide)
    have e1 := Int.emod_lt_of_pos (n / 8) p21
    have e2 := Int.emod_nonneg (n / 8) (show (2000000001 : Int) ≠ 0 by decide)
    have e3 := Int.emod_lt_of_pos (n / 8) p2e9
    have e4 := Int.emod_nonneg (n / 8) (show (3 : Int) ≠ 0 by decide)
    have e5 := Int.emod_lt_of_pos (n / 8) p3
    have nb : ∀ i : Int, -1000000000 ≤ i → i ≤ 1000000000 → numB i = true := fun i a b => by
      unfold numB
      rw [decide_eq_true a, decide_eq_true b]
      rfl
    rcases (by omega : n % 8 = 0 ∨ n % 8 = 1 ∨ n % 8 = 2) with e | e | e
    · exact ⟨_, rfl, p, _, _, _, rfl, rfl, SqL.of hp, (by rw [e]; rfl), fin _ (nb _ (by omega) (by omega))⟩
    · exact ⟨_, rfl, p, _, _, _, rfl, rfl, SqL.of hp, (by rw [e]; rfl), fin _ (nb _ (by omega) (by omega))⟩
    · exact ⟨_, rfl, p, _, _, _, rfl, rfl, SqL.of hp, (by rw [e]; rfl), fin _ (nb _ (by omega) (by omega))⟩
  · refine ⟨_, rfl, rfl, _, rfl, ite2 (fun c2 => ?_) (fun c2 => ?_)⟩
    · exact ⟨_, rfl, _, _, rfl, rfl, d8, _, _, rfl, rfl, p2, rfl, q _ _ _ h2 f1 (.bl _)⟩
    · refine ⟨(by show 11 ≤ sizeLine; decide), fun p np => ?_⟩
      have sp := same_new np (.lst leafWords)
      refine ⟨_, rfl, _, rfl, _, _, rfl, rfl, d8, _, _, rfl, rfl, p11, ?_⟩
      have i0 := Int.emod_nonneg (n / 8) (show (11 : Int) ≠ 0 by decide)
      have i1 := Int.emod_lt_of_pos (n / 8) p11
      obtain ⟨j, ej⟩ : ∃ j : Nat, n / 8 % 11 = (j : Int) := ⟨(n / 8 % 11).toNat, by omega⟩
      have hj : j < leafWords.length := by
        show j < 11
        omega
      obtain ⟨t, ht⟩ := leaf_word (List.getElem?_eq_getElem hj)
      exact ⟨p, leafWords, _, _, rfl, rfl, SqL.of upd_same, (by rw [ej]; exact atI_nat (List.getElem?_eq_getElem hj)), q _ _ _ (h2.same sp) (f1.trans (fr_same sp)) ht⟩
/-! ### the class of functions -/
structure Tc (K : PySem.W.Frag) : Prop where
  kf : Kf K (He.ga K "Function")
  n1 : NoAttr K (He.ga K "Function") "params"
  n2 : NoAttr K (He.ga K "Function") "part"
  n3 : NoAttr K (He.ga K "Function") "known"
  n4 : NoAttr K (He.ga K "Function") "mine"
theorem putF_len (f : Str) (v : V) : ∀ fs : List (Str × V), (putF f v fs).length ≤ fs.length + 1
  | [] => by simp [putF]
  | p :: r => by
    have := putF_len f v r
    unfold putF
    split <;> simp <;> omega
def spInit (K : PySem.W.Frag) : Sp := fun vs H Q _ => ∃ (x dx : Addr) (n b s o : V), vs = [.ref x, n, b, s, o] ∧ H x = some (.ins (CF K) dx []) ∧ Q .non (upd H x (.ins (CF K) dx (fnF n b s o)))
theorem ok_Function___init__ (F : MtP K (CF K) "__init__" "Function.__init__" s_Function___init__) (T : Tc K) : ∃ fd, FnOk P w K mg base (L2.CX P w) 1 (He.ma K (CF K) "__init__") fd ["self", "names", "body", "scope", "own"] (spInit K) ∧ Binds K fd ["self", "names", "body", "scope", "own"] [] := by
  refine mt_mk F sc_Function___init__ (fun _ _ _ _ _ _ us hl => match us, hl with | [_, _, _, _, _], _ => rfl) (fun vs H Q E h => by obtain ⟨_, _, _, _, _, _, rfl, _⟩ := h; rfl) fun cdv A outer s H vs Q E hr h => ?_
  obtain ⟨x, dx, n, b, sc, o, rfl, hx, q⟩ := h
  refine ⟨_, PSs.nox (pss_cons (ps_fld (pv 0) (pv 1) rfl) (pss_cons (ps_fld (pv 0) (pv 2) rfl) (pss_cons (ps_fld (pv 0) (pv 3) rfl) (pss_one (ps_fld (pv 0) (pv 4) rfl))))), ?_⟩
  have l1 := putF_len "params" n []
  have l2 := putF_len "part" b (putF "params" n [])
  have l3 := putF_len "known" sc (putF "part" b (putF "params" n []))
  refine ⟨_, rfl, _, rfl, x, _, dx, _, rfl, hx, T.kf.cl, T.n1, (by show 0 < 1000; decide), ?_⟩
  refine ⟨_, rfl, _, rfl, x, _, dx, _, rfl, upd_same, T.kf.cl, T.n2, (by simp at l1; omega), ?_⟩
  refine ⟨_, rfl, _, rfl, x, _, dx, _, rfl, upd_same, T.kf.cl, T.n3, (by simp at l1; omega), ?_⟩
  refine ⟨_, rfl, _, rfl, x, _, dx, _, rfl, upd_same, T.kf.cl, T.n4, (by simp at l1; omega), ?_⟩
  rw [upd_upd, upd_upd, upd_upd]
  exact q
theorem nw_Function (F : MtP K (CF K) "__init__" "Function.__init__" s_Function___init__) (T : Tc K) (M : Mk K (CF K) (He.ma K (CF K) "__init__")) (g : mg "Function" = some (.ref (CF K))) :
    Nw P w K mg base 1 "Function" (CF K) ["self", "names", "body", "scope", "own"] (spInit K) := by
  obtain ⟨fd, h1, h2⟩ := ok_Function___init__ (P := P) (w := w) (mg := mg) (base := base) F T
  exact ⟨_, fd, M, h1, h2, g⟩
theorem same_made {H : Hp} {x dx : Addr} {o : HO} (nx : H x = none) (nd : H dx = none) : Same H (upd (upd (upd H dx (.own x)) x (.ins (CF K) dx [])) x o) := fun b u e => by
  rw [upd_ne (ne_of_none e nx), upd_ne (ne_of_none e nx), upd_ne (ne_of_none e nd)]
  exact e

/-! ### drawn worths -/
structure Tr (mg : Str → Option Value) : Prop where
  z_tuple : mg "tuple" = none
  z_range : mg "range" = none
/-- at most m deep (m from one on) -/
def spWorth (K : PySem.W.Frag) (m : Nat) : Sp := sp3 fun v dp pl H Q _ => ∃ d l a ns k p, v = .ref d ∧ dp = .int k ∧ pl = .bl p ∧ Dr K d l a ns H ∧ ns.length ≤ 63 ∧ k ≤ m ∧ 1 ≤ m ∧ m ≤ 6 ∧
  ∀ (u : V) (t : Th) H', Dr K d l a ns H' → Fr d l H H' → Is (CF K) H' u t → t.worth true = true → (p = true → t.worth false = true) → t.nodes ≤ 5 ^ m → t.depth ≤ m → Q u H'
theorem ok_law_worth_none (F : FnP K mg "_law_worth" s_law_worth) : Cl P w K mg base 4 "_law_worth" ["_law_state", "_law_deep", "_law_is_plain_one"] (spWorth K 0) := by
  refine cl_3 F sc_law_worth (fun _ _ _ _ _ _ us hl => match us, hl with | [_, _, _], _ => rfl) fun cdv A outer s H v b c Q E hr h => ?_
  obtain ⟨_, _, _, _, _, _, _, _, _, _, _, _, h, _⟩ := h
  omega
theorem ok_law_worth {m : Nat} (F : FnP K mg "_law_worth" s_law_worth) (T : Tr mg) (B_law_next : Cl P w K mg base 2 "_law_next" ["_law_state"] (spNext K)) (B_law_leaf : Cl P w K mg base 3 "_law_leaf" ["_law_state"] (spLeaf K))
    (B_Function : Nw P w K mg base 1 "Function" (CF K) ["self", "names", "body", "scope", "own"] (spInit K)) (B_law_worth : Cl P w K mg base (4 + m) "_law_worth" ["_law_state", "_law_deep", "_law_is_plain_one"] (spWorth K m)) :
    Cl P w K mg base (4 + m + 1) "_law_worth" ["_law_state", "_law_deep", "_law_is_plain_one"] (spWorth K (m + 1)) := by
  refine cl_3 F sc_law_worth (fun _ _ _ _ _ _ us hl => match us, hl with | [_, _, _], _ => rfl) fun cdv A outer s H v b c Q E hr h => ?_
  obtain ⟨d, l, a, ns, k, p, rfl, rfl, rfl, h1, hn, hk, hm1, hm, q⟩ := h
  refine ⟨_, PSs.nox (pss_cons (ps_set (i := 3) sc_law_worth.nd rfl (Or.inl rfl) (pe_b B_law_next hr (by omega) rfl passL (pa_cons (pv 0) pa_nil))) (pss_cons (ps_if (PW.pt (pw_or (pt_cmpR op_lt (pv 1) pe_int (nomark _)) (pw_or1 (pt_cmpR op_lt (pe_op op_mod (pv 3) pe_int) pe_int (nomark _))))) (pss_cons (ps_if (PW.pt (pw_and (pt_not (pt_val (pv 2))) (pw_and1 (pt_cmpR op_eq (pe_op op_mod (pe_op op_fdiv (pv 3) pe_int) pe_int) pe_int (nomark _))))) (pss_cons (ps_set (i := 4) sc_law_worth.nd rfl (Or.inl rfl) (pe_tup (pa_cons (pe_tup (pa_cons pe_str (pa_cons (pe_b B_law_leaf hr (by omega) rfl passL (pa_cons (pv 0) pa_nil)) pa_nil))) (pa_cons (pe_tup (pa_cons pe_str (pa_cons (pe_tup (pa_cons pe_int (pa_cons pe_str pa_nil))) pa_nil))) pa_nil)))) (pss_one (ps_ret (pe_new B_Function hr (by omega) rfl passL (pa_cons (pe_tup (pa_cons pe_str (pa_cons pe_str pa_nil))) (pa_cons (pe_tup (pa_cons pe_str (pa_cons pe_str (pa_cons (pe_op op_mod (pe_op op_fdiv (pv 3) pe_int) pe_int) pa_nil)))) (pa_cons (pv 4) (pa_cons (pe_ix ix_list (pe_lst (pa_cons pe_non (pa_cons pe_str pa_nil))) (pe_op op_mod (pe_op op_fdiv (pv 3) pe_int) pe_int) (fun _ _ => rfl)) pa_nil)))))))) pss_nil) (pss_one (ps_ret (pe_b B_law_leaf hr (by omega) rfl passL (pa_cons (pv 0) pa_nil))))) pss_nil) (pss_one (ps_ret (pe_tupleOf rfl T.z_tuple (pe_lc (own := [("_law_k", 5)]) (g := gName 5) (tt := tYes) rfl sc_law_worth.nd (pi_range1 rfl T.z_range (pa_cons (pe_op op_mod (pe_op op_fdiv (pv 3) pe_int) pe_int) pa_nil)) (blkOk_by (own := [("_law_k", 5)]) (N := ["_law_state", "_law_deep", "_law_is_plain_one", "_law_number", "_law_scope", "_law_k"]) (sc := defScope s_law_worth) (by decide +kernel)) (fun _ _ _ _ _ => (pg_name (i := 5) sc_law_worth.nd rfl (Or.inl rfl))) (fun _ _ _ _ _ => pts_nil) (fun _ _ _ _ _ => (pe_b B_law_worth hr (Nat.le_refl _) rfl passL (pa_cons (pv 0) (pa_cons (pe_op op_sub (pv 1) pe_int) (pa_cons (pv 2) pa_nil))))))))))), ?_⟩
  refine ⟨_, rfl, _, rfl, d, l, a, ns, rfl, h1, hn, fun n H1 h2 f1 n0 n1 => ?_⟩
  have p5m : 1 ≤ 5 ^ (m + 1) := Nat.one_le_pow _ _ (by decide)
  have leafQ : ∀ (u : V) (t : Th) H', Dr K d l a ns H' → Fr d l H1 H' → Leaf u t → Q u H' := fun u t H' r f g => q u t H' r (f1.trans f) (g.is _ _) (worth_up g.ok) (fun _ => g.ok) (by rw [g.nodes]; exact p5m) (by rw [g.depth]; exact Nat.zero_le _)
  refine ⟨_, rfl, _, _, rfl, rfl, _, rfl, ite2 (fun c => ?small1) (fun c => ⟨_, rfl, _, _, rfl, rfl, p5, _, _, rfl, rfl, _, rfl, ite2 (fun c2 => ?small2) (fun c2 => ?big)⟩)⟩
  case small1 | small2 =>
    refine ⟨_, rfl, p, rfl, ?_⟩
    cases p with
    | true => exact iteF (iteF ⟨_, rfl, _, rfl, d, l, a, ns, rfl, h2, hn, leafQ⟩)
    | false =>
      refine iteT ⟨_, rfl, _, _, rfl, rfl, d5, _, _, rfl, rfl, p4, rfl, _, rfl, ite2 (fun c3 => ?_) (fun c3 => ⟨_, rfl, _, rfl, d, l, a, ns, rfl, h2, hn, leafQ⟩)⟩
      refine ⟨_, rfl, _, rfl, d, l, a, ns, rfl, h2, hn, fun u1 t1 H2 r2 f2 g1 => ⟨s2, fun e1 k1 => ⟨s2, fun e2 k2 => ⟨s2, fun e3 k3 => ⟨s2, fun e4 k4 => ?_⟩⟩⟩⟩⟩
      have own : n / 180 % 2 = 0 ∨ n / 180 % 2 = 1 := by
        have := Int.emod_nonneg (n / 180) (show (2 : Int) ≠ 0 by decide)
        have := Int.emod_lt_of_pos (n / 180) p2
        omega
      refine ⟨s2, fun e5 k5 => ⟨_, rfl, _, _, rfl, rfl, d20, _, _, rfl, rfl, p9, s3, fun e6 k6 => ⟨_, rfl, s2, fun e7 k7 => ⟨_, rfl, _, _, rfl, rfl, d180, _, _, rfl, rfl, p2, e7, _, _, _, rfl, rfl, SqL.of upd_same, at2 own, ?_⟩⟩⟩⟩
      intro x dx nx ndx nex
      refine ⟨x, dx, _, _, _, _, rfl, upd_same, rfl, ?_⟩
      have c7 := same_new k7 (.lst [.non, .str "q"])
      have c6 := (same_new k6 (.tup [.str "add", .str "x", .int (n / 20 % 9)])).trans c7
      have c5 := (same_new k5 (.tup [.str "x", .str "mm"])).trans c6
      have c4 := (same_new k4 (.tup [.ref e1, .ref e3])).trans c5
      have c3 := (same_new k3 (.tup [.str "z", .ref e2])).trans c4
      have c2 := (same_new k2 (.tup [.int 1, .str "q"])).trans c3
      have c1 := (same_new k1 (.tup [.str "x", u1])).trans c2
      have sm := same_made (K := K) (o := .ins (CF K) dx (fnF (.ref e5) (.ref e6) (.ref e4) (if n / 180 % 2 = 0 then .non else .str "q"))) nx ndx
      have io : ∀ H', Is (CF K) H' (if n / 180 % 2 = 0 then V.non else .str "q") (if n / 180 % 2 = 0 then Th.non else .str "q") := fun H' => by
        split
        · exact .non
        · exact .str _ (by decide)
      refine q _ (.fn [.tup [.str "x", .str "mm"], .tup [.str "add", .str "x", .int (n / 20 % 9)], .tup [.tup [.str "x", t1], .tup [.str "z", .tup [.int 1, .str "q"]]], if n / 180 % 2 = 0 then Th.non else .str "q"]) _ (r2.same (c1.trans sm)) (f1.trans (f2.trans (fr_same (c1.trans sm)))) (.fn upd_same ?_) rfl (fun z => nomatch z) p5m (Nat.zero_le _)
      refine .cons (.tup (sm _ _ (c6 _ _ upd_same)) (.cons (.str _ (by decide)) (.one (.str _ (by decide))))) (.cons (.tup (sm _ _ (c7 _ _ upd_same)) (.cons (.str _ (by decide)) (.cons (.str _ (by decide)) (.one (.int _))))) (.cons (.tup (sm _ _ (c5 _ _ upd_same)) ?_) (.one (io _))))
      exact .cons (.tup (sm _ _ (c2 _ _ upd_same)) (.cons (.str _ (by decide)) (.one (g1.is _ _)))) (.one (.tup (sm _ _ (c4 _ _ upd_same)) (.cons (.str _ (by decide)) (.one (.tup (sm _ _ (c3 _ _ upd_same)) (.cons (.int _) (.one (.str _ (by decide)))))))))
  case big =>
    have hk2 : 2 ≤ k := by
      have : ¬ k < 2 := fun z => c (decide_eq_true z)
      omega
    refine ⟨_, rfl, _, _, rfl, rfl, d5, _, _, rfl, rfl, p5, _, rfl, ?_, ?_, fun D nD => ?_⟩
    · have := Int.emod_nonneg (n / 5) (show (5 : Int) ≠ 0 by decide)
      show -(2 ^ 62) ≤ n / 5 % 5
      omega
    · have := Int.emod_lt_of_pos (n / 5) p5
      show n / 5 % 5 < 2 ^ 62
      omega
    refine lc_it walk_range (fun i H' => ∃ xs ts, Dr K d l a ns H' ∧ Fr d l H1 H' ∧ H' D = some (.lst xs) ∧ Iss (CF K) H' xs ts ∧ Th.worths true ts = true ∧ (p = true → Th.worths false ts = true) ∧ Th.nodesL ts ≤ i * 5 ^ m ∧ xs.length = i ∧ Th.depthL ts ≤ m)
      ⟨[], [], h2.same (same_new nD _), fr_same (same_new nD _), upd_same, .nil, rfl, fun _ => rfl, Nat.zero_le _, rfl, Nat.zero_le _⟩ (fun _ _ _ _ => trivial) ?_ ?_
    · rintro i y H2 H3 hi ⟨xs, ts, r1, r2, r3, r4, r5, r6, r7, r8, r9⟩ ⟨rfl, rfl⟩
      refine ⟨rfl, _, rfl, _, rfl, _, _, rfl, rfl, _, rfl, _, _, _, rfl, d, l, a, ns, k - 1, p, rfl, rfl, rfl, r1, hn, by omega, by omega, by omega, fun u t H4 g1 g2 g3 g4 g5 g6 g7 => ?_⟩
      have eD : H4 D = some (.lst xs) := by
        obtain ⟨_, _, z1, _, z3, _⟩ := h2
        exact g2 _ _ (ne_of_none z1 nD).symm (ne_of_none z3 nD).symm r3
      have hi4 : i < 5 := by
        have := Int.emod_lt_of_pos (n / 5) p5
        omega
      refine ⟨xs, eD, by rw [r8]; exact small1000 (by omega), xs ++ [u], ts ++ [t], ?_, ?_, upd_same, ?_, ?_, ?_, ?_, ?_, ?_⟩
      · obtain ⟨ls, c9, z1, z2, z3, z4, z5, z6⟩ := g1
        refine ⟨ls, c9, ?_, ?_, ?_, z4, z5, z6⟩
        · rw [upd_ne (ne_of z1 eD (by intro z; cases z))]
          exact z1
        · rcases z2 with ⟨o, z⟩ | z
          · exact .inl ⟨o, by rw [upd_ne (ne_of z eD (by intro z; cases z))]; exact z⟩
          · exact .inr z
        · obtain ⟨_, _, _, _, y3, _⟩ := h2
          rw [upd_ne (ne_of_none y3 nD)]
          exact z3
      · intro b o e1 e2 e
        rw [upd_ne (ne_of_none e nD)]
        exact g2 b o e1 e2 (r2 b o e1 e2 e)
      · exact ((r4.im (im_fr r1 g1 g2) r5).app (.one g3)).im (im_lst eD) (by rw [worths_app, r5, Th.worths, g4]; rfl)
      · rw [worths_app, r5, Th.worths, g4]
        rfl
      · intro z
        rw [worths_app, r6 z, Th.worths, g5 z]
        rfl
      · rw [nodesL_app, Th.nodesL, Th.nodesL, Nat.add_mul, Nat.one_mul]
        omega
      · rw [List.length_append, r8]
        rfl
      · rw [depthL_app, Th.depthL, Th.depthL]
        omega
    · rintro H2 ⟨xs, ts, r1, r2, r3, r4, r5, r6, r7, r8, r9⟩
      refine .inl ⟨D, xs, rfl, SqL.of r3, fun P1 nP => ?_⟩
      have sm := same_new nP (.tup xs)
      have hi4 : (n / 5 % 5).toNat ≤ 4 := by
        have := Int.emod_lt_of_pos (n / 5) p5
        omega
      refine q _ (.tup ts) _ (r1.same sm) (f1.trans (r2.trans (fr_same sm))) (.tup upd_same (r4.same sm)) (by simpa [Th.worth] using r5) (fun z => by simpa [Th.worth] using r6 z) ?_ (by rw [Th.depth]; omega)
      have e1 : (n / 5 % 5).toNat * 5 ^ m ≤ 4 * 5 ^ m := Nat.mul_le_mul_right _ hi4
      have e2 : 1 ≤ 5 ^ m := Nat.one_le_pow _ _ (by decide)
      rw [Th.nodes, Nat.pow_succ]
      omega
def spNested (K : PySem.W.Frag) : Sp := sp2 fun v b H Q _ => ∃ t n, b = .int n ∧ Is (CF K) H v t ∧ 0 ≤ n ∧ n ≤ 10000 ∧ ∀ u t' H', Same H H' → Is (CF K) H' u t' → (∀ f, t'.worth f = t.worth f) → t'.nodes = t.nodes + n.toNat → Q u H'
theorem ok_law_nested (F : FnP K mg "_law_nested" s_law_nested) (T : Tr mg) : Cl P w K mg base 1 "_law_nested" ["_law_worth_here", "_law_many"] (spNested K) := by
  refine cl_2 F sc_law_nested (fun _ _ _ _ _ _ us hl => match us, hl with | [_, _], _ => rfl) fun cdv A outer s H v b Q E hr h => ?_
  obtain ⟨t, n, rfl, h, n0, n1, q⟩ := h
  refine ⟨_, PSs.nox (pss_cons (ps_for PassesOwn.never rfl (pi_range1 rfl T.z_range (pa_cons (pv 1) pa_nil)) (pg_name (i := 2) sc_law_nested.nd rfl (Or.inl rfl)) (pss_one (ps_set (i := 0) sc_law_nested.nd rfl (Or.inl rfl) (pe_tup (pa_cons (pv 0) pa_nil))))) (pss_one (ps_ret (pv 0)))), ?_⟩
  refine ⟨_, rfl, _, rfl, (by show -(2 ^ 62) ≤ n; omega), (by show n < 2 ^ 62; omega), ?_⟩
  refine for_it walk_range (fun i σ H' => ∃ u t' o, σ = [some u, some (.int n), o] ∧ Same H H' ∧ Is (CF K) H' u t' ∧ (∀ f, t'.worth f = t.worth f) ∧ t'.nodes = t.nodes + i)
    ⟨v, t, none, rfl, .refl _, h, fun _ => rfl, rfl⟩ (fun _ _ _ _ _ => trivial) ?_ ?_
  · rintro i y σ H1 H2 hi ⟨u, t', o, rfl, r1, r2, r3, r4⟩ ⟨rfl, rfl⟩
    refine ⟨_, rfl, s1, fun p np => ?_⟩
    refine ⟨_, .tup [t'], _, rfl, r1.trans (same_new np _), .tup upd_same (.one (r2.same (same_new np _))), fun f => ?_, ?_⟩
    · rw [Th.worth, Th.worths, Th.worths, r3 f, Bool.and_true]
    · rw [Th.nodes, Th.nodesL, Th.nodesL, r4]
      omega
  · rintro σ H1 ⟨u, t', o, rfl, r1, r2, r3, r4⟩
    exact ⟨_, rfl, q u t' _ r1 r2 r3 r4⟩
end
end Fl
/-! defs that ask repr: nothing is told by repr around them (no guard) -/
namespace Fl
open PySem PySem.Spec PyProof.Rows L2
structure FnG (P : Program) (w : World) (K : PySem.W.Frag) (mg : Str → Option Value) (base : Heap) (k : Nat) (f : Addr) (fd : FuncData) (ps : List Str) (sp : Sp) : Prop where
  len : ∀ vs H Q E, sp vs H Q E → vs.length = ps.length
  run : ∀ (A : Around) (outer : List Env) (s : Shared) (H : Hp) (args : Args) (us : List Value) (vs : List V) (Q : VK) (E : XK), Room k A → A.guards = some [] → Env0 P w K mg base A outer s H → BindsTo s fd args (ps.zip us) → Vals vs us → sp vs H Q E →
    codeAny (model P w) A (.call (.ref f) args) (CR (L2.CX P w) outer P w H s Q E) s
/-- the name x stands for such a def -/
structure Cg (P : Program) (w : World) (K : PySem.W.Frag) (mg : Str → Option Value) (base : Heap) (k : Nat) (x : Str) (ps : List Str) (sp : Sp) : Prop where
  ex : ∃ f fd, FnG P w K mg base k f fd ps sp ∧ (∀ us : List Value, us.length = ps.length → bindArgs fd ⟨us, []⟩ = pure (ps.zip us)) ∧ PySem.W.keepIn K (.ref f) = true ∧ mg x = some (.ref f) ∧ ∃ oc od osl, K.lookup f = some ⟨oc, od, .func fd, osl⟩
section
variable {P : Program} {w : World} {K : PySem.W.Frag} {mg : Str → Option Value} {base : Heap} {x : Str} {st : Stmt} {N ps : List Str} {k : Nat} {sp : Sp}
theorem fng_of {f : Addr} {name qual : Str} {params : Arguments} {body : List Stmt} {scope : Scope} {dV kV doc pm cdv ct oc : Value} {an od : Option Addr} {osl : Array (Option Value)}
    (lk : K.lookup f = some ⟨oc, od, .func (PySem.W.fnOf name qual params body scope dV kV doc pm an cdv ct), osl⟩) (hcd : PySem.W.codeIn K cdv qual = true) (S : FnScope N ps scope) (len : ∀ vs H Q E, sp vs H Q E → vs.length = ps.length)
    (hb : ∀ (A : Around) (outer : List Env) (s : Shared) (H : Hp) (vs : List V) (Q : VK) (E : XK), Room k (A.deeper (envOfC qual scope s.heap.objs.size f cdv)) → (A.deeper (envOfC qual scope s.heap.objs.size f cdv)).guards = some [] → sp vs H Q E →
      ∃ t, PSs (cxOf (L2.CX P w) P w K mg base N qual scope f cdv A outer s H E) body t ∧ t { nx := fun _ H' => Q .non H', rt := Q } (start N vs) H) :
    FnG P w K mg base (k + 1) f (PySem.W.fnOf name qual params body scope dV kV doc pm an cdv ct) ps sp := by
  constructor
  · exact len
  intro A outer s H args us vs Q E hr hg e0 bd r hsp
  have up : ∀ b o, base.get? b = some o → s.heap.get? b = some o := fun b o e => (e0.bs b o e).1
  have X0 : K.In s.heap := e0.mod.kin.keeps up
  have kinds : ∀ y ∈ ps.zip us, scope.names.lookup y.1 = some .local ∨ (scope.names.lookup y.1 = some .cell ∧ ((cellsFrom (s.heap.objs.size + 1) scope.names []).lookup y.1).isSome = true) := by
    rintro ⟨n, v⟩ hy
    rcases S.par n (List.of_mem_zip hy).1 with q | q
    · exact Or.inl q
    · exact Or.inr ⟨q, PySem.W.cellsFrom_some _ _ _ (Or.inl q)⟩
  apply codeAny_call_function hr.depth (X0 _ _ lk) rfl S.co S.gen rfl (PySem.W.codeRec_of X0 hcd)
  apply bd
  apply wpAny_newFunctionEnv_cells S.kind kinds
  intro env he z x
  subst he
  constructor
  · exact (e0.mod.nolimit.keeps up).keeps x.toInCall.keep
  apply codeAny_func
  obtain ⟨t, ht, hq⟩ := hb A outer s H vs Q E (hr.deeper _) hg hsp
  have I : Inv (cxOf (L2.CX P w) P w K mg base N qual scope f cdv A outer s H E) [] (start N vs) H z := inv_start S hr.hd e0 (len _ _ _ _ hsp) r x
  apply wpAny_mono (ht.run [] z (start N vs) H _ I hq) ?_ (fun e s' h => h)
  intro fl s' h
  cases fl with
  | ret u =>
    obtain ⟨v, σ', H', J, rv, q⟩ := h
    exact ⟨v, H', J.os, J.bare, J.base, J.hok, rv, q⟩
  | next =>
    obtain ⟨σ', H', J, q⟩ := h
    exact ⟨V.non, H', J.os, J.bare, J.base, J.hok, rfl, q⟩
  | brk =>
    obtain ⟨_, _, _, q⟩ := h
    exact q.elim
  | cont =>
    obtain ⟨_, _, _, q⟩ := h
    exact q.elim
theorem cg_mk (F : FnP K mg x st) (S : FnScope N ps (defScope st)) (hb : bindOk st x ps) (len : ∀ vs H Q E, sp vs H Q E → vs.length = ps.length)
    (body : ∀ (cdv : Value) (A : Around) (outer : List Env) (s : Shared) (H : Hp) (vs : List V) (Q : VK) (E : XK), Room k (A.deeper (envOfC x (defScope st) s.heap.objs.size (He.ga K x) cdv)) →
      (A.deeper (envOfC x (defScope st) s.heap.objs.size (He.ga K x) cdv)).guards = some [] → sp vs H Q E →
      ∃ t, PSs (cxOf (L2.CX P w) P w K mg base N x (defScope st) (He.ga K x) cdv A outer s H E) (defBody st) t ∧ t { nx := fun _ H' => Q .non H', rt := Q } (start N vs) H) : Cg P w K mg base (k + 1) x ps sp := by
  obtain ⟨fd, D⟩ := F.ex
  obtain ⟨oc, od, dV, kV, doc, pm, an, cdv, ct, osl, rfl, lk, hcd, hd, hkw⟩ := D.ex
  refine ⟨_, _, fng_of lk hcd S len (fun A outer s H vs Q E hr hg h => body cdv A outer s H vs Q E hr hg h), ?_, D.kp, F.gl, _, _, _, lk⟩
  rcases hd with ⟨_, e⟩ | ⟨e, _⟩
  · subst e
    exact fun us hl => hb kV doc pm an cdv ct us hl
  · exact absurd rfl e
end
section
variable {X : Cx} {k j : Nat} {x : Str} {ps : List Str} {sp : Sp} {E : XK} {p pos : Pos} {e : Expr} {es : List Expr} {t : TA}
theorem pe_g (c : Cg X.prog X.w X.K X.mg X.base k x ps sp) (hr : Room j X.A) (hG : X.A.guards = some []) (hk : k ≤ j) (hg : Gl X x) (hx : Passes (L2.CX X.prog X.w) X E) (ha : PA X (e :: es) t) (hdb : (x == ("__debug__" : Str)) = false := by decide)
    (he : starEach (e :: es) X.env = (false, eval e X.env) :: starEach es X.env := by rfl) (hpl : (backTo pos (starEach es X.env)).any (·.1) = false := by rfl) : PE X (.Call (.Name x p) (e :: es) [] pos) (tCall sp [] E t) := by
  obtain ⟨f, fd, F, b', kp, g, _⟩ := c.ex
  have b := Binds.all (K := X.K) b'
  constructor
  intro pins s σ H Q I h
  apply wpAny_Call_Name_kw (ld_glob I hg g ?_ hdb)
  apply PySem.W.callWith_K (h₀ := X.base) I.ok.mod.kin kp ?_ he hpl
  apply thn (ha.run pos pins s σ H _ I h)
  rintro us z ⟨vs, H1, I1, r, q⟩
  refine ⟨I1.kIn, ?_⟩
  rw [List.append_nil] at q
  have hl : us.length = ps.length := r.length.symm.trans (F.len _ _ _ _ q)
  have bd := b z us I1.kIn (by rw [List.append_nil]; exact hl)
  rw [List.append_nil] at bd
  apply wpAny_call
  apply codeAny_mono (F.run X.A X.stack z H1 ⟨us, []⟩ us vs Q E (hr.mono hk) hG I1.env0 bd r q)
  intro r' s' hq
  cases r' with
  | error er => exact hx pins σ H1 z er s' I1 hq
  | ok fl =>
    cases fl with
    | ret u => exact I1.after hq
    | next => exact hq.elim
    | brk => exact hq.elim
    | cont => exact hq.elim
/-- repr of data -/
def rReprD (K : PySem.W.Frag) : List V → Hp → VK → Prop := fun xs H Q => ∃ v d, xs = [v] ∧ Dp K H v d ∧ d.showable = true ∧ d.hasDict = false ∧ d.depth ≤ 60 ∧ d.shown.length ≤ sizeLine ∧ Q (.str d.shown) H
theorem call_reprD {j : Nat} (hr : Room j X.A) (hG : X.A.guards = some []) : CallR X (.builtin "repr") (rReprD X.K) := by
  intro pins s σ H xs us Q I r h
  obtain ⟨v, d, rfl, hd, h1, h2, h3, h4, q⟩ := h
  obtain ⟨u, rfl, ru⟩ := vals1 r
  have hu := hr.units
  obtain ⟨as, rd⟩ := Dp.reads I d v u hd ru
  have fin : ∀ t, EP X pins σ Q (.str d.shown t) { s with toks := s.toks + 1 } := fun t => ⟨.str d.shown, H, I.tok _, ⟨_, rfl⟩, q⟩
  cases rd with
  | none => exact PySem.P.repr_of_none (fin _)
  | bool b => cases b <;> exact PySem.P.repr_of_bool (fin _)
  | int i t => exact PySem.P.repr_of_int (by simpa [PyData.showable] using h1) (fin _)
  | str x t => exact PySem.P.repr_of_str (fin _) h4
  | list a b c e => exact repr_of_reads' (.list a b c e) h1 (fun z => by rw [h2] at z; cases z) hG (by omega) (fun _ _ e => e) (fun h' u tk k => ⟨.str _, H, I.kept (t' := tk) k, ⟨_, rfl⟩, q⟩) h4
  | tuple a b c e => exact repr_of_reads' (.tuple a b c e) h1 (fun z => by rw [h2] at z; cases z) hG (by omega) (fun _ _ e => e) (fun h' u tk k => ⟨.str _, H, I.kept (t' := tk) k, ⟨_, rfl⟩, q⟩) h4
  | dict a b c e f => cases h2
end
/-! ### the end of a law whose defs ask repr -/
section
variable {P : Program} {w : World} {K : PySem.W.Frag} {mg mb : Str → Option Value} {k : Nat} {fa a : Addr} {fd : FuncData} {x : Str} {sp : Sp} {s : Shared} {vs : List Value} {ns : List Int}
theorem callG_at {H : Hp} (KX : K.In s.heap) (g1 : s.heap.Ns mainGlobals mg) (g2 : s.heap.Ns builtinsNs mb) (g3 : ∀ x : Str, x ≠ "__name__" → mb x = bootBuiltins x) (g4 : s.heap.NoLimit) (g5 : s.gens = #[])
    (ha : s.heap.get? a = some { cls := .type "list", data := .seq vs.toArray }) (hr : Room k callerA) (F : ∀ base : Heap, K.In base → base.Ns mainGlobals mg → FnG P w K mg base k fa fd [x] sp) (bd : ∀ (s : Shared) (u : Value), BindsTo s fd ⟨[u], []⟩ [(x, u)])
    (hsp : sp [.ref a] H (fun v _ => v = .bl true) fun _ _ _ => False) (only : Only H) (ok : HOk P w H s.heap) (one : ∀ b, H b ≠ none → b = a) (apart : H a ≠ none → K.lookup a = none) :
    codeAny (model P w) callerA (.call (.ref fa) ⟨[.ref a], []⟩) (fun r s' => r = .ok (.ret (.bool true)) ∧ OldK s.heap s'.heap ∧ s'.os = s.os ∧ AllBare s'.gens) s := by
  have away : ∀ b : Addr, b ≠ a → H b = none := fun b hb => by
    cases q : H b with
    | none => rfl
    | some u => exact absurd (one b (by rw [q]; exact fun z => nomatch z)) hb
  have dicts : ∀ {b : Addr} {m : Str → Option Value}, s.heap.Ns b m → (hidT s.heap H).Ns b m := by
    rintro b m ⟨o, es, ep, e, d, r⟩
    have hb : b ≠ a := fun z => by
      rw [z, ha] at e
      cases e
      cases d
    exact ⟨o, es, ep, hidT_get e (away b hb), d, r⟩
  have KB : K.In (hidT s.heap H) := by
    intro b o e
    have hn : H b = none := by
      cases q : H b with
      | none => rfl
      | some u =>
        have z := one b (by rw [q]; exact fun z => nomatch z)
        rw [z] at q e
        rw [apart (by rw [q]; exact fun z => nomatch z)] at e
        cases e
    exact hidT_get (KX b o e) hn
  have lim : (hidT s.heap H).NoLimit := by
    obtain ⟨mc, z1, z2⟩ := g4
    exact ⟨mc, dicts z1, z2⟩
  have E0 : Env0 P w K mg (hidT s.heap H) callerA [] s H :=
    { frames := rfl, mod := { kin := KB, glob := dicts g1, blt := ⟨mb, dicts g2, g3⟩, nolimit := lim }, bs := fun b o e => of_hidT e, bsz := Nat.le_of_eq (hidT_size _ _), funs := trivial, frf := fun b hb => (nomatch hb), hok := ok, bare := .of_eq g5 }
  apply codeAny_mono ((F _ KB (dicts g1)).run callerA [] s H ⟨[.ref a], []⟩ [.ref a] [.ref a] _ _ hr rfl E0 (bd s (.ref a)) (.cons rfl .nil) hsp)
  intro r s' h
  cases r with
  | error e =>
    obtain ⟨_, _, _, _, _, _, _, _, _, _, _, _, z⟩ := h
    exact z.elim
  | ok fl =>
    cases fl with
    | next => exact h.elim
    | brk => exact h.elim
    | cont => exact h.elim
    | ret u =>
      obtain ⟨v, H', os, bare, un, ok', r', q⟩ := h
      subst q
      cases r'
      refine ⟨rfl, OldK.of_keep ?_, os, bare⟩
      intro b o e
      rcases only b with z | ⟨ob, ys, z⟩
      · exact un.keep b o e z (fun m => nomatch m) (fun m => nomatch m)
      · obtain ⟨y1, _⟩ := ok b _ z
        obtain ⟨y2, _⟩ := ok' b _ (un.frzs b ob _ z)
        rw [e] at y1
        cases y1
        exact y2
theorem callG (KX : K.In s.heap) (g1 : s.heap.Ns mainGlobals mg) (g2 : s.heap.Ns builtinsNs mb) (g3 : ∀ x : Str, x ≠ "__name__" → mb x = bootBuiltins x) (g4 : s.heap.NoLimit) (g5 : s.gens = #[])
    (ha : s.heap.get? a = some { cls := .type "list", data := .seq vs.toArray }) (hi : IntsAre vs ns) (hl : ns.length ≤ sizeLine) (hr : Room k callerA) (F : ∀ base : Heap, K.In base → base.Ns mainGlobals mg → FnG P w K mg base k fa fd [x] sp)
    (bd : ∀ (s : Shared) (u : Value), BindsTo s fd ⟨[u], []⟩ [(x, u)]) (hsp : ∀ H : Hp, Only H → SqL K H a (ns.map V.int) → sp [.ref a] H (fun v _ => v = .bl true) fun _ _ _ => False) :
    codeAny (model P w) callerA (.call (.ref fa) ⟨[.ref a], []⟩) (fun r s' => r = .ok (.ret (.bool true)) ∧ OldK s.heap s'.heap ∧ s'.os = s.os ∧ AllBare s'.gens) s := by
  have rv := vals_ints hi
  cases hk : K.lookup a with
  | some o =>
    have e := KX a o hk
    rw [ha] at e
    cases e
    have on : Only (fun _ => none) := fun _ => .inl rfl
    have sq : SqL K (fun _ => none) a (ns.map V.int) := .inr ⟨_, vs.toArray, _, hk, rfl, rfl, rfl, by rw [List.size_toArray, hi.length]; exact hl, by simpa using rv⟩
    exact callG_at KX g1 g2 g3 g4 g5 ha hr F bd (hsp _ on sq) on (fun b u z => nomatch z) (fun b z => absurd rfl z) fun z => absurd rfl z
  | none =>
    have at1 : (fun b : Addr => if b = a then some (HO.frz { cls := .type "list", data := .seq vs.toArray } (.lst (ns.map V.int))) else none) a = some (HO.frz { cls := .type "list", data := .seq vs.toArray } (.lst (ns.map V.int))) := if_pos rfl
    have on : Only (fun b : Addr => if b = a then some (HO.frz { cls := .type "list", data := .seq vs.toArray } (.lst (ns.map V.int))) else none) := fun b => by
      by_cases hb : b = a
      · exact .inr ⟨_, _, if_pos hb⟩
      · exact .inl (if_neg hb)
    refine callG_at KX g1 g2 g3 g4 g5 ha hr F bd (hsp _ on (.inl (.inr ⟨_, at1⟩))) on (fun b u z => ?_) (fun b z => ?_) fun _ => hk
    · by_cases hb : b = a
      · subst hb
        rw [if_pos rfl] at z
        cases z
        exact ⟨ha, by rw [List.length_map]; exact hl, vs, _, rv, ha⟩
      · rw [if_neg hb] at z
        cases z
    · by_cases hb : b = a
      · exact hb
      · exact absurd (if_neg hb) z
end
theorem walk_ofG {l : PySem.W.OpenLaw} {n k : Nat} {q : Program} {loose : List Str} {XP : (Str → Option Value) → Heap → Prop} {YP : World → Heap → Prop} {d : DefRec} {x : Str}
    (hn : l.most = some n) (hn2 : n ≤ sizeLine) (hdf : d.params.defaults = []) (hr : Room k callerA)
    (F : ∀ (w : World) (mg : Str → Option Value) (fa : Addr) (h : Heap), YP w h → h.Ns mainGlobals mg → mg d.name = some (.ref fa) →
      ∃ (K : PySem.W.Frag) (fd : FuncData) (sp : Sp), K.In h ∧ (∀ (s : Shared) (u : Value), BindsTo s fd ⟨[u], []⟩ [(x, u)]) ∧
        (∀ (H : Hp) (a : Addr) (ns : List Int), ns.length ≤ n → Only H → SqL K H a (ns.map V.int) → sp [.ref a] H (fun v _ => v = .bl true) fun _ _ _ => False) ∧
        ∀ base : Heap, K.In base → base.Ns mainGlobals mg → FnG l.prog w K mg base k fa fd [x] sp) :
    PySem.W.WalkO q loose XP YP l.row.toRowW d [] (fun f vs => PySem.call f vs) := by
  apply Att.attach_call hn hdf
  intro w s0 s1 mg mb fa o pm cd doc a vs ns G Y ho hd hcd hmg hobj hints hlen hg
  obtain ⟨K, fd, sp, KX, hb, hsp, hF⟩ := F w mg fa _ Y G.T.g hmg
  exact callG KX G.T.g G.T.b G.T.builtins G.T.nolimit hg hobj hints (Nat.le_trans hlen hn2) hr hF hb fun H hO hS => hsp H a ns hlen hO hS
/-- the end, of a def by name -/
theorem walk_ofN {l : PySem.W.OpenLaw} {n k : Nat} {q : Program} {loose : List Str} {XP : (Str → Option Value) → Heap → Prop} {YP : World → Heap → Prop} {d : DefRec} {x y : Str}
    (hn : l.most = some n) (hn2 : n ≤ sizeLine) (hdf : d.params.defaults = []) (hr : Room k callerA) (hy : d.name = y)
    (F : ∀ (w : World) (mg : Str → Option Value) (h : Heap), YP w h → h.Ns mainGlobals mg →
      ∃ (K : PySem.W.Frag) (sp : Sp), K.In h ∧ (∀ (H : Hp) (a : Addr) (ns : List Int), ns.length ≤ n → Only H → SqL K H a (ns.map V.int) → sp [.ref a] H (fun v _ => v = .bl true) fun _ _ _ => False) ∧
        ∀ base : Heap, Cg l.prog w K mg base k y [x] sp) :
    PySem.W.WalkO q loose XP YP l.row.toRowW d [] (fun f vs => PySem.call f vs) := by
  refine walk_ofG (x := x) hn hn2 hdf hr fun w mg fa h Y G g => ?_
  rw [hy] at g
  obtain ⟨K, sp, KX, hsp, C⟩ := F w mg h Y G
  obtain ⟨f, fd, F1, b, kp, gf, oc, od, osl, lk⟩ := (C h).ex
  cases g.symm.trans gf
  refine ⟨K, fd, sp, KX, fun s u => ?_, hsp, fun base _ _ => ?_⟩
  · exact .of_eq (b [u] rfl)
  · obtain ⟨f2, fd2, F2, _, _, gf2, oc2, od2, osl2, lk2⟩ := (C base).ex
    cases g.symm.trans gf2
    rw [lk] at lk2
    cases lk2
    exact F2
end Fl
/-! plain worths as data, and what stays as lists and dicts change -/
namespace Fl
open PySem PySem.Spec PyProof.Rows L2
mutual
def Th.dat : Th → PyData
  | .non => .none
  | .bl b => .bool b
  | .int i => .int i
  | .str x => .str x
  | .tup l => .tuple (Th.dats l)
  | .fn _ => .none
  | .oth => .none
def Th.dats : List Th → List PyData
  | [] => []
  | t :: r => t.dat :: Th.dats r
end
/-! what repr shows as the text says: no function, no list, no dict; good numbers and words; None too -/
mutual
def Th.showy : Th → Bool
  | .non => true
  | .bl _ => true
  | .int i => numB i
  | .str x => wordB x
  | .tup l => Th.showies l
  | .fn _ => false
  | .oth => false
def Th.showies : List Th → Bool
  | [] => true
  | t :: r => t.showy && Th.showies r
end
mutual
theorem showy_of : ∀ t : Th, t.worth false = true → t.showy = true
  | .non, w => by cases w
  | .fn _, w => by cases w
  | .oth, w => by cases w
  | .bl _, _ => rfl
  | .int _, w => w
  | .str _, w => w
  | .tup l, w => by
    rw [Th.showy]
    exact showies_of l (by simpa [Th.worth] using w)
theorem showies_of : ∀ l : List Th, Th.worths false l = true → Th.showies l = true
  | [], _ => rfl
  | t :: r, w => by
    rw [Th.worths, Bool.and_eq_true] at w
    rw [Th.showies, showy_of t w.1, showies_of r w.2]
    rfl
end
theorem wordB_signs {x : Str} (h : wordB x = true) : x.cps.toList.all isSign = true := by
  unfold wordB at h
  simp only [Bool.and_eq_true] at h
  exact h.2.2.2.2
theorem numB_abs {i : Int} (h : numB i = true) : i.natAbs ≤ 1000000000 := by
  unfold numB at h
  simp only [Bool.and_eq_true, decide_eq_true_eq] at h
  omega
theorem log2_num {n : Nat} (h : n ≤ 1000000000) : n.log2 ≤ 29 := by
  by_cases z : n = 0
  · subst z
    decide
  · have := (Nat.log2_lt z (k := 30)).mpr (by omega)
    omega
mutual
theorem dat_dp {K : PySem.W.Frag} {C : Addr} {H : Hp} : ∀ {v : V} {t : Th}, Is C H v t → t.showy = true → Dp K H v t.dat
  | _, _, .non, _ => by rw [Th.dat]; exact .non
  | _, _, .bl b, _ => by rw [Th.dat]; exact .bl b
  | _, _, .int i, _ => by rw [Th.dat]; exact .int i
  | _, _, .str x h, _ => by rw [Th.dat]; exact .str x
  | _, _, .tup h r, w => by rw [Th.dat]; exact .tup (SqT.of h) (dats_dp r (by simpa [Th.showy] using w))
  | _, _, .fn h _, w => by cases w
  | _, _, .lst h, w => by cases w
  | _, _, .dct h, w => by cases w
theorem dats_dp {K : PySem.W.Frag} {C : Addr} {H : Hp} : ∀ {xs : List V} {ts : List Th}, Iss C H xs ts → Th.showies ts = true → DpAll K H xs (Th.dats ts)
  | _, _, .nil, _ => by rw [Th.dats]; exact .nil
  | _, _, .cons h r, w => by
    rw [Th.showies, Bool.and_eq_true] at w
    rw [Th.dats]
    exact .cons (dat_dp h w.1) (dats_dp r w.2)
end
mutual
theorem dat_ok : ∀ t : Th, t.showy = true → t.dat.leavesShort 13 = true ∧ t.dat.showable = true ∧ t.dat.hasDict = false ∧ t.dat.weight + 1 ≤ 32 * t.nodes ∧ t.dat.depth ≤ t.depth
  | .non, _ => by
    rw [Th.dat, Th.nodes, Th.depth]
    exact ⟨rfl, rfl, rfl, by simp [PyData.weight], by simp [PyData.depth]⟩
  | .fn _, w => by cases w
  | .oth, w => by cases w
  | .bl b, _ => by
    rw [Th.dat, Th.nodes, Th.depth]
    exact ⟨rfl, rfl, rfl, by simp [PyData.weight], by simp [PyData.depth]⟩
  | .int i, w => by
    have z := numB_abs (show numB i = true from w)
    have lg := log2_num z
    rw [Th.dat, Th.nodes, Th.depth]
    refine ⟨?_, ?_, rfl, ?_, by simp [PyData.depth]⟩
    · simp only [PyData.leavesShort, decide_eq_true_eq]
      exact PyData.shown_int_le (by omega)
    · simp only [PyData.showable, decide_eq_true_eq]
      omega
    · simp only [PyData.weight]
      split <;> omega
  | .str x, w => by
    have z := wordB_len (show wordB x = true from w)
    have sg := wordB_signs (show wordB x = true from w)
    rw [Th.dat, Th.nodes, Th.depth]
    refine ⟨?_, rfl, rfl, ?_, by simp [PyData.depth]⟩
    · simp only [PyData.leavesShort, List.all_eq_true, decide_eq_true_eq]
      intro c hc
      have := List.all_eq_true.mp sg c hc
      unfold isSign at this
      simp only [Bool.and_eq_true, Nat.ble_eq] at this
      omega
    · have e : x.length = x.cps.size := rfl
      simp only [PyData.weight]
      omega
  | .tup l, w => by
    obtain ⟨h1, h2, h3, h4, h5⟩ := dats_ok l (by simpa [Th.showy] using w)
    rw [Th.dat, Th.nodes, Th.depth]
    refine ⟨by simpa only [PyData.leavesShort] using h1, by simpa only [PyData.showable] using h2, by simpa only [PyData.hasDict] using h3, ?_, ?_⟩
    · simp only [PyData.weight]
      omega
    · simp only [PyData.depth]
      omega
theorem dats_ok : ∀ l : List Th, Th.showies l = true → PyData.leavesShortAll 13 (Th.dats l) = true ∧ PyData.showableAll (Th.dats l) = true ∧ PyData.hasDictAll (Th.dats l) = false ∧ PyData.weightAll (Th.dats l) ≤ 32 * Th.nodesL l ∧ PyData.depthAll (Th.dats l) ≤ Th.depthL l
  | [], _ => by
    rw [Th.dats, Th.nodesL, Th.depthL]
    exact ⟨rfl, rfl, rfl, Nat.le_refl _, Nat.le_refl _⟩
  | t :: r, w => by
    rw [Th.showies, Bool.and_eq_true] at w
    obtain ⟨h1, h2, h3, h4, h5⟩ := dat_ok t w.1
    obtain ⟨g1, g2, g3, g4, g5⟩ := dats_ok r w.2
    rw [Th.dats, Th.nodesL, Th.depthL]
    refine ⟨?_, ?_, ?_, ?_, ?_⟩
    · simp only [PyData.leavesShortAll, h1, g1, Bool.and_self]
    · simp only [PyData.showableAll, h2, g2, Bool.and_self]
    · simp only [PyData.hasDictAll, h3, g3, Bool.or_self]
    · simp only [PyData.weightAll]
      omega
    · simp only [PyData.depthAll]
      omega
end
/-- repr of a plain worth -/
theorem repr_shw {K : PySem.W.Frag} {C : Addr} {H : Hp} {v : V} {t : Th} (h : Is C H v t) (w : t.showy = true) (hn : t.nodes ≤ 30000) (hd : t.depth ≤ 60) : Dp K H v t.dat ∧ t.dat.showable = true ∧ t.dat.hasDict = false ∧ t.dat.depth ≤ 60 ∧ t.dat.shown.length ≤ sizeLine := by
  obtain ⟨h1, h2, h3, h4, h5⟩ := dat_ok t w
  have e : (2 : Nat) ^ 20 = 1048576 := by decide
  exact ⟨dat_dp h w, h2, h3, by omega, PyData.shown_fits (by decide) (Nat.le_refl _) h1 (by omega)⟩
theorem repr_dat {K : PySem.W.Frag} {C : Addr} {H : Hp} {v : V} {t : Th} (h : Is C H v t) (w : t.worth false = true) (hn : t.nodes ≤ 30000) (hd : t.depth ≤ 60) : Dp K H v t.dat ∧ t.dat.showable = true ∧ t.dat.hasDict = false ∧ t.dat.depth ≤ 60 ∧ t.dat.shown.length ≤ sizeLine :=
  repr_shw h (showy_of t w) hn hd
/-! ### kinds stay -/
abbrev Ik (H H' : Hp) : Prop := Im H H'
theorem ik_same {H H' : Hp} (s : Same H H') : Im H H' := im_same s
theorem ik_fr {K : PySem.W.Frag} {d l a : Addr} {ns : List Int} {H H' : Hp} (r : Dr K d l a ns H) (r' : Dr K d l a ns H') (s : Fr d l H H') : Im H H' := im_fr r r' s
end Fl
/-! tuple * int, further than the layer's own rule -/
namespace Fl
open PySem PySem.Spec PyProof.Rows L2
def rMulT (K : PySem.W.Frag) : R2 := fun x y H Q => ∃ l k xs, x = .ref l ∧ y = .int k ∧ SqT K H l xs ∧ xs ≠ [] ∧ 2 ≤ k ∧ (xs.length : Int) * k ≤ 1000000 ∧ ∀ p, H p = none → Q (.ref p) (upd H p (.tup (List.replicate k.toNat xs).flatten))
section
variable {X : Cx}
theorem op_mulT : OpR X (binaryOp .Mult) (rMulT X.K) := by
  intro pins s σ H x y v u Q I rx ry h
  obtain ⟨l, k, xs, rfl, rfl, hT, hne, h1, hz, q⟩ := h
  cases rx
  obtain ⟨t, rfl⟩ := ry
  obtain ⟨its, r, ⟨⟨cls, dd, data, sl⟩, ho, hc, n, hd⟩, hs⟩ := I.tuple hT
  simp only at hc hd
  subst hc hd
  have hle : its.length = xs.length := r.length.symm
  have hn : its ≠ [] := fun e => hne (by
    rw [e] at hle
    exact List.eq_nil_of_length_eq_zero hle.symm)
  have hp : 1 ≤ xs.length := by
    rw [← hle]
    exact List.length_pos_iff.mpr hn
  have hi : its.toArray.isEmpty = false := by
    cases its with
    | nil => exact absurd rfl hn
    | cons a b => rfl
  have hsz0 : its.toArray.size = xs.length := by rw [List.size_toArray, hle]
  have h2 : k ≤ 1000000 := by
    have a1 : 1 * k ≤ (xs.length : Int) * k := Int.mul_le_mul_of_nonneg_right (by omega) (by omega)
    omega
  have hm : ((its.toArray.size : Nat) : Int) * k ≤ 1000000 := by
    rw [hsz0]
    exact hz
  have rl : k.toNat * xs.length ≤ 1000000 := by
    have e : ((k.toNat * xs.length : Nat) : Int) = (xs.length : Int) * k := by
      rw [Int.natCast_mul, Int.toNat_of_nonneg (by omega), Int.mul_comm]
    omega
  have flen : (List.replicate k.toNat its).flatten.length ≤ sizeLine := by
    rw [PyProof.Rows.lm_len_rep_flat, hle, sizeLine_eq]
    omega
  have c0 : (decide (k < -(2 ^ 63)) || decide (k ≥ 2 ^ 63)) = false := by
    rw [decide_eq_false (by omega), decide_eq_false (by omega)] <;> rfl
  have c1 : (its.toArray.isEmpty || k == 1) = false := by
    rw [hi, Bool.false_or]
    exact beq_eq_false_iff_ne.mpr (by omega)
  have c2 : (decide (k ≤ 0) || its.toArray.isEmpty) = false := by
    rw [hi, Bool.or_false]
    exact decide_eq_false (by omega)
  have c4 : Builtin.Tuple.tupleTooMany (((its.toArray.size : Nat) : Int) * k) = false := by
    unfold Builtin.Tuple.tupleTooMany
    rw [sizeLine_eq]
    exact decide_eq_false (by omega)
  refine wpAny_binaryOp_repeat_ref (T := "tuple") (U := "int") (by decide) ⟨_, ho, rfl⟩ (fun s' => typeIs_int s' k t) noFill_tuple_mul F.fills_int_mul F.slot_int_rmul repeat_tuple F.slot_int_index.lookup
    (call_meets F.slot_int_rmul (typeIs_int s k t) F.entry_int_rmul (F.args_int_rmul_2 _ _) (int_rmul_tuple k t l its.toArray n dd sl)
      ⟨ho, rfl, ⟨_, ho, rfl⟩, call_meets F.slot_tuple_mul ⟨_, ho, rfl⟩ F.entry_tuple_mul (F.args_tuple_mul_2 _ _) (tuple_mulW l its.toArray n dd sl k t c0 c1 c2 (by omega) c4 (by rw [size_rep, List.size_toArray]; exact flen)) ⟨ho, ?_⟩⟩)
  rw [size_rep]
  refine ⟨.ref s.heap.objs.size, _, I.laid (t' := s.toks) (o := .tup (List.replicate k.toNat xs).flatten) (fun b ob q => Heap.get?_push_of_some _ q) (Nat.le_refl _) ?_, rfl, q _ (I.hok.fresh (Nat.le_refl _))⟩
  exact ⟨by rw [PyProof.Rows.lm_len_rep_flat, sizeLine_eq]; omega, _, r.rep k.toNat, IsTup.new _ _⟩
end
end Fl
/-! what several laws want -/
namespace Fl
open PySem PySem.Spec PyProof.Rows L2
theorem Iss.get {C : Addr} {H : Hp} : ∀ {xs : List V} {ts : List Th} {i : Nat} {x : V}, Iss C H xs ts → xs[i]? = some x → ∃ t, ts[i]? = some t ∧ Is C H x t
  | _, _, 0, _, .cons h _, e => ⟨_, rfl, by cases e; exact h⟩
  | _, _, i + 1, _, .cons _ r, e => r.get (i := i) e
theorem Iss.take {C : Addr} {H : Hp} : ∀ {xs : List V} {ts : List Th} (i : Nat), Iss C H xs ts → Iss C H (xs.take i) (ts.take i)
  | _, _, 0, _ => .nil
  | _, _, _ + 1, .nil => .nil
  | _, _, i + 1, .cons h r => .cons h (r.take i)
theorem Iss.drop {C : Addr} {H : Hp} : ∀ {xs : List V} {ts : List Th} (i : Nat), Iss C H xs ts → Iss C H (xs.drop i) (ts.drop i)
  | _, _, 0, h => h
  | _, _, _ + 1, .nil => .nil
  | _, _, i + 1, .cons _ r => r.drop i
theorem depth_mem : ∀ {ts : List Th} {t : Th}, t ∈ ts → t.depth ≤ Th.depthL ts
  | _ :: _, _, .head _ => by rw [Th.depthL]; omega
  | _ :: _, _, .tail _ h => by have := depth_mem h; rw [Th.depthL]; omega
theorem nodes_mem : ∀ {ts : List Th} {t : Th}, t ∈ ts → t.nodes ≤ Th.nodesL ts
  | _ :: _, _, .head _ => by rw [Th.nodesL]; omega
  | _ :: _, _, .tail _ h => by have := nodes_mem h; rw [Th.nodesL]; omega
theorem worth_mem {f : Bool} : ∀ {ts : List Th} {t : Th}, t ∈ ts → Th.worths f ts = true → t.worth f = true
  | _ :: _, _, .head _, e => by rw [Th.worths, Bool.and_eq_true] at e; exact e.1
  | _ :: _, _, .tail _ h, e => by rw [Th.worths, Bool.and_eq_true] at e; exact worth_mem h e.2
theorem worth_down {t : Th} (h : t.worth true = false) : t.worth false = false := by
  cases e : t.worth false with
  | false => rfl
  | true => rw [worth_up e] at h; exact h
theorem hu1 {A : Around} {k : Nat} (hr : Room k A) : A.units + 1 < cLine := by
  have := hr.units
  omega
theorem join_seq {ta tb : TS} {D : Ends} {σ : L2.St} {H : Hp} (J : (L2.St → Hp → Prop) → Prop) (h1 : J (fun σ H => tb D σ H)) (h2 : ∀ D' : Ends, J D'.nx → ta D' σ H) : tSeq ta tb D σ H := h2 _ h1
theorem stepG {i : Nat} {x : V} {σ : L2.St} {H : Hp} {k : L2.St → Hp → Prop} (h : k (σ.set i (some x)) H) : gName i x σ H k := h
theorem stepN {D : Ends} {σ : L2.St} {H : Hp} (h : D.nx σ H) : tNext D σ H := h
theorem join_t {T : (Bool → Hp → Prop) → Prop} {k : Bool → Hp → Prop} (J : (Bool → Hp → Prop) → Prop) (h1 : J k) (h2 : ∀ k, J k → T k) : T k := h2 k h1
theorem flat_rep {α : Type} (v : α) : ∀ k : Nat, (List.replicate k [v]).flatten = List.replicate k v
  | 0 => rfl
  | k + 1 => by rw [List.replicate_succ, List.replicate_succ, List.flatten_cons, flat_rep v k]; rfl
theorem iss_rep {C : Addr} {H : Hp} {v : V} {t : Th} (h : Is C H v t) : ∀ k : Nat, Iss C H (List.replicate k v) (List.replicate k t)
  | 0 => .nil
  | k + 1 => .cons h (iss_rep h k)
theorem nodes_rep {t : Th} (h : t.nodes = 1) : ∀ k : Nat, Th.nodesL (List.replicate k t) = k
  | 0 => rfl
  | k + 1 => by rw [List.replicate_succ, Th.nodesL, h, nodes_rep h k]; omega
theorem worths_rep {f : Bool} {t : Th} (h : t.worth f = true) : ∀ k : Nat, Th.worths f (List.replicate k t) = true
  | 0 => rfl
  | k + 1 => by rw [List.replicate_succ, Th.worths, h, worths_rep h k]; rfl
theorem not_num {t : Th} (h : t.worth true = false) : t.num = false := by
  cases t <;> first | rfl | exact h
theorem not_wrd {t : Th} (h : t.worth true = false) : t.wrd = false := by
  cases t <;> first | rfl | exact h
theorem ite_no {c A B : Prop} [Decidable c] (h : ¬ c) (b : B) : if c then A else B := by
  rw [if_neg h]
  exact b
theorem str_self {k : Bool → Hp → Prop} {H : Hp} (x : Str) (h : k false H) : k (!decide (V.str x = V.str x)) H := by
  rw [decide_eq_true rfl]
  exact h
theorem shaped_bb (a b : Bool) : SeqAt.shaped (.tuple [.bool a, .bool b]) = true := by cases a <;> cases b <;> decide +kernel
theorem not_eqv (a b : Bool) : ¬ (!PyData.eqv (.tuple [.bool a, .bool b]) (.tuple [.bool a, .bool b])) = true := by
  simp [PyData.eqv, PyData.eqvAll]
theorem bl_not (b : Bool) : ¬ decide (V.bl b = V.bl (!b)) = true := by
  rw [dec_bl]
  cases b <;> decide
theorem bl_self (b : Bool) : ¬ (!decide (V.bl b = V.bl b)) = true := by
  rw [dec_bl]
  cases b <;> decide
end Fl
/-! texts.py: words_in -/
namespace Fl
open PySem PySem.Spec PyProof.Rows L2
open SX (S)
abbrev s_words_in : Stmt := top 30
theorem sc_words_in : FnScope ["text", "found", "at", "begin"] ["text"] (defScope s_words_in) := ⟨rfl, rfl, rfl, by decide +kernel, rfl, by decide +kernel, by decide +kernel⟩
def isBr (c : Nat) : Bool := c == 40 || c == 41
def isGap (c : Nat) : Bool := c == 32 || c == 10
def isSep (c : Nat) : Bool := isBr c || isGap c
def flush : List Nat → List (List Nat)
  | [] => []
  | u => [u]
/-- the brackets and words of a text; u: what of a word was read -/
def tok : List Nat → List Nat → List (List Nat)
  | u, [] => flush u
  | u, c :: r => if isSep c then flush u ++ ((if isBr c then [[c]] else []) ++ tok [] r) else tok (u ++ [c]) r
theorem in_br (c : Nat) : decide (c ∈ ("()" : Str).cps.toList) = isBr c := by
  rw [show (("()" : Str).cps.toList : List Nat) = [40, 41] by decide +kernel]
  unfold isBr
  by_cases h : c = 40
  · subst h; rfl
  by_cases h' : c = 41
  · subst h'; rfl
  rw [decide_eq_false (by simp [h, h']), beq_eq_false_iff_ne.mpr h, beq_eq_false_iff_ne.mpr h']
  rfl
theorem in_gap (c : Nat) : decide (c ∈ (" \n" : Str).cps.toList) = isGap c := by
  rw [show ((" \n" : Str).cps.toList : List Nat) = [32, 10] by decide +kernel]
  unfold isGap
  by_cases h : c = 32
  · subst h; rfl
  by_cases h' : c = 10
  · subst h'; rfl
  rw [decide_eq_false (by simp [h, h']), beq_eq_false_iff_ne.mpr h, beq_eq_false_iff_ne.mpr h']
  rfl
theorem in_sep (c : Nat) : decide (c ∈ ("() \n" : Str).cps.toList) = isSep c := by
  rw [show (("() \n" : Str).cps.toList : List Nat) = [40, 41] ++ [32, 10] by decide +kernel]
  unfold isSep
  rw [← in_br, ← in_gap, show (("()" : Str).cps.toList : List Nat) = [40, 41] by decide +kernel, show ((" \n" : Str).cps.toList : List Nat) = [32, 10] by decide +kernel, ← Bool.decide_or]
  exact decide_eq_decide.mpr List.mem_append
theorem tok_br {c : Nat} {r : List Nat} (h : isBr c = true) : tok [] (c :: r) = [c] :: tok [] r := by
  rw [tok, show isSep c = true by unfold isSep; rw [h]; rfl, if_pos rfl, h]
  rfl
theorem tok_gap {c : Nat} {r : List Nat} (h : isBr c = false) (g : isGap c = true) : tok [] (c :: r) = tok [] r := by
  rw [tok, show isSep c = true by unfold isSep; rw [g, Bool.or_true], if_pos rfl, h]
  rfl
theorem tok_sign {u : List Nat} {c : Nat} {r : List Nat} (h : isSep c = false) : tok u (c :: r) = tok (u ++ [c]) r := by
  rw [tok, if_neg (by rw [h]; decide)]
/-- a word ends -/
theorem tok_end {u r : List Nat} (hu : u ≠ []) (h : ∀ c s, r = c :: s → isSep c = true) : tok u r = u :: tok [] r := by
  have f : flush u = [u] := by
    cases u with
    | nil => exact absurd rfl hu
    | cons _ _ => rfl
  cases r with
  | nil =>
    rw [tok, tok, f]
    rfl
  | cons c s =>
    have hs := h c s rfl
    rw [tok, tok, if_pos hs, if_pos hs, f]
    rfl
theorem cut_S {cs : List Nat} {i j : Nat} (hij : i ≤ j) (hj : j ≤ cs.length) : cutS (S cs) (some (i : Int)) (some (j : Int)) = S ((cs.drop i).take (j - i)) := by
  unfold cutS
  rw [HT.sIx_nat, HT.sIx_nat, SX.S_len, Nat.min_eq_left (show i ≤ cs.length by omega), Nat.min_eq_left hj]
def spWordsIn (K : PySem.W.Frag) : Sp := sp1 fun v H Q _ => ∃ cs, v = .str (S cs) ∧ cs.length ≤ 100000 ∧ ∀ D H', Same H H' → H D = none → H' D = some (.lst ((tok [] cs).map fun w => V.str (S w))) → Q (.ref D) H'
structure Tz4 (mg : Str → Option Value) : Prop where
  z_len : mg "len" = none
section
variable {P : Program} {w : World} {K : PySem.W.Frag} {mg : Str → Option Value} {base : Heap}
theorem ok_words_in (F : FnP K mg "words_in" s_words_in) (T : Tz4 mg) : Cl P w K mg base 1 "words_in" ["text"] (spWordsIn K) := by
  refine cl_1 F sc_words_in (fun _ _ _ _ _ _ us hl => match us, hl with | [_], _ => rfl) fun cdv A outer s H v Q E hr h => ?_
  obtain ⟨cs, rfl, hn, q⟩ := h
  refine ⟨_, PSs.nox (pss_cons (ps_set (i := 1) sc_words_in.nd rfl (Or.inl rfl) (pe_lst pa_nil)) (pss_cons (ps_set (i := 2) sc_words_in.nd rfl (Or.inl rfl) pe_int) (pss_cons (ps_while PassesOwn.never (pt_cmpR op_lt (pv 2) (pe_callB call_len_str rfl T.z_len PySem.boot_len (pa_cons (pv 0) pa_nil)) (nomark _)) (pss_one (ps_if (pt_cmpR op_in_sign (pe_ix ix_str (pv 0) (pv 2) (fun _ _ => rfl)) pe_str rfl) (pss_cons (ps_expr (pe_bm PySem.F.plainAttrs_list PySem.F.slot_list_append PySem.F.type_list_append mt_append (pv 1) (pa_cons (pe_ix ix_str (pv 0) (pv 2) (fun _ _ => rfl)) pa_nil))) (pss_one (ps_aug (i := 2) sc_words_in.nd rfl (Or.inl rfl) pe_int ip_add))) (pss_one (ps_if (pt_cmpR op_in_sign (pe_ix ix_str (pv 0) (pv 2) (fun _ _ => rfl)) pe_str rfl) (pss_one (ps_aug (i := 2) sc_words_in.nd rfl (Or.inl rfl) pe_int ip_add)) (pss_cons (ps_set (i := 3) sc_words_in.nd rfl (Or.inl rfl) (pv 2)) (pss_cons (ps_while PassesOwn.never (PW.pt (pw_and (pt_cmpR op_lt (pv 2) (pe_callB call_len_str rfl T.z_len PySem.boot_len (pa_cons (pv 0) pa_nil)) (nomark _)) (pw_and1 (pt_cmpR op_notIn_sign (pe_ix ix_str (pv 0) (pv 2) (fun _ _ => rfl)) pe_str rfl)))) (pss_one (ps_aug (i := 2) sc_words_in.nd rfl (Or.inl rfl) pe_int ip_add))) (pss_one (ps_expr (pe_bm PySem.F.plainAttrs_list PySem.F.slot_list_append PySem.F.type_list_append mt_append (pv 1) (pa_cons (pe_slice sl_str (pv 0) (po_some (pv 3)) (po_some (pv 2))) pa_nil))))))))))) (pss_one (ps_ret (pv 1)))))), ?_⟩
  have hlen : (S cs).length ≤ sizeLine := by rw [SX.S_len, sizeLine_eq]; omega
  refine ⟨by show 0 ≤ sizeLine; decide, fun D nD => ?_⟩
  refine ⟨fun m σ H1 => ∃ (k : Nat) (fs : List (List Nat)) (o3 : Option V), σ = [some (.str (S cs)), some (.ref D), some (.int k), o3] ∧ Same H H1 ∧ H1 D = some (.lst (fs.map fun w => V.str (S w))) ∧ k ≤ cs.length ∧ m = cs.length - k ∧ fs ++ tok [] (cs.drop k) = tok [] cs ∧ fs.length ≤ k,
    ⟨_, 0, [], none, rfl, same_new nD _, upd_same, Nat.zero_le _, rfl, rfl, Nat.le_refl _⟩, ?_⟩
  rintro m σ H1 ⟨k, fs, o3, rfl, s1', hD, hk, rfl, ht, hf⟩
  refine ⟨_, rfl, _, rfl, _, rfl, hlen, _, _, rfl, rfl, _, rfl, ite2 (fun c => ?_) (fun c => ?_)⟩
  · have lt : k < cs.length := by
      have z := of_decide_eq_true c
      rw [SX.S_len] at z
      omega
    obtain ⟨x, hx⟩ : ∃ x, cs[k]? = some x := ⟨_, List.getElem?_eq_getElem lt⟩
    have ed : cs.drop k = x :: cs.drop (k + 1) := by
      rw [List.drop_eq_getElem_cons lt, ← (List.getElem?_eq_some_iff.mp hx).2]
    have ax : atI (S cs).cps.toList (k : Int) = some x := atI_nat hx
    refine ⟨_, fun σ' H' z => z, ?_⟩
    refine ⟨_, rfl, _, rfl, _, _, x, rfl, rfl, hlen, ax, _, _, rfl, rfl, _, rfl, ?_⟩
    rw [in_br]
    have lf : (fs.map fun w => V.str (S w)).length < sizeLine := by rw [List.length_map, sizeLine_eq]; omega
    have fin : ∀ (fs' : List (List Nat)) (k' : Nat) (o : Option V) (H2 : Hp), k < k' → k' ≤ cs.length → Same H H2 → H2 D = some (.lst (fs'.map fun w => V.str (S w))) → fs' ++ tok [] (cs.drop k') = tok [] cs → fs'.length ≤ k' →
        ∃ m', m' < cs.length - k ∧ ∃ (k : Nat) (fs : List (List Nat)) (o3 : Option V), [some (.str (S cs)), some (.ref D), some (.int k'), o] = [some (V.str (S cs)), some (.ref D), some (.int k), o3] ∧ Same H H2 ∧ H2 D = some (.lst (fs.map fun w => V.str (S w))) ∧ k ≤ cs.length ∧ m' = cs.length - k ∧ fs ++ tok [] (cs.drop k) = tok [] cs ∧ fs.length ≤ k :=
      fun fs' k' o H2 h1 h2 h3 h4 h5 h6 => ⟨_, by omega, k', fs', o, rfl, h3, h4, h2, rfl, h5, h6⟩
    have k1 : (k : Int) + 1 = ((k + 1 : Nat) : Int) := by omega
    cases e1 : isBr x with
    | true =>
      refine iteT ⟨_, rfl, .inl ⟨rfl, _, .inl (.inl hD)⟩, _, rfl, _, rfl, _, _, x, rfl, rfl, hlen, ax, D, _, _, rfl, rfl, hD, lf, ?_⟩
      refine ⟨_, rfl, _, _, rfl, rfl, ?_⟩
      dsimp only
      rw [k1]
      refine fin (fs ++ [[x]]) (k + 1) _ _ (by omega) (by omega) (same_mut s1' nD) ?_ ?_ ?_
      · rw [upd_same, List.map_append]
        rfl
      · rw [ed, tok_br e1] at ht
        rw [← ht, List.append_assoc]
        rfl
      · rw [List.length_append, List.length_singleton]
        omega
    | false =>
      refine iteF ⟨_, rfl, _, rfl, _, _, x, rfl, rfl, hlen, ax, _, _, rfl, rfl, _, rfl, ?_⟩
      rw [in_gap]
      cases e2 : isGap x with
      | true =>
        refine iteT ?_
        refine ⟨_, rfl, _, _, rfl, rfl, ?_⟩
        dsimp only
        rw [k1]
        refine fin fs (k + 1) _ _ (by omega) (by omega) s1' hD ?_ (by omega)
        rw [ed, tok_gap e1 e2] at ht
        exact ht
      | false =>
        have e3 : isSep x = false := by
          unfold isSep
          rw [e1, e2]
          rfl
        refine iteF ?_
        refine ⟨_, rfl, ?_⟩
        refine ⟨fun m σ H2 => ∃ j : Nat, σ = [some (.str (S cs)), some (.ref D), some (.int j), some (.int k)] ∧ H2 = H1 ∧ k ≤ j ∧ j ≤ cs.length ∧ m = cs.length - j ∧ (∀ i, k ≤ i → i < j → ∃ y, cs[i]? = some y ∧ isSep y = false), ⟨_, k, rfl, rfl, Nat.le_refl _, by omega, rfl, fun i a b => absurd b (by omega)⟩, ?_⟩
        rintro m σ H2 ⟨j, rfl, rfl, kj, jl, rfl, al⟩
        have stop : (∀ c s, cs.drop j = c :: s → isSep c = true) → k < j → fs ++ ([(cs.drop k).take (j - k)] ++ tok [] (cs.drop j)) = tok [] cs := fun hs kj' => by
          have run : ∀ m, k + m ≤ j → tok ((cs.drop k).take m) (cs.drop (k + m)) = tok [] (cs.drop k) := fun m => by
            induction m with
            | zero => intro _; rfl
            | succ m ih =>
              intro hm
              obtain ⟨y, hy, hyn⟩ := al (k + m) (by omega) (by omega)
              rw [← ih (by omega)]
              have lt2 : k + m < cs.length := by omega
              have ed2 : cs.drop (k + m) = y :: cs.drop (k + m + 1) := by
                rw [List.drop_eq_getElem_cons lt2, ← (List.getElem?_eq_some_iff.mp hy).2]
              rw [ed2, tok_sign hyn]
              have et : (cs.drop k).take (m + 1) = (cs.drop k).take m ++ [y] := take_snoc (by rw [List.getElem?_drop]; exact hy)
              rw [et]
              rfl
          have ne : (cs.drop k).take (j - k) ≠ [] := by
            intro z
            have := congrArg List.length z
            rw [List.length_take, List.length_drop] at this
            simp at this
            omega
          have z := run (j - k) (by omega)
          rw [show k + (j - k) = j by omega, tok_end ne hs] at z
          rw [← ht, ← z]
          rfl
        have j1 : (j : Int) + 1 = ((j + 1 : Nat) : Int) := by omega
        have k0 : ∃ y, cs[k]? = some y ∧ isSep y = false := ⟨x, hx, e3⟩
        refine ⟨_, rfl, _, rfl, _, rfl, hlen, _, _, rfl, rfl, _, rfl, ite2 (fun c => ?_) (fun c => ?_)⟩
        · have ltj : j < cs.length := by
            have z := of_decide_eq_true c
            rw [SX.S_len] at z
            omega
          obtain ⟨y, hy⟩ : ∃ y, cs[j]? = some y := ⟨_, List.getElem?_eq_getElem ltj⟩
          have ay : atI (S cs).cps.toList (j : Int) = some y := atI_nat hy
          refine ⟨_, rfl, _, rfl, _, _, y, rfl, rfl, hlen, ay, _, _, rfl, rfl, _, rfl, ?_⟩
          rw [in_sep]
          cases es : isSep y with
          | false =>
            refine iteT ⟨_, fun σ' H' z => z, ?_⟩
            refine ⟨_, rfl, _, _, rfl, rfl, ?_⟩
            dsimp only
            rw [j1]
            refine ⟨_, ?_, j + 1, rfl, rfl, by omega, by omega, rfl, fun i a b => ?_⟩
            · omega
            · by_cases ij : i = j
              · rw [ij]
                exact ⟨y, hy, es⟩
              · exact al i a (by omega)
          | true =>
            refine iteF ?_
            have kj' : k < j := by
              rcases Nat.lt_or_eq_of_le kj with z | z
              · exact z
              · rw [← z, hx] at hy
                cases hy
                rw [e3] at es
                cases es
            refine ⟨_, rfl, .inl ⟨rfl, _, .inl (.inl hD)⟩, _, rfl, _, rfl, _, rfl, _, rfl, _, rfl, S cs, rfl, hlen, D, _, _, rfl, rfl, hD, lf, ?_⟩
            rw [cut_S kj jl]
            have st := stop (fun c s e => by
              have lt2 : j < cs.length := ltj
              rw [List.drop_eq_getElem_cons lt2, (List.getElem?_eq_some_iff.mp hy).2] at e
              injection e with e1 e2
              rw [← e1]
              exact es) kj'
            refine fin (fs ++ [(cs.drop k).take (j - k)]) j _ _ kj' jl (same_mut s1' nD) ?_ ?_ ?_
            · rw [upd_same, List.map_append]
              rfl
            · rw [List.append_assoc]
              exact st
            · rw [List.length_append, List.length_singleton]
              omega
        · have je : j = cs.length := by
            have z : ¬ ((j : Int) < ((S cs).length : Int)) := fun z => c (decide_eq_true z)
            rw [SX.S_len] at z
            omega
          have kj' : k < j := by omega
          refine iteF ?_
          refine ⟨_, rfl, .inl ⟨rfl, _, .inl (.inl hD)⟩, _, rfl, _, rfl, _, rfl, _, rfl, _, rfl, S cs, rfl, hlen, D, _, _, rfl, rfl, hD, lf, ?_⟩
          rw [cut_S kj jl]
          have st := stop (fun c s e => by rw [je, List.drop_length] at e; cases e) kj'
          refine fin (fs ++ [(cs.drop k).take (j - k)]) j _ _ kj' jl (same_mut s1' nD) ?_ ?_ ?_
          · rw [upd_same, List.map_append]
            rfl
          · rw [List.append_assoc]
            exact st
          · rw [List.length_append, List.length_singleton]
            omega
  · have ke : k = cs.length := by
      have z : ¬ ((k : Int) < ((S cs).length : Int)) := fun z => c (decide_eq_true z)
      rw [SX.S_len] at z
      omega
    refine ⟨_, rfl, q D H1 s1' nD ?_⟩
    rw [ke, List.drop_length] at ht
    rw [hD, ← ht]
    show _ = some (HO.lst ((fs ++ flush []).map _))
    rw [show flush [] = [] from rfl, List.append_nil]
end
end Fl
/-! texts.py: need, number_in, leaf_in, leaf_text -/
namespace Fl
open PySem PySem.Spec PyProof.Rows L2
open SX (S)
open TL (tl numL)
abbrev s_need : Stmt := top 27
theorem sc_need : FnScope ["is_good"] ["is_good"] (defScope s_need) := ⟨rfl, rfl, rfl, by decide +kernel, rfl, by decide +kernel, by decide +kernel⟩
abbrev s_number_in : Stmt := top 28
theorem sc_number_in : FnScope ["word", "figures", "found", "sign"] ["word"] (defScope s_number_in) := ⟨rfl, rfl, rfl, by decide +kernel, rfl, by decide +kernel, by decide +kernel⟩
abbrev s_leaf_in : Stmt := top 29
theorem sc_leaf_in : FnScope ["word"] ["word"] (defScope s_leaf_in) := ⟨rfl, rfl, rfl, by decide +kernel, rfl, by decide +kernel, by decide +kernel⟩
structure Tx (K : PySem.W.Frag) (mg : Str → Option Value) : Prop where
  kf : Kf K (He.ga K "Function")
  z_len : mg "len" = none
  z_all : mg "all" = none
  z_int : mg "int" = none
  z_str : mg "str" = none
  z_bool : mg "bool" = none
  z_tuple : mg "tuple" = none
  z_range : mg "range" = none
  z_isinstance : mg "isinstance" = none
  g_NoText : mg "NoText" = some (.ref (He.ga K "NoText"))
  x_NoText : XcP K "NoText"
  c_MOST_FIGURES : ∃ u, mg "MOST_FIGURES" = some u ∧ RelV (.int 10) u
  c_MOST_TEXT : ∃ u, mg "MOST_TEXT" = some u ∧ RelV (.int 20000) u
  c_MOST_BRACKETS : ∃ u, mg "MOST_BRACKETS" = some u ∧ RelV (.int 100) u
  c_FIGURES : ∃ u, mg "FIGURES" = some u ∧ RelV (.str "0123456789") u
  c_SMALL : ∃ u, mg "SMALL" = some u ∧ RelV (.str "abcdefghijklmnopqrstuvwxyz") u
def isFig (c : Nat) : Bool := Nat.ble 48 c && Nat.ble c 57
/-- the figures of a number's word -/
def figs : List Nat → List Nat
  | 45 :: r => r
  | w => w
def sgn : List Nat → Bool
  | 45 :: _ => true
  | _ => false
def numP (w : List Nat) : Option Int :=
  if (decide (1 ≤ (figs w).length) && decide ((figs w).length ≤ 10) && (figs w).all isFig) && (!decide ((figs w).head? = some 48) || decide (w = [48])) then
    let i : Int := if sgn w then -((NumText.digitsVal (figs w) : Nat) : Int) else ((NumText.digitsVal (figs w) : Nat) : Int)
    if numB i then some i else none
  else none
def leafP (w : List Nat) : Option Th :=
  if S w = sTrue then some (.bl true) else if S w = sFalse then some (.bl false)
  else match w with
    | [] => none
    | c :: _ => if isSign c then (if wordB (S w) then some (.str (S w)) else none) else (numP w).map Th.int
theorem fig_mem (c : Nat) : decide (c ∈ ("0123456789" : Str).cps.toList) = isFig c := by
  have e : (("0123456789" : Str).cps.toList : List Nat) = List.range' 48 10 := by decide +kernel
  have z : (c ∈ List.range' 48 10) ↔ isFig c = true := by
    rw [List.mem_range'_1]
    unfold isFig
    rw [Bool.and_eq_true, Nat.ble_eq, Nat.ble_eq]
    omega
  cases h : isFig c with
  | true => exact decide_eq_true (by rw [e]; exact z.mpr h)
  | false => exact decide_eq_false (by rw [e]; intro m; rw [z.mp m] at h; cases h)
theorem cut_to1 (w : List Nat) : cutS (S w) none (some 1) = S (w.take 1) := by
  rw [C8.cutS_slice, SX.slice_to (by decide)]
  rfl
theorem cut_from1 (w : List Nat) : cutS (S w) (some 1) none = S (w.drop 1) := by
  rw [C8.cutS_slice, SX.slice_from (by decide)]
  rfl
theorem figs_neg {w : List Nat} (h : sgn w = true) : figs w = w.drop 1 ∧ w = 45 :: w.drop 1 := by
  cases w with
  | nil => cases h
  | cons c r =>
    unfold sgn at h
    split at h
    · rename_i e
      injection e with e1 e2
      subst e1
      exact ⟨rfl, rfl⟩
    · cases h
theorem figs_pos {w : List Nat} (h : sgn w = false) : figs w = w := by
  unfold figs
  split
  · rename_i r
    cases h
  · rfl
theorem sgn_eq (w : List Nat) : decide (V.str (S (w.take 1)) = V.str "-") = sgn w := by
  have e : (S (w.take 1) = ("-" : Str)) ↔ sgn w = true := by
    constructor
    · intro h
      have h2 : w.take 1 = [45] := by
        have := congrArg (fun x : Str => x.cps.toList) h
        exact this
      cases w with
      | nil => cases h2
      | cons c r =>
        injection h2 with h3 _
        subst h3
        rfl
    · intro h
      rw [(figs_neg h).2]
      rfl
  cases h : sgn w with
  | true => exact decide_eq_true (congrArg V.str (e.mpr h))
  | false => exact decide_eq_false fun z => by injection z with z; rw [e.mp z] at h; cases h
def spNeedB (K : PySem.W.Frag) : Sp := sp1 fun v H Q E => ∃ b, v = .bl b ∧ (b = true → Q .non H) ∧ (b = false → E (.ref (He.ga K "NoText")) none H)
def spNumIn (K : PySem.W.Frag) : Sp := sp1 fun v H Q E => ∃ w, v = .str (S w) ∧ w.length ≤ 100000 ∧ (∀ i H', numP w = some i → Same H H' → Q (.int i) H') ∧ (∀ H', numP w = none → Same H H' → E (.ref (He.ga K "NoText")) none H')
def spLeafIn (K : PySem.W.Frag) : Sp := sp1 fun v H Q E => ∃ w, v = .str (S w) ∧ w ≠ [] ∧ w.length ≤ 100000 ∧ (∀ t u H', leafP w = some t → Same H H' → Is (CF K) H' u t → Q u H') ∧ (∀ H', leafP w = none → Same H H' → E (.ref (He.ga K "NoText")) none H')
section
variable {P : Program} {w : World} {K : PySem.W.Frag} {mg : Str → Option Value} {base : Heap}
theorem ok_need (F : FnP K mg "need" s_need) (T : Tx K mg) : Cl P w K mg base 1 "need" ["is_good"] (spNeedB K) := by
  refine cl_1 F sc_need (fun _ _ _ _ _ _ us hl => match us, hl with | [_], _ => rfl) fun cdv A outer s H v Q E hr h => ?_
  obtain ⟨b, rfl, q, qe⟩ := h
  refine ⟨_, (pss_one (ps_if (pt_not (pt_val (pv 0))) (pss_one (ps_raise rfl (takes_of rfl rfl rfl rfl) (pmk_own PySem.F.excBase_ValueError T.x_NoText.1 T.g_NoText T.x_NoText.2.1 (raises_own T.x_NoText.2.2.1 T.x_NoText.2.2.2) rfl))) pss_nil)), ?_⟩
  refine ⟨_, rfl, b, rfl, ?_⟩
  cases b with
  | true => exact iteF (q rfl)
  | false => exact iteT (qe rfl)
theorem join_v {T : (V → Hp → Prop) → Prop} {k : V → Hp → Prop} (J : (V → Hp → Prop) → Prop) (h1 : J k) (h2 : ∀ k, J k → T k) : T k := h2 k h1
theorem ok_number_in (F : FnP K mg "number_in" s_number_in) (T : Tx K mg) (B_need : Cl P w K mg base 1 "need" ["is_good"] (spNeedB K)) (B_is_number : Cl P w K mg base 1 "is_number" ["thing"] (spNumber K)) : Cl P w K mg base 2 "number_in" ["word"] (spNumIn K) := by
  refine cl_1 F sc_number_in (fun _ _ _ _ _ _ us hl => match us, hl with | [_], _ => rfl) fun cdv A outer s H v Q E hr h => ?_
  obtain ⟨w, rfl, hn, q, qe⟩ := h
  refine ⟨_, (pss_cons (ps_set (i := 1) sc_number_in.nd rfl (Or.inl rfl) (pe_ifExp (pt_cmpR op_eq (pe_slice sl_str (pv 0) po_none (po_some pe_int)) pe_str (nomark _)) (pe_slice sl_str (pv 0) (po_some pe_int) po_none) (pv 0))) (pss_cons (ps_expr (pe_bS B_need hr (by omega) rfl (fun σ => passAt (takes_of rfl rfl rfl rfl) σ) (pa_cons (pe_and (pe_chain op_le op_le pe_int (pe_callB call_len_str rfl T.z_len PySem.boot_len (pa_cons (pv 1) pa_nil)) (pe_gk rfl T.c_MOST_FIGURES)) (pe_one (pe_callB (cr_all rfl) rfl T.z_all PyProof.Rows.boot_all (pa_cons (pe_lc (own := [("sign", 3)]) (g := gName 3) (tt := tYes) rfl sc_number_in.nd (pi_str (pv 1)) (blkOk_by (own := [("sign", 3)]) (N := ["word", "figures", "found", "sign"]) (sc := defScope s_number_in) (by decide +kernel)) (fun _ _ _ _ _ => (pg_name (i := 3) sc_number_in.nd rfl (Or.inl rfl))) (fun _ _ _ _ _ => pts_nil) (fun _ _ _ _ _ => (pe_cmpR op_in_sign (pv 3) (pe_gk rfl T.c_FIGURES) rfl))) pa_nil)))) pa_nil))) (pss_cons (ps_expr (pe_bS B_need hr (by omega) rfl (fun σ => passAt (takes_of rfl rfl rfl rfl) σ) (pa_cons (pe_or (pe_cmpR op_ne (pe_ix ix_str (pv 1) pe_int (fun _ _ => rfl)) pe_str (nomark _)) (pe_one (pe_cmpR op_eq (pv 0) pe_str (nomark _)))) pa_nil))) (pss_cons (ps_set (i := 2) sc_number_in.nd rfl (Or.inl rfl) (pe_callTy call_int_str rfl T.z_int PyProof.Rows.boot_int (pa_cons (pv 0) pa_nil))) (pss_cons (ps_expr (pe_bS B_need hr (by omega) rfl (fun σ => passAt (takes_of rfl rfl rfl rfl) σ) (pa_cons (pe_b B_is_number hr (by omega) rfl passL (pa_cons (pv 2) pa_nil)) pa_nil))) (pss_one (ps_ret (pv 2)))))))), ?_⟩
  have hlen : (S w).length ≤ sizeLine := by rw [SX.S_len, sizeLine_eq]; omega
  have fl : (figs w).length ≤ w.length := by
    cases e : sgn w with
    | true => rw [(figs_neg e).1, List.length_drop]; omega
    | false => rw [figs_pos e]; omega
  have hlenf : (S (figs w)).length ≤ sizeLine := by rw [SX.S_len, sizeLine_eq]; omega
  refine join_seq (fun k => k [some (.str (S w)), some (.str (S (figs w))), none, none] H) ?_ (fun D hk => ?_)
  case refine_2 =>
    refine ⟨_, rfl, _, rfl, S w, rfl, hlen, ?_⟩
    rw [cut_to1]
    refine ⟨rfl, _, rfl, ?_⟩
    rw [sgn_eq]
    cases e : sgn w with
    | true =>
      refine iteT ⟨_, rfl, _, rfl, ?_⟩
      unfold tNoPart
      show rSlS (.str (S w)) (some 1) none H _
      refine ⟨S w, rfl, hlen, ?_⟩
      rw [cut_from1]
      rw [(figs_neg e).1] at hk
      exact hk
    | false =>
      refine iteF ⟨_, rfl, ?_⟩
      rw [figs_pos e] at hk
      exact hk
  dsimp only
  refine join_v (T := tAndV _ _ _ _) (fun k => ∀ H', Same H H' → k (.bl (decide (1 ≤ (figs w).length) && decide ((figs w).length ≤ 10) && (figs w).all isFig)) H') (fun H1 s1' => ?_) (fun k hk => ?_)
  case refine_2 =>
    refine ⟨_, rfl, _, rfl, hlenf, _, _, rfl, rfl, _, rfl, ite2 (fun c1 => ?_) (fun c1 => ?_)⟩
    case refine_2 =>
      refine ⟨_, rfl, iteF ?_⟩
      have e : decide (1 ≤ (figs w).length) = false := decide_eq_false fun z => c1 (decide_eq_true (by rw [SX.S_len]; omega))
      rw [e] at hk
      exact hk H (.refl _)
    have e1 : decide (1 ≤ (figs w).length) = true := decide_eq_true (by
      have := of_decide_eq_true c1
      rw [SX.S_len] at this
      omega)
    refine ⟨_, _, rfl, rfl, _, rfl, ite2 (fun c2 => ?_) (fun c2 => ?_)⟩
    case refine_2 =>
      have e : decide ((figs w).length ≤ 10) = false := decide_eq_false fun z => c2 (decide_eq_true (by rw [SX.S_len]; omega))
      rw [e, Bool.and_false] at hk
      exact hk H (.refl _)
    have e2 : decide ((figs w).length ≤ 10) = true := decide_eq_true (by
      have := of_decide_eq_true c2
      rw [SX.S_len] at this
      omega)
    have l10 := of_decide_eq_true e2
    rw [e1, e2] at hk
    refine ⟨_, rfl, S (figs w), rfl, fun D nD => lc_it walk_str (fun i H' => Same H H' ∧ H' D = some (.lst ((((figs w).take i).map isFig).map V.bl)) ∧ H D = none) ⟨same_new nD _, upd_same, nD⟩ (fun _ _ _ _ => trivial) ?_ ?_⟩
    · rintro i y H1 H2 hi ⟨r1, r2, r3⟩ ⟨rfl, c, hc, rfl⟩
      refine ⟨rfl, _, rfl, c, _, rfl, rfl, _, r2, ?_, same_mut r1 r3, ?_, r3⟩
      · rw [List.length_map, List.length_map]
        have := List.length_take_le' i (figs w)
        exact small1000 (by omega)
      · have hc' : (figs w)[i]? = some c := by
          have z : (S (figs w)).cps.toList[i]? = some c := by
            rw [Array.getElem?_toList]
            exact hc
          exact z
        rw [upd_same, take_snoc hc', List.map_append, List.map_append]
        show some (HO.lst (_ ++ [V.bl (decide (c ∈ ("0123456789" : Str).cps.toList))])) = _
        rw [fig_mem c]
        rfl
    · rintro H1 ⟨r1, r2, r3⟩
      refine ⟨D, _, rfl, SqL.of r2, ?_⟩
      have e : (((figs w).take (S (figs w)).cps.size).map isFig).all id = (figs w).all isFig := by
        rw [show (S (figs w)).cps.size = (figs w).length by simp, List.take_length, List.all_map]
        rfl
      rw [e]
      exact hk H1 r1
  refine ⟨_, rfl, _, rfl, fun e1 => ?_, fun e1 => qe _ (by unfold numP; rw [e1]; rfl) s1'⟩
  have e1' := e1
  rw [Bool.and_eq_true, Bool.and_eq_true] at e1'
  obtain ⟨⟨g1, g2⟩, g3⟩ := e1'
  have g1 := of_decide_eq_true g1
  have g2 := of_decide_eq_true g2
  obtain ⟨c, r, ef⟩ : ∃ c r, figs w = c :: r := by
    cases ef : figs w with
    | nil => rw [ef] at g1; exact absurd g1 (by decide)
    | cons c r => exact ⟨c, r, rfl⟩
  have a0 : atI (S (figs w)).cps.toList 0 = some c := atI_nat (j := 0) (by rw [ef]; rfl)
  refine stepN ?_
  dsimp only
  refine join_v (T := tOrV _ _ _ _) (fun k => k (.bl (!decide ((figs w).head? = some 48) || decide (w = [48]))) H1) ?_ (fun k hk => ?_)
  case refine_2 =>
    refine ⟨_, rfl, _, _, c, rfl, rfl, hlenf, a0, rfl, _, rfl, ?_⟩
    have h0 : decide (V.str ⟨#[c]⟩ = V.str "0") = decide ((figs w).head? = some 48) := by
      rw [ef]
      refine decide_eq_decide.mpr ⟨fun z => ?_, fun z => ?_⟩
      · injection z with z
        have := congrArg (fun x : Str => x.cps.toList) z
        injection this with this _
        rw [List.head?_cons, this]
        rfl
      · rw [List.head?_cons] at z
        injection z with z
        rw [z]
        rfl
    rw [h0]
    cases e0 : decide ((figs w).head? = some 48) with
    | false =>
      rw [e0] at hk
      exact iteT hk
    | true =>
      rw [e0] at hk
      refine iteF ⟨_, rfl, rfl, ?_⟩
      have h1 : decide (V.str (S w) = V.str "0") = decide (w = [48]) := decide_eq_decide.mpr ⟨fun z => by injection z with z; exact congrArg (fun x : Str => x.cps.toList) z, fun z => by rw [z]; rfl⟩
      rw [h1]
      exact hk
  refine ⟨_, rfl, _, rfl, fun e2 => ?_, fun e2 => qe _ (by unfold numP; rw [e1, e2]; rfl) s1'⟩
  have al : NumText.AllDigits (figs w) := fun x hx => by
    have z := List.all_eq_true.mp g3 x hx
    unfold isFig at z
    rw [Bool.and_eq_true, Nat.ble_eq, Nat.ble_eq] at z
    exact z
  have ne : figs w ≠ [] := by rw [ef]; exact List.cons_ne_nil _ _
  have lw : w.length ≤ 11 := by
    cases e : sgn w with
    | true =>
      have z := congrArg List.length (figs_neg e).2
      rw [List.length_cons, ← (figs_neg e).1] at z
      omega
    | false =>
      rw [figs_pos e] at g2
      omega
  have it : PySem.intText? (S w) = some (if sgn w then -((NumText.digitsVal (figs w) : Nat) : Int) else ((NumText.digitsVal (figs w) : Nat) : Int)) := by
    cases e : sgn w with
    | true =>
      have z := figs_neg e
      rw [if_pos rfl]
      refine intText_neg (x := S w) (cs := figs w) ?_ al ne (by rw [SX.S_len]; omega)
      show w = _
      rw [z.1]
      exact z.2
    | false =>
      rw [if_neg (by decide)]
      have z := figs_pos e
      have d := intText_digits (x := S w) (by show NumText.AllDigits w; rw [← z]; exact al) (by show w ≠ []; rw [← z]; exact ne) (by rw [SX.S_len]; omega)
      rw [d, z]
  have np : numP w = if numB (if sgn w then -((NumText.digitsVal (figs w) : Nat) : Int) else ((NumText.digitsVal (figs w) : Nat) : Int)) then some (if sgn w then -((NumText.digitsVal (figs w) : Nat) : Int) else ((NumText.digitsVal (figs w) : Nat) : Int)) else none := by
    unfold numP
    rw [e1, e2]
    rfl
  refine stepN ?_
  dsimp only
  generalize (if sgn w then -((NumText.digitsVal (figs w) : Nat) : Int) else ((NumText.digitsVal (figs w) : Nat) : Int)) = i at it np
  refine ⟨_, rfl, S w, i, rfl, it, by rw [SX.S_len]; omega, ?_⟩
  refine stepG ?_
  dsimp only
  refine ⟨_, rfl, _, rfl, .int i, .int i, _, rfl, _, rfl, fun e3 => ?_, fun e3 => qe _ (by rw [np, show numB i = false from e3]; rfl) s1'⟩
  refine stepN ?_
  dsimp only
  exact ⟨_, rfl, q i H1 (by rw [np, show numB i = true from e3]; rfl) s1'⟩
theorem wordB_true : wordB sTrue = false := by decide +kernel
theorem ok_leaf_in (F : FnP K mg "leaf_in" s_leaf_in) (T : Tx K mg) (B_need : Cl P w K mg base 1 "need" ["is_good"] (spNeedB K)) (B_is_word : Cl P w K mg base 1 "is_word" ["thing"] (spWord K)) (B_number_in : Cl P w K mg base 2 "number_in" ["word"] (spNumIn K)) : Cl P w K mg base 3 "leaf_in" ["word"] (spLeafIn K) := by
  refine cl_1 F sc_leaf_in (fun _ _ _ _ _ _ us hl => match us, hl with | [_], _ => rfl) fun cdv A outer s H v Q E hr h => ?_
  obtain ⟨w, rfl, hw, hn, q, qe⟩ := h
  refine ⟨_, (pss_cons (ps_if (pt_cmpR op_in_seq (pv 0) (pe_tup (pa_cons pe_str (pa_cons pe_str pa_nil))) rfl) (pss_one (ps_ret (pe_cmpR op_eq (pv 0) pe_str (nomark _)))) pss_nil) (pss_cons (ps_if (pt_cmpR op_in_sign (pe_ix ix_str (pv 0) pe_int (fun _ _ => rfl)) (pe_gk rfl T.c_SMALL) rfl) (pss_cons (ps_expr (pe_bS B_need hr (by omega) rfl (fun σ => passAt (takes_of rfl rfl rfl rfl) σ) (pa_cons (pe_b B_is_word hr (by omega) rfl passL (pa_cons (pv 0) pa_nil)) pa_nil))) (pss_one (ps_ret (pv 0)))) pss_nil) (pss_one (ps_ret (pe_bS B_number_in hr (by omega) rfl (fun σ => passAt (takes_of rfl rfl rfl rfl) σ) (pa_cons (pv 0) pa_nil)))))), ?_⟩
  have hlen : (S w).length ≤ sizeLine := by rw [SX.S_len, sizeLine_eq]; omega
  obtain ⟨c, r, ef⟩ : ∃ c r, w = c :: r := by
    cases w with
    | nil => exact absurd rfl hw
    | cons c r => exact ⟨c, r, rfl⟩
  have a0 : atI (S w).cps.toList 0 = some c := atI_nat (j := 0) (by rw [ef]; rfl)
  refine ⟨_, rfl, s2, fun p np => ⟨p, _, rfl, .inr (SqT.of upd_same), rfl, rfl, _, rfl, ?_⟩⟩
  have s1' : Same H (upd H p (.tup [.str sTrue, .str sFalse])) := same_new np _
  show (if (if false = true then !inV (.str (S w)) [.str sTrue, .str sFalse] else inV (.str (S w)) [.str sTrue, .str sFalse]) = true then _ else _)
  rw [if_neg Bool.false_ne_true, inTF]
  by_cases t1 : S w = sTrue
  · rw [decide_eq_true t1, Bool.true_or]
    refine iteT ⟨_, rfl, rfl, ?_⟩
    rw [show decide (V.str (S w) = V.str "true") = true from decide_eq_true (congrArg V.str t1)]
    exact q (.bl true) _ _ (by unfold leafP; rw [if_pos t1]) s1' (.bl _)
  by_cases t2 : S w = sFalse
  · rw [decide_eq_true t2, Bool.or_true]
    refine iteT ⟨_, rfl, rfl, ?_⟩
    rw [show decide (V.str (S w) = V.str "true") = false from decide_eq_false (fun z => t1 (by injection z))]
    exact q (.bl false) _ _ (by unfold leafP; rw [if_neg t1, if_pos t2]) s1' (.bl _)
  rw [decide_eq_false t1, decide_eq_false t2]
  have lp : leafP w = if isSign c then (if wordB (S w) then some (.str (S w)) else none) else (numP w).map Th.int := by
    unfold leafP
    rw [if_neg t1, if_neg t2, ef]
  refine iteF (stepN ?_)
  dsimp only
  refine ⟨_, rfl, _, _, c, rfl, rfl, hlen, a0, _, _, rfl, rfl, _, rfl, ?_⟩
  rw [show decide (c ∈ ("abcdefghijklmnopqrstuvwxyz" : Str).cps.toList) = isSign c from sign_mem c]
  cases ec : isSign c with
  | true =>
    rw [ec, if_pos rfl] at lp
    refine iteT ⟨_, rfl, _, rfl, .str (S w), .str _ (by rw [SX.S_len]; omega), fun H2 s2' => ⟨_, rfl, _, rfl, fun e => ?_, fun e => qe _ (by rw [lp, show wordB (S w) = false from e]; rfl) (s1'.trans s2')⟩⟩
    refine stepN ?_
    dsimp only
    exact ⟨_, rfl, q (.str (S w)) _ _ (by rw [lp, show wordB (S w) = true from e]; rfl) (s1'.trans s2') (.str _ (by rw [SX.S_len]; omega))⟩
  | false =>
    rw [ec, if_neg (by decide)] at lp
    refine iteF (stepN ?_)
    dsimp only
    exact ⟨_, rfl, _, rfl, w, rfl, hn, fun i H2 e s2' => q (.int i) _ _ (by rw [lp, e]; rfl) (s1'.trans s2') (.int i), fun H2 e s2' => qe _ (by rw [lp, e]; rfl) (s1'.trans s2')⟩
end
end Fl
/-! texts.py: leaf_text, worth_text -/
namespace Fl
open PySem PySem.Spec PyProof.Rows L2
open SX (S)
open TL (tl numL tl_num tl_ofString)
abbrev s_leaf_text : Stmt := top 25
theorem sc_leaf_text : FnScope ["worth"] ["worth"] (defScope s_leaf_text) := ⟨rfl, rfl, rfl, by decide +kernel, rfl, by decide +kernel, by decide +kernel⟩
abbrev s_worth_text : Stmt := top 26
theorem sc_worth_text : FnScope ["worth", "found", "pile", "is_written", "one", "place"] ["worth"] (defScope s_worth_text) := ⟨rfl, rfl, rfl, by decide +kernel, rfl, by decide +kernel, by decide +kernel⟩
/-- the signs of a number -/
def intC : Int → List Nat
  | .ofNat n => numL n
  | .negSucc n => 45 :: numL (n + 1)
theorem int_text (i : Int) : Str.ofString (toString i) = S (intC i) := by
  refine TL.ext_tl ?_
  cases i with
  | ofNat n => exact tl_num n
  | negSucc n =>
    rw [tl_ofString, show toString (Int.negSucc n) = "-" ++ toString ((n + 1 : Nat) : Int) from rfl, String.toList_append, List.map_append, ← tl_ofString (toString ((n + 1 : Nat) : Int)), tl_num]
    rfl
def leafT : Th → List Nat
  | .bl true => [116, 114, 117, 101]
  | .bl false => [102, 97, 108, 115, 101]
  | .int i => intC i
  | .str x => x.cps.toList
  | _ => []
mutual
def textP : Th → List Nat
  | .tup l => 40 :: (textsP l ++ [41])
  | .bl b => leafT (.bl b)
  | .int i => leafT (.int i)
  | .str x => leafT (.str x)
  | .non => []
  | .fn _ => []
  | .oth => []
/-- with a blank between two -/
def textsP : List Th → List Nat
  | [] => []
  | t :: r => textP t ++ tailsP r
def tailsP : List Th → List Nat
  | [] => []
  | t :: r => 32 :: (textP t ++ tailsP r)
end
theorem text_leaf {t : Th} (h : t.isTup = false) : textP t = leafT t := by
  cases t <;> first | (cases h; done) | (rw [textP]; done) | (rw [textP]; rfl)
theorem tails_cons {l : List Th} (h : l ≠ []) : tailsP l = 32 :: textsP l := by
  cases l with
  | nil => exact absurd rfl h
  | cons t r => rw [tailsP, textsP]
theorem intC_len {i : Int} (h : numB i = true) : (intC i).length ≤ 11 := by
  unfold numB at h
  rw [Bool.and_eq_true, decide_eq_true_eq, decide_eq_true_eq] at h
  cases i with
  | ofNat n =>
    have := TL.numL_len (n := n) (k := 10) (by decide) (by simp only [Int.ofNat_eq_natCast] at h; omega)
    show (numL n).length ≤ 11
    omega
  | negSucc n =>
    have := TL.numL_len (n := n + 1) (k := 10) (by decide) (by omega)
    show (45 :: numL (n + 1)).length ≤ 11
    rw [List.length_cons]
    omega
theorem leafT_len {t : Th} (h : t.worth false = true) : (leafT t).length ≤ 11 := by
  cases t with
  | bl b => cases b <;> decide
  | int i => exact intC_len h
  | str x =>
    have := wordB_len (show wordB x = true from h)
    show x.cps.toList.length ≤ 11
    rw [Array.length_toList]
    exact Nat.le_trans this (by decide)
  | tup l => exact Nat.zero_le _
  | non => exact Nat.zero_le _
  | fn l => exact Nat.zero_le _
  | oth => exact Nat.zero_le _
mutual
theorem textP_len : ∀ t : Th, t.worth false = true → (textP t).length + 2 ≤ 13 * t.nodes
  | .tup l, h => by
    have := textsP_len l (by simpa [Th.worth] using h)
    rw [textP, List.length_cons, List.length_append, List.length_singleton, Th.nodes]
    omega
  | .bl b, h => by rw [textP]; have := leafT_len h; simp only [Th.nodes]; omega
  | .int i, h => by rw [textP]; have := leafT_len h; simp only [Th.nodes]; omega
  | .str x, h => by rw [textP]; have := leafT_len h; simp only [Th.nodes]; omega
  | .non, h => by cases h
  | .fn _, h => by cases h
  | .oth, h => by cases h
theorem textsP_len : ∀ l : List Th, Th.worths false l = true → (textsP l).length ≤ 13 * Th.nodesL l
  | [], _ => Nat.zero_le _
  | t :: r, h => by
    rw [Th.worths, Bool.and_eq_true] at h
    have a := textP_len t h.1
    have b := tailsP_len r h.2
    rw [textsP, List.length_append, Th.nodesL]
    omega
theorem tailsP_len : ∀ l : List Th, Th.worths false l = true → (tailsP l).length ≤ 13 * Th.nodesL l
  | [], _ => Nat.zero_le _
  | t :: r, h => by
    rw [Th.worths, Bool.and_eq_true] at h
    have a := textP_len t h.1
    have b := tailsP_len r h.2
    rw [tailsP, List.length_cons, List.length_append, Th.nodesL]
    omega
end
/-! ### what waits: texts, worths -/
abbrev WaitI : Type := Sum (List Nat) Th
inductive Its (C : Addr) (G H : Hp) : List V → List WaitI → Prop
  | nil : Its C G H [] []
  | txt {T : Addr} {u : List Nat} {vs : List V} {ps : List WaitI} : H T = some (.tup [.bl true, .str (S u)]) → Its C G H vs ps → Its C G H (.ref T :: vs) (.inl u :: ps)
  | wrt {T : Addr} {x : V} {t : Th} {vs : List V} {ps : List WaitI} : H T = some (.tup [.bl false, x]) → Is C G x t → t.worth false = true → Its C G H vs ps → Its C G H (.ref T :: vs) (.inr t :: ps)
section
variable {C : Addr} {G H H' : Hp}
theorem Its.same (s : Same H H') : ∀ {vs : List V} {ps : List WaitI}, Its C G H vs ps → Its C G H' vs ps
  | _, _, .nil => .nil
  | _, _, .txt h r => .txt (s _ _ h) (r.same s)
  | _, _, .wrt h a b r => .wrt (s _ _ h) a b (r.same s)
theorem Its.app : ∀ {vs ws : List V} {ps qs : List WaitI}, Its C G H vs ps → Its C G H ws qs → Its C G H (vs ++ ws) (ps ++ qs)
  | _, _, _, _, .nil, s => s
  | _, _, _, _, .txt h r, s => .txt h (r.app s)
  | _, _, _, _, .wrt h a b r, s => .wrt h a b (r.app s)
theorem Its.len : ∀ {vs : List V} {ps : List WaitI}, Its C G H vs ps → vs.length = ps.length
  | _, _, .nil => rfl
  | _, _, .txt _ r => congrArg Nat.succ r.len
  | _, _, .wrt _ _ _ r => congrArg Nat.succ r.len
theorem Its.mut {p : Addr} {xs ys : List V} (hp : H p = some (.lst xs)) : ∀ {vs : List V} {ps : List WaitI}, Its C G H vs ps → Its C G (upd H p (.lst ys)) vs ps
  | _, _, .nil => .nil
  | _, _, .txt h r => .txt (by rw [upd_ne (fun z => by rw [z, hp] at h; cases h)]; exact h) (r.mut hp)
  | _, _, .wrt h a b r => .wrt (by rw [upd_ne (fun z => by rw [z, hp] at h; cases h)]; exact h) a b (r.mut hp)
theorem Its.last : ∀ {vs : List V} {ps : List WaitI}, Its C G H vs ps → vs ≠ [] → ∃ ws T qs it, vs = ws ++ [.ref T] ∧ ps = qs ++ [it] ∧ Its C G H ws qs ∧ ((∃ u, it = .inl u ∧ H T = some (.tup [.bl true, .str (S u)])) ∨ ∃ x t, it = .inr t ∧ H T = some (.tup [.bl false, x]) ∧ Is C G x t ∧ t.worth false = true)
  | _, _, .nil, h => absurd rfl h
  | _, _, .txt (vs := []) h r, _ => by
    cases r
    exact ⟨[], _, [], _, rfl, rfl, .nil, .inl ⟨_, rfl, h⟩⟩
  | _, _, .wrt (vs := []) h a b r, _ => by
    cases r
    exact ⟨[], _, [], _, rfl, rfl, .nil, .inr ⟨_, _, rfl, h, a, b⟩⟩
  | _, _, .txt (vs := c :: d) h r, _ => by
    obtain ⟨ws, T, qs, it, e1, e2, e3, e4⟩ := r.last (List.cons_ne_nil _ _)
    exact ⟨_ :: ws, T, _ :: qs, it, by rw [e1]; rfl, by rw [e2]; rfl, .txt h e3, e4⟩
  | _, _, .wrt (vs := c :: d) h a b r, _ => by
    obtain ⟨ws, T, qs, it, e1, e2, e3, e4⟩ := r.last (List.cons_ne_nil _ _)
    exact ⟨_ :: ws, T, _ :: qs, it, by rw [e1]; rfl, by rw [e2]; rfl, .wrt h a b e3, e4⟩
end
def itT : WaitI → List Nat
  | .inl u => u
  | .inr t => textP t
/-- what is yet to be written, the last one first -/
def outP : List WaitI → List Nat
  | [] => []
  | it :: r => outP r ++ itT it
theorem outP_app : ∀ (ps : List WaitI) (qs : List WaitI), outP (ps ++ qs) = outP qs ++ outP ps
  | [], qs => by rw [List.nil_append, outP, List.append_nil]
  | it :: r, qs => by rw [List.cons_append, outP, outP, outP_app r qs, List.append_assoc]
theorem outP_one (it : WaitI) : outP [it] = itT it := by rw [outP, outP, List.nil_append]
def itW : WaitI → Nat
  | .inl _ => 1
  | .inr t => 3 * t.nodes - 1
def meaP : List WaitI → Nat
  | [] => 0
  | it :: r => itW it + meaP r
theorem meaP_app : ∀ (ps qs : List WaitI), meaP (ps ++ qs) = meaP ps + meaP qs
  | [], qs => by rw [List.nil_append, meaP, Nat.zero_add]
  | it :: r, qs => by rw [List.cons_append, meaP, meaP, meaP_app r qs, Nat.add_assoc]
theorem itW_pos (it : WaitI) : 1 ≤ itW it := by
  cases it with
  | inl u => exact Nat.le_refl _
  | inr t =>
    have := t.nodes_pos
    show 1 ≤ 3 * t.nodes - 1
    omega
theorem len_mea : ∀ ps : List WaitI, ps.length ≤ meaP ps
  | [] => Nat.le_refl _
  | it :: r => by
    have := len_mea r
    have := itW_pos it
    rw [List.length_cons, meaP]
    omega
theorem join_nil : ∀ ws : List (List Nat), TL.joinL [] ws = ws.flatten
  | [] => rfl
  | [p] => by rw [List.flatten_cons, List.flatten_nil, List.append_nil]; rfl
  | p :: a :: r => by
    have z := join_nil (a :: r)
    rw [List.flatten_cons, ← z]
    show p ++ ([] ++ TL.joinL [] (a :: r)) = _
    rw [List.nil_append]
def spLeafText (K : PySem.W.Frag) : Sp := sp1 fun v H Q _ => ∃ t, Is (CF K) H v t ∧ t.isTup = false ∧ t.worth false = true ∧ Q (.str (S (leafT t))) H
def spText (K : PySem.W.Frag) : Sp := sp1 fun v H Q E => ∃ t, Is (CF K) H v t ∧ t.nodes ≤ 1000000 ∧ (t.worth false = true → ∀ H', Same H H' → Q (.str (S (textP t))) H') ∧ (t.worth false = false → ∀ H', Same H H' → E (.ref (He.ga K "BadWorth")) none H')
section
variable {P : Program} {w : World} {K : PySem.W.Frag} {mg : Str → Option Value} {base : Heap}
theorem ok_leaf_text (F : FnP K mg "leaf_text" s_leaf_text) (T : Tx K mg) : Cl P w K mg base 1 "leaf_text" ["worth"] (spLeafText K) := by
  refine cl_1 F sc_leaf_text (fun _ _ _ _ _ _ us hl => match us, hl with | [_], _ => rfl) fun cdv A outer s H v Q E hr h => ?_
  obtain ⟨t, h, ht, wt, q⟩ := h
  refine ⟨_, PSs.nox (pss_cons (ps_if (pt_val (pe_callB call_isi rfl T.z_isinstance PyProof.Rows.boot_isinstance (pa_cons (pv 0) (pa_cons (pe_bltn (v := .ty "bool") rfl T.z_bool (by decide +kernel) rfl) pa_nil)))) (pss_one (ps_ret (pe_ifExp (pt_val (pv 0)) pe_str pe_str))) pss_nil) (pss_one (ps_ret (pe_callTy (call_str_int.or SkE.call_str_str) rfl T.z_str PyProof.Rows.boot_str (pa_cons (pv 0) pa_nil))))), ?_⟩
  obtain ⟨u1, y1, k1⟩ := is_bool T.kf h
  refine ⟨_, rfl, v, _, u1, _, _, rfl, .ty _, y1, k1, _, rfl, ?_⟩
  cases h with
  | bl b =>
    refine iteT ⟨_, rfl, b, rfl, ?_⟩
    cases b with
    | true => exact iteT q
    | false => exact iteF q
  | int i =>
    refine iteF ⟨_, rfl, .inl ⟨i, rfl, ?_, ?_⟩⟩
    · have := numB_abs wt
      exact Nat.lt_of_le_of_lt (log2_num this) (by decide)
    · have e := int_text i
      show Q (.str (Str.ofString (toString i))) H
      rw [e]
      exact q
  | str x hx =>
    refine iteF ⟨_, rfl, .inr ⟨x, rfl, ?_⟩⟩
    have e : S (leafT (.str x)) = x := SX.S_tl x
    rw [e] at q
    exact q
  | tup _ _ => cases ht
  | fn _ _ => cases wt
  | non => cases wt
  | lst _ => cases wt
  | dct _ => cases wt
theorem ok_worth_text (F : FnP K mg "worth_text" s_worth_text) (T : Tx K mg) (B_need_plain : Cl P w K mg base 4 "need_plain" ["thing"] (spNeed K false)) (B_leaf_text : Cl P w K mg base 1 "leaf_text" ["worth"] (spLeafText K)) : Cl P w K mg base 5 "worth_text" ["worth"] (spText K) := by
  refine cl_1 F sc_worth_text (fun _ _ _ _ _ _ us hl => match us, hl with | [_], _ => rfl) fun cdv A outer s H v Q E hr h => ?_
  obtain ⟨t, h, hn, q, qe⟩ := h
  refine ⟨_, (pss_cons (ps_expr (pe_bS B_need_plain hr (by omega) rfl (fun σ => passAt (takes_of rfl rfl rfl rfl) σ) (pa_cons (pv 0) pa_nil))) (pss_cons (ps_set (i := 1) sc_worth_text.nd rfl (Or.inl rfl) (pe_lst pa_nil)) (pss_cons (ps_set (i := 2) sc_worth_text.nd rfl (Or.inl rfl) (pe_lst (pa_cons (pe_tup (pa_cons pe_bl (pa_cons (pv 0) pa_nil))) pa_nil))) (pss_cons (ps_while (passes_of rfl) (pt_cmpR (op_neNil hr.units0) (pv 2) (pe_lst pa_nil) (nomark _)) (pss_cons (ps_asg (pe_bm0 PySem.F.plainAttrs_list PySem.F.slot_list_pop PySem.F.type_list_pop mt_pop (pv 2)) (pg_tup rfl (pgs_cons (pg_name (i := 3) sc_worth_text.nd rfl (Or.inl rfl)) (pgs_cons (pg_name (i := 4) sc_worth_text.nd rfl (Or.inl rfl)) pgs_nil)))) (pss_one (ps_if (pt_val (pv 3)) (pss_one (ps_expr (pe_bm PySem.F.plainAttrs_list PySem.F.slot_list_append PySem.F.type_list_append mt_append (pv 1) (pa_cons (pv 4) pa_nil)))) (pss_one (ps_if (pt_val (pe_callB call_isi rfl T.z_isinstance PyProof.Rows.boot_isinstance (pa_cons (pv 4) (pa_cons (pe_bltn (v := .ty "tuple") rfl T.z_tuple (by decide +kernel) rfl) pa_nil)))) (pss_cons (ps_expr (pe_bm PySem.F.plainAttrs_list PySem.F.slot_list_append PySem.F.type_list_append mt_append (pv 1) (pa_cons pe_str pa_nil))) (pss_cons (ps_expr (pe_bm PySem.F.plainAttrs_list PySem.F.slot_list_append PySem.F.type_list_append mt_append (pv 2) (pa_cons (pe_tup (pa_cons pe_bl (pa_cons pe_str pa_nil))) pa_nil))) (pss_one (ps_for (passes_of rfl) rfl (pi_range3 rfl T.z_range (pa_cons (pe_op op_sub (pe_callB call_len_seq rfl T.z_len PySem.boot_len (pa_cons (pv 4) pa_nil)) pe_int) (pa_cons (pe_un un_neg pe_int) (pa_cons (pe_un un_neg pe_int) pa_nil)))) (pg_name (i := 5) sc_worth_text.nd rfl (Or.inl rfl)) (pss_cons (ps_expr (pe_bm PySem.F.plainAttrs_list PySem.F.slot_list_append PySem.F.type_list_append mt_append (pv 2) (pa_cons (pe_tup (pa_cons pe_bl (pa_cons (pe_ix ix_tup (pv 4) (pv 5) (fun _ _ => rfl)) pa_nil))) pa_nil))) (pss_one (ps_if (pt_cmpR op_gt (pv 5) pe_int (nomark _)) (pss_one (ps_expr (pe_bm PySem.F.plainAttrs_list PySem.F.slot_list_append PySem.F.type_list_append mt_append (pv 2) (pa_cons (pe_tup (pa_cons pe_bl (pa_cons pe_str pa_nil))) pa_nil)))) pss_nil))))))) (pss_one (ps_expr (pe_bm PySem.F.plainAttrs_list PySem.F.slot_list_append PySem.F.type_list_append mt_append (pv 1) (pa_cons (pe_b B_leaf_text hr (by omega) rfl passL (pa_cons (pv 4) pa_nil)) pa_nil)))))))))) (pss_one (ps_ret (pe_join pe_str (pv 1)))))))), ?_⟩
  refine ⟨_, rfl, _, rfl, t, h, hn, fun wt H1 s1' => ?_, fun wt H1 s1' => qe wt _ s1'⟩
  refine stepN ?_
  dsimp only
  have tl := textP_len t wt
  refine ⟨by show 0 ≤ sizeLine; decide, fun D nD => ?_⟩
  refine ⟨_, rfl, s2, fun p0 np0 => ⟨Fl.s1, fun p np => ?_⟩⟩
  have sD := same_new nD (.lst [])
  have s0 := same_new np0 (.tup [.bl false, v])
  have sp := same_new np (.lst [.ref p0])
  have nD' : H D = none := s1'.free nD
  have np' : H p = none := (s1'.trans (sD.trans s0)).free np
  have Dp : D ≠ p := ne_of_none (s0 _ _ upd_same) np
  refine ⟨fun m σ H2 => ∃ (ws : List (List Nat)) (xs : List V) (ps : List WaitI) (o3 o4 o5 : Option V), σ = [some v, some (.ref D), some (.ref p), o3, o4, o5] ∧ Same H H2 ∧ H2 D = some (.lst (ws.map fun u => V.str (S u))) ∧ H2 p = some (.lst xs) ∧ Its (CF K) H H2 xs ps ∧ ws.flatten ++ outP ps = textP t ∧ m = meaP ps ∧ meaP ps + ws.length ≤ 3 * t.nodes,
    ⟨_, [], [.ref p0], [.inr t], none, none, none, rfl, s1'.trans (sD.trans (s0.trans sp)), (s0.trans sp) _ _ upd_same, upd_same, .wrt (sp _ _ upd_same) h wt .nil, by rw [outP_one]; rfl, rfl, ?_⟩, ?_⟩
  · show 3 * t.nodes - 1 + 0 + 0 ≤ _
    omega
  rintro m σ H2 ⟨ws, xs, ps, o3, o4, o5, rfl, s2', hD, hp, hi, ho, rfl, hm⟩
  refine ⟨_, rfl, (by show 0 ≤ sizeLine; decide), fun d nd => ⟨p, d, xs, rfl, rfl, SqL.of (by rw [upd_ne (ne_of_none hp nd)]; exact hp), SqL.of upd_same, _, rfl, ?_⟩⟩
  have sd := same_new nd (.lst [])
  have s3' := s2'.trans sd
  have hp3 := sd _ _ hp
  have hD3 := sd _ _ hD
  have hi3 := hi.same sd
  generalize upd H2 d (.lst []) = H3 at s3' hp3 hD3 hi3 ⊢
  by_cases hx : xs = []
  · subst hx
    cases hi
    refine iteF ?_
    have hf : ws.flatten = textP t := by
      rw [← ho]
      show _ = ws.flatten ++ []
      rw [List.append_nil]
    refine ⟨⟨_, rfl⟩, _, rfl, _, D, ws.map S, rfl, rfl, .inl ?_, ?_, ?_⟩
    · rw [List.map_map]
      exact SqL.of hD3
    · have e1 : ((ws.map S).map fun x => x.length).sum = ws.flatten.length := by
        rw [List.map_map, List.length_flatten]
        exact congrArg List.sum (List.map_congr_left fun u _ => SX.S_len u)
      rw [e1, hf]
      show _ + _ * 0 ≤ _
      omega
    · have e2 : Txt.join ("" : Str) (ws.map S) = S (textP t) := by
        have z := SX.join_S [] ws
        rw [join_nil, hf] at z
        exact z
      show Q (.str (Txt.join ("" : Str) (ws.map S))) H3
      rw [e2]
      exact q wt _ s3'
  obtain ⟨ys, Ta, qs, it, rfl, rfl, hq, hit⟩ := hi3.last hx
  have hne : (!(ys ++ [V.ref Ta]).isEmpty) = true := by cases ys <;> rfl
  show (if (!(ys ++ [V.ref Ta]).isEmpty) = true then _ else _)
  rw [hne]
  refine iteT ⟨_, fun σ' H' z => z, ?_⟩
  refine ⟨_, rfl, .inl ⟨rfl, _, .inl (.inl hp3)⟩, p, _, V.ref Ta, rfl, rfl, hp3, (by simp), ?_⟩
  rw [List.dropLast_concat]
  have hq4 := hq.mut (ys := ys) hp3
  have pD : D ≠ p := Dp
  have hD4 : upd H3 p (.lst ys) D = some (.lst (ws.map fun u => V.str (S u))) := by
    rw [upd_ne pD]
    exact hD3
  have hp4 : upd H3 p (.lst ys) p = some (.lst ys) := upd_same
  have s4' : Same H (upd H3 p (.lst ys)) := same_mut s3' np'
  have hT4 : ∀ o, H3 Ta = some o → (∀ l, o ≠ .lst l) → upd H3 p (.lst ys) Ta = some o := fun o e n => by
    rw [upd_ne (fun z => by rw [z, hp3] at e; injection e with e; exact n _ e.symm)]
    exact e
  generalize upd H3 p (.lst ys) = H4 at hq4 hD4 hp4 s4' hT4 ⊢
  rw [meaP_app] at hm
  have em : meaP [it] = itW it := by rw [meaP, meaP, Nat.add_zero]
  rw [em] at hm
  rw [outP_app, outP_one] at ho
  have yl : ys.length ≤ meaP qs := by rw [hq.len]; exact len_mea qs
  have wl : (ws.map fun u => V.str (S u)).length < sizeLine := by rw [List.length_map, sizeLine_eq]; omega
  have ip := itW_pos it
  have wr : ∀ (u : List Nat) (z3 z4 z5 : Option V), 1 ≤ itW it → (∀ r, ws.flatten ++ (itT it ++ r) = ws.flatten ++ (u ++ r)) → ∃ m', m' < meaP (qs ++ [it]) ∧ ∃ (ws' : List (List Nat)) (xs : List V) (ps : List WaitI) (o3 o4 o5 : Option V), [some v, some (.ref D), some (.ref p), z3, z4, z5] = [some v, some (.ref D), some (.ref p), o3, o4, o5] ∧ Same H (upd H4 D (.lst ((ws.map fun u => V.str (S u)) ++ [V.str (S u)]))) ∧ (upd H4 D (.lst ((ws.map fun u => V.str (S u)) ++ [V.str (S u)]))) D = some (.lst (ws'.map fun u => V.str (S u))) ∧ (upd H4 D (.lst ((ws.map fun u => V.str (S u)) ++ [V.str (S u)]))) p = some (.lst xs) ∧ Its (CF K) H (upd H4 D (.lst ((ws.map fun u => V.str (S u)) ++ [V.str (S u)]))) xs ps ∧ ws'.flatten ++ outP ps = textP t ∧ m' = meaP ps ∧ meaP ps + ws'.length ≤ 3 * t.nodes := fun u z3 z4 z5 h1 h2 =>
    ⟨_, by rw [meaP_app, em]; omega, ws ++ [u], ys, qs, z3, z4, z5, rfl, same_mut s4' nD', by rw [upd_same, List.map_append]; rfl, by rw [upd_ne pD.symm]; exact hp4, hq4.mut hD4, by
      rw [List.flatten_append, ← ho, List.append_assoc]
      have z := h2 (outP qs)
      rw [z]
      simp only [List.flatten_cons, List.flatten_nil, List.append_nil], rfl, by rw [List.length_append, List.length_singleton]; omega⟩
  rcases hit with ⟨u, rfl, hT⟩ | ⟨x, t1, rfl, hT, hx1, wt1⟩
  · have hT' := hT4 _ hT (fun l z => by cases z)
    refine ⟨Ta, _, rfl, SqT.of hT', rfl, _, _, rfl, _, _, rfl, rfl, ?_⟩
    refine ⟨_, rfl, true, rfl, iteT ?_⟩
    refine ⟨_, rfl, .inl ⟨rfl, _, .inl (.inl hD4)⟩, _, rfl, D, _, _, rfl, rfl, hD4, wl, ?_⟩
    exact wr u _ _ _ ip (fun r => rfl)
  · have hT' := hT4 _ hT (fun l z => by cases z)
    refine ⟨Ta, _, rfl, SqT.of hT', rfl, _, _, rfl, _, _, rfl, rfl, ?_⟩
    refine ⟨_, rfl, false, rfl, iteF ?_⟩
    obtain ⟨u1, y1, k1⟩ := is_tup T.kf (hx1.same s4')
    refine ⟨_, rfl, _, _, u1, _, _, rfl, .ty _, y1, k1, _, rfl, ?_⟩
    cases et : t1.isTup with
    | false =>
      refine iteF ⟨_, rfl, .inl ⟨rfl, _, .inl (.inl hD4)⟩, _, rfl, _, rfl, t1, hx1.same s4', et, wt1, D, _, _, rfl, rfl, hD4, wl, ?_⟩
      exact wr (leafT t1) _ _ _ ip (fun r => by show ws.flatten ++ (textP t1 ++ r) = _; rw [text_leaf et])
    | true =>
      cases hx1 with
      | tup e1 i1 =>
        rename_i a1 xs1 l
        have il := i1.len
        have ln := len_nodesL l
        have wl1 : Th.worths false l = true := by simpa [Th.worth] using wt1
        have ew : itW (.inr (.tup l)) = 3 * Th.nodesL l + 2 := by
          show 3 * (Th.tup l).nodes - 1 = _
          rw [Th.nodes]
          omega
        rw [ew] at hm
        refine iteT ⟨_, rfl, .inl ⟨rfl, _, .inl (.inl hD4)⟩, D, _, _, rfl, rfl, hD4, wl, ?_⟩
        refine stepN ?_
        dsimp only
        have s5' : Same H (upd H4 D (.lst ((ws.map fun u => V.str (S u)) ++ [V.str "("]))) := same_mut s4' nD'
        have hD5 : (upd H4 D (.lst ((ws.map fun u => V.str (S u)) ++ [V.str "("]))) D = some (.lst ((ws ++ [[40]]).map fun u => V.str (S u))) := by
          rw [upd_same, List.map_append]
          rfl
        have hp5 : (upd H4 D (.lst ((ws.map fun u => V.str (S u)) ++ [V.str "("]))) p = some (.lst ys) := by
          rw [upd_ne pD.symm]
          exact hp4
        have hq5 := hq4.mut (ys := (ws.map fun u => V.str (S u)) ++ [V.str "("]) hD4
        generalize upd H4 D (.lst ((ws.map fun u => V.str (S u)) ++ [V.str "("])) = H5 at s5' hD5 hp5 hq5 ⊢
        have grow : ∀ {H6 : Hp} {vs : List V} {items : List WaitI} {o : HO} {T : Addr} {it : WaitI}, Same H H6 → H6 D = some (.lst ((ws ++ [[40]]).map fun u => V.str (S u))) → H6 p = some (.lst vs) → Its (CF K) H H6 vs items → H6 T = none → Its (CF K) H (upd H6 T o) [.ref T] [it] →
            Same H (upd (upd H6 T o) p (.lst (vs ++ [.ref T]))) ∧ (upd (upd H6 T o) p (.lst (vs ++ [.ref T]))) D = some (.lst ((ws ++ [[40]]).map fun u => V.str (S u))) ∧ (upd (upd H6 T o) p (.lst (vs ++ [.ref T]))) p = some (.lst (vs ++ [.ref T])) ∧ Its (CF K) H (upd (upd H6 T o) p (.lst (vs ++ [.ref T]))) (vs ++ [.ref T]) (items ++ [it]) := fun {H6 vs items o T it} a1 a2 a3 a4 a5 a6 =>
          ⟨same_mut (a1.trans (same_new a5 o)) np', by rw [upd_ne pD]; exact (same_new a5 o) _ _ a2, upd_same, ((a4.same (same_new a5 o)).app a6).mut ((same_new a5 o) _ _ a3)⟩
        have ylen : ys.length < sizeLine := by rw [sizeLine_eq]; omega
        refine ⟨_, rfl, .inl ⟨rfl, _, .inl (.inl hp5)⟩, s2, fun q1 nq1 => ⟨p, _, _, rfl, rfl, (same_new nq1 _) _ _ hp5, ylen, ?_⟩⟩
        obtain ⟨b1, b2, b3, b4⟩ := grow (o := .tup [.bl true, .str ")"]) (it := .inl [41]) s5' hD5 hp5 hq5 nq1 (.txt upd_same .nil)
        refine stepN ?_
        dsimp only
        generalize upd (upd H5 q1 (.tup [.bl true, .str ")"])) p (.lst (ys ++ [.ref q1])) = H7 at b1 b2 b3 b4 ⊢
        refine ⟨_, rfl, a1, xs1, rfl, .inr (SqT.of (b1 _ _ e1)), _, _, rfl, rfl, _, rfl, _, rfl, _, _, _, _, rfl, RgC.neg (by omega) (by have := sizeLine_eq; omega) (by decide) (by decide), ?_⟩
        rw [show (((xs1.length : Nat) : Int) - 1 - -1).toNat = l.length by omega]
        have hil : xs1.length = l.length := il
        refine for_rangeC (fun k σ H' => ∃ (vs : List V) (items : List WaitI) (z5 : Option V), σ = [some v, some (.ref D), some (.ref p), some (.bl false), some (.ref a1), z5] ∧ Same H H' ∧ H' D = some (.lst ((ws ++ [[40]]).map fun u => V.str (S u))) ∧ H' p = some (.lst vs) ∧ Its (CF K) H H' vs items ∧ outP items = (if 0 < k ∧ k < l.length then [32] else []) ++ (textsP (l.drop (l.length - k)) ++ 41 :: outP qs) ∧ meaP items ≤ meaP qs + 1 + 3 * Th.nodesL (l.drop (l.length - k)))
          ⟨_, _, o5, rfl, b1, b2, b3, b4, ?_, ?_⟩ ?_ ?_
        · rw [outP_app, outP_one, if_neg (by omega), Nat.sub_zero, List.drop_length, textsP]
          rfl
        · rw [meaP_app]
          show meaP qs + (1 + 0) ≤ _
          omega
        · rintro k σ H8 hk ⟨vs, items, z5, rfl, c1, c2, c3, c4, c5, c6⟩
          have hpl : l.length - (k + 1) < l.length := by omega
          obtain ⟨x, hx⟩ : ∃ x, xs1[l.length - (k + 1)]? = some x := ⟨_, List.getElem?_eq_getElem (by omega)⟩
          obtain ⟨tp, htp, ip1⟩ := i1.get hx
          have me := List.mem_of_getElem? htp
          have wtp := worth_mem me wl1
          have ed : l.drop (l.length - (k + 1)) = tp :: l.drop (l.length - k) := by
            rw [List.drop_eq_getElem_cons hpl, (List.getElem?_eq_some_iff.mp htp).2, show l.length - (k + 1) + 1 = l.length - k by omega]
          have ev : ((xs1.length : Nat) : Int) - 1 + ((k : Nat) : Int) * -1 = ((l.length - (k + 1) : Nat) : Int) := by omega
          rw [ev]
          have vlen : vs.length < sizeLine := by
            have := c4.len
            have := len_mea items
            have dn : Th.nodesL (l.drop (l.length - k)) ≤ Th.nodesL l := by
              have z := nodesL_app (l.take (l.length - k)) (l.drop (l.length - k))
              rw [List.take_append_drop] at z
              omega
            rw [sizeLine_eq]
            omega
          have tpp := tp.nodes_pos
          refine ⟨_, rfl, .inl ⟨rfl, _, .inl (.inl c3)⟩, _, rfl, _, rfl, a1, _, _, x, rfl, rfl, SqT.of (c1 _ _ e1), atI_nat hx, s2, fun q2 nq2 => ⟨p, _, _, rfl, rfl, (same_new nq2 _) _ _ c3, vlen, ?_⟩⟩
          obtain ⟨d1, d2, d3, d4⟩ := grow (o := .tup [.bl false, x]) (it := .inr tp) c1 c2 c3 c4 nq2 (.wrt upd_same ip1 wtp .nil)
          refine stepN ?_
          dsimp only
          generalize upd (upd H8 q2 (.tup [.bl false, x])) p (.lst (vs ++ [.ref q2])) = H9 at d1 d2 d3 d4 ⊢
          have c5' : outP (items ++ [.inr tp]) = textsP (l.drop (l.length - (k + 1))) ++ 41 :: outP qs := by
            rw [outP_app, outP_one, c5, ed, textsP]
            show textP tp ++ _ = _
            by_cases k0 : k = 0
            · rw [if_neg (by omega), k0, Nat.sub_zero, List.drop_length, textsP, tailsP]
              simp
            · rw [if_pos ⟨by omega, hk⟩, tails_cons (by
                intro z
                have := congrArg List.length z
                rw [List.length_drop] at this
                simp at this
                omega)]
              simp
          have c6' : meaP (items ++ [.inr tp]) ≤ meaP qs + 3 * Th.nodesL (l.drop (l.length - (k + 1))) := by
            rw [meaP_app, ed, Th.nodesL]
            show _ + (3 * tp.nodes - 1 + 0) ≤ _
            omega
          refine ⟨_, rfl, _, _, rfl, rfl, _, rfl, ite2 (fun cc => ?_) (fun cc => ?_)⟩
          · have k1 : k + 1 < l.length := by
              have := of_decide_eq_true cc
              omega
            have v2 : (vs ++ [V.ref q2]).length < sizeLine := by
              have := c4.len
              have := len_mea items
              have dn : Th.nodesL (l.drop (l.length - k)) ≤ Th.nodesL l := by
                have z := nodesL_app (l.take (l.length - k)) (l.drop (l.length - k))
                rw [List.take_append_drop] at z
                omega
              rw [sizeLine_eq, List.length_append, List.length_singleton]
              omega
            refine ⟨_, rfl, .inl ⟨rfl, _, .inl (.inl d3)⟩, s2, fun q3 nq3 => ⟨p, _, _, rfl, rfl, (same_new nq3 _) _ _ d3, v2, ?_⟩⟩
            obtain ⟨f1, f2, f3, f4⟩ := grow (o := .tup [.bl true, .str " "]) (it := .inl [32]) d1 d2 d3 d4 nq3 (.txt upd_same .nil)
            refine ⟨_, _, _, rfl, f1, f2, f3, f4, ?_, ?_⟩
            · rw [outP_app, outP_one, c5', if_pos ⟨by omega, k1⟩]
              rfl
            · rw [meaP_app]
              show _ + (1 + 0) ≤ _
              omega
          · have k1 : ¬ k + 1 < l.length := fun z => cc (decide_eq_true (by omega))
            refine ⟨_, _, _, rfl, d1, d2, d3, d4, ?_, ?_⟩
            · rw [c5', if_neg (fun z => k1 z.2)]
              rfl
            · omega
        · rintro σ H8 ⟨vs, items, z5, rfl, c1, c2, c3, c4, c5, c6⟩
          rw [Nat.sub_self, List.drop_zero] at c5 c6
          refine ⟨_, ?_, ws ++ [[40]], vs, items, _, _, _, rfl, c1, c2, c3, c4, ?_, rfl, ?_⟩
          · rw [meaP_app, em, ew]
            omega
          · rw [c5, if_neg (fun z => Nat.lt_irrefl _ z.2), ← ho, List.flatten_append]
            show _ = ws.flatten ++ (textP (.tup l) ++ outP qs)
            rw [textP]
            simp
          · rw [List.length_append, List.length_singleton]
            omega
      | bl _ => cases et
      | int _ => cases et
      | str _ _ => cases et
      | fn _ _ => cases et
      | non => cases et
      | lst _ => cases et
      | dct _ => cases et
end
end Fl
/-! texts.py: read -/
namespace Fl
open PySem PySem.Spec PyProof.Rows L2
open SX (S)
abbrev s_read : Stmt := top 31
theorem sc_read : FnScope ["text", "rows", "word", "done"] ["text"] (defScope s_read) := ⟨rfl, rfl, rfl, by decide +kernel, rfl, by decide +kernel, by decide +kernel⟩
/-- the first row of all: rows with the latest one first -/
def lowRow : List (List Th) → List Th
  | [] => []
  | [r] => r
  | _ :: r :: s => lowRow (r :: s)
def putTop (t : Th) : List (List Th) → Option (List (List Th))
  | r :: s => some ((r ++ [t]) :: s)
  | [] => none
def closeP : List (List Th) → Option (List (List Th))
  | d :: s => putTop (.tup d) s
  | [] => none
def leafStep (rows : List (List Th)) : Option Th → Option (List (List Th))
  | some t => putTop t rows
  | none => none
def stepP (rows : List (List Th)) (w : List Nat) : Option (List (List Th)) :=
  if decide (1 < rows.length) || (lowRow rows).isEmpty then
    if w = [40] then (if rows.length + 1 ≤ 101 then some ([] :: rows) else none)
    else if w = [41] then (if 1 < rows.length then closeP rows else none)
    else leafStep rows (leafP w)
  else none
def stepsP : List (List Th) → List (List Nat) → Option (List (List Th))
  | rows, [] => some rows
  | rows, w :: r => match stepP rows w with
    | some rows' => stepsP rows' r
    | none => none
def oneP : Option (List (List Th)) → Option Th
  | some [[t]] => some t
  | _ => none
def readP (cs : List Nat) : Option Th := if cs.length ≤ 20000 then oneP (stepsP [[]] (tok [] cs)) else none
/-! ### the rows in the heap -/
inductive Rws (C : Addr) (G H : Hp) : List Addr → List (List Th) → Prop
  | nil : Rws C G H [] []
  | cons {D : Addr} {xs : List V} {ts : List Th} {Ds : List Addr} {rows : List (List Th)} : H D = some (.lst xs) → Iss C H xs ts → G D = none → D ∉ Ds → Rws C G H Ds rows → Rws C G H (D :: Ds) (ts :: rows)
section
variable {C : Addr} {G H H' : Hp}
theorem Rws.len : ∀ {Ds : List Addr} {rows : List (List Th)}, Rws C G H Ds rows → Ds.length = rows.length
  | _, _, .nil => rfl
  | _, _, .cons _ _ _ _ r => congrArg Nat.succ r.len
theorem Rws.keep (im : Im H H') : ∀ {Ds : List Addr} {rows : List (List Th)}, (∀ D ∈ Ds, ∀ o, H D = some o → H' D = some o) → Rws C G H Ds rows → Rws C G H' Ds rows
  | _, _, _, .nil => .nil
  | _, _, h, .cons a b c d r => .cons (h _ List.mem_cons_self _ a) (b.ik im) c d (r.keep im fun D m => h D (List.mem_cons_of_mem _ m))
theorem Rws.same (s : Same H H') {Ds : List Addr} {rows : List (List Th)} (r : Rws C G H Ds rows) : Rws C G H' Ds rows := r.keep (im_same s) fun _ _ _ e => s _ _ e
/-- another list is changed -/
theorem Rws.mut {p : Addr} {xs ys : List V} (hp : H p = some (.lst xs)) {Ds : List Addr} {rows : List (List Th)} (n : p ∉ Ds) (r : Rws C G H Ds rows) : Rws C G (upd H p (.lst ys)) Ds rows :=
  r.keep (im_lst hp) fun D m o e => by rw [upd_ne (fun z => n (by rw [← z]; exact m))]; exact e
theorem Rws.get : ∀ {Ds : List Addr} {rows : List (List Th)}, Rws C G H Ds rows → ∀ D ∈ Ds, ∃ xs, H D = some (.lst xs) ∧ G D = none
  | _, _, .cons a b c d r, D, m => by
    rcases List.mem_cons.mp m with rfl | m
    · exact ⟨_, a, c⟩
    · exact r.get D m
/-- the first row of all -/
theorem Rws.low : ∀ {Ds : List Addr} {rows : List (List Th)}, Rws C G H Ds rows → Ds ≠ [] → ∃ Es D xs, Ds = Es ++ [D] ∧ H D = some (.lst xs) ∧ Iss C H xs (lowRow rows)
  | _, _, .nil, h => absurd rfl h
  | _, _, .cons (Ds := []) a b c d r, _ => by
    cases r
    exact ⟨[], _, _, rfl, a, b⟩
  | _, _, .cons (Ds := e :: f) a b c d r, _ => by
    cases r with
    | cons a2 b2 c2 d2 r2 =>
      obtain ⟨Es, D, xs, e1, e2, e3⟩ := (Rws.cons a2 b2 c2 d2 r2).low (List.cons_ne_nil _ _)
      exact ⟨_ :: Es, D, xs, by rw [e1]; rfl, e2, e3⟩
end
theorem flush_len (u : List Nat) : (flush u).length ≤ u.length := by
  cases u with
  | nil => exact Nat.le_refl _
  | cons _ _ => exact Nat.succ_le_succ (Nat.zero_le _)
theorem tok_len : ∀ (cs u : List Nat), (tok u cs).length ≤ u.length + cs.length
  | [], u => by rw [tok]; exact flush_len u
  | c :: r, u => by
    rw [tok]
    split
    · have a := flush_len u
      have b := tok_len r []
      rw [List.length_append, List.length_append, List.length_cons]
      simp only [List.length_nil] at b
      split <;> simp only [List.length_cons, List.length_nil] <;> omega
    · have b := tok_len r (u ++ [c])
      rw [List.length_append, List.length_singleton] at b
      rw [List.length_cons]
      omega
theorem tok_ne : ∀ (cs u : List Nat), ∀ w ∈ tok u cs, w ≠ []
  | [], u, w, h => by
    rw [tok] at h
    cases u with
    | nil => cases h
    | cons a b =>
      rw [List.mem_singleton.mp h]
      exact List.cons_ne_nil _ _
  | c :: r, u, w, h => by
    rw [tok] at h
    split at h
    · rcases List.mem_append.mp h with h | h
      · cases u with
        | nil => cases h
        | cons a b =>
          rw [List.mem_singleton.mp h]
          exact List.cons_ne_nil _ _
      · rcases List.mem_append.mp h with h | h
        · split at h
          · rw [List.mem_singleton.mp h]
            exact List.cons_ne_nil _ _
          · cases h
        · exact tok_ne r [] w h
    · exact tok_ne r _ w h
theorem tok_sz : ∀ (cs u : List Nat), ∀ w ∈ tok u cs, w.length ≤ u.length + cs.length
  | [], u, w, h => by
    rw [tok] at h
    cases u with
    | nil => cases h
    | cons a b =>
      rw [List.mem_singleton.mp h]
      exact Nat.le_refl _
  | c :: r, u, w, h => by
    rw [tok] at h
    split at h
    · rcases List.mem_append.mp h with h | h
      · cases u with
        | nil => cases h
        | cons a b =>
          rw [List.mem_singleton.mp h]
          omega
      · rcases List.mem_append.mp h with h | h
        · split at h
          · rw [List.mem_singleton.mp h]
            simp only [List.length_cons, List.length_nil]
            omega
          · cases h
        · have := tok_sz r [] w h
          simp only [List.length_cons, List.length_nil] at this ⊢
          omega
    · have := tok_sz r _ w h
      rw [List.length_append, List.length_singleton] at this
      rw [List.length_cons]
      omega
theorem one_row {rows : List (List Th)} {d : List Th} (h : rows.length = 1) (hd : lowRow rows = d) : rows = [d] := by
  cases rows with
  | nil => cases h
  | cons r s =>
    cases s with
    | nil => rw [← hd]; rfl
    | cons _ _ => cases h
theorem rev_neg {α : Type} (x : α) (l : List α) : atI (x :: l).reverse (-1) = some x := by
  rw [List.reverse_cons]
  exact atI_last _ _
theorem rev_zero {α : Type} (x : α) (l : List α) : atI (l ++ [x]).reverse 0 = some x := atI_nat (j := 0) (by simp)
theorem str_one (w : List Nat) (c : Nat) (z : Str) (hz : z = S [c]) : decide (V.str (S w) = V.str z) = decide (w = [c]) := by
  subst hz
  exact decide_eq_decide.mpr ⟨fun h => by injection h with h; exact SX.S_inj h, fun h => by rw [h]⟩
def spRead (K : PySem.W.Frag) : Sp := sp1 fun v H Q E => ((∃ cs, v = .str (S cs) ∧ cs.length ≤ 100000 ∧ (∀ t u H', readP cs = some t → Same H H' → Is (CF K) H' u t → Q u H') ∧ (∀ H', readP cs = none → Same H H' → E (.ref (He.ga K "NoText")) none H')) ∨
  ∃ t, Is (CF K) H v t ∧ t.isStr = false ∧ ∀ H', Same H H' → E (.ref (He.ga K "NoText")) none H')
section
variable {P : Program} {w : World} {K : PySem.W.Frag} {mg : Str → Option Value} {base : Heap}
theorem ok_read (F : FnP K mg "read" s_read) (T : Tx K mg) (B_need : Cl P w K mg base 1 "need" ["is_good"] (spNeedB K)) (B_words_in : Cl P w K mg base 1 "words_in" ["text"] (spWordsIn K)) (B_leaf_in : Cl P w K mg base 3 "leaf_in" ["word"] (spLeafIn K)) : Cl P w K mg base 4 "read" ["text"] (spRead K) := by
  refine cl_1 F sc_read (fun _ _ _ _ _ _ us hl => match us, hl with | [_], _ => rfl) fun cdv A outer s H v Q E hr h => ?_
  refine ⟨_, (pss_cons (ps_expr (pe_bS B_need hr (by omega) rfl (fun σ => passAt (takes_of rfl rfl rfl rfl) σ) (pa_cons (pe_callB call_isi rfl T.z_isinstance PyProof.Rows.boot_isinstance (pa_cons (pv 0) (pa_cons (pe_bltn (v := .ty "str") rfl T.z_str (by decide +kernel) rfl) pa_nil))) pa_nil))) (pss_cons (ps_expr (pe_bS B_need hr (by omega) rfl (fun σ => passAt (takes_of rfl rfl rfl rfl) σ) (pa_cons (pe_cmpR op_le (pe_callB call_len_str rfl T.z_len PySem.boot_len (pa_cons (pv 0) pa_nil)) (pe_gk rfl T.c_MOST_TEXT) (nomark _)) pa_nil))) (pss_cons (ps_set (i := 1) sc_read.nd rfl (Or.inl rfl) (pe_lst (pa_cons (pe_lst pa_nil) pa_nil))) (pss_cons (ps_for (passes_of rfl) rfl (pi_list (pe_b B_words_in hr (by omega) rfl passL (pa_cons (pv 0) pa_nil))) (pg_name (i := 2) sc_read.nd rfl (Or.inl rfl)) (pss_cons (ps_expr (pe_bS B_need hr (by omega) rfl (fun σ => passAt (takes_of rfl rfl rfl rfl) σ) (pa_cons (pe_or (pe_cmpR op_gt (pe_callB call_len_seq rfl T.z_len PySem.boot_len (pa_cons (pv 1) pa_nil)) pe_int (nomark _)) (pe_one (pe_cmpR (op_eqNil hr.units0) (pe_ix ix_list (pv 1) pe_int (fun _ _ => rfl)) (pe_lst pa_nil) (nomark _)))) pa_nil))) (pss_one (ps_if (pt_cmpR op_eq (pv 2) pe_str (nomark _)) (pss_cons (ps_expr (pe_bm PySem.F.plainAttrs_list PySem.F.slot_list_append PySem.F.type_list_append mt_append (pv 1) (pa_cons (pe_lst pa_nil) pa_nil))) (pss_one (ps_expr (pe_bS B_need hr (by omega) rfl (fun σ => passAt (takes_of rfl rfl rfl rfl) σ) (pa_cons (pe_cmpR op_le (pe_callB call_len_seq rfl T.z_len PySem.boot_len (pa_cons (pv 1) pa_nil)) (pe_op op_add (pe_gk rfl T.c_MOST_BRACKETS) pe_int) (nomark _)) pa_nil))))) (pss_one (ps_if (pt_cmpR op_eq (pv 2) pe_str (nomark _)) (pss_cons (ps_expr (pe_bS B_need hr (by omega) rfl (fun σ => passAt (takes_of rfl rfl rfl rfl) σ) (pa_cons (pe_cmpR op_gt (pe_callB call_len_seq rfl T.z_len PySem.boot_len (pa_cons (pv 1) pa_nil)) pe_int (nomark _)) pa_nil))) (pss_cons (ps_set (i := 3) sc_read.nd rfl (Or.inl rfl) (pe_tupleOf rfl T.z_tuple (pe_bm0 PySem.F.plainAttrs_list PySem.F.slot_list_pop PySem.F.type_list_pop mt_pop (pv 1)))) (pss_one (ps_expr (pe_bm PySem.F.plainAttrs_list PySem.F.slot_list_append PySem.F.type_list_append mt_append (pe_ix ix_list (pv 1) (pe_un un_neg pe_int) (fun _ _ => rfl)) (pa_cons (pv 3) pa_nil)))))) (pss_one (ps_expr (pe_bm PySem.F.plainAttrs_list PySem.F.slot_list_append PySem.F.type_list_append mt_append (pe_ix ix_list (pv 1) (pe_un un_neg pe_int) (fun _ _ => rfl)) (pa_cons (pe_bS B_leaf_in hr (by omega) rfl (fun σ => passAt (takes_of rfl rfl rfl rfl) σ) (pa_cons (pv 2) pa_nil)) pa_nil)))))))))) (pss_cons (ps_expr (pe_bS B_need hr (by omega) rfl (fun σ => passAt (takes_of rfl rfl rfl rfl) σ) (pa_cons (pe_and (pe_cmpR op_eq (pe_callB call_len_seq rfl T.z_len PySem.boot_len (pa_cons (pv 1) pa_nil)) pe_int (nomark _)) (pe_one (pe_cmpR op_eq (pe_callB call_len_seq rfl T.z_len PySem.boot_len (pa_cons (pe_ix ix_list (pv 1) pe_int (fun _ _ => rfl)) pa_nil)) pe_int (nomark _)))) pa_nil))) (pss_one (ps_ret (pe_ix ix_list (pe_ix ix_list (pv 1) pe_int (fun _ _ => rfl)) pe_int (fun _ _ => rfl))))))))), ?_⟩
  rcases h with ⟨cs, rfl, hn, q, qe⟩ | ⟨t, it, ht, qe⟩
  case inr =>
    obtain ⟨u1, y1, k1⟩ := is_str T.kf it
    rw [ht] at k1
    exact ⟨_, rfl, _, _, u1, _, _, rfl, .ty _, y1, k1, _, rfl, _, rfl, fun z => (by cases z), fun _ => qe _ (.refl _)⟩
  have hlen : (S cs).length ≤ sizeLine := by rw [SX.S_len, sizeLine_eq]; omega
  refine ⟨_, rfl, _, _, _, _, _, rfl, .ty _, .base (.str _), kit_ty (r := true) (by decide +kernel), _, rfl, _, rfl, fun _ => ?_, fun z => (by cases z)⟩
  refine stepN ?_
  dsimp only
  refine ⟨_, rfl, S cs, rfl, hlen, _, _, rfl, rfl, _, rfl, _, rfl, fun e1 => ?_, fun e1 => ?_⟩
  case refine_2 =>
    refine qe H ?_ (.refl _)
    unfold readP
    rw [if_neg (fun z => by
      have := of_decide_eq_false e1
      rw [SX.S_len] at this
      omega)]
  have l2 : cs.length ≤ 20000 := by
    have := of_decide_eq_true e1
    rw [SX.S_len] at this
    omega
  have rp : readP cs = oneP (stepsP [[]] (tok [] cs)) := by
    unfold readP
    rw [if_pos l2]
  refine stepN ?_
  dsimp only
  refine ⟨by show 0 ≤ sizeLine; decide, fun D0 nD0 => ⟨Fl.s1, fun R nR => ?_⟩⟩
  have sD := same_new nD0 (.lst [])
  have sR := same_new nR (.lst [.ref D0])
  have nR' : H R = none := sD.free nR
  have R0 : Rws (CF K) H (upd (upd H D0 (.lst [])) R (.lst [.ref D0])) [D0] [[]] := .cons (sR _ _ upd_same) .nil nD0 List.not_mem_nil .nil
  have hR0 : (upd (upd H D0 (.lst [])) R (.lst [.ref D0])) R = some (.lst (([D0].map V.ref).reverse)) := upd_same
  have nRD : R ∉ [D0] := by
    intro z
    rw [List.mem_singleton] at z
    rw [z, upd_same] at nR
    cases nR
  refine stepG ?_
  dsimp only
  refine ⟨_, rfl, _, rfl, cs, rfl, hn, fun DW H1 s1' nDW hDW => ?_⟩
  have S1' : Same H H1 := sD.trans (sR.trans s1')
  have tl := tok_len cs []
  rw [List.length_nil, Nat.zero_add] at tl
  have tn := tok_ne cs []
  have R1 := R0.same s1'
  have hR1 := s1' _ _ hR0
  have DWR : DW ≠ R := fun z => by rw [z, hR0] at nDW; cases nDW
  have DWD : DW ∉ [D0] := fun z => by
    rw [List.mem_singleton] at z
    obtain ⟨xs, hx, _⟩ := R0.get D0 (List.mem_singleton.mpr rfl)
    rw [z, hx] at nDW
    cases nDW
  refine ⟨DW, rfl, ⟨_, SqL.of hDW⟩, ?_⟩
  refine for_it (walk_list (K := K) (a := DW) (xs := (tok [] cs).map fun w => V.str (S w))) (fun i σ H' => ∃ (Ds : List Addr) (rows : List (List Th)) (o2 o3 : Option V), σ = [some (.str (S cs)), some (.ref R), o2, o3] ∧ Same H H' ∧ H' DW = some (.lst ((tok [] cs).map fun w => V.str (S w))) ∧ H' R = some (.lst (Ds.map V.ref).reverse) ∧ Rws (CF K) H H' Ds rows ∧ R ∉ Ds ∧ DW ∉ Ds ∧ Ds ≠ [] ∧ rows.length ≤ 101 ∧ (∀ ts ∈ rows, ts.length ≤ i) ∧ stepsP [[]] (tok [] cs) = stepsP rows ((tok [] cs).drop i))
    ⟨[D0], [[]], none, none, rfl, S1', hDW, hR1, R1, nRD, DWD, List.cons_ne_nil _ _, by decide, fun ts m => by rw [List.mem_singleton.mp m]; exact Nat.le_refl _, rfl⟩ (fun _ _ _ _ z => by obtain ⟨_, _, _, _, _, _, z, _⟩ := z; exact SqL.of z) ?_ ?_
  · rintro i y σ HX H2 hi ⟨Ds, rows, o2, o3, rfl, c1, c2, c3, c4, c5, c6, c7, c8, c9, c10⟩ ⟨rfl, hy⟩
    obtain ⟨w, hw, rfl⟩ := map_at hy
    have il : i < (tok [] cs).length := (List.getElem?_eq_some_iff.mp hw).1
    have wn := tn w (List.mem_of_getElem? hw)
    have ed : (tok [] cs).drop i = w :: (tok [] cs).drop (i + 1) := by
      rw [List.drop_eq_getElem_cons il, (List.getElem?_eq_some_iff.mp hw).2]
    rw [ed, stepsP] at c10
    have dl := c4.len
    obtain ⟨Es, Db, xb, eE, hDb, ib⟩ := c4.low c7
    have refuse : stepP rows w = none → ∀ H', Same H H' → E (.ref (He.ga K "NoText")) none H' := fun z H' s' => qe H' (by rw [rp, c10, z]; rfl) s'
    refine join_v (T := tOrV _ _ _ _) (fun k => ∀ H', Same H2 H' → k (.bl (decide (1 < rows.length) || (lowRow rows).isEmpty)) H') (fun H3 s3' => ?_) (fun k hk => ?_)
    case refine_2 =>
      refine ⟨_, rfl, R, _, rfl, .inl (SqL.of c3), _, _, rfl, rfl, _, rfl, ?_⟩
      have e0 : decide (((((Ds.map V.ref).reverse).length : Nat) : Int) > 1) = decide (1 < rows.length) := by
        rw [List.length_reverse, List.length_map, dl]
        exact decide_eq_decide.mpr ⟨fun z => by omega, fun z => by omega⟩
      rw [show decide ((1 : Int) < ((((Ds.map V.ref).reverse).length : Nat) : Int)) = decide (1 < rows.length) from e0]
      cases e : decide (1 < rows.length) with
      | true =>
        rw [e] at hk
        exact iteT (hk H2 (.refl _))
      | false =>
        rw [e] at hk
        have ab : atI (Ds.map V.ref).reverse 0 = some (.ref Db) := by
          rw [eE, List.map_append]
          exact rev_zero _ _
        refine iteF ⟨_, rfl, R, _, _, _, rfl, rfl, SqL.of c3, ab, by show 0 ≤ sizeLine; decide, fun a0 m0 => ?_⟩
        · have s0 := same_new m0 (.lst [])
          refine ⟨Db, a0, xb, rfl, rfl, SqL.of (s0 _ _ hDb), SqL.of upd_same, ?_⟩
          have el : xb.isEmpty = (lowRow rows).isEmpty := by
            have := ib.len
            cases xb with
            | nil =>
              cases hl : lowRow rows with
              | nil => rfl
              | cons _ _ => rw [hl] at this; cases this
            | cons _ _ =>
              cases hl : lowRow rows with
              | nil => rw [hl] at this; cases this
              | cons _ _ => rfl
          show k (.bl (xb.isEmpty)) _
          rw [el]
          exact hk _ s0
    refine ⟨_, rfl, _, rfl, fun e1 => ?_, fun e1 => refuse (by unfold stepP; rw [if_neg (by rw [e1]; decide)]) _ (c1.trans s3')⟩
    have d1 := c1.trans s3'
    have d2 := s3' _ _ c2
    have d3 := s3' _ _ c3
    have d4 := c4.same s3'
    refine stepN ?_
    dsimp only
    have st : stepP rows w = if w = [40] then (if rows.length + 1 ≤ 101 then some ([] :: rows) else none)
        else if w = [41] then (if 1 < rows.length then closeP rows else none)
        else leafStep rows (leafP w) := by
      unfold stepP
      rw [if_pos e1]
    refine ⟨_, rfl, rfl, _, rfl, ?_⟩
    rw [str_one w 40 "(" rfl]
    have wsz : w.length ≤ 100000 := by
      have := tok_sz cs [] w (List.mem_of_getElem? hw)
      simp only [List.length_nil] at this
      omega
    have rl : ((Ds.map V.ref).reverse).length < sizeLine := by
      rw [List.length_reverse, List.length_map, dl, sizeLine_eq]
      omega
    have next : ∀ (rows' : List (List Th)) (Ds' : List Addr) (z2 z3 : Option V) (H4 : Hp), stepP rows w = some rows' → Same H H4 → H4 DW = some (.lst ((tok [] cs).map fun w => V.str (S w))) → H4 R = some (.lst (Ds'.map V.ref).reverse) → Rws (CF K) H H4 Ds' rows' → R ∉ Ds' → DW ∉ Ds' → Ds' ≠ [] → rows'.length ≤ 101 → (∀ ts ∈ rows', ts.length ≤ i + 1) →
        ∃ (Ds : List Addr) (rows : List (List Th)) (o2 o3 : Option V), [some (.str (S cs)), some (.ref R), z2, z3] = [some (V.str (S cs)), some (.ref R), o2, o3] ∧ Same H H4 ∧ H4 DW = some (.lst ((tok [] cs).map fun w => V.str (S w))) ∧ H4 R = some (.lst (Ds.map V.ref).reverse) ∧ Rws (CF K) H H4 Ds rows ∧ R ∉ Ds ∧ DW ∉ Ds ∧ Ds ≠ [] ∧ rows.length ≤ 101 ∧ (∀ ts ∈ rows, ts.length ≤ i + 1) ∧ stepsP [[]] (tok [] cs) = stepsP rows ((tok [] cs).drop (i + 1)) :=
      fun rows' Ds' z2 z3 H4 h1 h2 h3 h4 h5 h6 h7 h8 h9 h10 => ⟨Ds', rows', z2, z3, rfl, h2, h3, h4, h5, h6, h7, h8, h9, h10, by rw [c10, h1]⟩
    by_cases w1 : w = [40]
    · rw [decide_eq_true w1]
      rw [if_pos w1] at st
      refine iteT ⟨_, rfl, .inl ⟨rfl, _, .inl (.inl d3)⟩, by show 0 ≤ sizeLine; decide, fun Dn nDn => ⟨R, _, _, rfl, rfl, (same_new nDn _) _ _ d3, rl, ?_⟩⟩
      have sn := same_new nDn (.lst [])
      have RDn : R ≠ Dn := ne_of_none d3 nDn
      have DWn : DW ≠ Dn := ne_of_none d2 nDn
      have nDnD : Dn ∉ Ds := fun z => by
        obtain ⟨xs, hx, _⟩ := d4.get Dn z
        rw [hx] at nDn
        cases nDn
      have hn3 := sn _ _ d3
      have r4 : Rws (CF K) H (upd (upd H3 Dn (.lst [])) R (.lst ((Ds.map V.ref).reverse ++ [.ref Dn]))) (Dn :: Ds) ([] :: rows) :=
        .cons (by rw [upd_ne RDn.symm]; exact upd_same) .nil (d1.free nDn) nDnD ((d4.same sn).mut hn3 c5)
      have s4' : Same H (upd (upd H3 Dn (.lst [])) R (.lst ((Ds.map V.ref).reverse ++ [.ref Dn]))) := same_mut (d1.trans sn) nR'
      have h4 : (upd (upd H3 Dn (.lst [])) R (.lst ((Ds.map V.ref).reverse ++ [.ref Dn]))) R = some (.lst (((Dn :: Ds).map V.ref).reverse)) := by
        rw [upd_same, List.map_cons, List.reverse_cons]
      have h2 : (upd (upd H3 Dn (.lst [])) R (.lst ((Ds.map V.ref).reverse ++ [.ref Dn]))) DW = some (.lst ((tok [] cs).map fun w => V.str (S w))) := by
        rw [upd_ne DWR]
        exact sn _ _ d2
      generalize upd (upd H3 Dn (.lst [])) R (.lst ((Ds.map V.ref).reverse ++ [.ref Dn])) = H4 at r4 s4' h4 h2 ⊢
      refine stepN ?_
      dsimp only
      have e0 : decide ((((((Dn :: Ds).map V.ref).reverse).length : Nat) : Int) ≤ 100 + 1) = decide (rows.length + 1 ≤ 101) := by
        rw [List.length_reverse, List.length_map, List.length_cons, dl]
        exact decide_eq_decide.mpr ⟨fun z => by omega, fun z => by omega⟩
      refine ⟨_, rfl, R, _, rfl, .inl (SqL.of h4), _, _, rfl, rfl, _, _, rfl, rfl, _, rfl, _, rfl, fun e2 => ?_, fun e2 => refuse (by rw [st, if_neg (fun z => by rw [e0, decide_eq_true z] at e2; cases e2)]) _ s4'⟩
      have le : rows.length + 1 ≤ 101 := of_decide_eq_true (e0.symm.trans e2)
      exact next ([] :: rows) (Dn :: Ds) _ _ H4 (by rw [st, if_pos le]) s4' h2 h4 r4 (fun z => by rcases List.mem_cons.mp z with z | z; exact RDn z; exact c5 z) (fun z => by rcases List.mem_cons.mp z with z | z; exact DWn z; exact c6 z) (List.cons_ne_nil _ _) le
        (fun ts m => by rcases List.mem_cons.mp m with rfl | m; exact Nat.zero_le _; exact Nat.le_succ_of_le (c9 ts m))
    rw [decide_eq_false w1]
    rw [if_neg w1] at st
    refine iteF ⟨_, rfl, rfl, _, rfl, ?_⟩
    rw [str_one w 41 ")" rfl]
    by_cases w2 : w = [41]
    · rw [decide_eq_true w2]
      rw [if_pos w2] at st
      have e0 : decide (((((Ds.map V.ref).reverse).length : Nat) : Int) > 1) = decide (1 < rows.length) := by
        rw [List.length_reverse, List.length_map, dl]
        exact decide_eq_decide.mpr ⟨fun z => by omega, fun z => by omega⟩
      refine iteT ⟨_, rfl, R, _, rfl, .inl (SqL.of d3), _, _, rfl, rfl, _, rfl, _, rfl, fun e2 => ?_, fun e2 => refuse (by rw [st, if_neg (fun z => by
        have e3 : decide (((((Ds.map V.ref).reverse).length : Nat) : Int) > 1) = false := e2
        rw [e0, decide_eq_true z] at e3
        cases e3)]) _ d1⟩
      have lt : 1 < rows.length := of_decide_eq_true (e0.symm.trans e2)
      rw [if_pos lt] at st
      refine stepN ?_
      dsimp only
      cases d4 with
      | nil => exact absurd lt (by decide)
      | cons x1 x2 x3 x4 x5 =>
        rename_i Dt xt tt Dr rr
        cases x5 with
        | nil => exact absurd lt (Nat.lt_irrefl 1)
        | cons y1 y2 y3 y4 y5 =>
          rename_i Du xu tu Dq rq
          have er : (List.map V.ref (Dt :: Du :: Dq)).reverse = (List.map V.ref (Du :: Dq)).reverse ++ [V.ref Dt] := by
            rw [List.map_cons, List.reverse_cons]
          rw [er] at d3
          refine ⟨_, rfl, .inl ⟨rfl, _, .inl (.inl d3)⟩, R, _, V.ref Dt, rfl, rfl, d3, (by simp), ?_⟩
          rw [List.dropLast_concat]
          have RDt : R ≠ Dt := fun z => c5 (by rw [z]; exact List.mem_cons_self)
          have RDu : R ≠ Du := fun z => c5 (by rw [z]; exact List.mem_cons_of_mem _ List.mem_cons_self)
          have DWu : DW ≠ Du := fun z => c6 (by rw [z]; exact List.mem_cons_of_mem _ List.mem_cons_self)
          have cR : R ∉ Du :: Dq := fun z => c5 (List.mem_cons_of_mem _ z)
          have cW : DW ∉ Du :: Dq := fun z => c6 (List.mem_cons_of_mem _ z)
          have im4 := im_lst (ys := (List.map V.ref (Du :: Dq)).reverse) d3
          have r4 : Rws (CF K) H (upd H3 R (.lst (List.map V.ref (Du :: Dq)).reverse)) (Du :: Dq) (tu :: rq) := (Rws.cons y1 y2 y3 y4 y5).mut d3 cR
          have i4 := x2.ik im4
          have s4' : Same H (upd H3 R (.lst (List.map V.ref (Du :: Dq)).reverse)) := same_mut d1 nR'
          have h4 : (upd H3 R (.lst (List.map V.ref (Du :: Dq)).reverse)) R = some (.lst (List.map V.ref (Du :: Dq)).reverse) := upd_same
          have h2 : (upd H3 R (.lst (List.map V.ref (Du :: Dq)).reverse)) DW = some (.lst ((tok [] cs).map fun w => V.str (S w))) := by
            rw [upd_ne DWR]
            exact d2
          have ht : (upd H3 R (.lst (List.map V.ref (Du :: Dq)).reverse)) Dt = some (.lst xt) := by
            rw [upd_ne RDt.symm]
            exact x1
          generalize upd H3 R (.lst (List.map V.ref (Du :: Dq)).reverse) = H4 at r4 i4 s4' h4 h2 ht ⊢
          refine .inl ⟨Dt, xt, rfl, SqL.of ht, fun P nP => ?_⟩
          have sP := same_new nP (.tup xt)
          refine stepG ?_
          dsimp only
          have hR5 := sP _ _ h4
          have hW5 := sP _ _ h2
          have r5 := r4.same sP
          have s5' := s4'.trans sP
          have iP : Is (CF K) (upd H4 P (.tup xt)) (.ref P) (.tup tt) := .tup upd_same (i4.same sP)
          generalize upd H4 P (.tup xt) = H5 at hR5 hW5 r5 s5' iP ⊢
          cases r5 with
          | cons z1 z2 z3 z4 z5 =>
            rename_i xu2
            have ll := z2.len
            have ts1 := c9 tu (List.mem_cons_of_mem _ List.mem_cons_self)
            refine ⟨_, rfl, _, rfl, R, _, _, _, rfl, rfl, SqL.of hR5, rev_neg _ _, .inl ⟨rfl, _, .inl (.inl z1)⟩, _, rfl, Du, _, _, rfl, rfl, z1, by rw [ll, sizeLine_eq]; omega, ?_⟩
            refine next ((tu ++ [.tup tt]) :: rq) (Du :: Dq) _ _ _ (by rw [st]; rfl) (same_mut s5' z3) (by rw [upd_ne DWu]; exact hW5) (by rw [upd_ne RDu]; exact hR5) ?_ cR cW (List.cons_ne_nil _ _) (by simp only [List.length_cons] at c8 ⊢; omega) ?_
            · exact .cons upd_same ((z2.app (.one iP)).ik (im_lst z1)) z3 z4 (z5.mut z1 z4)
            · intro ts m
              rcases List.mem_cons.mp m with rfl | m
              · rw [List.length_append, List.length_singleton]
                omega
              · exact Nat.le_succ_of_le (c9 ts (List.mem_cons_of_mem _ (List.mem_cons_of_mem _ m)))
    rw [decide_eq_false w2]
    rw [if_neg w2] at st
    refine iteF ?_
    cases d4 with
    | nil => exact absurd rfl c7
    | cons x1 x2 x3 x4 x5 =>
      rename_i Dt xt tt Dr rr
      have RDt : R ≠ Dt := fun z => c5 (by rw [z]; exact List.mem_cons_self)
      have DWt : DW ≠ Dt := fun z => c6 (by rw [z]; exact List.mem_cons_self)
      have ll := x2.len
      have ts1 := c9 tt List.mem_cons_self
      refine ⟨_, rfl, _, rfl, R, _, _, _, rfl, rfl, SqL.of d3, rev_neg _ _, .inl ⟨rfl, _, .inl (.inl x1)⟩, _, rfl, _, rfl, w, rfl, wn, wsz, fun t u H4 e s4' iu => ⟨Dt, _, _, rfl, rfl, s4' _ _ x1, by rw [ll, sizeLine_eq]; omega, ?_⟩, fun H4 e s4' => refuse (by rw [st, e]; rfl) _ (d1.trans s4')⟩
      have y1 := s4' _ _ x1
      refine next ((tt ++ [t]) :: rr) (Dt :: Dr) _ _ _ (by rw [st, e]; rfl) (same_mut (d1.trans s4') x3) (by rw [upd_ne DWt]; exact s4' _ _ d2) (by rw [upd_ne RDt]; exact s4' _ _ d3) ?_ c5 c6 (List.cons_ne_nil _ _) c8 ?_
      · exact .cons upd_same (((x2.same s4').app (.one iu)).ik (im_lst y1)) x3 x4 ((x5.same s4').mut y1 x4)
      · intro ts m
        rcases List.mem_cons.mp m with rfl | m
        · rw [List.length_append, List.length_singleton]
          omega
        · exact Nat.le_succ_of_le (c9 ts (List.mem_cons_of_mem _ m))
  · rintro σ H2 ⟨Ds, rows, o2, o3, rfl, c1, c2, c3, c4, c5, c6, c7, c8, c9, c10⟩
    rw [List.length_map, List.drop_length, stepsP] at c10
    have dl := c4.len
    obtain ⟨Es, Db, xb, eE, hDb, ib⟩ := c4.low c7
    have il := ib.len
    have ab : atI (Ds.map V.ref).reverse 0 = some (.ref Db) := by
      rw [eE, List.map_append]
      exact rev_zero _ _
    have e0 : decide (V.int ((((Ds.map V.ref).reverse).length : Nat) : Int) = V.int 1) = decide (rows.length = 1) := by
      rw [List.length_reverse, List.length_map, dl]
      exact decide_eq_decide.mpr ⟨fun z => by injection z with z; omega, fun z => by rw [z]; rfl⟩
    have e9 : decide (V.int ((xb.length : Nat) : Int) = V.int 1) = decide ((lowRow rows).length = 1) := by
      rw [il]
      exact decide_eq_decide.mpr ⟨fun z => by injection z with z; omega, fun z => by rw [z]; rfl⟩
    have bad : (decide (rows.length = 1) && decide ((lowRow rows).length = 1)) = false → readP cs = none := fun z => by
      rw [rp, c10]
      unfold oneP
      split
      · rename_i t e
        injection e with e
        subst e
        cases z
      · rfl
    dsimp only
    refine join_v (T := tAndV _ _ _ _) (fun k => k (.bl (decide (rows.length = 1) && decide ((lowRow rows).length = 1))) H2) ?_ (fun k hk => ?_)
    case refine_2 =>
      refine ⟨_, rfl, R, _, rfl, .inl (SqL.of c3), rfl, _, rfl, ?_⟩
      rw [e0]
      cases e : decide (rows.length = 1) with
      | false =>
        rw [e] at hk
        exact iteF hk
      | true =>
        rw [e] at hk
        refine iteT ⟨_, rfl, R, _, _, _, rfl, rfl, SqL.of c3, ab, Db, _, rfl, .inl (SqL.of hDb), rfl, ?_⟩
        rw [e9]
        exact hk
    refine ⟨_, rfl, _, rfl, fun e1 => ?_, fun e1 => qe H2 (bad e1) c1⟩
    rw [Bool.and_eq_true] at e1
    have g1 := of_decide_eq_true e1.1
    have g2 := of_decide_eq_true e1.2
    refine stepN ?_
    dsimp only
    cases hl : lowRow rows with
    | nil => rw [hl] at g2; cases g2
    | cons t l =>
      cases l with
      | cons _ _ => rw [hl] at g2; cases g2
      | nil =>
        rw [hl] at ib
        have er := one_row g1 hl
        cases ib with
        | cons b1 b2 =>
          cases b2
          refine ⟨_, rfl, R, _, _, _, rfl, rfl, SqL.of c3, ab, Db, _, _, _, rfl, rfl, SqL.of hDb, rfl, ?_⟩
          exact q t _ H2 (by rw [rp, c10, er]; rfl) c1 b1
end
end Fl
/-! texts of worths are read as the worths -/
namespace Fl
open PySem PySem.Spec PyProof.Rows L2
open SX (S)
open TL (tl numL)
/-- what of a word is left behind a text -/
def pend : List Nat → List Nat → List Nat
  | u, [] => u
  | u, c :: r => if isSep c then pend [] r else pend (u ++ [c]) r
/-- the words of it that are whole -/
def emit : List Nat → List Nat → List (List Nat)
  | _, [] => []
  | u, c :: r => if isSep c then flush u ++ ((if isBr c then [[c]] else []) ++ emit [] r) else emit (u ++ [c]) r
theorem tok_emit : ∀ (a u : List Nat), tok u a = emit u a ++ flush (pend u a)
  | [], u => by rw [tok, emit, pend]; rfl
  | c :: r, u => by
    rw [tok, emit, pend]
    split
    · rw [tok_emit r []]
      simp only [List.append_assoc]
    · exact tok_emit r _
theorem tok_cat : ∀ (a b u : List Nat), tok u (a ++ b) = emit u a ++ tok (pend u a) b
  | [], b, u => by rw [List.nil_append, emit, pend]; rfl
  | c :: r, b, u => by
    rw [List.cons_append, tok, emit, pend]
    split
    · rw [tok_cat r b []]
      simp only [List.append_assoc]
    · exact tok_cat r b _
theorem pend_cat : ∀ (a b u : List Nat), pend u (a ++ b) = pend (pend u a) b
  | [], b, u => rfl
  | c :: r, b, u => by
    rw [List.cons_append, pend, pend]
    split
    · exact pend_cat r b []
    · exact pend_cat r b _
def sepHead (b : List Nat) : Prop := ∀ c r, b = c :: r → isSep c = true
theorem tok_pend {b : List Nat} (h : sepHead b) : ∀ u, tok u b = flush u ++ tok [] b
  | [] => rfl
  | c :: u => by
    rw [tok_end (List.cons_ne_nil _ _) h]
    rfl
/-- one behind the other -/
theorem tok_two {a b : List Nat} (h : pend [] a = [] ∨ sepHead b) : tok [] (a ++ b) = tok [] a ++ tok [] b := by
  rw [tok_cat, tok_emit a []]
  rcases h with h | h
  · rw [h]
    show emit [] a ++ tok [] b = emit [] a ++ [] ++ tok [] b
    rw [List.append_nil]
  · rw [tok_pend h, List.append_assoc]
theorem pend_two {a b : List Nat} (h : pend [] b = []) (hb : sepHead b) (ne : b ≠ []) : pend [] (a ++ b) = [] := by
  rw [pend_cat]
  cases b with
  | nil => exact absurd rfl ne
  | cons c r =>
    have e := hb c r rfl
    rw [pend, if_pos e] at h ⊢
    exact h
/-- a word alone -/
theorem tok_word : ∀ (a u : List Nat), (∀ c ∈ a, isSep c = false) → u ++ a ≠ [] → tok u a = [u ++ a]
  | [], u, _, ne => by
    rw [List.append_nil] at ne ⊢
    rw [tok]
    cases u with
    | nil => exact absurd rfl ne
    | cons _ _ => rfl
  | c :: r, u, h, ne => by
    rw [tok_sign (h c List.mem_cons_self), tok_word r (u ++ [c]) (fun x m => h x (List.mem_cons_of_mem _ m)) (by simp), List.append_assoc]
    rfl
/-! ### gaps -/
def gapOk (g : List Nat) : Prop := ∀ c ∈ g, isGap c = true
theorem gap_sep {c : Nat} (h : isGap c = true) : isSep c = true ∧ isBr c = false := by
  unfold isGap at h
  rw [Bool.or_eq_true, beq_iff_eq, beq_iff_eq] at h
  rcases h with rfl | rfl <;> exact ⟨rfl, rfl⟩
theorem gap_head {g : List Nat} (h : gapOk g) : sepHead g := fun c r e => (gap_sep (h c (by rw [e]; exact List.mem_cons_self))).1
theorem tok_gaps : ∀ g : List Nat, gapOk g → tok [] g = []
  | [], _ => rfl
  | c :: r, h => by
    have z := gap_sep (h c List.mem_cons_self)
    rw [tok, if_pos z.1, z.2, tok_gaps r fun x m => h x (List.mem_cons_of_mem _ m)]
    rfl
theorem pend_gaps : ∀ g : List Nat, gapOk g → pend [] g = []
  | [], _ => rfl
  | c :: r, h => by
    have z := gap_sep (h c List.mem_cons_self)
    rw [pend, if_pos z.1]
    exact pend_gaps r fun x m => h x (List.mem_cons_of_mem _ m)
theorem pend_gap {g : List Nat} (h : gapOk g) (ne : g ≠ []) (a : List Nat) : pend [] (a ++ g) = [] := pend_two (pend_gaps g h) (gap_head h) ne
/-! ### leaves -/
theorem fig_not {c : Nat} (h : isFig c = true) : isSep c = false := by
  unfold isFig at h
  rw [Bool.and_eq_true, Nat.ble_eq, Nat.ble_eq] at h
  unfold isSep isBr isGap
  rw [beq_eq_false_iff_ne.mpr (by omega), beq_eq_false_iff_ne.mpr (by omega), beq_eq_false_iff_ne.mpr (by omega), beq_eq_false_iff_ne.mpr (by omega)]
  rfl
theorem sign_not {c : Nat} (h : isSign c = true) : isSep c = false := by
  unfold isSign at h
  rw [Bool.and_eq_true, Nat.ble_eq, Nat.ble_eq] at h
  unfold isSep isBr isGap
  rw [beq_eq_false_iff_ne.mpr (by omega), beq_eq_false_iff_ne.mpr (by omega), beq_eq_false_iff_ne.mpr (by omega), beq_eq_false_iff_ne.mpr (by omega)]
  rfl
theorem numL_figs (n : Nat) : ∀ c ∈ numL n, isFig c = true := fun c m => by
  have z := TL.numL_digits n c m
  unfold isFig
  rw [Bool.and_eq_true, Nat.ble_eq, Nat.ble_eq]
  exact z
theorem wordB_all {x : Str} (h : wordB x = true) : ∀ c ∈ x.cps.toList, isSign c = true := by
  unfold wordB at h
  rw [Bool.and_eq_true, Bool.and_eq_true, Bool.and_eq_true, Bool.and_eq_true] at h
  exact List.all_eq_true.mp h.2.2.2.2
theorem leafT_not {t : Th} (h : t.worth false = true) : ∀ c ∈ leafT t, isSep c = false := by
  cases t with
  | bl b => cases b <;> decide
  | int i =>
    cases i with
    | ofNat n => exact fun c m => fig_not (numL_figs n c m)
    | negSucc n =>
      intro c m
      rcases List.mem_cons.mp m with rfl | m
      · rfl
      · exact fig_not (numL_figs _ c m)
  | str x => exact fun c m => sign_not (wordB_all h c m)
  | tup l => exact fun c m => by cases m
  | non => cases h
  | fn l => cases h
  | oth => cases h
theorem leafT_ne {t : Th} (h : t.worth false = true) (ht : t.isTup = false) : leafT t ≠ [] := by
  cases t with
  | bl b => cases b <;> decide
  | int i =>
    cases i with
    | ofNat n => exact TL.numL_ne n
    | negSucc n => exact List.cons_ne_nil _ _
  | str x =>
    intro e
    have e2 : x.cps.toList = [] := e
    have z : 1 ≤ x.length := by
      have h2 : wordB x = true := h
      unfold wordB at h2
      rw [Bool.and_eq_true, decide_eq_true_eq] at h2
      exact h2.1
    rw [TL.len_tl, show tl x = [] from e2] at z
    exact absurd z (by decide)
  | tup l => cases ht
  | non => cases h
  | fn l => cases h
  | oth => cases h
theorem tok_leaf {t : Th} (h : t.worth false = true) (ht : t.isTup = false) : tok [] (leafT t) = [leafT t] := tok_word _ [] (leafT_not h) (by rw [List.nil_append]; exact leafT_ne h ht)
theorem numL_head : ∀ n : Nat, 0 < n → (numL n).head? ≠ some 48 := fun n => by
  induction n using Nat.strongRecOn with
  | _ n ih =>
    intro h
    by_cases l : n < 10
    · rw [TL.numL_lt l]
      intro z
      injection z with z
      omega
    · rw [TL.numL_step (by omega)]
      have z := ih (n / 10) (by omega) (by omega)
      cases e : numL (n / 10) with
      | nil => exact absurd e (TL.numL_ne _)
      | cons c r =>
        rw [e] at z
        exact z
theorem numL_no45 (n : Nat) : sgn (numL n) = false := by
  cases e : numL n with
  | nil => rfl
  | cons c r =>
    have z := TL.numL_digits n c (by rw [e]; exact List.mem_cons_self)
    unfold sgn
    split
    · rename_i e2
      injection e2 with e3 _
      omega
    · rfl
theorem figs_all (n : Nat) : (numL n).all isFig = true := List.all_eq_true.mpr (numL_figs n)
theorem numP_int {i : Int} (h : numB i = true) : numP (intC i) = some i := by
  have h0 := h
  unfold numB at h
  rw [Bool.and_eq_true, decide_eq_true_eq, decide_eq_true_eq] at h
  cases i with
  | ofNat n =>
    have hn : n ≤ 1000000000 := by simp only [Int.ofNat_eq_natCast] at h; omega
    have l := TL.numL_len (n := n) (k := 10) (by decide) (by omega)
    have ne := TL.numL_ne n
    have l1 : 1 ≤ (numL n).length := by
      cases e : numL n with
      | nil => exact absurd e ne
      | cons _ _ => exact Nat.succ_le_succ (Nat.zero_le _)
    have sg := numL_no45 n
    have fg := figs_pos sg
    have g2 : (!decide ((numL n).head? = some 48) || decide (numL n = [48])) = true := by
      by_cases z : n = 0
      · subst z
        rw [TL.numL_lt (by decide)]
        rfl
      · rw [decide_eq_false (numL_head n (by omega))]
        rfl
    show numP (numL n) = some (Int.ofNat n)
    unfold numP
    rw [fg, sg, decide_eq_true l1, decide_eq_true l, figs_all, g2, if_pos (show (true && true && true && true) = true from rfl), TL.numL_val]
    show (if numB (Int.ofNat n) = true then some (Int.ofNat n) else none) = _
    rw [if_pos h0]
  | negSucc n =>
    have hn : n + 1 ≤ 1000000000 := by omega
    have l := TL.numL_len (n := n + 1) (k := 10) (by decide) (by omega)
    have ne := TL.numL_ne (n + 1)
    have l1 : 1 ≤ (numL (n + 1)).length := by
      cases e : numL (n + 1) with
      | nil => exact absurd e ne
      | cons _ _ => exact Nat.succ_le_succ (Nat.zero_le _)
    show numP (45 :: numL (n + 1)) = some (Int.negSucc n)
    unfold numP
    rw [show figs (45 :: numL (n + 1)) = numL (n + 1) from rfl, show sgn (45 :: numL (n + 1)) = true from rfl, decide_eq_true l1, decide_eq_true l, figs_all, decide_eq_false (numL_head (n + 1) (by omega)), if_pos (show (true && true && true && (!false || decide (45 :: numL (n + 1) = [48]))) = true from rfl), TL.numL_val]
    have en : -((n + 1 : Nat) : Int) = Int.negSucc n := by omega
    show (if numB (-((n + 1 : Nat) : Int)) = true then some (-((n + 1 : Nat) : Int)) else none) = _
    rw [en, if_pos h0]
theorem leafP_leaf {t : Th} (h : t.worth false = true) (ht : t.isTup = false) : leafP (leafT t) = some t := by
  have e1 : sTrue = S [116, 114, 117, 101] := by decide +kernel
  have e2 : sFalse = S [102, 97, 108, 115, 101] := by decide +kernel
  cases t with
  | bl b =>
    cases b with
    | true =>
      unfold leafP
      rw [e1]
      rfl
    | false =>
      unfold leafP
      rw [e1, e2, if_neg (fun z => absurd (SX.S_inj z) (by decide))]
      rfl
  | int i =>
    have n1 : ∀ (w : List Nat) (c : Nat) (r : List Nat), w = c :: r → (c = 45 ∨ isFig c = true) → leafP w = (numP w).map Th.int := fun w c r e hc => by
      have hs : isSign c = false := by
        unfold isSign
        rcases hc with rfl | hc
        · rfl
        · unfold isFig at hc
          rw [Bool.and_eq_true, Nat.ble_eq, Nat.ble_eq] at hc
          have : Nat.ble 97 c = false := by
            cases q : Nat.ble 97 c with
            | false => rfl
            | true => rw [Nat.ble_eq] at q; omega
          rw [this]
          rfl
      have f1 : S w ≠ sTrue := fun z => by
        rw [e1] at z
        have z := SX.S_inj z
        rw [e] at z
        injection z with z _
        rw [z] at hs
        cases hs
      have f2 : S w ≠ sFalse := fun z => by
        rw [e2] at z
        have z := SX.S_inj z
        rw [e] at z
        injection z with z _
        rw [z] at hs
        cases hs
      unfold leafP
      rw [if_neg f1, if_neg f2, e]
      show (if isSign c = true then _ else _) = _
      rw [if_neg (by rw [hs]; decide)]
    have hd : ∃ c r, intC i = c :: r ∧ (c = 45 ∨ isFig c = true) := by
      cases i with
      | ofNat n =>
        cases e : numL n with
        | nil => exact absurd e (TL.numL_ne n)
        | cons c r => exact ⟨c, r, e, .inr (numL_figs n c (by rw [e]; exact List.mem_cons_self))⟩
      | negSucc n => exact ⟨45, _, rfl, .inl rfl⟩
    obtain ⟨c, r, e, hc⟩ := hd
    show leafP (intC i) = _
    rw [n1 _ c r e hc, numP_int h]
    rfl
  | str x =>
    have hx : wordB x = true := h
    have ex : S (x.cps.toList) = x := SX.S_tl x
    have h2 := hx
    unfold wordB at h2
    rw [Bool.and_eq_true, Bool.and_eq_true, Bool.and_eq_true, Bool.and_eq_true, Bool.not_eq_true', Bool.not_eq_true', decide_eq_false_iff_not, decide_eq_false_iff_not] at h2
    show leafP x.cps.toList = _
    unfold leafP
    rw [ex, if_neg h2.2.2.1, if_neg h2.2.2.2.1]
    cases e : x.cps.toList with
    | nil => exact absurd e (leafT_ne (t := .str x) h rfl)
    | cons c r =>
      show (if isSign c = true then _ else _) = _
      rw [if_pos (wordB_all hx c (by rw [e]; exact List.mem_cons_self)), if_pos hx]
  | tup l => cases ht
  | non => cases h
  | fn l => cases h
  | oth => cases h
/-! ### rows -/
mutual
def toksP : Th → List (List Nat)
  | .tup l => [40] :: (toksL l ++ [[41]])
  | .bl b => [leafT (.bl b)]
  | .int i => [leafT (.int i)]
  | .str x => [leafT (.str x)]
  | .non => []
  | .fn _ => []
  | .oth => []
def toksL : List Th → List (List Nat)
  | [] => []
  | t :: r => toksP t ++ toksL r
end
theorem toks_leaf {t : Th} (h : t.worth false = true) (ht : t.isTup = false) : toksP t = [leafT t] := by
  cases t <;> first | (cases ht; done) | (cases h; done) | rw [toksP]
theorem toksL_app : ∀ a b : List Th, toksL (a ++ b) = toksL a ++ toksL b
  | [], b => by rw [toksL]; rfl
  | t :: r, b => by rw [List.cons_append, toksL, toksL, toksL_app r b, List.append_assoc]
theorem leafT_br {t : Th} (h : t.worth false = true) : leafT t ≠ [40] ∧ leafT t ≠ [41] := by
  constructor
  · intro e
    have z := leafT_not h 40 (by rw [e]; exact List.mem_cons_self)
    cases z
  · intro e
    have z := leafT_not h 41 (by rw [e]; exact List.mem_cons_self)
    cases z
theorem low_ok {r : List Th} {s : List (List Th)} (h : s ≠ [] ∨ r = []) : (decide (1 < (r :: s).length) || (lowRow (r :: s)).isEmpty) = true := by
  rcases h with h | h
  · cases s with
    | nil => exact absurd rfl h
    | cons a b =>
      rw [decide_eq_true (by simp only [List.length_cons]; omega)]
      rfl
  · subst h
    cases s with
    | nil => rfl
    | cons a b =>
      rw [decide_eq_true (by simp only [List.length_cons]; omega)]
      rfl
mutual
theorem steps_one : ∀ (t : Th) (r : List Th) (s : List (List Th)) (rest : List (List Nat)), t.worth false = true → (r :: s).length + t.depth ≤ 101 → (s ≠ [] ∨ r = []) → stepsP (r :: s) (toksP t ++ rest) = stepsP ((r ++ [t]) :: s) rest
  | .tup l, r, s, rest, h, hd, hs => by
    rw [Th.depth] at hd
    have hw : Th.worths false l = true := by simpa [Th.worth] using h
    have st1 : stepP (r :: s) [40] = some ([] :: r :: s) := by
      unfold stepP
      rw [if_pos (low_ok hs), if_pos rfl, if_pos (by omega)]
    have st2 : stepP (([] ++ l) :: r :: s) [41] = some ((r ++ [.tup l]) :: s) := by
      unfold stepP
      rw [if_pos (low_ok (.inl (List.cons_ne_nil _ _))), if_neg (by decide), if_pos rfl, if_pos (by simp only [List.length_cons]; omega), List.nil_append]
      rfl
    rw [toksP, List.cons_append, stepsP, st1]
    show stepsP ([] :: r :: s) (toksL l ++ [[41]] ++ rest) = _
    rw [List.append_assoc, steps_all l [] (r :: s) _ hw (by simp only [List.length_cons] at hd ⊢; omega) (List.cons_ne_nil _ _)]
    show stepsP (([] ++ l) :: r :: s) ([41] :: rest) = _
    rw [stepsP, st2]
  | .bl b, r, s, rest, h, hd, hs => steps_leaf (.bl b) r s rest h rfl hs
  | .int i, r, s, rest, h, hd, hs => steps_leaf (.int i) r s rest h rfl hs
  | .str x, r, s, rest, h, hd, hs => steps_leaf (.str x) r s rest h rfl hs
  | .non, _, _, _, h, _, _ => by cases h
  | .fn _, _, _, _, h, _, _ => by cases h
  | .oth, _, _, _, h, _, _ => by cases h
theorem steps_leaf : ∀ (t : Th) (r : List Th) (s : List (List Th)) (rest : List (List Nat)), t.worth false = true → t.isTup = false → (s ≠ [] ∨ r = []) → stepsP (r :: s) (toksP t ++ rest) = stepsP ((r ++ [t]) :: s) rest := fun t r s rest h ht hs => by
  have br := leafT_br h
  have st : stepP (r :: s) (leafT t) = some ((r ++ [t]) :: s) := by
    unfold stepP
    rw [if_pos (low_ok hs), if_neg br.1, if_neg br.2, leafP_leaf h ht]
    rfl
  rw [toks_leaf h ht, List.cons_append, stepsP, st]
  rfl
theorem steps_all : ∀ (l r : List Th) (s : List (List Th)) (rest : List (List Nat)), Th.worths false l = true → (r :: s).length + Th.depthL l ≤ 101 → s ≠ [] → stepsP (r :: s) (toksL l ++ rest) = stepsP ((r ++ l) :: s) rest
  | [], r, s, rest, _, _, _ => by rw [toksL, List.append_nil]; rfl
  | t :: l, r, s, rest, h, hd, hs => by
    rw [Th.worths, Bool.and_eq_true] at h
    rw [Th.depthL] at hd
    rw [toksL, List.append_assoc, steps_one t r s _ h.1 (by omega) (.inl hs), steps_all l (r ++ [t]) s rest h.2 (by simp only [List.length_cons] at hd ⊢; omega) hs, List.append_assoc]
    rfl
end
/-- what has the words of a worth is read as it -/
theorem read_toks {cs : List Nat} {t : Th} (h : t.worth false = true) (hd : t.depth ≤ 100) (hl : cs.length ≤ 20000) (ht : tok [] cs = toksP t) : readP cs = some t := by
  unfold readP
  rw [if_pos hl, ht]
  have z := steps_one t [] [] [] h (by show 1 + _ ≤ _; omega) (.inr rfl)
  rw [List.append_nil] at z
  rw [z]
  rfl
mutual
theorem tok_text : ∀ t : Th, t.worth false = true → tok [] (textP t) = toksP t ∧ (t.isTup = true → pend [] (textP t) = [])
  | .tup l, h => by
    have hw : Th.worths false l = true := by simpa [Th.worth] using h
    have z := tok_texts l hw
    rw [textP, toksP]
    have sh : sepHead [41] := fun c r e => by injection e with e _; rw [← e]; rfl
    have e1 : tok [] (40 :: (textsP l ++ [41])) = [40] :: tok [] (textsP l ++ [41]) := tok_br rfl
    refine ⟨?_, fun _ => ?_⟩
    · rw [e1, tok_two (.inr sh), z]
      rfl
    · show pend [] ((40 :: textsP l) ++ [41]) = []
      exact pend_two rfl sh (List.cons_ne_nil _ _)
  | .bl b, h => ⟨by rw [text_leaf rfl, tok_leaf h rfl, toks_leaf h rfl], fun z => by cases z⟩
  | .int i, h => ⟨by rw [text_leaf rfl, tok_leaf h rfl, toks_leaf h rfl], fun z => by cases z⟩
  | .str x, h => ⟨by rw [text_leaf rfl, tok_leaf h rfl, toks_leaf h rfl], fun z => by cases z⟩
  | .non, h => by cases h
  | .fn _, h => by cases h
  | .oth, h => by cases h
theorem tok_texts : ∀ l : List Th, Th.worths false l = true → tok [] (textsP l) = toksL l
  | [], _ => by rw [textsP, toksL]; rfl
  | t :: r, h => by
    rw [Th.worths, Bool.and_eq_true] at h
    have sh : sepHead (tailsP r) := fun c s e => by
      cases r with
      | nil => rw [tailsP] at e; cases e
      | cons a b =>
        rw [tailsP] at e
        injection e with e _
        rw [← e]
        rfl
    rw [textsP, toksL, tok_two (.inr sh), (tok_text t h.1).1, tok_tails r h.2]
theorem tok_tails : ∀ l : List Th, Th.worths false l = true → tok [] (tailsP l) = toksL l
  | [], _ => by rw [tailsP, toksL]; rfl
  | t :: r, h => by
    rw [Th.worths, Bool.and_eq_true] at h
    have sh : sepHead (tailsP r) := fun c s e => by
      cases r with
      | nil => rw [tailsP] at e; cases e
      | cons a b =>
        rw [tailsP] at e
        injection e with e _
        rw [← e]
        rfl
    rw [tailsP, toksL, tok_gap rfl rfl, tok_two (.inr sh), (tok_text t h.1).1, tok_tails r h.2]
end
theorem read_text {t : Th} (h : t.worth false = true) (hd : t.depth ≤ 100) (hl : (textP t).length ≤ 20000) : readP (textP t) = some t := read_toks h hd hl (tok_text t h).1
end Fl
/-! texts as the law reads them: replace, split -/
namespace Fl
open PySem PySem.Spec PyProof.Rows L2
open SX (S)
open TL (tl numL)
open PySem.Builtin.Str
theorem map_S_of_tl : ∀ l : List Str, (l.map tl).map S = l
  | [] => rfl
  | x :: r => by rw [List.map_cons, List.map_cons, map_S_of_tl r]; first | done | exact congrArg (· :: r) (SX.S_tl x)
theorem replace_S {a b r : List Nat} (hb : b ≠ []) (hr : r ≠ []) : Txt.replace (S a) (S b) (S r) = S (TL.joinL r (TL.spl b 0 [] a)) := by
  obtain ⟨f, g, hn⟩ := StrLaws.occ_tight (S a) (S b) (TL.len1 (y := S b) hb)
  have key := TL.parts_spl (x := S a) (y := S b) hb _ 0 f (Nat.zero_le _) g hn
  rw [List.drop_zero] at key
  rw [← StrLaws.partsBetween_eq] at key
  have key : (partsBetween (S a) (occurrences (S a) (S b) 0 (S a).length ((S a).length + 1)) (S b).length).map tl = TL.spl b 0 [] a := key
  unfold Txt.replace
  have rz : ((S b).length == 0 && (S r).length == 0) = false := by
    have : ((S b).length == 0) = false := by
      rw [SX.S_len, beq_eq_false_iff_ne]
      exact fun z => hb (List.eq_nil_of_length_eq_zero z)
    rw [this, Bool.false_and]
  rw [rz, Bool.or_false]
  cases ho : occurrences (S a) (S b) 0 (S a).length ((S a).length + 1) with
  | nil =>
    rw [ho] at key
    rw [if_pos (show ([] : List Nat).isEmpty = true from rfl), ← key]
    show S a = S (TL.joinL r [tl (strSub (S a) 0 (S a).length)])
    rw [StrLaws.sub_whole]
    rfl
  | cons c q =>
    rw [← ho]
    have e : ¬ ((occurrences (S a) (S b) 0 (S a).length ((S a).length + 1)).isEmpty = true) := by rw [ho]; exact Bool.false_ne_true
    rw [if_neg e, ← key]
    have z := SX.join_S r ((partsBetween (S a) (occurrences (S a) (S b) 0 (S a).length ((S a).length + 1)) (S b).length).map tl)
    rw [map_S_of_tl] at z
    exact z
/-- one sign by others -/
def swapL (c : Nat) (r : List Nat) (a : List Nat) : List Nat := a.flatMap fun d => if d = c then r else [d]
def cut (c : Nat) : List Nat → List Nat → List (List Nat)
  | u, [] => [u]
  | u, d :: r => if d = c then u :: cut c [] r else cut c (u ++ [d]) r
theorem spl_cut (c : Nat) : ∀ (a u : List Nat), TL.spl [c] 0 u a = cut c u a
  | [], u => by rw [TL.spl_nil, cut]
  | d :: r, u => by
    rw [cut]
    have hp : TL.pre [c] (d :: r) = decide (d = c) := by
      show ((d :: r).take 1 == [c]) = _
      by_cases h : d = c
      · subst h
        rw [decide_eq_true rfl]
        simp
      · rw [decide_eq_false h]
        simp [h]
    show (if TL.pre [c] (d :: r) = true then u :: TL.spl [c] ([c].length - 1) [] r else TL.spl [c] 0 (u ++ [d]) r) = _
    rw [hp]
    by_cases h : d = c
    · rw [decide_eq_true h, if_pos rfl, if_pos h]
      exact congrArg (u :: ·) (spl_cut c r [])
    · rw [decide_eq_false h, if_neg (by decide), if_neg h]
      exact spl_cut c r _
theorem cut_ne (c : Nat) : ∀ (a u : List Nat), cut c u a ≠ []
  | [], u => by rw [cut]; exact List.cons_ne_nil _ _
  | d :: r, u => by
    rw [cut]
    split
    · exact List.cons_ne_nil _ _
    · exact cut_ne c r _
theorem join_cut (c : Nat) (k : List Nat) : ∀ (a u : List Nat), TL.joinL k (cut c u a) = u ++ swapL c k a
  | [], u => by
    rw [cut]
    show u = u ++ []
    rw [List.append_nil]
  | d :: r, u => by
    rw [cut]
    show _ = u ++ ((if d = c then k else [d]) ++ swapL c k r)
    by_cases h : d = c
    · rw [if_pos h, if_pos h]
      have ih := join_cut c k r []
      rw [List.nil_append] at ih
      cases e : cut c [] r with
      | nil => exact absurd e (cut_ne c r [])
      | cons p q =>
        rw [e] at ih
        show u ++ (k ++ TL.joinL k (p :: q)) = _
        rw [ih]
    · rw [if_neg h, if_neg h, join_cut c k r, List.append_assoc]
theorem replace_one {a r : List Nat} {c : Nat} (hr : r ≠ []) : Txt.replace (S a) (S [c]) (S r) = S (swapL c r a) := by
  rw [replace_S (List.cons_ne_nil _ _) hr, spl_cut, join_cut]
  rfl
/-- what the law makes of the signs ahead of its split -/
def spaced (a : List Nat) : List Nat := swapL 10 [32] (swapL 41 [32, 41, 32] (swapL 40 [32, 40, 32] a))
theorem swap_cons (c : Nat) (r : List Nat) (d : Nat) (a : List Nat) : swapL c r (d :: a) = (if d = c then r else [d]) ++ swapL c r a := rfl
theorem swap_app (c : Nat) (r a b : List Nat) : swapL c r (a ++ b) = swapL c r a ++ swapL c r b := by
  unfold swapL
  rw [List.flatMap_append]
theorem spaced_cons (d : Nat) (a : List Nat) : spaced (d :: a) = (if d = 40 then [32, 40, 32] else if d = 41 then [32, 41, 32] else if d = 10 then [32] else [d]) ++ spaced a := by
  unfold spaced
  rw [swap_cons, swap_app, swap_app]
  congr 1
  by_cases h1 : d = 40
  · rw [if_pos h1, if_pos h1]
    rfl
  · rw [if_neg h1, if_neg h1, swap_cons]
    by_cases h2 : d = 41
    · rw [if_pos h2, if_pos h2]
      rfl
    · rw [if_neg h2, if_neg h2]
      show swapL 10 [32] ([d] ++ []) = _
      rw [List.append_nil, swap_cons]
      by_cases h3 : d = 10
      · simp only [if_pos h3]
        rfl
      · simp only [if_neg h3]
        rfl
def keepW (l : List (List Nat)) : List (List Nat) := l.filter fun w => !w.isEmpty
theorem keep_cons (u : List Nat) (l : List (List Nat)) : keepW (u :: l) = flush u ++ keepW l := by
  unfold keepW
  cases u with
  | nil => rfl
  | cons c r => rfl
theorem cut_spaced : ∀ (a u : List Nat), keepW (cut 32 u (spaced a)) = tok u a
  | [], u => by
    show keepW (cut 32 u []) = _
    rw [cut, tok, keep_cons]
    show flush u ++ [] = _
    rw [List.append_nil]
  | d :: r, u => by
    rw [spaced_cons, tok]
    by_cases h1 : d = 40
    · subst h1
      rw [if_pos rfl]
      show keepW (cut 32 u (32 :: 40 :: 32 :: spaced r)) = flush u ++ ([[40]] ++ tok [] r)
      rw [cut, if_pos rfl, cut, if_neg (by decide), cut, if_pos rfl, keep_cons, keep_cons, cut_spaced r []]
      rfl
    · rw [if_neg h1]
      by_cases h2 : d = 41
      · subst h2
        rw [if_pos rfl]
        show keepW (cut 32 u (32 :: 41 :: 32 :: spaced r)) = flush u ++ ([[41]] ++ tok [] r)
        rw [cut, if_pos rfl, cut, if_neg (by decide), cut, if_pos rfl, keep_cons, keep_cons, cut_spaced r []]
        rfl
      · rw [if_neg h2]
        by_cases h3 : d = 10
        · subst h3
          rw [if_pos rfl]
          show keepW (cut 32 u (32 :: spaced r)) = flush u ++ ([] ++ tok [] r)
          rw [cut, if_pos rfl, keep_cons, cut_spaced r []]
          rfl
        · rw [if_neg h3]
          show keepW (cut 32 u (d :: spaced r)) = _
          rw [cut]
          by_cases h4 : d = 32
          · subst h4
            rw [if_pos rfl, keep_cons, cut_spaced r []]
            rfl
          · have hs : isSep d = false := by
              unfold isSep isBr isGap
              rw [beq_eq_false_iff_ne.mpr h1, beq_eq_false_iff_ne.mpr h2, beq_eq_false_iff_ne.mpr h3, beq_eq_false_iff_ne.mpr h4]
              rfl
            rw [if_neg h4, cut_spaced r, hs]
            rfl
end Fl
/-! defs that want a token out (text.replace of written texts) -/
namespace Fl
open PySem PySem.Spec PyProof.Rows L2
structure FnT (P : Program) (w : World) (K : PySem.W.Frag) (mg : Str → Option Value) (base : Heap) (k : Nat) (f : Addr) (fd : FuncData) (ps : List Str) (sp : Sp) : Prop where
  len : ∀ vs H Q E, sp vs H Q E → vs.length = ps.length
  run : ∀ (A : Around) (outer : List Env) (s : Shared) (H : Hp) (args : Args) (us : List Value) (vs : List V) (Q : VK) (E : XK), 1 ≤ s.toks → Room k A → Env0 P w K mg base A outer s H → BindsTo s fd args (ps.zip us) → Vals vs us → sp vs H Q E →
    codeAny (model P w) A (.call (.ref f) args) (CR (L2.CX P w) outer P w H s Q E) s
theorem fn_ofT {P : Program} {w : World} {K : PySem.W.Frag} {mg : Str → Option Value} {base : Heap} {k : Nat} {f : Addr} {name qual : Str} {params : Arguments} {body : List Stmt} {scope : Scope} {dV kV doc pm cdv ct oc : Value} {an od : Option Addr}
    {osl : Array (Option Value)} {N ps : List Str} {sp : Sp} (lk : K.lookup f = some ⟨oc, od, .func (PySem.W.fnOf name qual params body scope dV kV doc pm an cdv ct), osl⟩) (hcd : PySem.W.codeIn K cdv qual = true) (S : FnScope N ps scope)
    (len : ∀ vs H Q E, sp vs H Q E → vs.length = ps.length)
    (hbody : ∀ (A : Around) (outer : List Env) (s : Shared) (H : Hp) (vs : List V) (Q : VK) (E : XK), Room k (A.deeper (envOfC qual scope s.heap.objs.size f cdv)) → sp vs H Q E →
      ∃ t, PSsT (cxOf (L2.CX P w) P w K mg base N qual scope f cdv A outer s H E) body t ∧ t { nx := fun _ H' => Q .non H', rt := Q } (start N vs) H) :
    FnT P w K mg base (k + 1) f (PySem.W.fnOf name qual params body scope dV kV doc pm an cdv ct) ps sp := by
  refine ⟨len, fun A outer s H args us vs Q E h0 hr e0 hb r hsp => ?_⟩
  have hl := len _ _ _ _ hsp
  have KX : K.In s.heap := e0.mod.kin.keeps fun b o e => (e0.bs b o e).1
  have lim : s.heap.NoLimit := e0.mod.nolimit.keeps fun b o e => (e0.bs b o e).1
  have hkind : ∀ y ∈ ps.zip us, scope.names.lookup y.1 = some .local ∨ (scope.names.lookup y.1 = some .cell ∧ ((cellsFrom (s.heap.objs.size + 1) scope.names []).lookup y.1).isSome = true) := fun ⟨n, v⟩ hy => by
    rcases S.par n (List.of_mem_zip hy).1 with q | q
    · exact .inl q
    · exact .inr ⟨q, PySem.W.cellsFrom_some _ _ _ (.inl q)⟩
  refine codeAny_call_function hr.depth (KX _ _ lk) rfl S.co S.gen rfl (PySem.W.codeRec_of KX hcd) (hb _ _ _ _ ?_)
  refine PySem.wpAny_with_toks h0 ?_
  refine wpAny_newFunctionEnv_cells S.kind hkind fun env he s1 x => ?_
  intro h1
  subst he
  refine ⟨lim.keeps x.toInCall.keep, codeAny_func ?_⟩
  obtain ⟨t, ht, hq⟩ := hbody A outer s H vs Q E (hr.deeper _) hsp
  have I : Inv (cxOf (L2.CX P w) P w K mg base N qual scope f cdv A outer s H E) [] (start N vs) H s1 := inv_start S hr.hd e0 hl r x
  refine wpAny_mono (ht [] s1 (start N vs) H _ h1 I hq) (fun fl s' hs => ?_) fun e s' hs => hs
  have fin : ∀ {σ' : L2.St} {H' : Hp} {v : V} {u : Value}, Inv (cxOf (L2.CX P w) P w K mg base N qual scope f cdv A outer s H E) [] σ' H' s' → RelV v u → Q v H' → CE outer P w H s Q u s' :=
    fun {σ' H' v u} J rv q => ⟨v, H', J.os, J.bare, J.base, J.hok, rv, q⟩
  cases fl with
  | ret u =>
    obtain ⟨v, σ', H', J, rv, q⟩ := hs
    exact fin J rv q
  | next =>
    obtain ⟨σ', H', J, q⟩ := hs
    exact fin (v := V.non) (u := Value.none) J rfl q
  | brk =>
    obtain ⟨_, _, _, q⟩ := hs
    exact False.elim q
  | cont =>
    obtain ⟨_, _, _, q⟩ := hs
    exact False.elim q
/-- the name x stands for a def that keeps the promise sp where a token is out -/
structure ClT (P : Program) (w : World) (K : PySem.W.Frag) (mg : Str → Option Value) (base : Heap) (k : Nat) (x : Str) (ps : List Str) (sp : Sp) : Prop where
  ex : ∃ f fd, FnT P w K mg base k f fd ps sp ∧ Binds K fd ps [] ∧ PySem.W.keepIn K (.ref f) = true ∧ mg x = some (.ref f)
theorem clT_mk {P : Program} {w : World} {K : PySem.W.Frag} {mg : Str → Option Value} {base : Heap} {x : Str} {st : Stmt} {N ps : List Str} {k : Nat} {sp : Sp} {q : Str} (F : FnP K mg x st q) (S : FnScope N ps (defScope st)) (hb : bindOk st q ps) (len : ∀ vs H Q E, sp vs H Q E → vs.length = ps.length)
    (body : ∀ (cdv : Value) (A : Around) (outer : List Env) (s : Shared) (H : Hp) (vs : List V) (Q : VK) (E : XK), Room k (A.deeper (envOfC q (defScope st) s.heap.objs.size (He.ga K x) cdv)) → sp vs H Q E →
      ∃ t, PSsT (cxOf (L2.CX P w) P w K mg base N q (defScope st) (He.ga K x) cdv A outer s H E) (defBody st) t ∧ t { nx := fun _ H' => Q .non H', rt := Q } (start N vs) H) : ClT P w K mg base (k + 1) x ps sp := by
  obtain ⟨fd, D⟩ := F.ex
  have kp := D.kp
  obtain ⟨oc, od, dV, kV, doc, pm, an, cdv, ct, osl, rfl, lk, hcd, hd, hkw⟩ := D.ex
  refine ⟨_, _, fn_ofT lk hcd S len fun A outer s H vs Q E hr hsp => body cdv A outer s H vs Q E hr hsp, ?_, kp, F.gl⟩
  rcases hd with ⟨_, e⟩ | ⟨e, _⟩
  · subst e
    exact Binds.all fun us hl => hb kV doc pm an cdv ct us hl
  · exact absurd rfl e
section
variable {X : Cx} {k j : Nat} {x : Str} {ps : List Str} {sp : Sp} {E : XK} {p pos : Pos} {e : Expr} {es : List Expr} {t : TA} {te : TE}
theorem run_fnT {f : Addr} {fd : FuncData} {pins : List (Addr × Obj)} {σ : L2.St} {H : Hp} {s : Shared} {Q : VK} {us : List Value} {vs : List V} (F : FnT X.prog X.w X.K X.mg X.base k f fd ps sp) (hr : Room k X.A) (hb : Binds X.K fd ps []) (hx : Passes (L2.CX X.prog X.w) X E)
    (h0 : 1 ≤ s.toks) (I : Inv X pins σ H s) (r : Vals vs us) (h : sp vs H Q E) : wpAny (model X.prog X.w) X.A (call (.ref f) us) (EP X pins σ Q) X.xe s := by
  have hl : us.length = ps.length := by rw [← r.length]; exact F.len _ _ _ _ h
  have hb' := hb s us I.kIn (by simpa using hl)
  rw [List.append_nil] at hb'
  refine wpAny_call (codeAny_mono (F.run X.A X.stack s H ⟨us, []⟩ us vs Q E h0 hr I.env0 hb' r h) fun r s' hq => ?_)
  cases r with
  | error e => exact hx pins σ H s e s' I hq
  | ok fl =>
    cases fl with
    | ret u => exact I.after hq
    | next => exact False.elim hq
    | brk => exact False.elim hq
    | cont => exact False.elim hq
/-- a token is out behind it -/
def PEP (X : Cx) (e : Expr) (t : TE) : Prop :=
  ∀ (pins : List (Addr × Obj)) (s : Shared) (σ : L2.St) (H : Hp) (Q : VK), Inv X pins σ H s → t σ H Q → wpAny (model X.prog X.w) X.A (eval e X.env) (fun v s' => 1 ≤ s'.toks ∧ EP X pins σ Q v s') X.xe s
def PAP (X : Cx) (es : List Expr) (t : TA) : Prop :=
  ∀ (pos : Pos) (pins : List (Addr × Obj)) (s : Shared) (σ : L2.St) (H : Hp) (Q : List V → Hp → Prop), Inv X pins σ H s → t σ H Q → wpAny (model X.prog X.w) X.A (spliced (backTo pos (starEach es X.env))) (fun us s' => 1 ≤ s'.toks ∧ AP X pins σ Q us s') X.xe s
def PSP (X : Cx) (st : Stmt) (t : TS) : Prop :=
  ∀ (pins : List (Addr × Obj)) (s : Shared) (σ : L2.St) (H : Hp) (D : Ends), Inv X pins σ H s → t D σ H → wpAny (model X.prog X.w) X.A (exec st X.env) (fun f s' => 1 ≤ s'.toks ∧ SP X pins D f s') X.xe s
theorem toks_in {α : Type} {M : Model} {A : Around} {c : Sem α} {Q : α → Shared → Prop} {E : Value → Shared → Prop} {s : Shared} (h0 : 1 ≤ s.toks) (h : wpAny M A c Q E s) : wpAny M A c (fun v s' => 1 ≤ s'.toks ∧ Q v s') E s :=
  wpAny_mono (PySem.wpAny_toks_of h0 h) (fun _ _ q => q) fun _ _ q => q.2
theorem PAT.of (h : PA X es t) : PAT X es t := fun pos pins s σ H Q _ I q => h.run pos pins s σ H Q I q
theorem pap_int {i : Int} {m : Nat} {q : Pos} (hr : PA X es t) (hs : starEach (.Constant (.int i) m q :: es) X.env = (false, eval (.Constant (.int i) m q) X.env) :: starEach es X.env := by rfl) : PAP X (.Constant (.int i) m q :: es) (tCons (tC (.int i)) t) := by
  intro pos pins s σ H Q I h
  rw [hs]
  show wpAny _ _ (spliced ((false, eval (.Constant (.int i) m q) X.env) :: backTo pos (starEach es X.env))) _ _ s
  refine Calls.spliced_cons (wpAny_Constant_int ?_)
  refine wpAny_mono (toks_in (by show 1 ≤ s.toks + 1; omega) (hr.run pos pins _ σ H _ (I.tok _) h)) (fun us s2 q => ?_) fun _ _ z => z
  obtain ⟨h1, xs, H2, I2, r2, q2⟩ := q
  exact ⟨h1, V.int i :: xs, H2, I2, .cons (show RelV (V.int i) (Value.int i s.toks) from ⟨_, rfl⟩) r2, q2⟩
theorem pap_cons (ha : PE X e te) (hr : PAP X es t) (hs : starEach (e :: es) X.env = (false, eval e X.env) :: starEach es X.env := by rfl) : PAP X (e :: es) (tCons te t) := by
  intro pos pins s σ H Q I h
  rw [hs]
  show wpAny _ _ (spliced ((false, eval e X.env) :: backTo pos (starEach es X.env))) _ _ s
  refine Calls.spliced_cons (thn (ha.run pins s σ H _ I h) fun v s1 ⟨x, H1, I1, r1, q1⟩ => ?_)
  exact thn (hr pos pins s1 σ H1 _ I1 q1) fun us s2 ⟨h1, xs, H2, I2, r2, q2⟩ => ⟨h1, x :: xs, H2, I2, .cons r1 r2, q2⟩
theorem pap_here (ha : PEP X e te) (hr : PA X es t) (hs : starEach (e :: es) X.env = (false, eval e X.env) :: starEach es X.env := by rfl) : PAP X (e :: es) (tCons te t) := by
  intro pos pins s σ H Q I h
  rw [hs]
  show wpAny _ _ (spliced ((false, eval e X.env) :: backTo pos (starEach es X.env))) _ _ s
  refine Calls.spliced_cons (thn (ha pins s σ H _ I h) fun v s1 ⟨h1, x, H1, I1, r1, q1⟩ => ?_)
  exact thn (toks_in h1 (hr.run pos pins s1 σ H1 _ I1 q1)) fun us s2 ⟨h1, xs, H2, I2, r2, q2⟩ => ⟨h1, x :: xs, H2, I2, .cons r1 r2, q2⟩
theorem pep_b (c : Cl X.prog X.w X.K X.mg X.base k x ps sp) (hr : Room j X.A) (hk : k ≤ j) (hg : Gl X x) (hx : Passes (L2.CX X.prog X.w) X E) (ha : PAP X (e :: es) t) (hdb : (x == ("__debug__" : Str)) = false := by decide)
    (he : starEach (e :: es) X.env = (false, eval e X.env) :: starEach es X.env := by rfl) (hpl : (backTo pos (starEach es X.env)).any (·.1) = false := by rfl) : PEP X (.Call (.Name x p) (e :: es) [] pos) (tCall sp [] E t) := by
  obtain ⟨f, fd, F, b, kp, g⟩ := c.ex
  intro pins s σ H Q I h
  refine wpAny_Call_Name_kw (ld_glob I hg g ?_ hdb)
  refine PySem.W.callWith_K (h₀ := X.base) I.ok.mod.kin kp (thn (ha pos pins s σ H _ I h) fun us s1 ⟨h1, vs, H1, I1, r, q⟩ => ⟨I1.kIn, ?_⟩) he hpl
  exact toks_in h1 (run_fn F (hr.mono hk) b .nil hx I1 r q)
theorem pep_bT (c : ClT X.prog X.w X.K X.mg X.base k x ps sp) (hr : Room j X.A) (hk : k ≤ j) (hg : Gl X x) (hx : Passes (L2.CX X.prog X.w) X E) (ha : PAP X (e :: es) t) (hdb : (x == ("__debug__" : Str)) = false := by decide)
    (he : starEach (e :: es) X.env = (false, eval e X.env) :: starEach es X.env := by rfl) (hpl : (backTo pos (starEach es X.env)).any (·.1) = false := by rfl) : PEP X (.Call (.Name x p) (e :: es) [] pos) (tCall sp [] E t) := by
  obtain ⟨f, fd, F, b, kp, g⟩ := c.ex
  intro pins s σ H Q I h
  refine wpAny_Call_Name_kw (ld_glob I hg g ?_ hdb)
  refine PySem.W.callWith_K (h₀ := X.base) I.ok.mod.kin kp (thn (ha pos pins s σ H _ I h) fun us s1 ⟨h1, vs, H1, I1, r, q⟩ => ⟨I1.kIn, ?_⟩) he hpl
  exact toks_in h1 (run_fnT F (hr.mono hk) b hx h1 I1 r (by have q' : sp (vs ++ []) H1 Q E := q; rw [List.append_nil] at q'; exact q'))
theorem pet_bT (c : ClT X.prog X.w X.K X.mg X.base k x ps sp) (hr : Room j X.A) (hk : k ≤ j) (hg : Gl X x) (hx : Passes (L2.CX X.prog X.w) X E) (ha : PAT X (e :: es) t) (hdb : (x == ("__debug__" : Str)) = false := by decide)
    (he : starEach (e :: es) X.env = (false, eval e X.env) :: starEach es X.env := by rfl) (hpl : (backTo pos (starEach es X.env)).any (·.1) = false := by rfl) : PET X (.Call (.Name x p) (e :: es) [] pos) (tCall sp [] E t) := by
  obtain ⟨f, fd, F, b, kp, g⟩ := c.ex
  intro pins s σ H Q h0 I h
  refine wpAny_Call_Name_kw (ld_glob I hg g ?_ hdb)
  refine PySem.W.callWith_K (h₀ := X.base) I.ok.mod.kin kp (thn (toks_in h0 (ha pos pins s σ H _ h0 I h)) fun us s1 ⟨h1, vs, H1, I1, r, q⟩ => ⟨I1.kIn, ?_⟩) he hpl
  exact run_fnT F (hr.mono hk) b hx h1 I1 r (by have q' : sp (vs ++ []) H1 Q E := q; rw [List.append_nil] at q'; exact q')
theorem pet_b (c : Cl X.prog X.w X.K X.mg X.base k x ps sp) (hr : Room j X.A) (hk : k ≤ j) (hg : Gl X x) (hx : Passes (L2.CX X.prog X.w) X E) (ha : PAT X (e :: es) t) (hdb : (x == ("__debug__" : Str)) = false := by decide)
    (he : starEach (e :: es) X.env = (false, eval e X.env) :: starEach es X.env := by rfl) (hpl : (backTo pos (starEach es X.env)).any (·.1) = false := by rfl) : PET X (.Call (.Name x p) (e :: es) [] pos) (tCall sp [] E t) := by
  obtain ⟨f, fd, F, b, kp, g⟩ := c.ex
  intro pins s σ H Q h0 I h
  refine wpAny_Call_Name_kw (ld_glob I hg g ?_ hdb)
  refine PySem.W.callWith_K (h₀ := X.base) I.ok.mod.kin kp (thn (ha pos pins s σ H _ h0 I h) fun us s1 ⟨vs, H1, I1, r, q⟩ => ⟨I1.kIn, ?_⟩) he hpl
  exact run_fn F (hr.mono hk) b .nil hx I1 r q
theorem psp_set {i : Nat} {y : Str} {pos' : Pos} (hN : X.N.Nodup) (hi : X.N[i]? = some y) (hy : Loc X.env.scope y) (he : PEP X e te) (hs : swapsWith e (some (.Name y pos')) pos.line X.env = pure false := by rfl) (hf : X.fn y = true ∨ X.env.scope.names.lookup y = some .local := by first | exact .inl rfl | exact .inr rfl | assumption) :
    PSP X (.Assign [.Name y pos'] e pos) (tAsg te (gName i)) := by
  intro pins s σ H D I h
  refine wpAny_Assign_Name (thn (he pins s σ H _ I h) fun v s1 ⟨h1, y', H1, I1, r1, q1⟩ => ?_) hs
  exact toks_in h1 (store_ok I1 hN hi hy r1 (fun s2 I2 => ⟨_, H1, I2, q1⟩) hf)
theorem pst_set {i : Nat} {y : Str} {pos' : Pos} (hN : X.N.Nodup) (hi : X.N[i]? = some y) (hy : Loc X.env.scope y) (he : PET X e te) (hs : swapsWith e (some (.Name y pos')) pos.line X.env = pure false := by rfl) (hf : X.fn y = true ∨ X.env.scope.names.lookup y = some .local := by first | exact .inl rfl | exact .inr rfl | assumption) :
    PST X (.Assign [.Name y pos'] e pos) (tAsg te (gName i)) := by
  intro pins s σ H D h0 I h
  refine wpAny_Assign_Name (thn (he pins s σ H _ h0 I h) fun v s1 ⟨y', H1, I1, r1, q1⟩ => ?_) hs
  exact store_ok I1 hN hi hy r1 (fun s2 I2 => ⟨_, H1, I2, q1⟩) hf
theorem pst_asg {tg : Expr} {g : TG} (he : PET X e te) (hg : PG X tg g) (hs : swapsWithSole [tg] e pos.line X.env = pure false := by rfl) (hw : swappedStores [tg] e X.env = pure none := by rfl)
    (h1 : (assignEach [tg] X.env).map (·.2) = [assign tg X.env] := by rfl) : PST X (.Assign [tg] e pos) (tAsg te g) := by
  intro pins s σ H D h0 I h
  refine wpAny_Assign_stores (thn (he pins s σ H _ h0 I h) fun v s1 ⟨x, H1, I1, r1, q1⟩ => ?_) hs hw
  rw [h1]
  exact thn (hg.run pins s1 σ H1 x v _ I1 r1 q1) fun _ s2 q => q
/-- behind st a token is out -/
theorem pss_p {st : Stmt} {rest : List Stmt} {ta tb : TS} (h1 : PSP X st ta) (h2 : PSsT X rest tb) : PSs X (st :: rest) (tSeq ta tb) := by
  refine ⟨fun pins s σ H D I h => ?_⟩
  refine wpAny_execs_cons (wpAny_mono (h1 pins s σ H { D with nx := tb D } I h) (fun f s1 q => ?_) fun _ _ x => x)
  obtain ⟨hk, q⟩ := q
  cases f with
  | next =>
    obtain ⟨σ', H', I', q⟩ := q
    exact h2 pins s1 σ' H' D hk I' q
  | ret v => exact q
  | brk => exact q
  | cont => exact q
end
end Fl
namespace Fl
open PySem PySem.Spec PyProof.Rows L2
open SX (S)
open CwR (pet_replC pet_replT)
abbrev s_law_words : Stmt := top 40
theorem sc_law_words : FnScope ["_law_written", "_law_spaced", "_law_word"] ["_law_written"] (defScope s_law_words) := ⟨rfl, rfl, rfl, by decide +kernel, rfl, by decide +kernel, by decide +kernel⟩
abbrev s_law_leaf_in : Stmt := top 39
theorem sc_law_leaf_in : FnScope ["_law_word", "_law_figures", "_law_mark"] ["_law_word"] (defScope s_law_leaf_in) := ⟨rfl, rfl, rfl, by decide +kernel, rfl, by decide +kernel, by decide +kernel⟩
abbrev s_law_one : Stmt := top 41
theorem sc_law_one : FnScope ["_law_words_here", "_law_parts", "_law_left", "_law_found"] ["_law_words_here"] (defScope s_law_one) := ⟨rfl, rfl, rfl, by decide +kernel, rfl, by decide +kernel, by decide +kernel⟩
theorem swap_len (c : Nat) (r : List Nat) : ∀ a : List Nat, (swapL c r a).length ≤ (r.length + 1) * a.length
  | [] => Nat.zero_le _
  | d :: a => by
    have ih := swap_len c r a
    rw [swap_cons, List.length_append, List.length_cons, Nat.mul_succ]
    split
    · omega
    · rw [List.length_singleton]
      omega
def spLWords (K : PySem.W.Frag) : Sp := sp1 fun v H Q _ => ∃ cs, v = .str (S cs) ∧ cs.length ≤ 20000 ∧ ∀ p H', Same H H' → H' p = some (.lst ((tok [] cs).map fun w => V.str (S w))) → Q (.ref p) H'
section
variable {P : Program} {w : World} {K : PySem.W.Frag} {mg : Str → Option Value} {base : Heap}
theorem ok_law_words (F : FnP K mg "_law_words" s_law_words) : ClT P w K mg base 1 "_law_words" ["_law_written"] (spLWords K) := by
  refine clT_mk F sc_law_words (fun _ _ _ _ _ _ us hl => match us, hl with | [_], _ => rfl) (fun vs H Q E h => by obtain ⟨a, rfl, _⟩ := h; rfl) fun cdv A outer s H vs Q E hr h => ?_
  obtain ⟨v, rfl, cs, rfl, hn, q⟩ := h
  refine ⟨_, psst_cons (pst_set (i := 1) sc_law_words.nd rfl (Or.inl rfl) (pet_replT (pet_replT (pet_replC (pv 0))))) (PSsT.of (pss_one (ps_ret (pe_lc (own := [("_law_word", 2)]) (g := gName 2) rfl sc_law_words.nd (pi_list (pe_split (pv 1) pe_str)) (blkOk_by (own := [("_law_word", 2)]) (N := ["_law_written", "_law_spaced", "_law_word"]) (sc := defScope s_law_words) (by decide +kernel)) (fun _ _ _ _ _ => (pg_name (i := 2) sc_law_words.nd rfl (Or.inl rfl))) (fun _ _ _ _ _ => (pts_one (pt_cmpR op_ne (pv 2) pe_str (nomark _)))) (fun _ _ _ _ _ => (pv 2)))))), ?_⟩
  have l1 := swap_len 40 [32, 40, 32] cs
  have l2 := swap_len 41 [32, 41, 32] (swapL 40 [32, 40, 32] cs)
  have l3 := swap_len 10 [32] (swapL 41 [32, 41, 32] (swapL 40 [32, 40, 32] cs))
  simp only [List.length_cons, List.length_nil] at l1 l2 l3
  refine ⟨_, rfl, _, rfl, ?_, ?_⟩
  · rw [SX.S_len]
    show cs.length + (cs.length + 1) * 3 ≤ _
    omega
  have e1 : Txt.replace (S cs) ("(" : Str) (" ( " : Str) = S (swapL 40 [32, 40, 32] cs) := replace_one (a := cs) (c := 40) (r := [32, 40, 32]) (List.cons_ne_nil _ _)
  rw [e1]
  refine ⟨_, rfl, ?_, ?_⟩
  · rw [SX.S_len]
    show (swapL 40 [32, 40, 32] cs).length + ((swapL 40 [32, 40, 32] cs).length + 1) * 3 ≤ _
    omega
  have e2 : Txt.replace (S (swapL 40 [32, 40, 32] cs)) (")" : Str) (" ) " : Str) = S (swapL 41 [32, 41, 32] (swapL 40 [32, 40, 32] cs)) := replace_one (c := 41) (r := [32, 41, 32]) (List.cons_ne_nil _ _)
  rw [e2]
  refine ⟨_, rfl, ?_, ?_⟩
  · rw [SX.S_len]
    show (swapL 41 [32, 41, 32] (swapL 40 [32, 40, 32] cs)).length + ((swapL 41 [32, 41, 32] (swapL 40 [32, 40, 32] cs)).length + 1) * 1 ≤ _
    omega
  have e3 : Txt.replace (S (swapL 41 [32, 41, 32] (swapL 40 [32, 40, 32] cs))) ("\n" : Str) (" " : Str) = S (spaced cs) := replace_one (c := 10) (r := [32]) (List.cons_ne_nil _ _)
  rw [e3]
  have ls : (spaced cs).length ≤ 4000000 := by
    show (swapL 10 [32] (swapL 41 [32, 41, 32] (swapL 40 [32, 40, 32] cs))).length ≤ _
    omega
  refine stepG ?_
  refine ⟨_, rfl, ⟨_, rfl⟩, _, _, rfl, rfl, (by decide +kernel), ?_, ?_⟩
  · rw [SX.S_len, sizeLine_eq]
    omega
  have e4 : Txt.split (S (spaced cs)) (" " : Str) = (cut 32 [] (spaced cs)).map S := by
    have z := SX.split_S (a := spaced cs) (b := [32]) (List.cons_ne_nil _ _) (by decide)
    rw [spl_cut] at z
    exact z
  rw [e4]
  have wd := cut_spaced cs []
  have ln : (cut 32 [] (spaced cs)).length ≤ 4000001 := by
    have z : ∀ (a u : List Nat), (cut 32 u a).length ≤ a.length + 1 := fun a => by
      induction a with
      | nil => intro u; rw [cut]; exact Nat.le_refl _
      | cons d r ih =>
        intro u
        rw [cut]
        split
        · have := ih []
          rw [List.length_cons, List.length_cons]
          omega
        · have := ih (u ++ [d])
          rw [List.length_cons]
          omega
    have := z (spaced cs) []
    omega
  generalize cut 32 [] (spaced cs) = ps at wd ln
  intro pl npl
  have sp' := same_new npl (.lst ((ps.map S).map V.str))
  refine ⟨pl, rfl, ⟨_, SqL.of upd_same⟩, fun D nD => ?_⟩
  have hpl : (upd H pl (.lst ((ps.map S).map V.str))) pl = some (.lst ((ps.map S).map V.str)) := upd_same
  generalize upd H pl (.lst ((ps.map S).map V.str)) = H1 at sp' hpl nD ⊢
  refine lc_it (walk_list (K := K) (a := pl) (xs := (ps.map S).map V.str)) (fun i H' => Same H1 H' ∧ H' D = some (.lst ((keepW (ps.take i)).map fun w => V.str (S w)))) ⟨same_new nD _, upd_same⟩ (fun _ _ _ z => SqL.of (z.1 _ _ hpl)) ?_ ?_
  · rintro i y H2 H3 hi ⟨g1, g2⟩ ⟨rfl, hy⟩
    rw [List.map_map, List.getElem?_map] at hy
    obtain ⟨x, hx, rfl⟩ := Option.map_eq_some_iff.mp hy
    have kt : keepW (ps.take (i + 1)) = keepW (ps.take i) ++ flush x := by
      rw [take_snoc hx]
      unfold keepW
      rw [List.filter_append]
      cases x with
      | nil => rfl
      | cons _ _ => rfl
    refine ⟨rfl, _, rfl, rfl, _, rfl, ?_⟩
    cases x with
    | nil =>
      have e : (!decide (V.str (S []) = V.str "")) = false := by
        rw [decide_eq_true (show V.str (S []) = V.str "" from rfl)]
        rfl
      show (if (!decide (V.str (S []) = V.str "")) = true then _ else _)
      rw [e]
      refine iteF ⟨g1, ?_⟩
      rw [kt, g2]
      show _ = some (HO.lst ((keepW (ps.take i) ++ []).map _))
      rw [List.append_nil]
    | cons c r =>
      have e : (!decide (V.str (S (c :: r)) = V.str "")) = true := by
        rw [decide_eq_false fun z => by
          injection z with z
          have z : S (c :: r) = S [] := z
          cases SX.S_inj z]
        rfl
      show (if (!decide (V.str (S (c :: r)) = V.str "")) = true then _ else _)
      rw [e]
      refine iteT ⟨_, rfl, _, g2, ?_, same_mut g1 nD, ?_⟩
      · have z : (keepW (ps.take i)).length ≤ ps.length := Nat.le_trans (List.length_filter_le _ _) (List.length_take_le' _ _)
        rw [List.length_map, sizeLine_eq]
        omega
      · rw [upd_same, kt, List.map_append]
        rfl
  · rintro H2 ⟨g1, g2⟩
    rw [List.length_map, List.length_map, List.take_length, wd] at g2
    exact q _ _ (sp'.trans g1) g2
theorem str_nil (u : List Nat) : decide (V.str (S u) = V.str "") = u.isEmpty := by
  cases u with
  | nil => exact decide_eq_true rfl
  | cons c r =>
    refine decide_eq_false fun z => ?_
    injection z with z
    have z2 : S (c :: r) = S [] := z
    have z3 := SX.S_inj z2
    cases z3
def LRes (K : PySem.W.Frag) (H : Hp) (p : Addr) : Option Th → Prop
  | none => H p = some (.lst [])
  | some t => ∃ x, H p = some (.lst [x]) ∧ Is (CF K) H x t
def lleafP (w : List Nat) : Option Th :=
  if (decide (S w = sTrue) || decide (S w = sFalse)) = true then some (.bl (decide (S w = sTrue)))
  else if w.all isSign = true then (if w.length ≤ 8 then some (.str (S w)) else none)
  else if ((figs w).isEmpty || (!(figs w).all isFig || decide (10 < (figs w).length))) = true then none
  else if ((decide ((figs w).head? = some 48) && !decide (w = [48])) || decide (1000000000 < ((NumText.digitsVal (figs w) : Nat) : Int))) = true then none
  else some (.int (if sgn w then -((NumText.digitsVal (figs w) : Nat) : Int) else ((NumText.digitsVal (figs w) : Nat) : Int)))
def spLLeaf (K : PySem.W.Frag) : Sp := sp1 fun v H Q _ => ∃ w, v = .str (S w) ∧ w ≠ [] ∧ w.length ≤ 20000 ∧ ∀ p H', Same H H' → LRes K H' p (lleafP w) → Q (.ref p) H'
theorem ok_law_leaf_in (F : FnP K mg "_law_leaf_in" s_law_leaf_in) (T : Tx K mg) : Cl P w K mg base 1 "_law_leaf_in" ["_law_word"] (spLLeaf K) := by
  refine cl_1 F sc_law_leaf_in (fun _ _ _ _ _ _ us hl => match us, hl with | [_], _ => rfl) fun cdv A outer s H v Q E hr h => ?_
  obtain ⟨w, rfl, wn, wl, q⟩ := h
  refine ⟨_, PSs.nox (pss_cons (ps_if (pt_cmpR op_in_seq (pv 0) (pe_tup (pa_cons pe_str (pa_cons pe_str pa_nil))) rfl) (pss_one (ps_ret (pe_lst (pa_cons (pe_cmpR op_eq (pv 0) pe_str (nomark _)) pa_nil)))) pss_nil) (pss_cons (ps_if (pt_val (pe_callB (cr_all rfl) rfl T.z_all PyProof.Rows.boot_all (pa_cons (pe_lc (own := [("_law_mark", 2)]) (g := gName 2) (tt := tYes) rfl sc_law_leaf_in.nd (pi_str (pv 0)) (blkOk_by (own := [("_law_mark", 2)]) (N := ["_law_word", "_law_figures", "_law_mark"]) (sc := defScope s_law_leaf_in) (by decide +kernel)) (fun _ _ _ _ _ => (pg_name (i := 2) sc_law_leaf_in.nd rfl (Or.inl rfl))) (fun _ _ _ _ _ => pts_nil) (fun _ _ _ _ _ => (pe_cmpR op_in_sign (pv 2) pe_str rfl))) pa_nil))) (pss_one (ps_ret (pe_ifExp (pt_cmpR op_le (pe_callB call_len_str rfl T.z_len PySem.boot_len (pa_cons (pv 0) pa_nil)) pe_int (nomark _)) (pe_lst (pa_cons (pv 0) pa_nil)) (pe_lst pa_nil)))) pss_nil) (pss_cons (ps_set (i := 1) sc_law_leaf_in.nd rfl (Or.inl rfl) (pe_ifExp (pt_cmpR op_eq (pe_ix ix_str (pv 0) pe_int (fun _ _ => rfl)) pe_str (nomark _)) (pe_slice sl_str (pv 0) (po_some pe_int) po_none) (pv 0))) (pss_cons (ps_if (PW.pt (pw_or (pt_cmpR op_eq (pv 1) pe_str (nomark _)) (pw_or (pt_not (pt_val (pe_callB (cr_all rfl) rfl T.z_all PyProof.Rows.boot_all (pa_cons (pe_lc (own := [("_law_mark", 2)]) (g := gName 2) (tt := tYes) rfl sc_law_leaf_in.nd (pi_str (pv 1)) (blkOk_by (own := [("_law_mark", 2)]) (N := ["_law_word", "_law_figures", "_law_mark"]) (sc := defScope s_law_leaf_in) (by decide +kernel)) (fun _ _ _ _ _ => (pg_name (i := 2) sc_law_leaf_in.nd rfl (Or.inl rfl))) (fun _ _ _ _ _ => pts_nil) (fun _ _ _ _ _ => (pe_cmpR op_in_sign (pv 2) pe_str rfl))) pa_nil)))) (pw_or1 (pt_cmpR op_gt (pe_callB call_len_str rfl T.z_len PySem.boot_len (pa_cons (pv 1) pa_nil)) pe_int (nomark _)))))) (pss_one (ps_ret (pe_lst pa_nil))) pss_nil) (pss_cons (ps_if (PW.pt (pw_or (PW.pt (pw_and (pt_cmpR op_eq (pe_ix ix_str (pv 1) pe_int (fun _ _ => rfl)) pe_str (nomark _)) (pw_and1 (pt_cmpR op_ne (pv 0) pe_str (nomark _))))) (pw_or1 (pt_cmpR op_gt (pe_callTy call_int_str rfl T.z_int PyProof.Rows.boot_int (pa_cons (pv 1) pa_nil)) (pe_op op_pow pe_int pe_int) (nomark _))))) (pss_one (ps_ret (pe_lst pa_nil))) pss_nil) (pss_one (ps_ret (pe_lst (pa_cons (pe_callTy call_int_str rfl T.z_int PyProof.Rows.boot_int (pa_cons (pv 0) pa_nil)) pa_nil))))))))), ?_⟩
  refine ⟨_, rfl, s2, fun p np => ⟨p, _, rfl, .inr (SqT.of upd_same), rfl, rfl, _, rfl, ?_⟩⟩
  have sp' : Same H (upd H p (.tup [.str sTrue, .str sFalse])) := same_new np _
  have ein : inV (.str (S w)) [.str sTrue, .str sFalse] = (decide (S w = sTrue) || decide (S w = sFalse)) := inTF (S w)
  show (if (if false = true then !inV (.str (S w)) [.str sTrue, .str sFalse] else inV (.str (S w)) [.str sTrue, .str sFalse]) = true then _ else _)
  rw [if_neg Bool.false_ne_true, ein]
  unfold lleafP at q
  cases c1 : (decide (S w = sTrue) || decide (S w = sFalse)) with
  | true =>
    rw [if_pos c1] at q
    refine iteT ⟨_, rfl, rfl, Fl.s1, fun p2 np2 => q p2 _ (sp'.trans (same_new np2 _)) ⟨_, upd_same, ?_⟩⟩
    have e : decide (V.str (S w) = V.str "true") = decide (S w = sTrue) := decide_eq_decide.mpr ⟨fun z => by injection z, fun z => by rw [z]; rfl⟩
    rw [e]
    exact .bl _
  | false =>
    rw [if_neg (by rw [c1]; decide)] at q
    refine iteF (stepN ?_)
    dsimp only
    have sp' : Same H (upd H p (.tup [V.str "true", V.str "false"])) := sp'
    generalize upd H p (.tup [V.str "true", V.str "false"]) = H1 at sp' ⊢
    refine join_v (T := tCB _ _ _ _) (fun k => ∀ H', Same H1 H' → k (.bl (w.all isSign)) H') (fun H2 s2' => ⟨_, rfl, ?_⟩) (fun k hk => ?_)
    case refine_2 =>
      refine ⟨_, rfl, S w, rfl, fun D nD => lc_it walk_str (fun i H' => Same H1 H' ∧ H' D = some (.lst (((w.take i).map isSign).map V.bl))) ⟨same_new nD _, upd_same⟩ (fun _ _ _ _ => trivial) ?_ ?_⟩
      · rintro i y H3 H4 hi ⟨r1, r2⟩ ⟨rfl, c, hc, rfl⟩
        refine ⟨rfl, _, rfl, c, _, rfl, rfl, _, r2, ?_, same_mut r1 nD, ?_⟩
        · rw [List.length_map, List.length_map, sizeLine_eq]
          have := List.length_take_le' i w
          omega
        · have hc' : w[i]? = some c := by
            rw [← hc]
            exact (Array.getElem?_toList (xs := (S w).cps) (i := i))
          rw [upd_same, take_snoc hc', List.map_append, List.map_append]
          show some (HO.lst (_ ++ [V.bl (decide (c ∈ ("abcdefghijklmnopqrstuvwxyz" : Str).cps.toList))])) = _
          rw [sign_mem c]
          rfl
      · rintro H3 ⟨r1, r2⟩
        refine ⟨D, _, rfl, SqL.of r2, ?_⟩
        have e : (((w.take (S w).cps.size).map isSign).all id) = w.all isSign := by
          rw [← Array.length_toList]
          show (((w.take w.length).map isSign).all id) = _
          rw [List.take_length, List.all_map]
          rfl
        rw [e]
        exact hk _ r1
    have S2 := sp'.trans s2'
    cases c2 : w.all isSign with
    | true =>
      rw [if_pos c2] at q
      refine iteT ⟨_, rfl, S w, rfl, (by rw [SX.S_len, sizeLine_eq]; omega), _, _, rfl, rfl, _, rfl, ite2 (fun c3 => ?_) (fun c3 => ?_)⟩
      · have l8 : w.length ≤ 8 := by
          have := of_decide_eq_true c3
          rw [SX.S_len] at this
          omega
        rw [if_pos l8] at q
        refine ⟨_, rfl, Fl.s1, fun p2 np2 => q p2 _ (S2.trans (same_new np2 _)) ⟨_, upd_same, .str _ (by rw [SX.S_len]; omega)⟩⟩
      · have l8 : ¬ w.length ≤ 8 := fun z => c3 (decide_eq_true (by rw [SX.S_len]; omega))
        rw [if_neg l8] at q
        exact ⟨(by show 0 ≤ sizeLine; decide), fun p2 np2 => q p2 _ (S2.trans (same_new np2 _)) upd_same⟩
    | false =>
      rw [if_neg (by rw [c2]; decide)] at q
      refine iteF (stepN ?_)
      dsimp only
      obtain ⟨c0, r0, ew⟩ : ∃ c0 r0, w = c0 :: r0 := by
        cases w with
        | nil => exact absurd rfl wn
        | cons c r => exact ⟨c, r, rfl⟩
      have fl : (figs w).length ≤ w.length := by
        cases e : sgn w with
        | true => rw [(figs_neg e).1, List.length_drop]; omega
        | false => rw [figs_pos e]; omega
      have hlen : (S w).length ≤ sizeLine := by rw [SX.S_len, sizeLine_eq]; omega
      have hlenf : (S (figs w)).length ≤ sizeLine := by rw [SX.S_len, sizeLine_eq]; omega
      refine join_v (T := tIf _ _ _ _ _) (fun k => k (.str (S (figs w))) H2) ?_ (fun k hk => ?_)
      case refine_2 =>
        have a0 : atI (S w).cps.toList 0 = some c0 := atI_nat (j := 0) (by rw [ew]; rfl)
        refine ⟨_, rfl, _, _, c0, rfl, rfl, hlen, a0, rfl, _, rfl, ?_⟩
        have h0 : decide (V.str ⟨#[c0]⟩ = V.str "-") = sgn w := by
          rw [← sgn_eq w, ew]
          rfl
        rw [h0]
        cases e : sgn w with
        | true =>
          refine iteT ⟨_, rfl, _, rfl, ?_⟩
          unfold tNoPart
          show rSlS (.str (S w)) (some 1) none H2 _
          refine ⟨S w, rfl, hlen, ?_⟩
          rw [cut_from1]
          rw [(figs_neg e).1] at hk
          exact hk
        | false =>
          refine iteF ⟨_, rfl, ?_⟩
          rw [figs_pos e] at hk
          exact hk
      refine stepG ?_
      dsimp only
      refine join_t (T := tOr _ _ _ _) (fun k => ∀ H', Same H2 H' → k ((figs w).isEmpty || (!(figs w).all isFig || decide (10 < (figs w).length))) H') (fun H3 s3 => ?_) (fun k hk => ?_)
      case refine_2 =>
        refine ⟨_, rfl, rfl, _, rfl, ?_⟩
        have h0 := str_nil (figs w)
        rw [h0]
        cases e0 : (figs w).isEmpty with
        | true =>
          rw [e0] at hk
          exact iteT (hk _ (.refl _))
        | false =>
          rw [e0, Bool.false_or] at hk
          refine iteF ⟨_, rfl, S (figs w), rfl, fun D nD => lc_it walk_str (fun i H' => Same H2 H' ∧ H' D = some (.lst ((((figs w).take i).map isFig).map V.bl))) ⟨same_new nD _, upd_same⟩ (fun _ _ _ _ => trivial) ?_ ?_⟩
          · rintro i y H4 H5 hi ⟨r1, r2⟩ ⟨rfl, c, hc, rfl⟩
            refine ⟨rfl, _, rfl, c, _, rfl, rfl, _, r2, ?_, same_mut r1 nD, ?_⟩
            · rw [List.length_map, List.length_map, sizeLine_eq]
              have := List.length_take_le' i (figs w)
              omega
            · have hc' : (figs w)[i]? = some c := by
                rw [← hc]
                exact (Array.getElem?_toList (xs := (S (figs w)).cps) (i := i))
              rw [upd_same, take_snoc hc', List.map_append, List.map_append]
              show some (HO.lst (_ ++ [V.bl (decide (c ∈ ("0123456789" : Str).cps.toList))])) = _
              rw [fig_mem c]
              rfl
          · rintro H4 ⟨r1, r2⟩
            refine ⟨D, _, rfl, SqL.of r2, ?_⟩
            have e : ((((figs w).take (S (figs w)).cps.size).map isFig).all id) = (figs w).all isFig := by
              rw [← Array.length_toList]
              show ((((figs w).take (figs w).length).map isFig).all id) = _
              rw [List.take_length, List.all_map]
              rfl
            rw [e]
            refine ⟨_, rfl, ?_⟩
            cases e1 : (figs w).all isFig with
            | false =>
              rw [e1] at hk
              exact iteT (hk _ r1)
            | true =>
              rw [e1] at hk
              refine iteF ⟨_, rfl, S (figs w), rfl, hlenf, _, _, rfl, rfl, _, rfl, ?_⟩
              have e2 : decide ((10 : Int) < (((S (figs w)).length : Nat) : Int)) = decide (10 < (figs w).length) := by
                rw [SX.S_len]
                exact decide_eq_decide.mpr (by omega)
              rw [e2]
              exact hk _ r1
      have S3 := S2.trans s3
      cases c3 : ((figs w).isEmpty || (!(figs w).all isFig || decide (10 < (figs w).length))) with
      | true =>
        rw [if_pos c3] at q
        exact iteT ⟨(by show 0 ≤ sizeLine; decide), fun p2 np2 => q p2 _ (S3.trans (same_new np2 _)) upd_same⟩
      | false =>
        rw [if_neg (by rw [c3]; decide)] at q
        rw [Bool.or_eq_false_iff, Bool.or_eq_false_iff, Bool.not_eq_false'] at c3
        obtain ⟨c31, c32, c33⟩ := c3
        have l10 : (figs w).length ≤ 10 := by
          have := of_decide_eq_false c33
          omega
        refine iteF (stepN ?_)
        dsimp only
        have ne : figs w ≠ [] := fun z => by rw [z] at c31; cases c31
        obtain ⟨c, r, ef⟩ : ∃ c r, figs w = c :: r := by
          cases ef : figs w with
          | nil => exact absurd ef ne
          | cons c r => exact ⟨c, r, rfl⟩
        have a0 : atI (S (figs w)).cps.toList 0 = some c := atI_nat (j := 0) (by rw [ef]; rfl)
        have h48 : decide (V.str ⟨#[c]⟩ = V.str "0") = decide ((figs w).head? = some 48) := by
          rw [ef]
          refine decide_eq_decide.mpr ⟨fun z => ?_, fun z => ?_⟩
          · injection z with z
            have := congrArg (fun x : Str => x.cps.toList) z
            injection this with this _
            rw [List.head?_cons, this]
            rfl
          · rw [List.head?_cons] at z
            injection z with z
            rw [z]
            rfl
        have hw48 : decide (V.str (S w) = V.str "0") = decide (w = [48]) := decide_eq_decide.mpr ⟨fun z => by
          injection z with z
          exact SX.S_inj (show S w = S [48] from z), fun z => by rw [z]; rfl⟩
        have al : NumText.AllDigits (figs w) := by
          intro x hx
          have z := List.all_eq_true.mp c32 x hx
          unfold isFig at z
          rw [Bool.and_eq_true, Nat.ble_eq, Nat.ble_eq] at z
          exact z
        have itf : PySem.intText? (S (figs w)) = some ((NumText.digitsVal (figs w) : Nat) : Int) := intText_digits (x := S (figs w)) al ne (by rw [SX.S_len]; omega)
        have lw : w.length ≤ 11 := by
          cases e : sgn w with
          | true =>
            have z := congrArg List.length (figs_neg e).2
            rw [List.length_cons, ← (figs_neg e).1] at z
            omega
          | false =>
            rw [figs_pos e] at l10
            omega
        have itw : PySem.intText? (S w) = some (if sgn w then -((NumText.digitsVal (figs w) : Nat) : Int) else ((NumText.digitsVal (figs w) : Nat) : Int)) := by
          cases e : sgn w with
          | true =>
            have z := figs_neg e
            rw [if_pos rfl]
            refine intText_neg (x := S w) (cs := figs w) ?_ al ne (by rw [SX.S_len]; omega)
            show w = _
            rw [z.1]
            exact z.2
          | false =>
            rw [if_neg (by decide)]
            have z := figs_pos e
            rw [z] at itf
            rw [z]
            exact itf
        have lf4 : (figs w).length ≤ 640 := by omega
        generalize hv : ((NumText.digitsVal (figs w) : Nat) : Int) = dv at itf itw q
        refine join_t (T := tOr _ _ _ _) (fun k => k ((decide ((figs w).head? = some 48) && !decide (w = [48])) || decide (1000000000 < dv)) H3) ?_ (fun k hk => ?_)
        case refine_2 =>
          have second : ∀ k' : Bool → Hp → Prop, k' (decide (1000000000 < dv)) H3 → tTest (tOp (rI0 fun i j => V.bl (decide (j < i))) (tCB (fun xs H Q => ∃ a n, xs = [V.str a] ∧ PySem.intText? a = some n ∧ a.length ≤ 640 ∧ Q (V.int n) H) (tCons (tVar 1) tNil)) (tOp (rI CPow fun i j => V.int (i ^ j.toNat)) (tC (V.int 10)) (tC (V.int 9))))
              [some (.str (S w)), some (.str (S (figs w))), none] H3 k' := fun k' hk' =>
            ⟨_, rfl, S (figs w), dv, rfl, itf, by rw [SX.S_len]; exact lf4, _, _, rfl, rfl, pw9, _, _, rfl, rfl, _, rfl, hk'⟩
          refine ⟨_, rfl, _, _, c, rfl, rfl, hlenf, a0, rfl, _, rfl, ?_⟩
          rw [h48]
          cases e0 : decide ((figs w).head? = some 48) with
          | false =>
            rw [e0, Bool.false_and, Bool.false_or] at hk
            exact iteF (iteF (second _ hk))
          | true =>
            rw [e0, Bool.true_and] at hk
            refine iteT ⟨_, rfl, rfl, _, rfl, ?_⟩
            rw [hw48]
            cases e1 : decide (w = [48]) with
            | false =>
              rw [e1] at hk
              exact iteT hk
            | true =>
              rw [e1] at hk
              exact iteF (second _ hk)
        cases c4 : ((decide ((figs w).head? = some 48) && !decide (w = [48])) || decide (1000000000 < dv)) with
        | true =>
          rw [if_pos c4] at q
          exact iteT ⟨(by show 0 ≤ sizeLine; decide), fun p2 np2 => q p2 _ (S3.trans (same_new np2 _)) upd_same⟩
        | false =>
          rw [if_neg (by rw [c4]; decide)] at q
          refine iteF (stepN ?_)
          exact ⟨_, rfl, S w, _, rfl, itw, (by rw [SX.S_len]; omega), Fl.s1, fun p2 np2 => q p2 _ (S3.trans (same_new np2 _)) ⟨_, upd_same, .int _⟩⟩
end
end Fl
/-! the law's reading and the program's -/
namespace Fl
open PySem PySem.Spec PyProof.Rows L2
open SX (S)
theorem lleaf_eq {w : List Nat} (wn : w ≠ []) : lleafP w = leafP w := by
  unfold lleafP leafP
  by_cases t : S w = sTrue
  · rw [decide_eq_true t, Bool.true_or, if_pos rfl, if_pos t]
  by_cases f : S w = sFalse
  · rw [decide_eq_true f, Bool.or_true, if_pos rfl, if_neg t, if_pos f, decide_eq_false t]
  rw [decide_eq_false t, decide_eq_false f, Bool.or_self, if_neg Bool.false_ne_true, if_neg t, if_neg f]
  cases w with
  | nil => exact absurd rfl wn
  | cons c r =>
    have wl : (S (c :: r)).length = r.length + 1 := SX.S_len (c :: r)
    have wb : wordB (S (c :: r)) = (decide (r.length + 1 ≤ 8) && (c :: r).all isSign) := by
      unfold wordB
      rw [wl, decide_eq_true (show 1 ≤ r.length + 1 by omega), decide_eq_false t, decide_eq_false f]
      rfl
    show _ = (if isSign c = true then (if wordB (S (c :: r)) = true then some (Th.str (S (c :: r))) else none) else (numP (c :: r)).map Th.int)
    rw [wb]
    cases a : (c :: r).all isSign with
    | true =>
      have hc : isSign c = true := List.all_eq_true.mp a c List.mem_cons_self
      rw [if_pos rfl, if_pos hc, Bool.and_true, List.length_cons]
      by_cases l : r.length + 1 ≤ 8
      · rw [if_pos l, decide_eq_true l, if_pos rfl]
      · rw [if_neg l, decide_eq_false l, if_neg Bool.false_ne_true]
    | false =>
      rw [if_neg Bool.false_ne_true, Bool.and_false, if_neg Bool.false_ne_true]
      cases hc : isSign c with
      | true =>
        rw [if_pos rfl]
        have hf : isFig c = false := by
          cases z : isFig c with
          | false => rfl
          | true =>
            unfold isFig at z
            unfold isSign at hc
            rw [Bool.and_eq_true, Nat.ble_eq, Nat.ble_eq] at z hc
            omega
        have sg : sgn (c :: r) = false := by
          unfold sgn
          split
          · rename_i e
            injection e with e _
            rw [e] at hc
            cases hc
          · rfl
        rw [figs_pos sg]
        have e : (c :: r).all isFig = false := by
          rw [List.all_cons, hf, Bool.false_and]
        rw [e, Bool.not_false, Bool.true_or, Bool.or_true, if_pos rfl]
      | false =>
        rw [if_neg Bool.false_ne_true]
        generalize c :: r = w
        unfold numP
        have dv0 : (0 : Int) ≤ ((NumText.digitsVal (figs w) : Nat) : Int) := Int.natCast_nonneg _
        generalize ((NumText.digitsVal (figs w) : Nat) : Int) = dv at dv0
        have e1 : (decide (1 ≤ (figs w).length) && decide ((figs w).length ≤ 10) && (figs w).all isFig) = !((figs w).isEmpty || (!(figs w).all isFig || decide (10 < (figs w).length))) := by
          cases figs w with
          | nil => rfl
          | cons d s =>
            rw [decide_eq_true (show 1 ≤ (d :: s).length by simp)]
            cases (d :: s).all isFig with
            | false => simp
            | true =>
              by_cases l : (d :: s).length ≤ 10
              · rw [decide_eq_true l, decide_eq_false (by omega)]
                rfl
              · rw [decide_eq_false l, decide_eq_true (by omega)]
                rfl
        rw [e1]
        cases ((figs w).isEmpty || (!(figs w).all isFig || decide (10 < (figs w).length))) with
        | true => rfl
        | false =>
          rw [if_neg Bool.false_ne_true, Bool.not_false, Bool.true_and]
          have nb : numB (if sgn w = true then -dv else dv) = !decide (1000000000 < dv) := by
            unfold numB
            cases sgn w with
            | true =>
              rw [if_pos rfl, decide_eq_true (show -dv ≤ 1000000000 by omega), Bool.and_true]
              by_cases l : 1000000000 < dv
              · rw [decide_eq_true l, decide_eq_false (by omega)]
                rfl
              · rw [decide_eq_false l, decide_eq_true (by omega)]
                rfl
            | false =>
              rw [if_neg Bool.false_ne_true, decide_eq_true (show -1000000000 ≤ dv by omega), Bool.true_and]
              by_cases l : 1000000000 < dv
              · rw [decide_eq_true l, decide_eq_false (by omega)]
                rfl
              · rw [decide_eq_false l, decide_eq_true (by omega)]
                rfl
          cases decide ((figs w).head? = some 48) with
          | false =>
            rw [Bool.false_and, Bool.false_or, Bool.not_false, Bool.true_or, if_pos rfl]
            show _ = (if numB (if sgn w = true then -dv else dv) = true then some (if sgn w = true then -dv else dv) else none).map Th.int
            rw [nb]
            cases decide (1000000000 < dv) <;> rfl
          | true =>
            cases decide (w = [48]) with
            | false => rfl
            | true =>
              show _ = (if numB (if sgn w = true then -dv else dv) = true then some (if sgn w = true then -dv else dv) else none).map Th.int
              rw [nb]
              cases decide (1000000000 < dv) <;> rfl
/-! ### the law's reading, as it goes -/
mutual
inductive OneR : List (List Nat) → Option Th → List (List Nat) → Prop
  | nil : OneR [] none []
  | close (r : List (List Nat)) : OneR ([41] :: r) none ([41] :: r)
  | leaf {w : List Nat} {r : List (List Nat)} : w ≠ [40] → w ≠ [41] → OneR (w :: r) (leafP w) r
  | row {r : List (List Nat)} {o : Option Th} {rest : List (List Nat)} : RowR [] r o rest → OneR ([40] :: r) o rest
inductive RowR : List Th → List (List Nat) → Option Th → List (List Nat) → Prop
  | nil {acc : List Th} : RowR acc [] none []
  | close {acc : List Th} {r : List (List Nat)} : RowR acc ([41] :: r) (some (.tup acc)) r
  | bad {acc : List Th} {w : List Nat} {r rest : List (List Nat)} : w ≠ [41] → OneR (w :: r) none rest → RowR acc (w :: r) none rest
  | next {acc : List Th} {w : List Nat} {r left : List (List Nat)} {t : Th} {o : Option Th} {rest : List (List Nat)} : w ≠ [41] → OneR (w :: r) (some t) left → RowR (acc ++ [t]) left o rest → RowR acc (w :: r) o rest
end
mutual
theorem one_suf : ∀ {ws : List (List Nat)} {o : Option Th} {rest : List (List Nat)}, OneR ws o rest → rest <:+ ws ∧ (∀ w r, ws = w :: r → w ≠ [41] → rest.length < ws.length)
  | _, _, _, .nil => ⟨List.suffix_refl _, fun _ _ e => by cases e⟩
  | _, _, _, .close r => ⟨List.suffix_refl _, fun w r' e h => by injection e with e _; exact absurd e.symm h⟩
  | _, _, _, .leaf h1 h2 => ⟨List.suffix_cons _ _, fun _ _ _ _ => Nat.lt_succ_self _⟩
  | _, _, _, .row h => by
    obtain ⟨a, b⟩ := row_suf h
    exact ⟨a.trans (List.suffix_cons _ _), fun _ _ _ _ => Nat.lt_succ_of_le a.length_le⟩
theorem row_suf : ∀ {acc : List Th} {ws : List (List Nat)} {o : Option Th} {rest : List (List Nat)}, RowR acc ws o rest → rest <:+ ws ∧ True
  | _, _, _, _, .nil => ⟨List.suffix_refl _, trivial⟩
  | _, _, _, _, .close => ⟨List.suffix_cons _ _, trivial⟩
  | _, _, _, _, .bad _ h => ⟨(one_suf h).1, trivial⟩
  | _, _, _, _, .next _ h1 h2 => ⟨(row_suf h2).1.trans (one_suf h1).1, trivial⟩
end
def cnt (ws : List (List Nat)) : Nat := ws.countP fun w => w == [40]
theorem cnt_suf {a b : List (List Nat)} (h : a <:+ b) : cnt a ≤ cnt b := h.sublist.countP_le
theorem cnt_row (r : List (List Nat)) : cnt ([40] :: r) = cnt r + 1 := by
  unfold cnt
  rw [List.countP_cons]
  rfl
theorem steps_cons (rows : List (List Th)) (w : List Nat) (r : List (List Nat)) : stepsP rows (w :: r) = (match stepP rows w with | some rows' => stepsP rows' r | none => none) := by rw [stepsP] <;> (cases stepP rows w <;> rfl)
def Bad (n : Nat) (o : Option (List (List Th))) : Prop := o = none ∨ ∃ rows, o = some rows ∧ n < rows.length
theorem step_open {r : List Th} {s : List (List Th)} (h : s ≠ [] ∨ r = []) (l : (r :: s).length + 1 ≤ 101) : stepP (r :: s) [40] = some ([] :: r :: s) := by
  unfold stepP
  rw [if_pos (low_ok h), if_pos rfl, if_pos l]
theorem step_leaf {r : List Th} {s : List (List Th)} {w : List Nat} (h : s ≠ [] ∨ r = []) (h1 : w ≠ [40]) (h2 : w ≠ [41]) : stepP (r :: s) w = (leafP w).map fun t => (r ++ [t]) :: s := by
  unfold stepP
  rw [if_pos (low_ok h), if_neg h1, if_neg h2]
  cases leafP w <;> rfl
mutual
theorem one_ok : ∀ {ws : List (List Nat)} {o : Option Th} {rest : List (List Nat)}, OneR ws o rest → ∀ (t : Th) (r : List Th) (s : List (List Th)), o = some t → (r :: s).length + cnt ws ≤ 101 → (s ≠ [] ∨ r = []) → stepsP (r :: s) ws = stepsP ((r ++ [t]) :: s) rest
  | _, _, _, .nil => fun t r s e => by cases e
  | _, _, _, .close _ => fun t r s e => by cases e
  | _, _, _, .leaf h1 h2 => fun t r s e l hs => by
    rw [steps_cons, step_leaf hs h1 h2, e]
    rfl
  | _, _, _, .row h => fun t r s e l hs => by
    rw [cnt_row] at l
    rw [steps_cons, step_open hs (by omega)]
    exact row_ok h t r s e (by simp only [List.length_cons] at l ⊢; omega)
theorem row_ok : ∀ {acc : List Th} {ws : List (List Nat)} {o : Option Th} {rest : List (List Nat)}, RowR acc ws o rest → ∀ (t : Th) (r : List Th) (s : List (List Th)), o = some t → (acc :: r :: s).length + cnt ws ≤ 101 → stepsP (acc :: r :: s) ws = stepsP ((r ++ [t]) :: s) rest
  | _, _, _, _, .nil => fun t r s e => by cases e
  | acc, _, _, _, .close => fun t r s e l => by
    injection e with e
    subst e
    have st : stepP (acc :: r :: s) [41] = some ((r ++ [.tup acc]) :: s) := by
      unfold stepP
      rw [if_pos (low_ok (.inl (List.cons_ne_nil _ _))), if_neg (by decide), if_pos rfl, if_pos (by simp only [List.length_cons]; omega)]
      rfl
    rw [steps_cons, st]
  | _, _, _, _, .bad _ _ => fun t r s e => by cases e
  | _, _, _, _, .next _ h1 h2 => fun t r s e l => by
    have c := cnt_suf (one_suf h1).1
    rw [one_ok h1 _ _ _ rfl l (.inl (List.cons_ne_nil _ _))]
    exact row_ok h2 t r s e (by simp only [List.length_cons] at l ⊢; omega)
end
mutual
theorem one_bad : ∀ {ws : List (List Nat)} {o : Option Th} {rest : List (List Nat)}, OneR ws o rest → ∀ (w : List Nat) (q : List (List Nat)) (r : List Th) (s : List (List Th)), o = none → ws = w :: q → w ≠ [41] → (r :: s).length + cnt ws ≤ 101 → (s ≠ [] ∨ r = []) → Bad (r :: s).length (stepsP (r :: s) ws)
  | _, _, _, .nil => fun w q r s _ e => by cases e
  | _, _, _, .close _ => fun w q r s _ e h => by injection e with e _; exact absurd e.symm h
  | _, _, _, .leaf h1 h2 => fun w q r s e _ _ l hs => by
    rw [steps_cons, step_leaf hs h1 h2, e]
    exact .inl rfl
  | _, _, _, .row h => fun w q r s e _ _ l hs => by
    rw [cnt_row] at l
    rw [steps_cons, step_open hs (by omega)]
    exact row_bad h r s e (by simp only [List.length_cons] at l ⊢; omega)
theorem row_bad : ∀ {acc : List Th} {ws : List (List Nat)} {o : Option Th} {rest : List (List Nat)}, RowR acc ws o rest → ∀ (r : List Th) (s : List (List Th)), o = none → (acc :: r :: s).length + cnt ws ≤ 101 → Bad (r :: s).length (stepsP (acc :: r :: s) ws)
  | acc, _, _, _, .nil => fun r s _ _ => .inr ⟨_, by rw [stepsP], Nat.lt_succ_self _⟩
  | _, _, _, _, .close => fun r s e => by cases e
  | _, _, _, _, .bad h1 h2 => fun r s _ l => by
    rcases one_bad h2 _ _ _ _ rfl rfl h1 l (.inl (List.cons_ne_nil _ _)) with z | ⟨rows, z, y⟩
    · exact .inl z
    · exact .inr ⟨rows, z, Nat.lt_of_succ_lt y⟩
  | _, _, _, _, .next _ h1 h2 => fun r s e l => by
    have c := cnt_suf (one_suf h1).1
    rw [one_ok h1 _ _ _ rfl l (.inl (List.cons_ne_nil _ _))]
    exact row_bad h2 r s e (by simp only [List.length_cons] at l ⊢; omega)
end
/-- what the law reads, read reads -/
theorem read_one {cs : List Nat} {o : Option Th} {rest : List (List Nat)} (h : OneR (tok [] cs) o rest) (hl : cs.length ≤ 20000) (hc : cnt (tok [] cs) ≤ 100) : readP cs = (if rest = [] then o else none) := by
  unfold readP
  rw [if_pos hl]
  generalize tok [] cs = ws at h hc
  cases o with
  | some t =>
    rw [one_ok h t [] [] rfl (by show 1 + _ ≤ _; omega) (.inr rfl), List.nil_append]
    cases rest with
    | nil => rfl
    | cons w r =>
      rw [if_neg (List.cons_ne_nil _ _), steps_cons]
      have st : stepP [[t]] w = none := by
        unfold stepP
        exact if_neg Bool.false_ne_true
      rw [st]
      rfl
  | none =>
    have e : (if rest = [] then (none : Option Th) else none) = none := by split <;> rfl
    rw [e]
    cases ws with
    | nil => rfl
    | cons w q =>
      by_cases hw : w = [41]
      · subst hw
        have st : stepP [[]] [41] = none := by
          unfold stepP
          rfl
        rw [steps_cons, st]
        rfl
      · rcases one_bad h w q [] [] rfl rfl hw (by show 1 + _ ≤ _; omega) (.inr rfl) with z | ⟨rows, z, y⟩
        · rw [z]
          rfl
        · rw [z]
          unfold oneP
          split
          · rename_i e
            injection e with e
            subst e
            exact absurd y (by simp)
          · rfl
end Fl
namespace Fl
open PySem PySem.Spec PyProof.Rows L2
open SX (S)
def wsV (ws : List (List Nat)) : List V := ws.map fun w => V.str (S w)
theorem gc2o {i j : Nat} {x y : V} {σ : L2.St} {H : Hp} {k : L2.St → Hp → Prop} (h : k ((σ.set i (some x)).set j (some y)) H) : gCons (gName i) (gCons (gName j) gNil) [x, y] σ H k := ⟨_, _, rfl, _, _, rfl, rfl, h⟩
theorem cut_one (x : V) (xs : List V) : cutV (x :: xs) (some 1) none = xs := by
  have e : HT.sIx (x :: xs).length 0 (some 1) = 1 := by
    show (if (1 : Int) < 0 then ((1 : Int) + ((x :: xs).length : Int)).toNat else min (1 : Int).toNat (x :: xs).length) = 1
    rw [if_neg (by decide), List.length_cons]
    show min 1 (xs.length + 1) = 1
    omega
  unfold cutV
  rw [sIx_none0, e]
  show xs.take (xs.length + 1 - 1) = xs
  rw [Nat.add_sub_cancel, List.take_length]
theorem word_eq (u : List Nat) (c : Nat) (x : Str) (h : x = S [c]) : decide (V.str (S u) = V.str x) = decide (u = [c]) := by
  subst h
  exact decide_eq_decide.mpr ⟨fun z => by injection z with z; exact SX.S_inj z, fun z => by rw [z]⟩
theorem lres_same {K : PySem.W.Frag} {H H' : Hp} {p : Addr} {o : Option Th} (h : LRes K H p o) (s : Same H H') : LRes K H' p o := by
  cases o with
  | none => exact s _ _ h
  | some t =>
    obtain ⟨x, h1, h2⟩ := h
    exact ⟨x, s _ _ h1, h2.same s⟩
def spOne (K : PySem.W.Frag) (m : Nat) : Sp := sp1 fun v H Q _ => ∃ p ws, v = .ref p ∧ H p = some (.lst (wsV ws)) ∧ (∀ w ∈ ws, w ≠ [] ∧ w.length ≤ 20000) ∧ ws.length ≤ 20000 ∧ cnt ws < m ∧
  ∀ T a b o rest H', Same H H' → OneR ws o rest → H' T = some (.tup [.ref a, .ref b]) → LRes K H' a o → H' b = some (.lst (wsV rest)) → (b = p ∨ H b = none) → Q (.ref T) H'
section
variable {P : Program} {w : World} {K : PySem.W.Frag} {mg : Str → Option Value} {base : Heap}
theorem ok_law_one_none (F : FnP K mg "_law_one" s_law_one) : Cl P w K mg base 2 "_law_one" ["_law_words_here"] (spOne K 0) := by
  refine cl_1 F sc_law_one (fun _ _ _ _ _ _ us hl => match us, hl with | [_], _ => rfl) fun cdv A outer s H v Q E hr h => ?_
  obtain ⟨_, _, _, _, _, _, h, _⟩ := h
  omega
theorem ok_law_one {m : Nat} (F : FnP K mg "_law_one" s_law_one) (T : Tx K mg) (B_law_leaf_in : Cl P w K mg base 1 "_law_leaf_in" ["_law_word"] (spLLeaf K)) (B_law_one : Cl P w K mg base (2 + m) "_law_one" ["_law_words_here"] (spOne K m)) :
    Cl P w K mg base (2 + m + 1) "_law_one" ["_law_words_here"] (spOne K (m + 1)) := by
  refine cl_1 F sc_law_one (fun _ _ _ _ _ _ us hl => match us, hl with | [_], _ => rfl) fun cdv A outer s H v Q E hr h => ?_
  obtain ⟨p, ws, rfl, hp, hw, hl, hc, q⟩ := h
  refine ⟨_, PSs.nox (pss_cons (ps_if (PW.pt (pw_or (pt_cmpR (op_eqNil hr.units0) (pv 0) (pe_lst pa_nil) (nomark _)) (pw_or1 (pt_cmpR op_eq (pe_ix ix_list (pv 0) pe_int (fun _ _ => rfl)) pe_str (nomark _))))) (pss_one (ps_ret (pe_tup (pa_cons (pe_lst pa_nil) (pa_cons (pv 0) pa_nil))))) pss_nil) (pss_cons (ps_if (pt_cmpR op_ne (pe_ix ix_list (pv 0) pe_int (fun _ _ => rfl)) pe_str (nomark _)) (pss_one (ps_ret (pe_tup (pa_cons (pe_b B_law_leaf_in hr (by omega) rfl passL (pa_cons (pe_ix ix_list (pv 0) pe_int (fun _ _ => rfl)) pa_nil)) (pa_cons (pe_slice sl_list (pv 0) (po_some pe_int) po_none) pa_nil))))) pss_nil) (pss_cons (ps_set (i := 1) sc_law_one.nd rfl (Or.inl rfl) (pe_lst pa_nil)) (pss_cons (ps_set (i := 2) sc_law_one.nd rfl (Or.inl rfl) (pe_slice sl_list (pv 0) (po_some pe_int) po_none)) (pss_cons (ps_while PassesOwn.never (PW.pt (pw_and (pt_cmpR (op_neNil hr.units0) (pv 2) (pe_lst pa_nil) (nomark _)) (pw_and1 (pt_cmpR op_ne (pe_ix ix_list (pv 2) pe_int (fun _ _ => rfl)) pe_str (nomark _))))) (pss_cons (ps_asg (pe_b B_law_one hr (Nat.le_refl _) rfl passL (pa_cons (pv 2) pa_nil)) (pg_tup rfl (pgs_cons (pg_name (i := 3) sc_law_one.nd rfl (Or.inl rfl)) (pgs_cons (pg_name (i := 2) sc_law_one.nd rfl (Or.inl rfl)) pgs_nil)))) (pss_cons (ps_if (pt_cmpR (op_eqNil hr.units0) (pv 3) (pe_lst pa_nil) (nomark _)) (pss_one (ps_ret (pe_tup (pa_cons (pe_lst pa_nil) (pa_cons (pv 2) pa_nil))))) pss_nil) (pss_one (ps_expr (pe_bm PySem.F.plainAttrs_list PySem.F.slot_list_append PySem.F.type_list_append mt_append (pv 1) (pa_cons (pe_ix ix_list (pv 3) pe_int (fun _ _ => rfl)) pa_nil))))))) (pss_one (ps_ret (pe_ifExp (pt_cmpR (op_eqNil hr.units0) (pv 2) (pe_lst pa_nil) (nomark _)) (pe_tup (pa_cons (pe_lst pa_nil) (pa_cons (pv 2) pa_nil))) (pe_tup (pa_cons (pe_lst (pa_cons (pe_tupleOf rfl T.z_tuple (pv 1)) pa_nil)) (pa_cons (pe_slice sl_list (pv 2) (po_some pe_int) po_none) pa_nil))))))))))), ?_⟩
  refine ⟨_, rfl, (by show 0 ≤ sizeLine; decide), fun p0 np0 => ⟨p, p0, _, rfl, rfl, SqL.of ((same_new np0 _) _ _ hp), SqL.of upd_same, _, rfl, ?_⟩⟩
  have s0 := same_new np0 (.lst [])
  have hp0 := s0 _ _ hp
  generalize upd H p0 (.lst []) = H1 at s0 hp0 ⊢
  cases ws with
  | nil =>
    refine iteT (iteT ⟨(by show 0 ≤ sizeLine; decide), fun p1 np1 => ⟨_, rfl, s2, fun p2 np2 => ?_⟩⟩)
    have s12 := (same_new np1 (.lst [])).trans (same_new np2 (.tup [.ref p1, .ref p]))
    exact q p2 p1 p none [] _ (s0.trans s12) .nil upd_same ((same_new np2 _) _ _ upd_same) (s12 _ _ hp0) (.inl rfl)
  | cons w0 r0 =>
    refine iteF ?_
    have a0 : atI (wsV (w0 :: r0)) 0 = some (.str (S w0)) := atI_nat (j := 0) rfl
    obtain ⟨hw0, hw1⟩ := hw w0 List.mem_cons_self
    have e41 := word_eq w0 41 ")" rfl
    have e40 := word_eq w0 40 "(" rfl
    refine ⟨_, rfl, p, _, _, _, rfl, rfl, SqL.of hp0, a0, rfl, _, rfl, ?_⟩
    rw [e41]
    by_cases h41 : w0 = [41]
    · subst h41
      rw [decide_eq_true rfl]
      refine iteT ⟨(by show 0 ≤ sizeLine; decide), fun p1 np1 => ⟨_, rfl, s2, fun p2 np2 => ?_⟩⟩
      have s12 := (same_new np1 (.lst [])).trans (same_new np2 (.tup [.ref p1, .ref p]))
      exact q p2 p1 p none _ _ (s0.trans s12) (.close r0) upd_same ((same_new np2 _) _ _ upd_same) (s12 _ _ hp0) (.inl rfl)
    rw [decide_eq_false h41]
    refine iteF (stepN ?_)
    dsimp only
    refine ⟨_, rfl, p, _, _, _, rfl, rfl, SqL.of hp0, a0, rfl, _, rfl, ?_⟩
    rw [e40]
    by_cases h40 : w0 = [40]
    case neg =>
      rw [decide_eq_false h40]
      refine iteT ⟨_, rfl, p, _, _, _, rfl, rfl, SqL.of hp0, a0, _, rfl, w0, rfl, hw0, hw1, fun p1 H2 s2' lr => ⟨_, rfl, _, rfl, ?_⟩⟩
      unfold tNoPart
      show rSlL K (.ref p) (some 1) none H2 _
      refine ⟨p, _, rfl, SqL.of (s2' _ _ hp0), fun p2 np2 => ?_⟩
      have ec : cutV (wsV (w0 :: r0)) (some 1) none = wsV r0 := cut_one _ _
      rw [ec]
      refine ⟨s2, fun p3 np3 => ?_⟩
      have s3 := same_new np2 (.lst (wsV r0))
      have s4 := same_new np3 (.tup [.ref p1, .ref p2])
      rw [lleaf_eq hw0] at lr
      exact q p3 p1 p2 _ r0 _ (s0.trans (s2'.trans (s3.trans s4))) (.leaf h40 h41) upd_same (lres_same lr (s3.trans s4)) (s4 _ _ upd_same) (.inr ((s0.trans s2').free np2))
    subst h40
    rw [decide_eq_true rfl]
    refine iteF (stepN ?_)
    dsimp only
    refine ⟨(by show 0 ≤ sizeLine; decide), fun D nD => ?_⟩
    refine stepG ?_
    dsimp only
    have sD := same_new nD (.lst [])
    refine ⟨_, rfl, _, rfl, ?_⟩
    unfold tNoPart
    show rSlL K (.ref p) (some 1) none _ _
    refine ⟨p, _, rfl, SqL.of (sD _ _ hp0), fun L nL => ?_⟩
    have ec : cutV (wsV ([40] :: r0)) (some 1) none = wsV r0 := cut_one _ _
    rw [ec]
    refine stepG ?_
    dsimp only
    have sL := same_new nL (.lst (wsV r0))
    have nD0 := s0.free nD
    rw [cnt_row] at hc
    refine ⟨fun k σ H' => ∃ L' xs acc left o3, k = left.length ∧ σ = [some (.ref p), some (.ref D), some (.ref L'), o3] ∧ Same H H' ∧ H' D = some (.lst xs) ∧ Iss (CF K) H' xs acc ∧ L' ≠ D ∧ H' L' = some (.lst (wsV left)) ∧ left <:+ r0 ∧ acc.length + left.length ≤ r0.length ∧ (L' = p ∨ H L' = none) ∧ (∀ o rest, RowR acc left o rest → OneR ([40] :: r0) o rest),
      ⟨_, L, [], [], r0, none, rfl, rfl, s0.trans (sD.trans sL), sL _ _ upd_same, .nil, ?_, upd_same, List.suffix_refl _, ?_, ?_, fun o rest h => .row h⟩, ?_⟩
    · intro z
      rw [z, upd_same] at nL
      cases nL
    · simp
    · exact .inr ((s0.trans sD).free nL)
    rintro k σ H2 ⟨L', xs, acc, left, o3, rfl, rfl, S2, hD, hx, nLD, hL, suf, al, lp, cont⟩
    have np1' : True := trivial
    refine ⟨_, rfl, (by show 0 ≤ sizeLine; decide), fun p1 np1 => ⟨L', p1, _, rfl, rfl, SqL.of ((same_new np1 _) _ _ hL), SqL.of upd_same, _, rfl, ?_⟩⟩
    have s3 := same_new np1 (.lst [])
    have S3 := S2.trans s3
    have hD3 := s3 _ _ hD
    have hL3 := s3 _ _ hL
    have hx3 := hx.same s3
    generalize upd H2 p1 (.lst []) = H3 at s3 S3 hD3 hL3 hx3 ⊢
    cases left with
    | nil =>
      refine iteF (iteF ?_)
      refine ⟨_, rfl, (by show 0 ≤ sizeLine; decide), fun p2 np2 => ⟨L', p2, _, rfl, rfl, SqL.of ((same_new np2 _) _ _ hL3), SqL.of upd_same, _, rfl, ?_⟩⟩
      have s4 := same_new np2 (.lst [])
      refine iteT ⟨(by show 0 ≤ sizeLine; decide), fun p3 np3 => ⟨_, rfl, s2, fun p4 np4 => ?_⟩⟩
      have s5 := same_new np3 (.lst [])
      have s6 := same_new np4 (.tup [.ref p3, .ref L'])
      exact q p4 p3 L' none [] _ (S3.trans (s4.trans (s5.trans s6))) (cont none [] .nil) upd_same (s6 _ _ upd_same) ((s4.trans (s5.trans s6)) _ _ hL3) lp
    | cons w1 r1 =>
      have a1 : atI (wsV (w1 :: r1)) 0 = some (.str (S w1)) := atI_nat (j := 0) rfl
      refine iteT ⟨_, rfl, L', _, _, _, rfl, rfl, SqL.of hL3, a1, rfl, _, rfl, ?_⟩
      rw [word_eq w1 41 ")" rfl]
      by_cases h1 : w1 = [41]
      · subst h1
        rw [decide_eq_true rfl]
        refine iteF ?_
        refine ⟨_, rfl, (by show 0 ≤ sizeLine; decide), fun p2 np2 => ⟨L', p2, _, rfl, rfl, SqL.of ((same_new np2 _) _ _ hL3), SqL.of upd_same, _, rfl, ?_⟩⟩
        have s4 := same_new np2 (.lst [])
        refine iteF ⟨_, rfl, .inl ⟨D, xs, rfl, SqL.of (s4 _ _ hD3), fun p3 np3 => ⟨Fl.s1, fun p4 np4 => ⟨_, rfl, _, rfl, ?_⟩⟩⟩⟩
        have s5 := same_new np3 (.tup xs)
        have s6 := same_new np4 (.lst [.ref p3])
        show rSlL K (.ref L') (some 1) none _ _
        refine ⟨L', _, rfl, SqL.of ((s4.trans (s5.trans s6)) _ _ hL3), fun p5 np5 => ?_⟩
        have ec1 : cutV (wsV ([41] :: r1)) (some 1) none = wsV r1 := cut_one _ _
        rw [ec1]
        refine ⟨s2, fun p6 np6 => ?_⟩
        have s7 := same_new np5 (.lst (wsV r1))
        have s8 := same_new np6 (.tup [.ref p4, .ref p5])
        have s78 := s7.trans s8
        have i3 := hx3.same (s4.trans (s5.trans (s6.trans s78)))
        exact q p6 p4 p5 (some (.tup acc)) r1 _ (S3.trans (s4.trans (s5.trans (s6.trans s78)))) (cont _ _ .close) upd_same
          ⟨.ref p3, s78 _ _ upd_same, .tup ((s6.trans s78) _ _ upd_same) i3⟩ (s8 _ _ upd_same) (.inr ((S3.trans (s4.trans (s5.trans s6))).free np5))
      rw [decide_eq_false h1]
      refine iteT ⟨_, fun σ' H' z => z, ?_⟩
      have sufw : ∀ w ∈ w1 :: r1, w ≠ [] ∧ w.length ≤ 20000 := fun w m => hw w (List.mem_cons_of_mem _ (suf.subset m))
      have cs := cnt_suf suf
      have ll := suf.length_le
      rw [List.length_cons] at hl
      refine ⟨_, rfl, _, rfl, L', _, rfl, hL3, sufw, by omega, by omega, fun Tt a b o rest H4 s4 one hT la hb bp => ?_⟩
      refine ⟨Tt, _, rfl, SqT.of hT, rfl, gc2o ?_⟩
      dsimp only
      obtain ⟨suf1, dec1⟩ := one_suf one
      have dec := dec1 _ _ rfl h1
      have S4 := S3.trans s4
      have hD4 := s4 _ _ hD3
      have hx4 := hx3.same s4
      have bpp : b = p ∨ H b = none := by
        rcases bp with z | z
        · rw [z]; exact lp
        · exact .inr (S3.free z)
      have nbD : b ≠ D := by
        rcases bp with z | z
        · rw [z]; exact nLD
        · intro y
          rw [y, hD3] at z
          cases z
      cases o with
      | none =>
        have la' : H4 a = some (.lst []) := la
        refine ⟨_, rfl, (by show 0 ≤ sizeLine; decide), fun p2 np2 => ⟨a, p2, _, rfl, rfl, SqL.of ((same_new np2 _) _ _ la'), SqL.of upd_same, _, rfl, ?_⟩⟩
        have s5 := same_new np2 (.lst [])
        refine iteT ⟨(by show 0 ≤ sizeLine; decide), fun p3 np3 => ⟨_, rfl, s2, fun p4 np4 => ?_⟩⟩
        have s6 := same_new np3 (.lst [])
        have s7 := same_new np4 (.tup [.ref p3, .ref b])
        exact q p4 p3 b none rest _ (S4.trans (s5.trans (s6.trans s7))) (cont none rest (.bad h1 one)) upd_same (s7 _ _ upd_same) ((s5.trans (s6.trans s7)) _ _ hb) bpp
      | some t =>
        obtain ⟨x, la', ix⟩ := la
        refine ⟨_, rfl, (by show 0 ≤ sizeLine; decide), fun p2 np2 => ⟨a, p2, _, rfl, rfl, SqL.of ((same_new np2 _) _ _ la'), SqL.of upd_same, _, rfl, ?_⟩⟩
        have s5 := same_new np2 (.lst [])
        refine iteF (stepN ?_)
        dsimp only
        have hD5 := s5 _ _ hD4
        have hb5 := s5 _ _ hb
        have la5 := s5 _ _ la'
        have hx5 := hx4.same s5
        have ix5 := ix.same s5
        have S5 := S4.trans s5
        have zl := hx5.len
        generalize upd H4 p2 (.lst []) = H5 at hD5 hb5 la5 hx5 ix5 S5 ⊢
        rw [List.length_cons] at al dec
        refine ⟨_, rfl, .inl ⟨rfl, _, .inl (.inl hD5)⟩, _, rfl, a, _, _, _, rfl, rfl, SqL.of la5, rfl, D, _, _, rfl, rfl, hD5, (by rw [sizeLine_eq]; omega), ?_⟩
        refine ⟨_, by rw [List.length_cons]; omega, b, xs ++ [x], acc ++ [t], rest, _, rfl, rfl, same_mut S5 nD0, upd_same, (hx5.app (.one ix5)).ik (im_lst hD5), nbD, by rw [upd_ne nbD]; exact hb5, suf1.trans suf, ?_, bpp, fun o' rest' h => cont o' rest' (.next h1 one h)⟩
        rw [List.length_append, List.length_singleton]
        omega
end
end Fl
/-! an error that was caught and is kept as a value -/
namespace Fl
open PySem PySem.Spec PyProof.Rows L2
/-- an exception of the class cls that was caught, at a -/
def CauO (cls : Value) (a : Addr) : HO := .ext fun h => ∃ (oe : Obj) (vs : Array Value), h.get? a = some oe ∧ Zc cls none oe ∧ oe.data = .fields vs
theorem cauO_ok {P : Program} {w : World} {H : Hp} {h : Heap} {a : Addr} {cls : Value} {oe : Obj} {vs : Array Value} (e : h.get? a = some oe) (z : Zc cls none oe) (d : oe.data = .fields vs) : ObjOk P w H h a (CauO cls a) :=
  ⟨⟨oe, vs, e, z, d⟩, ⟨oe, e⟩, fun _ _ ⟨o, v, q, r⟩ k => ⟨o, v, k o q, r⟩⟩
section
variable {X : Cx} {pins : List (Addr × Obj)} {σ : L2.St} {H : Hp} {s : Shared}
/-- an object that stands already, new since the entry, is tracked from here on -/
theorem inv_track {a : Addr} {o : HO} {oe : Obj} {vs : Array Value} (I : Inv X pins σ H s) (n0 : X.s_0.heap.get? a = none) (ha : s.heap.get? a = some oe) (hd : oe.data = .fields vs) (na : H a = none) (nL : a ≠ X.env.locals)
    (np : ∀ p ∈ X.pn ++ pins, p.1 ≠ a) (new : ObjOk X.prog X.w (upd H a o) s.heap a o) : Inv X pins σ (upd H a o) s := by
  have old : ∀ b u, X.s_0.heap.get? b = some u → b ≠ a := fun b u e z => by
    rw [z, n0] at e
    cases e
  have trk : ∀ b u, H b = some u → b ≠ a := fun b u e z => by
    rw [z, na] at e
    cases e
  have cel : ∀ x c, X.env.cells.lookup x = some c → c ≠ a := fun x c e z => by
    obtain ⟨v, u, hu, hc⟩ := I.cell x c e
    rw [z, ha] at hu
    cases hu
    rw [hd] at hc
    cases hc
  exact {
    ok := I.ok
    os := I.os
    bare := I.bare
    base := {
      keep := I.base.keep
      slot := I.base.slot
      free := fun b u e n hx => by rw [upd_ne (old b u e)]; exact I.base.free b u e n hx
      there := I.base.there
      tups := fun b xs e => by
        have z := I.base.tups b xs e
        rw [upd_ne (trk _ _ z)]
        exact z
      frzs := fun b u xs e => by
        have z := I.base.frzs b u xs e
        rw [upd_ne (trk _ _ z)]
        exact z
      tbls := fun b ps e => by
        obtain ⟨m, z⟩ := I.base.tbls b ps e
        exact ⟨m, by rw [upd_ne (trk _ _ z)]; exact z⟩ }
    loc := I.loc
    cell := I.cell
    free := by rw [upd_ne nL.symm]; exact I.free
    freeC := fun x c e => by rw [upd_ne (cel x c e)]; exact I.freeC x c e
    pin := fun p hp => by
      obtain ⟨p1, p2, p3, p4, p5⟩ := I.pin p hp
      exact ⟨p1, by rw [upd_ne (np p hp)]; exact p2, p3, p4, p5⟩
    hok := fun b u e => by
      by_cases hb : b = a
      · subst hb
        rw [upd_same] at e
        cases e
        exact new
      · rw [upd_ne hb] at e
        exact (I.hok b u e).stay (fun _ _ _ q => q) (fun c q => by rw [upd_ne (trk _ _ q)]; exact q) fun c xs q => by rw [upd_ne (trk _ _ q)]; exact q
    len := I.len }
end
/-- what «except x as n: suite» wishes, where the caught error is kept: slot i is n's -/
def wKeep (K : PySem.W.Frag) (c : Value) (i : Nat) (ts : Addr → TS) (Wout : WX) (D : Ends) : WX := fun cls d σ H =>
  ∃ b, PySem.W.exmOne K cls c = some b ∧
    (b = true → d = none ∧ ∀ a, H a = none → ts a { nx := fun σ' H' => H' a = none → D.nx (σ'.set i none) (upd H' a (CauO cls a)), rt := fun _ _ => False, bk := fun _ _ => False, ct := fun _ _ => False } (σ.set i (some (.ref a))) H) ∧
    (b = false → Wout cls d σ H)
section
variable {X : Cx} {x n : Str} {c : Value} {i : Nat} {body suite : List Stmt} {b0 : Stmt} {np pos pos' : Pos} {tb : WX → TS} {ts : Addr → TS} {Wout : WX}
theorem ps_try_keep (hs : X.stack = X.env :: X.outer) (hf : X.env.frame = some X.env.locals) (hx : X.ex = []) (hN : X.N.Nodup) (hi : X.N[i]? = some n) (hln : X.env.kindOf n = some .local) (hc : Names X x c) (tk : Takes X Wout)
    (hb : ∀ (W : WX) (pn : List (Addr × Obj)) (xe : Value → Shared → Prop), Takes (X.tr pn xe) W → PassesOwn (model X.prog X.w) X.A X.env xe → PSs (X.tr pn xe) body (tb W))
    (hsu : ∀ (a : Addr) (pn : List (Addr × Obj)), PSs (X.suite a pn) (b0 :: suite) (ts a)) :
    PS X (.Try body [.ExceptHandler (some (.Name x np)) (some n) (b0 :: suite) pos'] [] [] pos) (fun D σ H => tb (wKeep X.K c i ts Wout D) D σ H) := by
  constructor
  intro pins s σ H D I h
  have K0 := I.ok
  have fr : X.A.frames = some (X.env :: X.outer) := hs ▸ K0.frames
  have run := (hb (wKeep X.K c i ts Wout D) (X.pn ++ pins)
    (fun e z1 => wpAny (model X.prog X.w) X.A (noteFrame e X.env)
      (fun _ z2 => wpAny (model X.prog X.w) X.A (setFlight e none)
        (fun _ z3 => wpAny (model X.prog X.w) X.A (handleBy e X.env [.ExceptHandler (some (.Name x np)) (some n) (b0 :: suite) pos']) (SP X pins D) X.xe z3) X.xe z2) X.xe z1)
    ?caught PassesOwn.looking).run [] s σ H D (I.toTry _) h
  case caught =>
    rintro u s' ⟨a, B, sI, pins', σ', H', cls, d, rfl, J', nb, up, sky, na, os, ag, b, hb1, yes, no⟩
    have J : Inv X pins σ' H' sI := J'.ofTry K0
    have sk : Sky B (X.env :: X.outer) a (Zc cls d) X.env.locals s'.heap := hs ▸ sky
    show wpAny (model X.prog X.w) X.A (noteFrame (.ref a) X.env) _ _ _
    apply Sky.land Zc.steady fr hf sk
    intro g3 f3 u3
    have J3 : Inv X pins σ' H' { s' with heap := g3 } := J.landed nb f3.1 (up.trans u3) os ag
    obtain ⟨o3, v3, e3, z3, d3⟩ := f3.there
    have off : ∀ E ∈ (X.env :: X.outer), E.frame ≠ some a := fun E hE q => by
      obtain ⟨_, o', h1, h2⟩ := f3.2.2.1.mem (List.mem_filterMap.mpr ⟨E, hE, q⟩)
      rw [e3] at h1
      cases h1
      exact h2 _ d3
    have aL : a ≠ X.env.locals := fun q => off X.env (List.mem_cons_self ..) (by rw [hf, q])
    have aF : a ∉ X.fs := fun m => by
      obtain ⟨E, h1, h2⟩ := List.mem_filterMap.mp m
      exact off E (List.mem_cons_of_mem _ h1) h2
    have aI : sI.heap.get? a = none := by
      cases q : sI.heap.get? a with
      | none => rfl
      | some o =>
        have q2 := nb a o q (fun m => by
          rw [hs] at m
          obtain ⟨E, h1, h2⟩ := List.mem_filterMap.mp m
          exact off E h1 h2)
        rw [f3.2.1] at q2
        cases q2
    have a0 : X.s_0.heap.get? a = none := by
      cases q : X.s_0.heap.get? a with
      | none => rfl
      | some o =>
        obtain ⟨o', q2⟩ := J.base.there a o q (by rw [hx]; exact fun m => nomatch m)
        rw [aI] at q2
        cases q2
    have aP : ∀ p ∈ X.pn ++ pins, p.1 ≠ a := fun p hp q => by
      have q2 := (J.pin p hp).1
      rw [q, aI] at q2
      cases q2
    have S3 := J3.suite e3 d3 na aL aF
    apply wpAny_handleBy_cons
    · apply codeAny_handlers_test
      have tyc : PySem.W.Looks (model X.prog X.w) g3 (typeOf (.ref a)) cls := fun A' Q' E' s0 k q => wpAny_typeOf_ref (k _ _ e3) (by rw [z3.1]; exact q)
      have look := PySem.W.exm_one (M := model X.prog X.w) J3.kIn tyc hb1
      have nm : ∀ {Q' : Value → Shared → Prop} {E' : Value → Shared → Prop}, Q' c { s' with heap := g3 } → wpAny (model X.prog X.w) (X.A.mark (some (.ref a))) (eval (.Name x np) X.env) Q' E' { s' with heap := g3 } := by
        intro Q' E' q
        obtain ⟨y1, y2, y3 | ⟨y3, y4, y5⟩⟩ := hc
        · exact ld_glob (X := X.suite a ((a, o3) :: (X.pn ++ pins))) S3 y1 y3 q y2
        · exact ld_blt (X := X.suite a ((a, o3) :: (X.pn ++ pins))) S3 y1 y3 y4 q y5 y2
      apply nm
      apply look.here
      cases b with
      | true =>
        obtain ⟨dn, go⟩ := yes rfl
        subst dn
        apply codeAny_handlers_suite_as
        apply HandSPX.lands_againZ f3
        intro g4 f4 u4
        have J4 : Inv X pins σ' H' { s' with heap := g4 } := J.landed nb f4.1 ((up.trans u3).trans u4) os ag
        obtain ⟨o4, v4, e4, z4, d4⟩ := f4.there
        have S4 := J4.suite e4 d4 na aL aF
        apply store_ok (X := X.suite a ((a, o4) :: (X.pn ++ pins))) (v := .ref a) S4 hN hi (.inl hln) rfl ?_ (.inr hln)
        intro s5 S5
        apply wpAny_mono ((hsu a _).run [] s5 _ H' _ S5 (go a na)) ?_ (fun _ _ z => False.elim z)
        intro f s6 q6
        cases f with
        | next =>
          obtain ⟨σ6, H6, S6, k6⟩ := q6
          obtain ⟨p1, p2, _⟩ := S6.pin (a, o4) (List.mem_append_left _ (List.mem_cons_self ..))
          have T6 := inv_track (o := CauO cls a) (S6.unsuite K0) a0 p1 d4 p2 aL aP (cauO_ok p1 z4 d4)
          exact gone_ok T6 hN hi hln fun s7 J7 => ⟨_, _, J7, k6 p2⟩
        | brk =>
          obtain ⟨_, _, _, k6⟩ := q6
          exact k6.elim
        | cont =>
          obtain ⟨_, _, _, k6⟩ := q6
          exact k6.elim
        | ret u =>
          obtain ⟨_, _, _, _, _, k6⟩ := q6
          exact k6.elim
      | false =>
        show wpAny _ X.A (handleBy (.ref a) X.env []) _ _ _
        apply wpAny_handleBy_nil
        obtain ⟨_, _, _, oe, ve, T, oT, vT, y1, y2, y3, y4, _⟩ := id f3
        have fin : wpAny (model X.prog X.w) X.A (setFlight (.ref a) X.env.frame) (fun _ t4 => wpAny (model X.prog X.w) X.A (throw (.ref a) : Sem Flow) (SP X pins D) X.xe t4) X.xe { s' with heap := g3 } := by
          rw [hf]
          apply HandSPX.setFlight_upZ f3
          intro g4 hh4 u4
          apply wpAny_throw
          exact tk _ _ ⟨a, B, sI, pins, σ', H', cls, d, rfl, J, nb, (up.trans u3).trans u4, .inr (.inr (by rw [hs]; exact hh4)), na, os, ag, no rfl⟩
        unfold PySem.passOn
        apply wpAny_bind
        apply wpAny_field y1 y3 y4
        rw [if_neg (show ¬ ((Value.ref T == Value.none) = true) from by simp)]
        first
          | exact wpAny_bind (wpAny_pure (wpAny_bind fin))
          | exact wpAny_bind fin
    · intro q
      cases q
  apply wpAny_Try_except
  apply wpAny_mono run ?_ (fun e s1 he => he)
  intro f s1 q
  cases f with
  | next =>
    obtain ⟨σ', H', J', k⟩ := q
    exact wpAny_execs_nil ⟨σ', H', J'.ofTry K0, k⟩
  | brk =>
    obtain ⟨σ', H', J', k⟩ := q
    exact ⟨σ', H', J'.ofTry K0, k⟩
  | cont =>
    obtain ⟨σ', H', J', k⟩ := q
    exact ⟨σ', H', J'.ofTry K0, k⟩
  | ret u =>
    obtain ⟨v, σ', H', J', r, k⟩ := q
    exact ⟨v, σ', H', J'.ofTry K0, r, k⟩
end
/-! ### isinstance of a kept error -/
/-- an error of the class named D that is kept, or None -/
def rIsX (K : PySem.W.Frag) : List V → Hp → VK → Prop := fun xs H Q => ∃ (a D : Addr) (c : V) (u : Value) (b : Bool), xs = [.ref a, c] ∧ ClsV c u ∧ H a = some (CauO (.ref D) a) ∧ ExcC K D ∧ PySem.W.kitOne K (.ref D) u = some b ∧ Q (.bl b) H
def rIsXT (K : PySem.W.Frag) : List V → Hp → VK → Prop := fun xs H Q => ∃ (a D tp : Addr) (cs : List V) (us : List Value) (b : Bool), xs = [.ref a, .ref tp] ∧ H tp = some (.tup cs) ∧ Paired ClsV cs us ∧ H a = some (CauO (.ref D) a) ∧ ExcC K D ∧ PySem.W.kitAny K (.ref D) us = some b ∧ Q (.bl b) H
section
variable {X : Cx} {pins : List (Addr × Obj)} {σ : L2.St} {H : Hp} {s : Shared}
theorem cau_at {a D : Addr} (I : Inv X pins σ H s) (h : H a = some (CauO (.ref D) a)) : ∃ oe, PySem.W.InstAt s.heap a oe D none := by
  obtain ⟨⟨oe, vs, e, z, d⟩, _, _⟩ := I.hok a _ h
  obtain ⟨oc, od, oda, osl⟩ := oe
  obtain ⟨z1, z2⟩ := z
  dsimp only at z1 z2 d
  subst z1 z2 d
  exact ⟨_, e, rfl, rfl, trivial⟩
theorem call_isX : CallR X (.builtin "isinstance") (rIsX X.K) := by
  intro pins s σ H xs us Q I r h
  obtain ⟨a, D, c, u, b, rfl, k, ha, C, e, q⟩ := h
  obtain ⟨u1, u2, rfl, r1, r2⟩ := vals2 r
  cases (show u1 = Value.ref a from r1)
  have e2 := k.eq r2
  subst e2
  obtain ⟨oe, J⟩ := cau_at I ha
  exact PySem.W.kia_one (PySem.W.handS_kitx_exc C.hg C.hk C.hs C.hd C.ha C.hn C.ht C.hm) I.kIn J e (fun z => nomatch z) fun tk => ⟨.bl b, H, I.tok tk, rfl, q⟩
theorem call_isXT : CallR X (.builtin "isinstance") (rIsXT X.K) := by
  intro pins s σ H xs us Q I r h
  obtain ⟨a, D, tp, cs, ws, b, rfl, hT, k, ha, C, e, q⟩ := h
  obtain ⟨u1, u2, rfl, r1, r2⟩ := vals2 r
  cases (show u1 = Value.ref a from r1)
  cases (show u2 = Value.ref tp from r2)
  obtain ⟨oe, J⟩ := cau_at I ha
  obtain ⟨_, its, rv, o, h1, h2, n, h3⟩ := (show ObjOk X.prog X.w H s.heap tp (.tup cs) from I.hok tp _ hT)
  have e3 := ClsV.all k rv
  subst e3
  obtain ⟨oc, od, dt, sl⟩ := o
  simp only at h2 h3
  subst h2 h3
  exact PySem.W.kia_tup (PySem.W.handS_kitx_exc C.hg C.hk C.hs C.hd C.ha C.hn C.ht C.hm) I.kIn J h1 e (fun z => nomatch z) fun tk => ⟨.bl b, H, I.tok tk, rfl, q⟩
end
end Fl
namespace Fl
open PySem PySem.Spec PyProof.Rows L2
open SX (S)
abbrev s_law_is_refused : Stmt := top 44
theorem sc_law_is_refused : FnScope ["_law_error"] ["_law_error"] (defScope s_law_is_refused) := ⟨rfl, rfl, rfl, by decide +kernel, rfl, by decide +kernel, by decide +kernel⟩
abbrev s_law_told : Stmt := top 43
theorem sc_law_told : FnScope ["_law_written", "_law_found", "_law_caught", "e"] ["_law_written"] (defScope s_law_told) := ⟨rfl, rfl, rfl, by decide +kernel, rfl, by decide +kernel, by decide +kernel⟩
/-- isinstance of a kept error, or of what else there is; one class, or a tuple of them -/
theorem call_isiU {X : Cx} : CallR X (.builtin "isinstance") (fun xs H Q => (rIsi X.K xs H Q ∨ rIsiT X.K xs H Q) ∨ (rIsX X.K xs H Q ∨ rIsXT X.K xs H Q)) := (call_isi.or call_isiT).or (call_isX.or call_isXT)
/-- the errors' classes -/
structure Te (K : PySem.W.Frag) (mg : Str → Option Value) (D : Str) (cs : List Str) : Prop where
  xc : ExcC K (He.ga K D)
  any : PySem.W.kitAny K (.ref (He.ga K D)) (cs.map fun c => .ref (He.ga K c)) = some false
  one : PySem.W.kitOne K (.ref (He.ga K D)) (.ref (He.ga K D)) = some true
  val : PySem.W.kitOne K (.ref (He.ga K D)) (.type "ValueError") = some true
  nany : PySem.W.kitAny K (.type "NoneType") (cs.map fun c => .ref (He.ga K c)) = some false
  none : PySem.W.kitOne K (.type "NoneType") (.ref (He.ga K D)) = some false
def others5 : List Str := ["BadFloors", "BadHandle", "BadLimit", "BadPaper", "BadState", "BadWorth", "TooGreat"]
structure Tq (K : PySem.W.Frag) (mg : Str → Option Value) : Prop where
  z_isinstance : mg "isinstance" = none
  z_ValueError : mg "ValueError" = none
  g_FloorError : mg "FloorError" = some (.ref (He.ga K "FloorError"))
  g_BadFloors : mg "BadFloors" = some (.ref (He.ga K "BadFloors"))
  g_BadHandle : mg "BadHandle" = some (.ref (He.ga K "BadHandle"))
  g_BadLimit : mg "BadLimit" = some (.ref (He.ga K "BadLimit"))
  g_BadPaper : mg "BadPaper" = some (.ref (He.ga K "BadPaper"))
  g_BadState : mg "BadState" = some (.ref (He.ga K "BadState"))
  g_NoText : mg "NoText" = some (.ref (He.ga K "NoText"))
  g_TooGreat : mg "TooGreat" = some (.ref (He.ga K "TooGreat"))
  g_BadWorth : mg "BadWorth" = some (.ref (He.ga K "BadWorth"))
  exm : PySem.W.exmOne K (.ref (He.ga K "NoText")) (.ref (He.ga K "FloorError")) = some true
  te : Te K mg "NoText" others5
abbrev NT (K : PySem.W.Frag) : Value := .ref (He.ga K "NoText")
/-- nothing, or a kept error -/
def Kept (D : Value) (H : Hp) (v : V) (b : Bool) : Prop := (v = .non ∧ b = false) ∨ ∃ a, v = .ref a ∧ H a = some (CauO D a) ∧ b = true
def spRefused (K : PySem.W.Frag) (D : Value) : Sp := sp1 fun v H Q _ => ∃ b, Kept D H v b ∧ ∀ H', Same H H' → Q (.bl b) H'
/-- what read answers -/
def Rd5 (K : PySem.W.Frag) (H : Hp) (v : V) (o : Option Th) : Prop := (∃ cs, v = .str (S cs) ∧ cs.length ≤ 100000 ∧ o = readP cs) ∨ ∃ t, Is (CF K) H v t ∧ t.isStr = false ∧ o = none
def spTold5 (K : PySem.W.Frag) : Sp := sp1 fun v H Q _ => ∃ o, Rd5 K H v o ∧ ∀ T a b H', Same H H' → H' T = some (.tup [.ref a, b]) → LRes K H' a o → Kept (NT K) H' b o.isNone → Q (.ref T) H'
section
variable {P : Program} {w : World} {K : PySem.W.Frag} {mg : Str → Option Value} {base : Heap}
theorem ok_law_is_refused (F : FnP K mg "_law_is_refused" s_law_is_refused) (T : Tq K mg) : Cl P w K mg base 1 "_law_is_refused" ["_law_error"] (spRefused K (NT K)) := by
  refine cl_1 F sc_law_is_refused (fun _ _ _ _ _ _ us hl => match us, hl with | [_], _ => rfl) fun cdv A outer s H v Q E hr h => ?_
  obtain ⟨b, h, q⟩ := h
  refine ⟨_, PSs.nox (pss_cons (ps_if (pt_val (pe_callB call_isiU rfl T.z_isinstance PyProof.Rows.boot_isinstance (pa_cons (pv 0) (pa_cons (pe_tup (pa_cons (pe_glob (v := .ref (He.ga K "BadFloors")) rfl T.g_BadFloors rfl) (pa_cons (pe_glob (v := .ref (He.ga K "BadHandle")) rfl T.g_BadHandle rfl) (pa_cons (pe_glob (v := .ref (He.ga K "BadLimit")) rfl T.g_BadLimit rfl) (pa_cons (pe_glob (v := .ref (He.ga K "BadPaper")) rfl T.g_BadPaper rfl) (pa_cons (pe_glob (v := .ref (He.ga K "BadState")) rfl T.g_BadState rfl) (pa_cons (pe_glob (v := .ref (He.ga K "BadWorth")) rfl T.g_BadWorth rfl) (pa_cons (pe_glob (v := .ref (He.ga K "TooGreat")) rfl T.g_TooGreat rfl) pa_nil)))))))) pa_nil)))) (pss_one (ps_ret pe_bl)) pss_nil) (pss_one (ps_ret (pe_and (pe_callB call_isiU rfl T.z_isinstance PyProof.Rows.boot_isinstance (pa_cons (pv 0) (pa_cons (pe_glob (v := .ref (He.ga K "NoText")) rfl T.g_NoText rfl) pa_nil))) (pe_one (pe_callB call_isiU rfl T.z_isinstance PyProof.Rows.boot_isinstance (pa_cons (pv 0) (pa_cons (pe_bltn (v := .ty "ValueError") rfl T.z_ValueError (by decide +kernel) rfl) pa_nil)))))))), ?_⟩
  refine ⟨_, rfl, (by show 7 ≤ sizeLine; decide), fun p np => ?_⟩
  have sm := same_new np (.tup [.ref (He.ga K "BadFloors"), .ref (He.ga K "BadHandle"), .ref (He.ga K "BadLimit"), .ref (He.ga K "BadPaper"), .ref (He.ga K "BadState"), .ref (He.ga K "BadWorth"), .ref (He.ga K "TooGreat")])
  have own : Paired ClsV [.ref (He.ga K "BadFloors"), .ref (He.ga K "BadHandle"), .ref (He.ga K "BadLimit"), .ref (He.ga K "BadPaper"), .ref (He.ga K "BadState"), .ref (He.ga K "BadWorth"), .ref (He.ga K "TooGreat")]
      (others5.map fun c => .ref (He.ga K c)) := .cons (.own _) (.cons (.own _) (.cons (.own _) (.cons (.own _) (.cons (.own _) (.cons (.own _) (.cons (.own _) .nil))))))
  rcases h with ⟨rfl, rfl⟩ | ⟨a, rfl, ha, rfl⟩
  · refine .inl (.inr ⟨_, p, _, _, _, false, rfl, upd_same, own, .base .non, T.te.nany, _, rfl, iteF ?_⟩)
    exact ⟨_, rfl, .inl (.inl ⟨_, _, _, _, false, rfl, .own _, .base .non, T.te.none, _, rfl, iteF (q _ sm)⟩)⟩
  · refine .inr (.inr ⟨a, _, p, _, _, false, rfl, upd_same, own, sm _ _ ha, T.te.xc, T.te.any, _, rfl, iteF ?_⟩)
    refine ⟨_, rfl, .inr (.inl ⟨a, _, _, _, true, rfl, .own _, sm _ _ ha, T.te.xc, T.te.one, _, rfl, iteT ?_⟩)⟩
    exact ⟨_, rfl, .inr (.inl ⟨a, _, _, _, true, rfl, .ty _, sm _ _ ha, T.te.xc, T.te.val, q _ sm⟩)⟩
theorem ok_law_told (F : FnP K mg "_law_told" s_law_told) (T : Tq K mg) (B_read : Cl P w K mg base 4 "read" ["text"] (spRead K)) : Cl P w K mg base 5 "_law_told" ["_law_written"] (spTold5 K) := by
  refine cl_1 F sc_law_told (fun _ _ _ _ _ _ us hl => match us, hl with | [_], _ => rfl) fun cdv A outer s H v Q E hr h => ?_
  obtain ⟨o, h, q⟩ := h
  refine ⟨_, PSs.nox (pss_cons (ps_set (i := 1) sc_law_told.nd rfl (Or.inl rfl) (pe_lst pa_nil)) (pss_cons (ps_set (i := 2) sc_law_told.nd rfl (Or.inl rfl) pe_non) (pss_cons (ps_try_keep (i := 3) (Wout := fun _ _ _ _ => False) rfl rfl rfl sc_law_told.nd rfl rfl ⟨rfl, by decide, .inl T.g_FloorError⟩ takes0 (fun W pn xe tk _ => (pss_one (ps_set (i := 1) sc_law_told.nd rfl (Or.inl rfl) (pe_lst (pa_cons (pe_bS B_read hr (by omega) rfl (fun σ => passAt tk σ) (pa_cons (pv 0) pa_nil)) pa_nil))))) (fun a pn => (pss_one (ps_set (i := 2) sc_law_told.nd rfl (Or.inl rfl) (pv 3))))) (pss_one (ps_ret (pe_tup (pa_cons (pv 1) (pa_cons (pv 2) pa_nil)))))))), ?_⟩
  refine ⟨(by show 0 ≤ sizeLine; decide), fun p1 np1 => ?_⟩
  refine stepG ?_
  dsimp only
  have s1' := same_new np1 (.lst [])
  have hp1 : (upd H p1 (.lst [])) p1 = some (.lst []) := upd_same
  generalize upd H p1 (.lst []) = H1 at s1' hp1 ⊢
  rcases h with ⟨cs, rfl, hl, rfl⟩ | ⟨t, it, ns, rfl⟩
  · refine ⟨_, rfl, _, rfl, .inl ⟨cs, rfl, hl, fun t u H2 e s2' iu => ⟨Fl.s1, fun p2 np2 => ?_⟩, fun H2 e s2' => ⟨true, T.exm, fun _ => ⟨rfl, fun a na => ⟨_, rfl, fun na' => ⟨_, rfl, _, rfl, s2, fun p3 np3 => ?_⟩⟩⟩, fun z => nomatch z⟩⟩⟩
    · have s3 := same_new np2 (.lst [u])
      refine ⟨_, rfl, _, rfl, s2, fun p3 np3 => ?_⟩
      have s4 := same_new np3 (.tup [.ref p2, .non])
      rw [e] at q
      exact q p3 p2 .non _ (s1'.trans (s2'.trans (s3.trans s4))) upd_same ⟨u, s4 _ _ upd_same, iu.same (s3.trans s4)⟩ (.inl ⟨rfl, rfl⟩)
    · rw [e] at q
      have s3 := same_new na (CauO (NT K) a)
      have s4 := same_new np3 (.tup [.ref p1, .ref a])
      exact q p3 p1 (.ref a) _ (s1'.trans (s2'.trans (s3.trans s4))) upd_same ((s2'.trans (s3.trans s4)) _ _ hp1) (.inr ⟨a, rfl, s4 _ _ upd_same, rfl⟩)
  · refine ⟨_, rfl, _, rfl, .inr ⟨t, it.same s1', ns, fun H2 s2' => ⟨true, T.exm, fun _ => ⟨rfl, fun a na => ⟨_, rfl, fun na' => ⟨_, rfl, _, rfl, s2, fun p3 np3 => ?_⟩⟩⟩, fun z => nomatch z⟩⟩⟩
    have s3 := same_new na (CauO (NT K) a)
    have s4 := same_new np3 (.tup [.ref p1, .ref a])
    exact q p3 p1 (.ref a) _ (s1'.trans (s2'.trans (s3.trans s4))) upd_same ((s2'.trans (s3.trans s4)) _ _ hp1) (.inr ⟨a, rfl, s4 _ _ upd_same, rfl⟩)
end
end Fl
namespace Fl
open PySem PySem.Spec PyProof.Rows L2
open SX (S)
/-! ### how long texts get -/
mutual
def Th.lmax : Th → Nat
  | .tup l => 6 + Th.lmaxL l
  | .bl _ => 11
  | .int _ => 11
  | .str _ => 11
  | .non => 11
  | .fn _ => 11
  | .oth => 11
def Th.lmaxL : List Th → Nat
  | [] => 0
  | t :: r => t.lmax + 2 + Th.lmaxL r
end
mutual
def Th.tmax : Th → Nat
  | .tup l => 2 + Th.tmaxL l
  | .bl _ => 11
  | .int _ => 11
  | .str _ => 11
  | .non => 11
  | .fn _ => 11
  | .oth => 11
def Th.tmaxL : List Th → Nat
  | [] => 0
  | t :: r => t.tmax + 1 + Th.tmaxL r
end
theorem lmaxL_app : ∀ a b : List Th, Th.lmaxL (a ++ b) = Th.lmaxL a + Th.lmaxL b
  | [], b => by rw [Th.lmaxL, Nat.zero_add]; rfl
  | t :: r, b => by rw [List.cons_append, Th.lmaxL, Th.lmaxL, lmaxL_app r b]; omega
theorem tmaxL_app : ∀ a b : List Th, Th.tmaxL (a ++ b) = Th.tmaxL a + Th.tmaxL b
  | [], b => by rw [Th.tmaxL, Nat.zero_add]; rfl
  | t :: r, b => by rw [List.cons_append, Th.tmaxL, Th.tmaxL, tmaxL_app r b]; omega
theorem lmax_mem {t : Th} : ∀ {l : List Th}, t ∈ l → t.lmax + 2 ≤ Th.lmaxL l
  | u :: r, h => by
    rw [Th.lmaxL]
    rcases List.mem_cons.mp h with rfl | h
    · omega
    · have := lmax_mem h
      omega
mutual
theorem textP_max : ∀ t : Th, t.worth false = true → (textP t).length ≤ t.tmax
  | .tup l, h => by
    have := textsP_max l (by simpa [Th.worth] using h)
    rw [textP, List.length_cons, List.length_append, List.length_singleton, Th.tmax]
    omega
  | .bl b, h => by rw [textP]; have := leafT_len h; simp only [Th.tmax]; omega
  | .int i, h => by rw [textP]; have := leafT_len h; simp only [Th.tmax]; omega
  | .str x, h => by rw [textP]; have := leafT_len h; simp only [Th.tmax]; omega
  | .non, h => by cases h
  | .fn _, h => by cases h
  | .oth, h => by cases h
theorem textsP_max : ∀ l : List Th, Th.worths false l = true → (textsP l).length ≤ Th.tmaxL l
  | [], _ => Nat.zero_le _
  | t :: r, h => by
    rw [Th.worths, Bool.and_eq_true] at h
    have a := textP_max t h.1
    have b := tailsP_max r h.2
    rw [textsP, List.length_append, Th.tmaxL]
    omega
theorem tailsP_max : ∀ l : List Th, Th.worths false l = true → (tailsP l).length ≤ Th.tmaxL l
  | [], _ => Nat.zero_le _
  | t :: r, h => by
    rw [Th.worths, Bool.and_eq_true] at h
    have a := textP_max t h.1
    have b := tailsP_max r h.2
    rw [tailsP, List.length_cons, List.length_append, Th.tmaxL]
    omega
end
/-! how many rows -/
mutual
def Th.rws : Th → Nat
  | .tup l => 1 + Th.rwsL l
  | .bl _ => 0
  | .int _ => 0
  | .str _ => 0
  | .non => 0
  | .fn _ => 0
  | .oth => 0
def Th.rwsL : List Th → Nat
  | [] => 0
  | t :: r => t.rws + Th.rwsL r
end
theorem rwsL_app : ∀ a b : List Th, Th.rwsL (a ++ b) = Th.rwsL a + Th.rwsL b
  | [], b => by rw [Th.rwsL, Nat.zero_add]; rfl
  | t :: r, b => by rw [List.cons_append, Th.rwsL, Th.rwsL, rwsL_app r b]; omega
theorem Leaf.rws {u : V} {t : Th} (h : Leaf u t) : t.rws = 0 := by
  cases h <;> simp only [Th.rws]
def RB : Nat → Nat
  | 0 => 0
  | 1 => 0
  | m + 2 => 1 + 4 * RB (m + 1)
def TB : Nat → Nat
  | 0 => 11
  | 1 => 11
  | m + 2 => 2 + 4 * (TB (m + 1) + 1)
def LB : Nat → Nat
  | 0 => 11
  | 1 => 11
  | m + 2 => 6 + 4 * (LB (m + 1) + 2)
theorem TB_ge : ∀ m, 11 ≤ TB m
  | 0 => Nat.le_refl _
  | 1 => Nat.le_refl _
  | m + 2 => by
    have := TB_ge (m + 1)
    rw [TB]
    omega
theorem LB_ge : ∀ m, 11 ≤ LB m
  | 0 => Nat.le_refl _
  | 1 => Nat.le_refl _
  | m + 2 => by
    have := LB_ge (m + 1)
    rw [LB]
    omega
theorem Leaf.tmax {u : V} {t : Th} (h : Leaf u t) : t.tmax = 11 ∧ t.lmax = 11 := by
  cases h <;> exact ⟨by simp only [Th.tmax], by simp only [Th.lmax]⟩
def Th.nest : Nat → Th → Th
  | 0, t => t
  | n + 1, t => .tup [Th.nest n t]
/-- at most m deep (m from one on) -/
def spWorthT (K : PySem.W.Frag) (m : Nat) : Sp := sp3 fun v dp pl H Q _ => ∃ d l a ns k, v = .ref d ∧ dp = .int k ∧ pl = .bl true ∧ Dr K d l a ns H ∧ ns.length ≤ 63 ∧ k ≤ m ∧ 1 ≤ m ∧ m ≤ 6 ∧
  ∀ (u : V) (t : Th) H', Dr K d l a ns H' → Fr d l H H' → Is (CF K) H' u t → t.worth false = true → t.nodes ≤ 5 ^ m → t.depth ≤ m → t.tmax ≤ TB m → t.lmax ≤ LB m → t.rws ≤ RB m → Q u H'
section
variable {P : Program} {w : World} {K : PySem.W.Frag} {mg : Str → Option Value} {base : Heap}
theorem ok_law_worthT_none (F : FnP K mg "_law_worth" s_law_worth) : Cl P w K mg base 4 "_law_worth" ["_law_state", "_law_deep", "_law_is_plain_one"] (spWorthT K 0) := by
  refine cl_3 F sc_law_worth (fun _ _ _ _ _ _ us hl => match us, hl with | [_, _, _], _ => rfl) fun cdv A outer s H v b c Q E hr h => ?_
  obtain ⟨_, _, _, _, _, _, _, _, _, _, _, h, _⟩ := h
  omega
theorem ok_law_worthT {m : Nat} (F : FnP K mg "_law_worth" s_law_worth) (T : Tr mg) (B_law_next : Cl P w K mg base 2 "_law_next" ["_law_state"] (spNext K)) (B_law_leaf : Cl P w K mg base 3 "_law_leaf" ["_law_state"] (spLeaf K))
    (B_Function : Nw P w K mg base 1 "Function" (CF K) ["self", "names", "body", "scope", "own"] (spInit K)) (B_law_worth : Cl P w K mg base (4 + m) "_law_worth" ["_law_state", "_law_deep", "_law_is_plain_one"] (spWorthT K m)) :
    Cl P w K mg base (4 + m + 1) "_law_worth" ["_law_state", "_law_deep", "_law_is_plain_one"] (spWorthT K (m + 1)) := by
  refine cl_3 F sc_law_worth (fun _ _ _ _ _ _ us hl => match us, hl with | [_, _, _], _ => rfl) fun cdv A outer s H v b c Q E hr h => ?_
  obtain ⟨d, l, a, ns, k, rfl, rfl, rfl, h1, hn, hk, hm1, hm, q⟩ := h
  have tb := TB_ge (m + 1)
  have lb := LB_ge (m + 1)
  refine ⟨_, PSs.nox (pss_cons (ps_set (i := 3) sc_law_worth.nd rfl (Or.inl rfl) (pe_b B_law_next hr (by omega) rfl passL (pa_cons (pv 0) pa_nil))) (pss_cons (ps_if (PW.pt (pw_or (pt_cmpR op_lt (pv 1) pe_int (nomark _)) (pw_or1 (pt_cmpR op_lt (pe_op op_mod (pv 3) pe_int) pe_int (nomark _))))) (pss_cons (ps_if (PW.pt (pw_and (pt_not (pt_val (pv 2))) (pw_and1 (pt_cmpR op_eq (pe_op op_mod (pe_op op_fdiv (pv 3) pe_int) pe_int) pe_int (nomark _))))) (pss_cons (ps_set (i := 4) sc_law_worth.nd rfl (Or.inl rfl) (pe_tup (pa_cons (pe_tup (pa_cons pe_str (pa_cons (pe_b B_law_leaf hr (by omega) rfl passL (pa_cons (pv 0) pa_nil)) pa_nil))) (pa_cons (pe_tup (pa_cons pe_str (pa_cons (pe_tup (pa_cons pe_int (pa_cons pe_str pa_nil))) pa_nil))) pa_nil)))) (pss_one (ps_ret (pe_new B_Function hr (by omega) rfl passL (pa_cons (pe_tup (pa_cons pe_str (pa_cons pe_str pa_nil))) (pa_cons (pe_tup (pa_cons pe_str (pa_cons pe_str (pa_cons (pe_op op_mod (pe_op op_fdiv (pv 3) pe_int) pe_int) pa_nil)))) (pa_cons (pv 4) (pa_cons (pe_ix ix_list (pe_lst (pa_cons pe_non (pa_cons pe_str pa_nil))) (pe_op op_mod (pe_op op_fdiv (pv 3) pe_int) pe_int) (fun _ _ => rfl)) pa_nil)))))))) pss_nil) (pss_one (ps_ret (pe_b B_law_leaf hr (by omega) rfl passL (pa_cons (pv 0) pa_nil))))) pss_nil) (pss_one (ps_ret (pe_tupleOf rfl T.z_tuple (pe_lc (own := [("_law_k", 5)]) (g := gName 5) (tt := tYes) rfl sc_law_worth.nd (pi_range1 rfl T.z_range (pa_cons (pe_op op_mod (pe_op op_fdiv (pv 3) pe_int) pe_int) pa_nil)) (blkOk_by (own := [("_law_k", 5)]) (N := ["_law_state", "_law_deep", "_law_is_plain_one", "_law_number", "_law_scope", "_law_k"]) (sc := defScope s_law_worth) (by decide +kernel)) (fun _ _ _ _ _ => (pg_name (i := 5) sc_law_worth.nd rfl (Or.inl rfl))) (fun _ _ _ _ _ => pts_nil) (fun _ _ _ _ _ => (pe_b B_law_worth hr (Nat.le_refl _) rfl passL (pa_cons (pv 0) (pa_cons (pe_op op_sub (pv 1) pe_int) (pa_cons (pv 2) pa_nil))))))))))), ?_⟩
  refine ⟨_, rfl, _, rfl, d, l, a, ns, rfl, h1, hn, fun n H1 h2 f1 n0 n1 => ?_⟩
  have p5m : 1 ≤ 5 ^ (m + 1) := Nat.one_le_pow _ _ (by decide)
  have leafQ : ∀ (u : V) (t : Th) H', Dr K d l a ns H' → Fr d l H1 H' → Leaf u t → Q u H' := fun u t H' r f g => q u t H' r (f1.trans f) (g.is _ _) g.ok (by rw [g.nodes]; exact p5m) (by rw [g.depth]; exact Nat.zero_le _) (by rw [g.tmax.1]; exact tb) (by rw [g.tmax.2]; exact lb) (by rw [g.rws]; exact Nat.zero_le _)
  refine ⟨_, rfl, _, _, rfl, rfl, _, rfl, ite2 (fun c => ?small1) (fun c => ⟨_, rfl, _, _, rfl, rfl, p5, _, _, rfl, rfl, _, rfl, ite2 (fun c2 => ?small2) (fun c2 => ?big)⟩)⟩
  case small1 | small2 =>
    refine ⟨_, rfl, true, rfl, ?_⟩
    exact iteF (iteF ⟨_, rfl, _, rfl, d, l, a, ns, rfl, h2, hn, leafQ⟩)
  case big =>
    have hk2 : 2 ≤ k := by
      have : ¬ k < 2 := fun z => c (decide_eq_true z)
      omega
    obtain ⟨m', rfl⟩ : ∃ m', m = m' + 1 := ⟨m - 1, by omega⟩
    refine ⟨_, rfl, _, _, rfl, rfl, d5, _, _, rfl, rfl, p5, _, rfl, ?_, ?_, fun D nD => ?_⟩
    · have := Int.emod_nonneg (n / 5) (show (5 : Int) ≠ 0 by decide)
      show -(2 ^ 62) ≤ n / 5 % 5
      omega
    · have := Int.emod_lt_of_pos (n / 5) p5
      show n / 5 % 5 < 2 ^ 62
      omega
    refine lc_it walk_range (fun i H' => ∃ xs ts, Dr K d l a ns H' ∧ Fr d l H1 H' ∧ H' D = some (.lst xs) ∧ Iss (CF K) H' xs ts ∧ Th.worths false ts = true ∧ Th.nodesL ts ≤ i * 5 ^ (m' + 1) ∧ xs.length = i ∧ Th.depthL ts ≤ m' + 1 ∧ Th.tmaxL ts ≤ i * (TB (m' + 1) + 1) ∧ Th.lmaxL ts ≤ i * (LB (m' + 1) + 2) ∧ Th.rwsL ts ≤ i * RB (m' + 1))
      ⟨[], [], h2.same (same_new nD _), fr_same (same_new nD _), upd_same, .nil, rfl, Nat.zero_le _, rfl, Nat.zero_le _, Nat.zero_le _, Nat.zero_le _, Nat.zero_le _⟩ (fun _ _ _ _ => trivial) ?_ ?_
    · rintro i y H2 H3 hi ⟨xs, ts, r1, r2, r3, r4, r5, r7, r8, r9, r10, r11, r12⟩ ⟨rfl, rfl⟩
      refine ⟨rfl, _, rfl, _, rfl, _, _, rfl, rfl, _, rfl, _, _, _, rfl, d, l, a, ns, k - 1, rfl, rfl, rfl, r1, hn, by omega, by omega, by omega, fun u t H4 g1 g2 g3 g5 g6 g7 g8 g9 g10 => ?_⟩
      have eD : H4 D = some (.lst xs) := by
        obtain ⟨_, _, z1, _, z3, _⟩ := h2
        exact g2 _ _ (ne_of_none z1 nD).symm (ne_of_none z3 nD).symm r3
      have hi4 : i < 5 := by
        have := Int.emod_lt_of_pos (n / 5) p5
        omega
      refine ⟨xs, eD, by rw [r8]; exact small1000 (by omega), xs ++ [u], ts ++ [t], ?_, ?_, upd_same, ?_, ?_, ?_, ?_, ?_, ?_, ?_, ?_⟩
      · obtain ⟨ls, c9, z1, z2, z3, z4, z5, z6⟩ := g1
        refine ⟨ls, c9, ?_, ?_, ?_, z4, z5, z6⟩
        · rw [upd_ne (ne_of z1 eD (by intro z; cases z))]
          exact z1
        · rcases z2 with ⟨o, z⟩ | z
          · exact .inl ⟨o, by rw [upd_ne (ne_of z eD (by intro z; cases z))]; exact z⟩
          · exact .inr z
        · obtain ⟨_, _, _, _, y3, _⟩ := h2
          rw [upd_ne (ne_of_none y3 nD)]
          exact z3
      · intro b o e1 e2 e
        rw [upd_ne (ne_of_none e nD)]
        exact g2 b o e1 e2 (r2 b o e1 e2 e)
      · exact ((r4.ik (im_fr r1 g1 g2)).app (.one g3)).ik (im_lst eD)
      · rw [worths_app, r5, Th.worths, g5]
        rfl
      · rw [nodesL_app, Th.nodesL, Th.nodesL, Nat.add_mul, Nat.one_mul]
        omega
      · rw [List.length_append, r8]
        rfl
      · rw [depthL_app, Th.depthL, Th.depthL]
        omega
      · rw [tmaxL_app, Th.tmaxL, Th.tmaxL, Nat.add_mul, Nat.one_mul]
        omega
      · rw [lmaxL_app, Th.lmaxL, Th.lmaxL, Nat.add_mul, Nat.one_mul]
        omega
      · rw [rwsL_app, Th.rwsL, Th.rwsL, Nat.add_mul, Nat.one_mul]
        omega
    · rintro H2 ⟨xs, ts, r1, r2, r3, r4, r5, r7, r8, r9, r10, r11, r12⟩
      refine .inl ⟨D, xs, rfl, SqL.of r3, fun P1 nP => ?_⟩
      have sm := same_new nP (.tup xs)
      have hi4 : (n / 5 % 5).toNat ≤ 4 := by
        have := Int.emod_lt_of_pos (n / 5) p5
        omega
      refine q _ (.tup ts) _ (r1.same sm) (f1.trans (r2.trans (fr_same sm))) (.tup upd_same (r4.same sm)) (by simpa [Th.worth] using r5) ?_ (by rw [Th.depth]; omega) ?_ ?_ ?_
      · have e1 : (n / 5 % 5).toNat * 5 ^ (m' + 1) ≤ 4 * 5 ^ (m' + 1) := Nat.mul_le_mul_right _ hi4
        have e2 : 1 ≤ 5 ^ (m' + 1) := Nat.one_le_pow _ _ (by decide)
        rw [Th.nodes, Nat.pow_succ]
        omega
      · have e1 : (n / 5 % 5).toNat * (TB (m' + 1) + 1) ≤ 4 * (TB (m' + 1) + 1) := Nat.mul_le_mul_right _ hi4
        rw [Th.tmax, TB]
        omega
      · have e1 : (n / 5 % 5).toNat * (LB (m' + 1) + 2) ≤ 4 * (LB (m' + 1) + 2) := Nat.mul_le_mul_right _ hi4
        rw [Th.lmax, LB]
        omega
      · have e1 : (n / 5 % 5).toNat * RB (m' + 1) ≤ 4 * RB (m' + 1) := Nat.mul_le_mul_right _ hi4
        rw [Th.rws, RB]
        omega
end
end Fl
/-! brackets counted -/
namespace Fl
open PySem PySem.Spec PyProof.Rows L2
open SX (S)
def c40 (a : List Nat) : Nat := a.countP fun c => c == 40
theorem c40_app (a b : List Nat) : c40 (a ++ b) = c40 a + c40 b := List.countP_append ..
theorem c40_cons (c : Nat) (a : List Nat) : c40 (c :: a) = c40 a + (if c = 40 then 1 else 0) := by
  unfold c40
  rw [List.countP_cons]
  by_cases h : c = 40
  · subst h; rfl
  · rw [if_neg h, if_neg (by rw [beq_iff_eq]; exact h)]
/-- words, their signs, their brackets -/
def sumL (ws : List (List Nat)) : Nat := (ws.map fun w => w.length).sum
def sumC (ws : List (List Nat)) : Nat := (ws.map c40).sum
theorem tok_sums : ∀ (cs u : List Nat), sumL (tok u cs) ≤ u.length + cs.length ∧ sumC (tok u cs) ≤ c40 u + c40 cs ∧ (∀ w ∈ tok u cs, w ≠ [])
  | [], u => by
    rw [tok]
    cases u with
    | nil => exact ⟨Nat.le_refl _, Nat.le_refl _, fun w h => by cases h⟩
    | cons c r =>
      refine ⟨?_, ?_, fun w h => ?_⟩
      · show (c :: r).length + 0 ≤ _
        omega
      · show c40 (c :: r) + 0 ≤ _
        omega
      · have h : w ∈ [c :: r] := h
        rw [List.mem_singleton] at h
        rw [h]
        exact List.cons_ne_nil _ _
  | c :: r, u => by
    have fl : sumL (flush u) ≤ u.length ∧ sumC (flush u) ≤ c40 u ∧ ∀ w ∈ flush u, w ≠ [] := by
      cases u with
      | nil => exact ⟨Nat.le_refl _, Nat.le_refl _, fun w h => by cases h⟩
      | cons d s =>
        refine ⟨?_, ?_, fun w h => ?_⟩
        · show (d :: s).length + 0 ≤ _
          omega
        · show c40 (d :: s) + 0 ≤ _
          omega
        · have h : w ∈ [d :: s] := h
          rw [List.mem_singleton] at h
          rw [h]
          exact List.cons_ne_nil _ _
    rw [tok]
    split
    · obtain ⟨a1, a2, a3⟩ := tok_sums r []
      have ac := c40_cons c r
      have z0 : c40 ([] : List Nat) = 0 := rfl
      simp only [sumL, sumC] at a1 a2 fl ⊢
      refine ⟨?_, ?_, fun w h => ?_⟩
      · rw [List.map_append, List.map_append, List.sum_append, List.sum_append, List.length_cons]
        rw [List.length_nil] at a1
        have b1 : ((if isBr c = true then [[c]] else []).map fun w => w.length).sum ≤ 1 := by
          split
          · exact Nat.le_refl _
          · exact Nat.zero_le _
        omega
      · rw [List.map_append, List.map_append, List.sum_append, List.sum_append, ac]
        have b1 : ((if isBr c = true then [[c]] else []).map c40).sum ≤ (if c = 40 then 1 else 0) := by
          split
          · show c40 [c] + 0 ≤ _
            rw [c40_cons, z0]
            omega
          · exact Nat.zero_le _
        omega
      · rcases List.mem_append.mp h with h | h
        · exact fl.2.2 w h
        · rcases List.mem_append.mp h with h | h
          · split at h
            · rw [List.mem_singleton] at h
              rw [h]
              exact List.cons_ne_nil _ _
            · cases h
          · exact a3 w h
    · obtain ⟨a1, a2, a3⟩ := tok_sums r (u ++ [c])
      have ac := c40_cons c r
      have z0 : c40 ([] : List Nat) = 0 := rfl
      rw [List.length_append, List.length_singleton] at a1
      rw [c40_app, c40_cons, z0] at a2
      rw [List.length_cons, ac]
      exact ⟨by omega, by omega, a3⟩
theorem cnt_sum : ∀ ws : List (List Nat), cnt ws ≤ sumC ws
  | [] => Nat.le_refl _
  | w :: r => by
    have ih := cnt_sum r
    unfold cnt sumC at ih ⊢
    rw [List.countP_cons, List.map_cons, List.sum_cons]
    by_cases h : w = [40]
    · subst h
      rw [if_pos (by rfl)]
      have : c40 [40] = 1 := rfl
      omega
    · rw [if_neg (by rw [beq_iff_eq]; exact h)]
      omega
/-- words of a text with few brackets -/
theorem cnt_tok (cs : List Nat) : cnt (tok [] cs) ≤ c40 cs := by
  have a := (tok_sums cs []).2.1
  have z0 : c40 ([] : List Nat) = 0 := rfl
  have b := cnt_sum (tok [] cs)
  omega
theorem len_sum : ∀ ws : List (List Nat), (∀ w ∈ ws, w ≠ []) → ws.length ≤ sumL ws
  | [], _ => Nat.le_refl _
  | w :: r, h => by
    have ih := len_sum r fun x m => h x (List.mem_cons_of_mem _ m)
    have hw : 1 ≤ w.length := List.length_pos_iff.mpr (h w List.mem_cons_self)
    unfold sumL at ih ⊢
    rw [List.length_cons, List.map_cons, List.sum_cons]
    omega
theorem join_sums (ws : List (List Nat)) : (TL.joinL [32] ws).length ≤ sumL ws + ws.length ∧ c40 (TL.joinL [32] ws) ≤ sumC ws := by
  induction ws with
  | nil => exact ⟨Nat.zero_le _, Nat.zero_le _⟩
  | cons w r ih =>
    unfold sumL sumC at ih ⊢
    rw [List.map_cons, List.sum_cons, List.map_cons, List.sum_cons, List.length_cons]
    cases r with
    | nil =>
      show w.length ≤ _ ∧ c40 w ≤ _
      omega
    | cons x s =>
      show (w ++ ([32] ++ TL.joinL [32] (x :: s))).length ≤ _ ∧ c40 (w ++ ([32] ++ TL.joinL [32] (x :: s))) ≤ _
      rw [List.length_append, List.length_append, c40_app, c40_app]
      have : c40 [32] = 0 := rfl
      have : [32].length = 1 := rfl
      omega
mutual
theorem text_c40 : ∀ t : Th, t.worth false = true → c40 (textP t) = t.rws
  | .tup l, h => by
    have := texts_c40 l (by simpa [Th.worth] using h)
    have z : c40 [41] = 0 := rfl
    rw [textP, c40_cons, c40_app, Th.rws, z, if_pos rfl]
    omega
  | .bl b, h => leaf_c40 h rfl (by simp only [Th.rws])
  | .int i, h => leaf_c40 h rfl (by simp only [Th.rws])
  | .str x, h => leaf_c40 h rfl (by simp only [Th.rws])
  | .non, h => by cases h
  | .fn _, h => by cases h
  | .oth, h => by cases h
theorem leaf_c40 : ∀ {t : Th}, t.worth false = true → t.isTup = false → t.rws = 0 → c40 (textP t) = t.rws := fun {t} h ht hr => by
  rw [text_leaf ht, hr]
  unfold c40
  rw [List.countP_eq_zero]
  intro c m
  have z := leafT_not h c m
  rw [beq_iff_eq]
  intro e
  rw [e] at z
  cases z
theorem texts_c40 : ∀ l : List Th, Th.worths false l = true → c40 (textsP l) = Th.rwsL l
  | [], _ => rfl
  | t :: r, h => by
    rw [Th.worths, Bool.and_eq_true] at h
    rw [textsP, c40_app, Th.rwsL, text_c40 t h.1, tails_c40 r h.2]
theorem tails_c40 : ∀ l : List Th, Th.worths false l = true → c40 (tailsP l) = Th.rwsL l
  | [], _ => rfl
  | t :: r, h => by
    rw [Th.worths, Bool.and_eq_true] at h
    rw [tailsP, c40_cons, c40_app, Th.rwsL, text_c40 t h.1, tails_c40 r h.2, if_neg (by decide)]
    rfl
end
end Fl
namespace Fl
open PySem PySem.Spec PyProof.Rows L2
open SX (S)
abbrev s_law_bent : Stmt := top 42
theorem sc_law_bent : FnScope ["_law_written", "_law_number", "_law_words_here", "_law_at", "_law_some", "_law_one_here", "_law_way", "_law_spot", "_law_mark"] ["_law_written", "_law_number"] (defScope s_law_bent) := ⟨rfl, rfl, rfl, by decide +kernel, rfl, by decide +kernel, by decide +kernel⟩
theorem cut_take (xs : List V) {i : Int} (h : 0 ≤ i) : cutV xs none (some i) = xs.take i.toNat := by
  have e : HT.sIx xs.length xs.length (some i) = min i.toNat xs.length := by
    show (if i < 0 then (i + (xs.length : Int)).toNat else min i.toNat xs.length) = _
    rw [if_neg (by omega)]
  unfold cutV
  rw [sIx_none0, e, List.drop_zero, Nat.sub_zero]
  by_cases l : i.toNat ≤ xs.length
  · rw [Nat.min_eq_left l]
  · rw [Nat.min_eq_right (by omega), List.take_length, List.take_of_length_le (by omega)]
theorem cut_drop (xs : List V) {i : Int} (h : 0 ≤ i) : cutV xs (some i) none = xs.drop i.toNat := by
  have e : HT.sIx xs.length 0 (some i) = min i.toNat xs.length := by
    show (if i < 0 then (i + (xs.length : Int)).toNat else min i.toNat xs.length) = _
    rw [if_neg (by omega)]
  unfold cutV
  rw [sIx_none0, e]
  by_cases l : i.toNat ≤ xs.length
  · rw [Nat.min_eq_left l]
    exact List.take_of_length_le (by rw [List.length_drop]; omega)
  · rw [Nat.min_eq_right (by omega), List.drop_length, List.drop_eq_nil_of_le (by omega), List.take_nil]
def bents : List (List Nat) := [[40], [41], [120], [49, 50], [45], [45, 48], [48, 48, 55], [97, 49], [49, 97], [97, 98, 99, 100, 101, 102, 103, 104, 105], [88], [49, 48, 48, 48, 48, 48, 48, 48, 48, 49], [45, 45, 49], [116, 114, 117, 101], [45, 53]]
theorem bents_ok : (bents.all fun u => Nat.ble u.length 10 && Nat.ble (c40 u) 1) = true := by decide +kernel
def marks : List (List Nat) := [[33], [9], [40], [41], [65], [49], [44], [95], [97], [32], [45], [10]]
theorem marks_ok : (marks.all fun u => Nat.ble u.length 1 && Nat.ble (c40 u) 1) = true := by decide +kernel
def spBent (K : PySem.W.Frag) : Sp := sp2 fun v n H Q _ => ∃ cs i, v = .str (S cs) ∧ n = .int i ∧ 0 ≤ i ∧ cs.length ≤ 5000 ∧ tok [] cs ≠ [] ∧ ∀ cs' H', Same H H' → cs'.length ≤ 11000 → c40 cs' ≤ c40 cs + 1 → Q (.str (S cs')) H'
section
variable {P : Program} {w : World} {K : PySem.W.Frag} {mg : Str → Option Value} {base : Heap}
theorem ok_law_bent (F : FnP K mg "_law_bent" s_law_bent) (T : Tx K mg) (B_law_words : ClT P w K mg base 1 "_law_words" ["_law_written"] (spLWords K)) : ClT P w K mg base 2 "_law_bent" ["_law_written", "_law_number"] (spBent K) := by
  refine clT_mk F sc_law_bent (fun _ _ _ _ _ _ us hl => match us, hl with | [_, _], _ => rfl) (fun vs H Q E h => by obtain ⟨a, b, rfl, _⟩ := h; rfl) fun cdv A outer s H vs Q E hr h => ?_
  obtain ⟨v, n', rfl, cs, n, rfl, rfl, n0, hl, hne, q⟩ := h
  refine ⟨_, psst_cons (pst_set (i := 2) sc_law_bent.nd rfl (Or.inl rfl) (pet_bT B_law_words hr (by omega) rfl passL (PAT.of (pa_cons (pv 0) pa_nil)))) (PSsT.of (PSs.nox (pss_cons (ps_set (i := 3) sc_law_bent.nd rfl (Or.inl rfl) (pe_op op_mod (pe_op op_fdiv (pv 1) pe_int) (pe_callB call_len_seq rfl T.z_len PySem.boot_len (pa_cons (pv 2) pa_nil)))) (pss_cons (ps_set (i := 4) sc_law_bent.nd rfl (Or.inl rfl) (pe_lst (pa_cons pe_str (pa_cons pe_str (pa_cons pe_str (pa_cons pe_str (pa_cons pe_str (pa_cons pe_str (pa_cons pe_str (pa_cons pe_str (pa_cons pe_str (pa_cons pe_str (pa_cons pe_str (pa_cons pe_str (pa_cons pe_str (pa_cons pe_str (pa_cons pe_str pa_nil))))))))))))))))) (pss_cons (ps_set (i := 5) sc_law_bent.nd rfl (Or.inl rfl) (pe_ix ix_list (pv 4) (pe_op op_mod (pe_op op_fdiv (pv 1) pe_int) pe_int) (fun _ _ => rfl))) (pss_cons (ps_set (i := 6) sc_law_bent.nd rfl (Or.inl rfl) (pe_op op_mod (pv 1) pe_int)) (pss_cons (ps_if (pt_cmpR op_lt (pv 6) pe_int (nomark _)) (pss_one (ps_ret (pe_join pe_str (pe_op op_cat (pe_slice sl_list (pv 2) po_none (po_some (pv 3))) (pe_slice sl_list (pv 2) (po_some (pe_op op_add (pv 3) pe_int)) po_none))))) pss_nil) (pss_cons (ps_if (pt_cmpR op_lt (pv 6) pe_int (nomark _)) (pss_one (ps_ret (pe_join pe_str (pe_op op_cat (pe_op op_cat (pe_slice sl_list (pv 2) po_none (po_some (pv 3))) (pe_lst (pa_cons (pv 5) pa_nil))) (pe_slice sl_list (pv 2) (po_some (pv 3)) po_none))))) pss_nil) (pss_cons (ps_if (pt_cmpR op_lt (pv 6) pe_int (nomark _)) (pss_one (ps_ret (pe_join pe_str (pe_op op_cat (pe_op op_cat (pe_slice sl_list (pv 2) po_none (po_some (pv 3))) (pe_lst (pa_cons (pv 5) pa_nil))) (pe_slice sl_list (pv 2) (po_some (pe_op op_add (pv 3) pe_int)) po_none))))) pss_nil) (pss_cons (ps_set (i := 7) sc_law_bent.nd rfl (Or.inl rfl) (pe_op op_mod (pe_op op_fdiv (pv 1) pe_int) (pe_op op_add (pe_callB call_len_str rfl T.z_len PySem.boot_len (pa_cons (pv 0) pa_nil)) pe_int))) (pss_cons (ps_set (i := 8) sc_law_bent.nd rfl (Or.inl rfl) (pe_ix ix_list (pe_lst (pa_cons pe_str (pa_cons pe_str (pa_cons pe_str (pa_cons pe_str (pa_cons pe_str (pa_cons pe_str (pa_cons pe_str (pa_cons pe_str (pa_cons pe_str (pa_cons pe_str (pa_cons pe_str (pa_cons pe_str pa_nil))))))))))))) (pe_op op_mod (pe_op op_fdiv (pv 1) pe_int) pe_int) (fun _ _ => rfl))) (pss_one (ps_ret (pe_op op_add_str (pe_op op_add_str (pe_slice sl_str (pv 0) po_none (po_some (pv 7))) (pv 8)) (pe_slice sl_str (pv 0) (po_some (pv 7)) po_none))))))))))))))), ?_⟩
  refine ⟨_, rfl, _, rfl, cs, rfl, by omega, fun pw H1 s1' hw => ?_⟩
  obtain ⟨a1, a2, a3⟩ := tok_sums cs []
  rw [List.length_nil, Nat.zero_add] at a1
  have z0 : c40 ([] : List Nat) = 0 := rfl
  rw [z0, Nat.zero_add] at a2
  have wl := len_sum _ a3
  generalize tok [] cs = ws at hw a1 a2 a3 wl hne
  have hw : H1 pw = some (.lst (wsV ws)) := hw
  have wp : 1 ≤ ws.length := List.length_pos_iff.mpr hne
  have wv : (wsV ws).length = ws.length := List.length_map ..
  refine stepG ?_
  dsimp only
  have pl : (0 : Int) < (((wsV ws).length : Nat) : Int) := by omega
  refine ⟨_, rfl, _, _, rfl, rfl, d8, _, rfl, pw, _, rfl, .inl (SqL.of hw), _, _, rfl, rfl, pl, ?_⟩
  refine stepG ?_
  dsimp only
  have at0 : 0 ≤ n / 8 % (((wsV ws).length : Nat) : Int) := Int.emod_nonneg _ (by omega)
  have at1 := Int.emod_lt_of_pos (n / 8) pl
  generalize n / 8 % (((wsV ws).length : Nat) : Int) = at' at at0 at1 ⊢
  refine ⟨(by show 15 ≤ sizeLine; decide), fun ps nps => ?_⟩
  have el : ([V.str "(", V.str ")", V.str "x", V.str "12", V.str "-", V.str "-0", V.str "007", V.str "a1", V.str "1a", V.str "abcdefghi", V.str "X", V.str "1000000001", V.str "--1", V.str "true", V.str "-5"] : List V) = wsV bents := rfl
  rw [el]
  refine stepG ?_
  dsimp only
  have s2' := same_new nps (.lst (wsV bents))
  have hps : (upd H1 ps (.lst (wsV bents))) ps = some (.lst (wsV bents)) := upd_same
  have hw2 := s2' _ _ hw
  have ib0 := Int.emod_nonneg (n / 1024) (show (15 : Int) ≠ 0 by decide)
  have ib1 := Int.emod_lt_of_pos (n / 1024) (show (0 : Int) < 15 by decide)
  obtain ⟨jb, ejb⟩ : ∃ jb : Nat, n / 1024 % 15 = (jb : Int) := ⟨(n / 1024 % 15).toNat, by omega⟩
  have hjb : jb < bents.length := by
    show jb < 15
    omega
  have hbw : bents[jb]? = some bents[jb] := List.getElem?_eq_getElem hjb
  have okb := List.all_eq_true.mp bents_ok _ (List.mem_of_getElem? hbw)
  rw [Bool.and_eq_true, Nat.ble_eq, Nat.ble_eq] at okb
  generalize bents[jb] = bw at hbw okb
  have hbv : (wsV bents)[jb]? = some (.str (S bw)) := by
    unfold wsV
    rw [List.getElem?_map, hbw]
    rfl
  refine ⟨_, rfl, _, rfl, _, _, rfl, rfl, (⟨by decide, by decide⟩ : CDiv n 1024), _, _, rfl, rfl, (by decide : (0 : Int) < 15), ps, _, _, _, rfl, rfl, SqL.of hps, (by rw [ejb]; exact atI_nat hbv), ?_⟩
  refine stepG ?_
  dsimp only
  have S2 := s1'.trans s2'
  generalize upd H1 ps (.lst (wsV bents)) = H2 at s2' hps hw2 S2 ⊢
  refine ⟨_, rfl, _, _, rfl, rfl, p8, ?_⟩
  refine stepG ?_
  dsimp only
  have fin : ∀ (ws' : List (List Nat)) (H' : Hp) (p3 : Addr), Same H H' → H' p3 = some (.lst (wsV ws')) → sumL ws' ≤ sumL ws + 10 → ws'.length ≤ ws.length + 1 → sumC ws' ≤ sumC ws + 1 →
      ∃ (a : Str) (p : Addr) (ys : List Str), V.str " " = .str a ∧ [V.ref p3] = [.ref p] ∧ (SqL K H' p (ys.map V.str) ∨ SqT K H' p (ys.map V.str)) ∧ (ys.map fun x => x.length).sum + ys.length * a.length ≤ 16777216 ∧ Q (.str (Txt.join a ys)) H' := fun ws' H' p3 sm h3 b1 b2 b3 => by
    obtain ⟨j1, j2⟩ := join_sums ws'
    refine ⟨" ", p3, ws'.map S, rfl, rfl, .inl ?_, ?_, ?_⟩
    · rw [List.map_map]
      exact SqL.of h3
    · have e : ((ws'.map S).map fun x => x.length) = ws'.map fun u => u.length := by
        rw [List.map_map]
        exact List.map_congr_left fun u _ => SX.S_len u
      rw [e, List.length_map]
      show sumL ws' + ws'.length * 1 ≤ _
      omega
    · have e : Txt.join (" " : Str) (ws'.map S) = S (TL.joinL [32] ws') := SX.join_S [32] ws'
      rw [e]
      exact q _ _ sm (by omega) (by omega)
  have sub : ∀ k : Nat, sumL (ws.take k) + sumL (ws.drop k) = sumL ws ∧ sumC (ws.take k) + sumC (ws.drop k) = sumC ws ∧ (ws.take k).length + (ws.drop k).length = ws.length := fun k => by
    have z := List.take_append_drop k ws
    refine ⟨?_, ?_, ?_⟩
    · conv => rhs; rw [← z]
      unfold sumL
      rw [List.map_append, List.sum_append]
    · conv => rhs; rw [← z]
      unfold sumC
      rw [List.map_append, List.sum_append]
    · conv => rhs; rw [← z]
      rw [List.length_append]
  have drop1 : ∀ k : Nat, sumL (ws.drop (k + 1)) ≤ sumL (ws.drop k) ∧ sumC (ws.drop (k + 1)) ≤ sumC (ws.drop k) ∧ (ws.drop (k + 1)).length ≤ (ws.drop k).length := fun k => by
    cases e : ws.drop k with
    | nil =>
      have : ws.drop (k + 1) = [] := by rw [← List.drop_drop, e]; rfl
      rw [this]
      exact ⟨Nat.le_refl _, Nat.le_refl _, Nat.le_refl _⟩
    | cons w r =>
      have : ws.drop (k + 1) = r := by rw [← List.drop_drop, e]; rfl
      rw [this]
      unfold sumL sumC
      rw [List.map_cons, List.sum_cons, List.map_cons, List.sum_cons, List.length_cons]
      omega
  obtain ⟨jt, ejt⟩ : ∃ jt : Nat, at'.toNat = jt := ⟨_, rfl⟩
  have ejt1 : (at' + 1).toNat = jt + 1 := by omega
  obtain ⟨u1, u2, u3⟩ := sub jt
  obtain ⟨v1, v2, v3⟩ := drop1 jt
  have tkv : cutV (wsV ws) none (some at') = wsV (ws.take jt) := by rw [cut_take _ at0, ejt]; exact (List.map_take ..).symm
  have dpv : cutV (wsV ws) (some (at' + 1)) none = wsV (ws.drop (jt + 1)) := by rw [cut_drop _ (by omega), ejt1]; exact (List.map_drop ..).symm
  have dpv0 : cutV (wsV ws) (some at') none = wsV (ws.drop jt) := by rw [cut_drop _ at0, ejt]; exact (List.map_drop ..).symm
  refine ⟨_, rfl, _, _, rfl, rfl, _, rfl, ite2 (fun c => ?_) (fun c => stepN ?_)⟩
  · refine ⟨⟨_, rfl⟩, _, rfl, _, rfl, _, rfl, pw, _, rfl, SqL.of hw2, fun p1 np1 => ?_⟩
    rw [tkv]
    have t1 := same_new np1 (.lst (wsV (ws.take jt)))
    refine ⟨_, rfl, _, rfl, _, _, rfl, rfl, _, rfl, ?_⟩
    unfold tNoPart
    show rSlL K (.ref pw) (some (at' + 1)) none _ _
    refine ⟨pw, _, rfl, SqL.of (t1 _ _ hw2), fun p2 np2 => ?_⟩
    rw [dpv]
    have t2 := same_new np2 (.lst (wsV (ws.drop (jt + 1))))
    refine ⟨p1, p2, _, _, rfl, rfl, t2 _ _ upd_same, upd_same, ?_, fun p3 np3 => ?_⟩
    · unfold wsV
      rw [List.length_map, List.length_map, sizeLine_eq]
      omega
    have t3 := same_new np3 (.lst (wsV (ws.take jt) ++ wsV (ws.drop (jt + 1))))
    refine fin (ws.take jt ++ ws.drop (jt + 1)) _ p3 (S2.trans (t1.trans (t2.trans t3))) ?_ ?_ ?_ ?_
    · rw [upd_same]
      unfold wsV
      rw [List.map_append]
    · unfold sumL at u1 v1 ⊢
      rw [List.map_append, List.sum_append]
      omega
    · rw [List.length_append]
      omega
    · unfold sumC at u2 v2 ⊢
      rw [List.map_append, List.sum_append]
      omega
  dsimp only
  refine ⟨_, rfl, _, _, rfl, rfl, _, rfl, ite2 (fun c => ?_) (fun c => stepN ?_)⟩
  · refine ⟨⟨_, rfl⟩, _, rfl, _, rfl, _, rfl, pw, _, rfl, SqL.of hw2, fun p1 np1 => ?_⟩
    rw [tkv]
    have t1 := same_new np1 (.lst (wsV (ws.take jt)))
    refine ⟨_, rfl, Fl.s1, fun p2 np2 => ?_⟩
    have t2 := same_new np2 (.lst (wsV [bw]))
    refine ⟨p1, p2, wsV (ws.take jt), wsV [bw], rfl, rfl, t2 _ _ upd_same, upd_same, ?_, fun p3 np3 => ?_⟩
    · unfold wsV
      rw [List.length_map, List.length_map, sizeLine_eq]
      show _ + 1 ≤ _
      omega
    have t3 := same_new np3 (.lst (wsV (ws.take jt) ++ wsV [bw]))
    refine ⟨_, rfl, _, rfl, _, rfl, ?_⟩
    unfold tNoPart
    show rSlL K (.ref pw) (some at') none _ _
    refine ⟨pw, _, rfl, SqL.of ((t1.trans (t2.trans t3)) _ _ hw2), fun p4 np4 => ?_⟩
    rw [dpv0]
    have t4 := same_new np4 (.lst (wsV (ws.drop jt)))
    refine ⟨p3, p4, wsV (ws.take jt) ++ wsV [bw], _, rfl, rfl, t4 _ _ upd_same, upd_same, ?_, fun p5 np5 => ?_⟩
    · unfold wsV
      rw [List.length_append, List.length_map, List.length_map, List.length_map, sizeLine_eq]
      show _ + 1 + _ ≤ _
      omega
    have t5 := same_new np5 (.lst ((wsV (ws.take jt) ++ wsV [bw]) ++ wsV (ws.drop jt)))
    refine fin (ws.take jt ++ [bw] ++ ws.drop jt) _ p5 (S2.trans (t1.trans (t2.trans (t3.trans (t4.trans t5))))) ?_ ?_ ?_ ?_
    · rw [upd_same]
      unfold wsV
      rw [List.map_append, List.map_append]
    · unfold sumL at u1 v1 ⊢
      rw [List.map_append, List.sum_append, List.map_append, List.sum_append]
      show _ + (bw.length + 0) + _ ≤ _
      omega
    · rw [List.length_append, List.length_append]
      show _ + 1 + _ ≤ _
      omega
    · unfold sumC at u2 v2 ⊢
      rw [List.map_append, List.sum_append, List.map_append, List.sum_append]
      show _ + (c40 bw + 0) + _ ≤ _
      omega
  dsimp only
  refine ⟨_, rfl, _, _, rfl, rfl, _, rfl, ite2 (fun c => ?_) (fun c => stepN ?_)⟩
  · refine ⟨⟨_, rfl⟩, _, rfl, _, rfl, _, rfl, pw, _, rfl, SqL.of hw2, fun p1 np1 => ?_⟩
    rw [tkv]
    have t1 := same_new np1 (.lst (wsV (ws.take jt)))
    refine ⟨_, rfl, Fl.s1, fun p2 np2 => ?_⟩
    have t2 := same_new np2 (.lst (wsV [bw]))
    refine ⟨p1, p2, wsV (ws.take jt), wsV [bw], rfl, rfl, t2 _ _ upd_same, upd_same, ?_, fun p3 np3 => ?_⟩
    · unfold wsV
      rw [List.length_map, List.length_map, sizeLine_eq]
      show _ + 1 ≤ _
      omega
    have t3 := same_new np3 (.lst (wsV (ws.take jt) ++ wsV [bw]))
    refine ⟨_, rfl, _, rfl, _, _, rfl, rfl, _, rfl, ?_⟩
    unfold tNoPart
    show rSlL K (.ref pw) (some (at' + 1)) none _ _
    refine ⟨pw, _, rfl, SqL.of ((t1.trans (t2.trans t3)) _ _ hw2), fun p4 np4 => ?_⟩
    rw [dpv]
    have t4 := same_new np4 (.lst (wsV (ws.drop (jt + 1))))
    refine ⟨p3, p4, wsV (ws.take jt) ++ wsV [bw], _, rfl, rfl, t4 _ _ upd_same, upd_same, ?_, fun p5 np5 => ?_⟩
    · unfold wsV
      rw [List.length_append, List.length_map, List.length_map, List.length_map, sizeLine_eq]
      show _ + 1 + _ ≤ _
      omega
    have t5 := same_new np5 (.lst ((wsV (ws.take jt) ++ wsV [bw]) ++ wsV (ws.drop (jt + 1))))
    refine fin (ws.take jt ++ [bw] ++ ws.drop (jt + 1)) _ p5 (S2.trans (t1.trans (t2.trans (t3.trans (t4.trans t5))))) ?_ ?_ ?_ ?_
    · rw [upd_same]
      unfold wsV
      rw [List.map_append, List.map_append]
    · unfold sumL at u1 v1 ⊢
      rw [List.map_append, List.sum_append, List.map_append, List.sum_append]
      show _ + (bw.length + 0) + _ ≤ _
      omega
    · rw [List.length_append, List.length_append]
      show _ + 1 + _ ≤ _
      omega
    · unfold sumC at u2 v2 ⊢
      rw [List.map_append, List.sum_append, List.map_append, List.sum_append]
      show _ + (c40 bw + 0) + _ ≤ _
      omega
  dsimp only
  have hlen : (S cs).length ≤ sizeLine := by rw [SX.S_len, sizeLine_eq]; omega
  have pl2 : (0 : Int) < (((S cs).length : Nat) : Int) + 1 := by omega
  refine ⟨_, rfl, _, _, rfl, rfl, d8, _, rfl, S cs, rfl, hlen, _, _, rfl, rfl, _, _, rfl, rfl, pl2, ?_⟩
  refine stepG ?_
  dsimp only
  have sp0 : 0 ≤ n / 8 % ((((S cs).length : Nat) : Int) + 1) := Int.emod_nonneg _ (by omega)
  generalize n / 8 % ((((S cs).length : Nat) : Int) + 1) = sp' at sp0 ⊢
  refine ⟨(by show 12 ≤ sizeLine; decide), fun pm npm => ?_⟩
  have em : ([V.str "!", V.str "\t", V.str "(", V.str ")", V.str "A", V.str "1", V.str ",", V.str "_", V.str "a", V.str " ", V.str "-", V.str "\n"] : List V) = wsV marks := rfl
  rw [em]
  have im0 := Int.emod_nonneg (n / 1024) (show (12 : Int) ≠ 0 by decide)
  have im1 := Int.emod_lt_of_pos (n / 1024) (show (0 : Int) < 12 by decide)
  obtain ⟨jm, ejm⟩ : ∃ jm : Nat, n / 1024 % 12 = (jm : Int) := ⟨(n / 1024 % 12).toNat, by omega⟩
  have hjm : jm < marks.length := by
    show jm < 12
    omega
  have hbm : marks[jm]? = some marks[jm] := List.getElem?_eq_getElem hjm
  have okm := List.all_eq_true.mp marks_ok _ (List.mem_of_getElem? hbm)
  rw [Bool.and_eq_true, Nat.ble_eq, Nat.ble_eq] at okm
  generalize marks[jm] = mw at hbm okm
  have hmv : (wsV marks)[jm]? = some (.str (S mw)) := by
    unfold wsV
    rw [List.getElem?_map, hbm]
    rfl
  have tm := same_new npm (.lst (wsV marks))
  refine ⟨_, rfl, _, _, rfl, rfl, (⟨by decide, by decide⟩ : CDiv n 1024), _, _, rfl, rfl, (by decide : (0 : Int) < 12), pm, _, _, _, rfl, rfl, SqL.of upd_same, (by rw [ejm]; exact atI_nat hmv), ?_⟩
  refine stepG ?_
  dsimp only
  have c1 : cutS (S cs) none (some sp') = S (cs.take sp'.toNat) := (C8.cutS_slice _ _ _).trans (SX.slice_to sp0)
  have c2 : cutS (S cs) (some sp') none = S (cs.drop sp'.toNat) := (C8.cutS_slice _ _ _).trans (SX.slice_from sp0)
  have lt : (cs.take sp'.toNat).length ≤ cs.length := List.length_take_le' _ _
  have ld : (cs.drop sp'.toNat).length ≤ cs.length := by rw [List.length_drop]; omega
  refine ⟨_, rfl, _, rfl, _, rfl, S cs, rfl, hlen, ?_⟩
  rw [c1]
  refine ⟨_, rfl, _, _, rfl, rfl, ?_, ?_⟩
  · rw [SX.S_len, SX.S_len, sizeLine_eq]
    omega
  refine ⟨_, rfl, _, rfl, _, rfl, ?_⟩
  unfold tNoPart
  show rSlS (.str (S cs)) (some sp') none _ _
  refine ⟨S cs, rfl, hlen, ?_⟩
  rw [c2]
  refine ⟨_, _, rfl, rfl, ?_, ?_⟩
  · rw [SX.S_cat (cs.take sp'.toNat) mw, SX.S_len, SX.S_len, sizeLine_eq, List.length_append]
    omega
  rw [SX.S_cat (cs.take sp'.toNat) mw, SX.S_cat (cs.take sp'.toNat ++ mw) (cs.drop sp'.toNat)]
  have cc : c40 cs = c40 (cs.take sp'.toNat) + c40 (cs.drop sp'.toNat) := by rw [← c40_app, List.take_append_drop]
  refine q _ _ (S2.trans tm) ?_ ?_
  · rw [List.length_append, List.length_append]
    omega
  · rw [c40_app, c40_app]
    omega
end
end Fl
/-! what read answers to the law's odd texts -/
namespace Fl
open PySem PySem.Spec PyProof.Rows L2
open SX (S)
theorem read_long {cs : List Nat} (h : 20000 < cs.length) : readP cs = none := by
  unfold readP
  exact if_neg (by omega)
theorem tok_opens : ∀ (n : Nat) (a : List Nat), tok [] (List.replicate n 40 ++ a) = List.replicate n [40] ++ tok [] a
  | 0, a => rfl
  | n + 1, a => by
    rw [List.replicate_succ, List.cons_append, tok_br rfl, tok_opens n a]
    rfl
theorem steps_deep : ∀ (n : Nat) (r : List Th) (s : List (List Th)) (ws : List (List Nat)), (s ≠ [] ∨ r = []) → 101 < (r :: s).length + n → (r :: s).length ≤ 101 → stepsP (r :: s) (List.replicate n [40] ++ ws) = none
  | 0, r, s, ws, _, h, l => by omega
  | n + 1, r, s, ws, hs, h, l => by
    rw [List.replicate_succ, List.cons_append, steps_cons]
    by_cases k : (r :: s).length + 1 ≤ 101
    · rw [step_open hs k]
      exact steps_deep n [] (r :: s) ws (.inl (List.cons_ne_nil _ _)) (by simp only [List.length_cons] at h k ⊢; omega) (by simp only [List.length_cons] at k ⊢; omega)
    · have st : stepP (r :: s) [40] = none := by
        unfold stepP
        rw [if_pos (low_ok hs), if_pos rfl, if_neg k]
      rw [st]
theorem read_deep {n : Nat} {a : List Nat} (h : 100 < n) : readP (List.replicate n 40 ++ a) = none := by
  unfold readP
  split
  · rw [tok_opens, steps_deep n [] [] _ (.inr rfl) (by show 101 < 1 + n; omega) (by decide)]
    rfl
  · rfl
end Fl
/-! what read answers to the law's good texts -/
namespace Fl
open PySem PySem.Spec PyProof.Rows L2
open SX (S)
def nest5 : Nat → Th
  | 0 => .tup []
  | n + 1 => .tup [nest5 n]
theorem nest5_text : ∀ n, textP (nest5 n) = List.replicate (n + 1) 40 ++ List.replicate (n + 1) 41
  | 0 => by rw [nest5, textP, textsP]; rfl
  | n + 1 => by
    have sn : ∀ k : Nat, List.replicate k 41 ++ [41] = 41 :: List.replicate k 41 := fun k => by
      induction k with
      | zero => rfl
      | succ k ih => rw [List.replicate_succ, List.cons_append, ih]
    rw [nest5, textP, textsP, tailsP, List.append_nil, nest5_text n, List.append_assoc, sn, List.replicate_succ (n := n + 1) (a := 40), List.replicate_succ (n := n + 1) (a := 41)]
    rfl
theorem nest5_ok : ∀ n, (nest5 n).worth false = true ∧ (nest5 n).depth = n + 1
  | 0 => ⟨rfl, rfl⟩
  | n + 1 => by
    obtain ⟨a, b⟩ := nest5_ok n
    rw [nest5]
    refine ⟨?_, ?_⟩
    · rw [Th.worth, Th.worths, Th.worths, a]
      rfl
    · rw [Th.depth, Th.depthL, Th.depthL, b]
      omega
theorem read_hundred : readP (List.replicate 100 40 ++ List.replicate 100 41) = some (nest5 99) := by
  have z := read_text (t := nest5 99) (nest5_ok 99).1 (by rw [(nest5_ok 99).2]; decide) (by rw [nest5_text, List.length_append, List.length_replicate, List.length_replicate]; decide)
  rw [nest5_text] at z
  exact z
end Fl
/-! what the law's own reading comes to is a plain worth, bounded by its words -/
namespace Fl
open PySem PySem.Spec PyProof.Rows L2
open SX (S)
theorem leafP_good {w : List Nat} {t : Th} (h : leafP w = some t) : t.worth false = true ∧ t.depth = 0 ∧ t.nodes = 1 := by
  unfold leafP at h
  split at h
  · injection h with h; subst h; exact ⟨rfl, rfl, rfl⟩
  split at h
  · injection h with h; subst h; exact ⟨rfl, rfl, rfl⟩
  cases w with
  | nil => cases h
  | cons c r =>
    dsimp only at h
    split at h
    · split at h
      · rename_i wb
        injection h with h; subst h; exact ⟨wb, rfl, rfl⟩
      · cases h
    · cases e : numP (c :: r) with
      | none => rw [e] at h; cases h
      | some i =>
        rw [e] at h
        injection h with h
        subst h
        refine ⟨?_, rfl, rfl⟩
        show numB i = true
        unfold numP at e
        split at e
        · dsimp only at e
          split at e
          · split at e
            · rename_i nb
              injection e with e
              subst e
              assumption
            · cases e
          · split at e
            · injection e with e
              subst e
              assumption
            · cases e
        · cases e
mutual
theorem one_good : ∀ {ws : List (List Nat)} {o : Option Th} {rest : List (List Nat)}, OneR ws o rest → ∀ t : Th, o = some t → t.worth false = true ∧ t.depth ≤ cnt ws ∧ t.nodes + rest.length ≤ ws.length
  | _, _, _, .nil => fun t e => by cases e
  | _, _, _, .close _ => fun t e => by cases e
  | _, _, _, .leaf h1 h2 => fun t e => by
    obtain ⟨a, b, c⟩ := leafP_good e
    exact ⟨a, by omega, by rw [List.length_cons]; omega⟩
  | _, _, _, .row h => fun t e => by
    obtain ⟨a, b, c⟩ := row_good h t e rfl
    rw [cnt_row]
    simp only [Th.depthL, Th.nodesL] at b c
    exact ⟨a, by omega, by rw [List.length_cons]; omega⟩
theorem row_good : ∀ {acc : List Th} {ws : List (List Nat)} {o : Option Th} {rest : List (List Nat)}, RowR acc ws o rest → ∀ t : Th, o = some t → Th.worths false acc = true → t.worth false = true ∧ t.depth ≤ max (Th.depthL acc) (cnt ws) + 1 ∧ t.nodes + rest.length ≤ Th.nodesL acc + ws.length
  | _, _, _, _, .nil => fun t e => by cases e
  | _, _, _, _, .close => fun t e w => by
    injection e with e
    subst e
    exact ⟨w, by rw [Th.depth]; omega, by rw [Th.nodes, List.length_cons]; omega⟩
  | _, _, _, _, .bad _ h => fun t e => by cases e
  | _, _, _, _, .next hw h1 h2 => fun t e w => by
    obtain ⟨a, b, c⟩ := one_good h1 _ rfl
    obtain ⟨a2, b2, c2⟩ := row_good h2 t e (by rw [worths_app, w, Bool.true_and, Th.worths, a, Th.worths]; rfl)
    have sf := cnt_suf (one_suf h1).1
    rw [depthL_app, Th.depthL, Th.depthL] at b2
    rw [nodesL_app, Th.nodesL, Th.nodesL] at c2
    exact ⟨a2, by omega, by omega⟩
end
theorem repr_one {K : PySem.W.Frag} {H : Hp} {a : Addr} {v : V} {t : Th} (ha : H a = some (.lst [v])) (h : Is (CF K) H v t) (w : t.worth false = true) (hn : t.nodes ≤ 30000) (hd : t.depth ≤ 180) :
    Dp K H (.ref a) (.list [t.dat]) ∧ (PyData.list [t.dat]).showable = true ∧ (PyData.list [t.dat]).hasDict = false ∧ (PyData.list [t.dat]).depth ≤ 190 ∧ (PyData.list [t.dat]).shown.length ≤ sizeLine := by
  obtain ⟨h1, h2, h3, h4, h5⟩ := dat_ok t (showy_of t w)
  have e : (2 : Nat) ^ 20 = 1048576 := by decide
  refine ⟨.lst (SqL.of ha) (.cons (dat_dp h (showy_of t w)) .nil), ?_, ?_, ?_, ?_⟩
  · simp only [PyData.showable, PyData.showableAll, h2, Bool.and_self]
  · simp only [PyData.hasDict, PyData.hasDictAll, h3, Bool.or_self]
  · simp only [PyData.depth, PyData.depthAll]; omega
  · refine PyData.shown_fits (B := 13) (by decide) (Nat.le_refl _) ?_ ?_
    · simp only [PyData.leavesShort, PyData.leavesShortAll, h1, Bool.and_self]
    · simp only [PyData.weight, PyData.weightAll]; omega
end Fl
/-! the law's odd texts, its good ones -/
namespace Fl
open PySem PySem.Spec PyProof.Rows L2
open SX (S)
theorem all_nil {P : V → Prop} : ∀ v ∈ ([] : List V), P v := fun _ h => nomatch h
theorem all_cons {P : V → Prop} {x : V} {l : List V} (h : P x) (r : ∀ v ∈ l, P v) : ∀ v ∈ x :: l, P v := fun v m => by
  rcases List.mem_cons.mp m with rfl | m
  · exact h
  · exact r v m
theorem rep_one (c : Nat) : ∀ n, (List.replicate n [c]).flatten = List.replicate n c
  | 0 => rfl
  | n + 1 => by rw [List.replicate_succ, List.flatten_cons, rep_one c n]; rfl
theorem read_nines : readP (List.replicate 5000 57) = none := by
  unfold readP
  rw [if_pos (by rw [List.length_replicate]; decide)]
  have w : tok [] (List.replicate 5000 57) = [List.replicate 5000 57] := by
    have z := tok_word (List.replicate 5000 57) [] (fun c m => by rw [List.eq_of_mem_replicate m]; rfl) (by rw [List.nil_append]; intro e; have := congrArg List.length e; rw [List.length_replicate] at this; cases this)
    rwa [List.nil_append] at z
  have hd : ∀ n : Nat, List.replicate (n + 1) 57 = 57 :: List.replicate n 57 := fun n => List.replicate_succ
  have ne : ∀ (c : Nat) (r : List Nat), c ≠ 57 → (57 :: List.replicate 4999 57 : List Nat) ≠ c :: r := fun c r h e => by
    injection e with a _
    exact h a.symm
  rw [w, steps_cons, hd 4999, step_leaf (.inr rfl) (ne 40 [] (by decide)) (ne 41 [] (by decide))]
  have lf : leafP (57 :: List.replicate 4999 57) = none := by
    unfold leafP
    have t1 : ¬ S (57 :: List.replicate 4999 57) = sTrue := fun e => by
      have z := congrArg (fun x : Str => x.cps.toList.head?) e
      revert z
      show some 57 = _ → False
      decide
    have t2 : ¬ S (57 :: List.replicate 4999 57) = sFalse := fun e => by
      have z := congrArg (fun x : Str => x.cps.toList.head?) e
      revert z
      show some 57 = _ → False
      decide
    rw [if_neg t1, if_neg t2]
    dsimp only
    have sg : isSign 57 = false := rfl
    rw [sg]
    have np : numP (57 :: List.replicate 4999 57) = none := by
      unfold numP
      have fl : (figs (57 :: List.replicate 4999 57)).length = 5000 := by
        have : figs (57 :: List.replicate 4999 57) = 57 :: List.replicate 4999 57 := rfl
        rw [this, List.length_cons, List.length_replicate]
      rw [fl]
      rfl
    rw [np]
    rfl
  rw [lf]
  rfl
theorem rep_len (c n : Nat) : (S (List.replicate n [c]).flatten).length = n := by rw [rep_one, SX.S_len, List.length_replicate]
def odd5 (b1 b2 b3 : Addr) : List V := [V.non, .int 5, .ref b1, .ref b2, .bl true, .ref b3, .str "", .str (S (List.replicate 2 [40, 41]).flatten), .str (S (List.replicate 101 [40]).flatten ++ S (List.replicate 101 [41]).flatten), .str (S (List.replicate 19000 [40]).flatten), .str (S (List.replicate 5000 [57]).flatten)]
def odd5b : List V := [.str "1 2", .str ")", .str "(x", .str "x)", .str (S [120] ++ S (List.replicate 20000 [32]).flatten)]
section
variable {K : PySem.W.Frag} {H : Hp} {b1 b2 b3 : Addr}
theorem rd_none {cs : List Nat} (h : readP cs = none) (l : cs.length ≤ 100000) : Rd5 K H (.str (S cs)) none := .inl ⟨cs, rfl, l, h.symm⟩
theorem odd_all {x1 : List V} (e1 : H b1 = some (.lst x1)) (e2 : H b2 = some (.tup [.str "x"])) (e3 : H b3 = some (.dK [])) : ∀ v ∈ odd5 b1 b2 b3 ++ odd5b, Rd5 K H v none := by
  have ot : ∀ {v t}, Is (CF K) H v t → t.isStr = false → Rd5 K H v none := fun h n => .inr ⟨_, h, n, rfl⟩
  refine fun v hv => (List.mem_append.mp hv).elim ((show ∀ v ∈ odd5 b1 b2 b3, Rd5 K H v none from ?_) v) ((show ∀ v ∈ odd5b, Rd5 K H v none from ?_) v)
  · unfold odd5
    refine all_cons (ot .non rfl) <| all_cons (ot (.int 5) rfl) <| all_cons (ot (.lst e1) rfl) <| all_cons (ot (.tup e2 (.one (.str _ (by decide)))) rfl) <| all_cons (ot (.bl true) rfl) <| all_cons (ot (.dct e3) rfl) <| all_cons ?_ <| all_cons ?_ <| all_cons ?_ <| all_cons ?_ <| all_cons ?_ all_nil
    · exact rd_none (cs := []) rfl (by decide)
    · exact rd_none (cs := [40, 41, 40, 41]) (by rfl) (by decide)
    · rw [rep_one, rep_one, SX.S_cat]
      exact rd_none (read_deep (by decide)) (by rw [List.length_append, List.length_replicate, List.length_replicate]; decide)
    · rw [rep_one]
      have z := read_deep (n := 19000) (a := []) (by decide)
      rw [List.append_nil] at z
      exact rd_none z (by rw [List.length_replicate]; decide)
    · rw [rep_one]
      exact rd_none read_nines (by rw [List.length_replicate]; decide)
  · unfold odd5b
    refine all_cons ?_ <| all_cons ?_ <| all_cons ?_ <| all_cons ?_ <| all_cons ?_ all_nil
    · exact rd_none (cs := [49, 32, 50]) (by rfl) (by decide)
    · exact rd_none (cs := [41]) (by rfl) (by decide)
    · exact rd_none (cs := [40, 120]) (by rfl) (by decide)
    · exact rd_none (cs := [120, 41]) (by rfl) (by decide)
    · rw [rep_one, SX.S_cat]
      refine rd_none (read_long ?_) ?_ <;> rw [List.length_append, List.length_replicate] <;> decide
def good5 : List V := [.str (S (List.replicate 100 [40]).flatten ++ S (List.replicate 100 [41]).flatten), .str (S [120] ++ S (List.replicate 19999 [32]).flatten)]
theorem read_x : readP ([120] ++ List.replicate 19999 32) = some (.str "x") := by
  refine read_toks (t := .str "x") (by decide) (by decide) (by rw [List.length_append, List.length_replicate]; decide) ?_
  have z := tok_pend (b := List.replicate 19999 32) (fun c s e => by
    have : c ∈ List.replicate 19999 32 := by rw [e]; exact List.mem_cons_self
    rw [List.eq_of_mem_replicate this]; rfl) [120]
  have g := tok_gaps (List.replicate 19999 32) (fun c m => by rw [List.eq_of_mem_replicate m]; rfl)
  rw [List.singleton_append, tok_sign rfl, List.nil_append, z, g]
  rfl
theorem good_all : ∀ v ∈ good5, ∃ t, Rd5 K H v (some t) := by
  unfold good5
  refine all_cons ?_ <| all_cons ?_ all_nil
  · rw [rep_one, rep_one, SX.S_cat]
    exact ⟨_, .inl ⟨_, rfl, by rw [List.length_append, List.length_replicate, List.length_replicate]; decide, read_hundred.symm⟩⟩
  · rw [rep_one, SX.S_cat]
    exact ⟨_, .inl ⟨_, rfl, by rw [List.length_append, List.length_replicate]; decide, read_x.symm⟩⟩
end
end Fl
/-! tuple * int, text * int, any times -/
namespace Fl
open PySem PySem.Spec PyProof.Rows L2
open SX (S)
theorem tuple_mul0 (l : Addr) (items : Array Value) (n : Nat) (dd : Option Addr) (sl : Array (Option Value)) (u : Tok) (c0 : items.isEmpty = false) :
    Meets (Builtin.«tuple.__mul__» ⟨[.ref l, .int 0 u], []⟩) (fun _ R s => s.heap.get? l = some { cls := .type "tuple", dict := dd, data := .seq items n, slots := sl } ∧
      R (.ok (.ret (Value.ref s.heap.objs.size))) { s with heap := s.heap.push { cls := Value.type "tuple", data := Data.seq #[] }, toks := s.toks }) :=
  .of_wp fun prog w A R s h => by
    obtain ⟨hp, g, d, tk, os⟩ := s
    obtain ⟨hl, h⟩ := h
    have f1 := AutoSeq1.idx_int
    wp_walk using wpAny_loadPart' hl
    repeat (first
      | (refine wpAny_ite_false (decide_eq_false (by rw [c0]; exact Bool.false_ne_true)) ?_; wp_walk using wpAny_loadPart' hl)
      | (refine wpAny_ite_false (by rw [c0]; exact Bool.false_ne_true) ?_; wp_walk using wpAny_loadPart' hl)
      | (refine wpAny_ite_true (by rfl) ?_; wp_walk using wpAny_loadPart' hl))
    exact ⟨_, rfl, h⟩
theorem tuple_mul1 (l : Addr) (items : Array Value) (n : Nat) (dd : Option Addr) (sl : Array (Option Value)) (u : Tok) (c0 : items.isEmpty = false) :
    Meets (Builtin.«tuple.__mul__» ⟨[.ref l, .int 1 u], []⟩) (fun _ R s => s.heap.get? l = some { cls := .type "tuple", dict := dd, data := .seq items n, slots := sl } ∧ R (.ok (.ret (Value.ref l))) s) :=
  .of_wp fun prog w A R s h => by
    obtain ⟨hp, g, d, tk, os⟩ := s
    obtain ⟨hl, h⟩ := h
    have f1 := AutoSeq1.idx_int
    wp_walk using wpAny_loadPart' hl
    repeat (first
      | (refine wpAny_ite_true (by rw [c0]; rfl) ?_; wp_walk using wpAny_loadPart' hl)
      | (refine wpAny_ite_true (by rfl) ?_; wp_walk using wpAny_loadPart' hl)
      | (refine wpAny_ite_false (decide_eq_false (by rw [c0]; exact Bool.false_ne_true)) ?_; wp_walk using wpAny_loadPart' hl))
    exact ⟨_, rfl, h⟩
/-- tuple * int, from none on -/
def rMulN (K : PySem.W.Frag) : L2.R2 := fun x y H Q => ∃ l k xs, x = .ref l ∧ y = .int k ∧ SqT K H l xs ∧ xs ≠ [] ∧ 0 ≤ k ∧ (xs.length : Int) * k ≤ 1000000 ∧ ∀ p H', Same H H' → SqT K H' p (List.replicate k.toNat xs).flatten → Q (.ref p) H'
/-- text * int, from two on -/
def rMulS : L2.R2 := fun x y H Q => ∃ u k, x = .str (S u) ∧ y = .int k ∧ 2 ≤ k ∧ u ≠ [] ∧ (u.length : Int) * k ≤ 1000000 ∧ Q (.str (S (List.replicate k.toNat u).flatten)) H
section
variable {X : Cx}
theorem op_mulN : OpR X (binaryOp .Mult) (rMulN X.K) := by
  intro pins s σ H x y v u Q I rx ry h
  obtain ⟨l, k, xs, rfl, rfl, hT, hne, h0, hz, q⟩ := h
  by_cases h2 : 2 ≤ k
  · exact op_mulT pins s σ H _ _ v u Q I rx ry ⟨l, k, xs, rfl, rfl, hT, hne, h2, hz, fun p np => q p _ (same_new np _) (SqT.of upd_same)⟩
  cases rx
  obtain ⟨t, rfl⟩ := ry
  obtain ⟨its, r, ⟨⟨cls, dd, data, sl⟩, ho, hc, n, hd⟩, hs⟩ := I.tuple hT
  simp only at hc hd
  subst hc hd
  have hle : its.length = xs.length := r.length.symm
  have hn : its ≠ [] := fun e => hne (by
    rw [e] at hle
    exact List.eq_nil_of_length_eq_zero hle.symm)
  have hi : its.toArray.isEmpty = false := by
    cases its with
    | nil => exact absurd rfl hn
    | cons a b => rfl
  have k01 : k = 0 ∨ k = 1 := by omega
  rcases k01 with rfl | rfl
  · refine wpAny_binaryOp_repeat_ref (T := "tuple") (U := "int") (by decide) ⟨_, ho, rfl⟩ (fun s' => typeIs_int s' 0 t) noFill_tuple_mul F.fills_int_mul F.slot_int_rmul repeat_tuple F.slot_int_index.lookup
      (call_meets F.slot_int_rmul (typeIs_int s 0 t) F.entry_int_rmul (F.args_int_rmul_2 _ _) (int_rmul_tuple 0 t l its.toArray n dd sl)
        ⟨ho, rfl, ⟨_, ho, rfl⟩, call_meets F.slot_tuple_mul ⟨_, ho, rfl⟩ F.entry_tuple_mul (F.args_tuple_mul_2 _ _) (tuple_mul0 l its.toArray n dd sl t hi) ⟨ho, ?_⟩⟩)
    have np := I.hok.fresh (Nat.le_refl s.heap.objs.size)
    refine ⟨.ref s.heap.objs.size, _, I.laid (t' := s.toks) (o := .tup []) (fun b ob q => Heap.get?_push_of_some _ q) (Nat.le_refl _) ?_, rfl, q _ _ (same_new np _) (SqT.of upd_same)⟩
    exact ⟨Nat.zero_le _, [], .nil, IsTup.new _ _⟩
  · refine wpAny_binaryOp_repeat_ref (T := "tuple") (U := "int") (by decide) ⟨_, ho, rfl⟩ (fun s' => typeIs_int s' 1 t) noFill_tuple_mul F.fills_int_mul F.slot_int_rmul repeat_tuple F.slot_int_index.lookup
      (call_meets F.slot_int_rmul (typeIs_int s 1 t) F.entry_int_rmul (F.args_int_rmul_2 _ _) (int_rmul_tuple 1 t l its.toArray n dd sl)
        ⟨ho, rfl, ⟨_, ho, rfl⟩, call_meets F.slot_tuple_mul ⟨_, ho, rfl⟩ F.entry_tuple_mul (F.args_tuple_mul_2 _ _) (tuple_mul1 l its.toArray n dd sl t hi) ⟨ho, ?_⟩⟩)
    have e : (List.replicate (1 : Int).toNat xs).flatten = xs := by
      show ([xs] : List (List V)).flatten = xs
      simp
    rw [e] at q
    exact ⟨.ref l, H, I, rfl, q l H (.refl _) hT⟩
theorem foldl_app {α : Type} (a : Array α) : ∀ (n : Nat) (b : Array α), ((List.replicate n a).foldl (· ++ ·) b).toList = b.toList ++ (List.replicate n a.toList).flatten
  | 0, b => by simp
  | n + 1, b => by
    rw [List.replicate_succ, List.foldl_cons, foldl_app a n, Array.toList_append, List.replicate_succ, List.flatten_cons, List.append_assoc]
theorem op_mulS : OpR X (binaryOp .Mult) rMulS := by
  intro pins s σ H x y v u Q I rx ry h
  obtain ⟨w, k, rfl, rfl, h2, cw, hz, q⟩ := h
  obtain ⟨t, rfl⟩ := rx
  obtain ⟨t', rfl⟩ := ry
  have sl : (S w).length = w.length := SX.S_len w
  have wl : 1 ≤ w.length := List.length_pos_iff.mpr cw
  have kz : k ≤ (w.length : Int) * k := by
    have := Int.mul_le_mul_of_nonneg_right (show (1 : Int) ≤ w.length by omega) (show 0 ≤ k by omega)
    omega
  have fit : w.length * k.toNat ≤ 1000000 := by
    have e : ((w.length * k.toNat : Nat) : Int) = (w.length : Int) * k := by
      rw [Int.natCast_mul, Int.toNat_of_nonneg (by omega)]
    omega
  have n1 : ¬ k < 1 := by omega
  have ne : (k == 1 || (S w).length == 0) = false := by
    rw [sl, Bool.or_eq_false_iff, beq_eq_false_iff_ne, beq_eq_false_iff_ne]
    constructor <;> omega
  refine P.mul_str ?_ (fun _ _ => ?_) (fun _ _ => ?_) ?_
  · rw [Bool.or_eq_false_iff, decide_eq_false_iff_not, decide_eq_false_iff_not]
    constructor <;> omega
  · rw [sl]
    have e : ((2 : Int) ^ 63 - 1) / k ≥ w.length := (Int.le_ediv_iff_mul_le (by omega)).mpr (by omega)
    omega
  · rw [sl]
    have e : sizeLine = 16777216 := by decide
    exact decide_eq_false (by omega)
  · rw [if_neg n1, ne]
    have ex : (⟨(List.replicate k.toNat (S w).cps).foldl (· ++ ·) #[]⟩ : Str) = S (List.replicate k.toNat w).flatten := by
      have z := foldl_app (S w).cps k.toNat #[]
      have c : (S w).cps.toList = w := rfl
      rw [c, List.nil_append] at z
      exact congrArg Str.mk (Array.toList_inj.mp z)
    show Made.post (.str _) _ _
    rw [ex]
    refine ⟨?_, ?_⟩
    · rw [SX.S_len]
      have e : sizeLine = 16777216 := by decide
      rw [List.length_flatten, List.map_replicate, List.sum_replicate_nat, Nat.mul_comm]
      omega
    · exact ⟨.str _, H, I.tok _, ⟨_, rfl⟩, q⟩
end
/-! ### repr, deeper -/
section
variable {X : Cx}
def rReprW (K : PySem.W.Frag) : List V → Hp → VK → Prop := fun xs H Q => ∃ v d, xs = [v] ∧ Dp K H v d ∧ d.showable = true ∧ d.hasDict = false ∧ d.depth ≤ 190 ∧ d.shown.length ≤ sizeLine ∧ Q (.str d.shown) H
theorem call_reprW {j : Nat} (hr : Room j X.A) (hG : X.A.guards = some []) : CallR X (.builtin "repr") (rReprW X.K) := by
  intro pins s σ H xs us Q I r h
  obtain ⟨v, d, rfl, hd, h1, h2, h3, h4, q⟩ := h
  obtain ⟨u, rfl, ru⟩ := vals1 r
  have hu := hr.un
  obtain ⟨as, rd⟩ := Dp.reads I d v u hd ru
  have fin : ∀ t, EP X pins σ Q (.str d.shown t) { s with toks := s.toks + 1 } := fun t => ⟨.str d.shown, H, I.tok _, ⟨_, rfl⟩, q⟩
  cases rd with
  | none => exact PySem.P.repr_of_none (fin _)
  | bool b => cases b <;> exact PySem.P.repr_of_bool (fin _)
  | int i t => exact PySem.P.repr_of_int (by simpa [PyData.showable] using h1) (fin _)
  | str x t => exact PySem.P.repr_of_str (fin _) h4
  | list a b c e => exact repr_of_reads' (.list a b c e) h1 (fun z => by rw [h2] at z; cases z) hG (by omega) (fun _ _ e => e) (fun h' u tk k => ⟨.str _, H, I.kept (t' := tk) k, ⟨_, rfl⟩, q⟩) h4
  | tuple a b c e => exact repr_of_reads' (.tuple a b c e) h1 (fun z => by rw [h2] at z; cases z) hG (by omega) (fun _ _ e => e) (fun h' u tk k => ⟨.str _, H, I.kept (t' := tk) k, ⟨_, rfl⟩, q⟩) h4
  | dict a b c e f => cases h2
end
theorem repr_datW {K : PySem.W.Frag} {C : Addr} {H : Hp} {v : V} {t : Th} (h : Is C H v t) (w : t.worth false = true) (hn : t.nodes ≤ 30000) (hd : t.depth ≤ 190) : Dp K H v t.dat ∧ t.dat.showable = true ∧ t.dat.hasDict = false ∧ t.dat.depth ≤ 190 ∧ t.dat.shown.length ≤ sizeLine := by
  obtain ⟨h1, h2, h3, h4, h5⟩ := dat_ok t (showy_of t w)
  have e : (2 : Nat) ^ 20 = 1048576 := by decide
  exact ⟨dat_dp h (showy_of t w), h2, h3, by omega, PyData.shown_fits (by decide) (Nat.le_refl _) h1 (by omega)⟩
end Fl
namespace Fl
open PySem PySem.Spec PyProof.Rows L2
open SX (S)
abbrev s_law : Stmt := top 45
theorem sc_law : FnScope ["_law_script", "_law_state", "_law_turn", "_law_number", "_law_bent_here", "_law_due", "_law_left", "_law_found", "_law_caught", "_law_odd", "_law_good"] ["_law_script"] (defScope s_law) := ⟨rfl, rfl, rfl, by decide +kernel, rfl, by decide +kernel, by decide +kernel⟩
structure T5 (K : PySem.W.Frag) (mg : Str → Option Value) : Prop where
  z_range : mg "range" = none
  z_min : mg "min" = none
  z_len : mg "len" = none
  z_int : mg "int" = none
  z_repr : mg "repr" = none
theorem sum_mem {w : List Nat} : ∀ {ws : List (List Nat)}, w ∈ ws → w.length ≤ sumL ws
  | x :: r, h => by
    have e : sumL (x :: r) = x.length + sumL r := by unfold sumL; rw [List.map_cons, List.sum_cons]
    rw [e]
    rcases List.mem_cons.mp h with rfl | h
    · omega
    · have := sum_mem h
      omega
def spLaw (K : PySem.W.Frag) : Sp := sp1 fun v H Q _ => ∃ (a : Addr) (ns : List Int), v = .ref a ∧ Scr K H a (ns.map V.int) ∧ ns.length ≤ 63 ∧ ∀ H', Q (.bl true) H'
section
variable {P : Program} {w : World} {K : PySem.W.Frag} {mg : Str → Option Value} {base : Heap}
theorem ok_law (F : FnP K mg "law" s_law) (T : T5 K mg)
    (B_law_begun : Cl P w K mg base 1 "_law_begun" ["_law_script"] (spBegun K)) (B_law_next : Cl P w K mg base 2 "_law_next" ["_law_state"] (spNext K))
    (B_law_worth : Cl P w K mg base 8 "_law_worth" ["_law_state", "_law_deep", "_law_is_plain_one"] (spWorthT K 4))
    (B_worth_text : Cl P w K mg base 5 "worth_text" ["worth"] (spText K)) (B_law_words : ClT P w K mg base 1 "_law_words" ["_law_written"] (spLWords K)) (B_law_bent : ClT P w K mg base 2 "_law_bent" ["_law_written", "_law_number"] (spBent K))
    (B_law_one : Cl P w K mg base 26 "_law_one" ["_law_words_here"] (spOne K 24)) (B_law_told : Cl P w K mg base 5 "_law_told" ["_law_written"] (spTold5 K))
    (B_law_is_refused : Cl P w K mg base 1 "_law_is_refused" ["_law_error"] (spRefused K (NT K))) : Cg P w K mg base 27 "law" ["_law_script"] (spLaw K) := by
  refine cg_mk F sc_law (fun _ _ _ _ _ _ us hl => match us, hl with | [_], _ => rfl) (fun vs H Q E h => by obtain ⟨a, rfl, _⟩ := h; rfl) fun cdv A outer s H vs Q E hr hg h => ?_
  obtain ⟨_, rfl, a, ns, rfl, hS, hn, q⟩ := h
  refine ⟨_, PSs.nox (pss_cons (ps_set (i := 1) sc_law.nd rfl (Or.inl rfl) (pe_b B_law_begun hr (by omega) rfl passL (pa_cons (pv 0) pa_nil))) (pss_cons (ps_for PassesOwn.never rfl (pi_range1 rfl T.z_range (pa_cons (pe_op op_add pe_int (pe_callB (call_min2 rfl) rfl T.z_min PyProof.Rows.boot_min (pa_cons pe_int (pa_cons (pe_callB call_len_seq rfl T.z_len PySem.boot_len (pa_cons (pv 0) pa_nil)) pa_nil)))) pa_nil)) (pg_name (i := 2) sc_law.nd rfl (Or.inl rfl)) (pss_cons (ps_set (i := 3) sc_law.nd rfl (Or.inl rfl) (pe_b B_law_next hr (by omega) rfl passL (pa_cons (pv 1) pa_nil))) (pss_p (psp_set (i := 4) sc_law.nd rfl (Or.inl rfl) (pep_bT B_law_bent hr (by omega) rfl passL (pap_here (pep_b B_worth_text hr (by omega) rfl passL (pap_here (pep_b B_law_worth hr (by omega) rfl passL (pap_cons (pv 1) (pap_int (pa_cons pe_bl pa_nil)))) pa_nil)) (pa_cons (pv 3) pa_nil)))) (psst_cons (pst_asg (pet_b B_law_one hr (by omega) rfl passL (pat_cons (pet_bT B_law_words hr (by omega) rfl passL (PAT.of (pa_cons (pv 4) pa_nil))) pat_nil)) (pg_tup rfl (pgs_cons (pg_name (i := 5) sc_law.nd rfl (Or.inl rfl)) (pgs_cons (pg_name (i := 6) sc_law.nd rfl (Or.inl rfl)) pgs_nil)))) (PSsT.of (pss_cons (ps_if (pt_cmpR (op_neNil hr.units0) (pv 6) (pe_lst pa_nil) (nomark _)) (pss_one (ps_set (i := 5) sc_law.nd rfl (Or.inl rfl) (pe_lst pa_nil))) pss_nil) (pss_cons (ps_asg (pe_b B_law_told hr (by omega) rfl passL (pa_cons (pv 4) pa_nil)) (pg_tup rfl (pgs_cons (pg_name (i := 7) sc_law.nd rfl (Or.inl rfl)) (pgs_cons (pg_name (i := 8) sc_law.nd rfl (Or.inl rfl)) pgs_nil)))) (pss_cons (ps_if (PW.pt (pw_and (pt_cmpR (op_eqNil hr.units0) (pv 5) (pe_lst pa_nil) (nomark _)) (pw_and1 (pt_not (pt_val (pe_b B_law_is_refused hr (by omega) rfl passL (pa_cons (pv 8) pa_nil))))))) (pss_one (ps_ret pe_bl)) pss_nil) (pss_cons (ps_if (PW.pt (pw_and (pt_cmpR (op_neNil hr.units0) (pv 5) (pe_lst pa_nil) (nomark _)) (pw_and1 (PW.pt (pw_or (pt_cmpR op_notN (pv 8) pe_non (nomark _)) (pw_or1 (pt_cmpR op_ne (pe_callB (call_reprW hr hg) rfl T.z_repr PyProof.Rows.boot_repr (pa_cons (pv 7) pa_nil)) (pe_callB (call_reprW hr hg) rfl T.z_repr PyProof.Rows.boot_repr (pa_cons (pv 5) pa_nil)) (nomark _)))))))) (pss_one (ps_ret pe_bl)) pss_nil) (pss_cons (ps_set (i := 9) sc_law.nd rfl (Or.inl rfl) (pe_lst (pa_cons pe_non (pa_cons pe_int (pa_cons (pe_lst (pa_cons pe_str pa_nil)) (pa_cons (pe_tup (pa_cons pe_str pa_nil)) (pa_cons pe_bl (pa_cons pe_dnewK (pa_cons pe_str (pa_cons (pe_op op_mulS pe_str pe_int) (pa_cons (pe_op op_add_str (pe_op op_mulS pe_str pe_int) (pe_op op_mulS pe_str pe_int)) (pa_cons (pe_op op_mulS pe_str pe_int) (pa_cons (pe_op op_mulS pe_str pe_int) pa_nil))))))))))))) (pss_cons (ps_set (i := 9) sc_law.nd rfl (Or.inl rfl) (pe_op op_cat (pv 9) (pe_lst (pa_cons pe_str (pa_cons pe_str (pa_cons pe_str (pa_cons pe_str (pa_cons (pe_op op_add_str pe_str (pe_op op_mulS pe_str pe_int)) pa_nil)))))))) (pss_cons (ps_if (pt_not (pt_val (pe_b B_law_is_refused hr (by omega) rfl passL (pa_cons (pe_ix ix_seq (pe_b B_law_told hr (by omega) rfl passL (pa_cons (pe_ix ix_list (pv 9) (pe_op op_mod (pe_op op_fdiv (pv 3) pe_int) (pe_ix ix_list (pe_lst (pa_cons pe_int (pa_cons pe_int pa_nil))) (pe_callTy call_int1 rfl T.z_int PyProof.Rows.boot_int (pa_cons (pe_cmpR op_lt (pv 2) pe_int (nomark _)) pa_nil)) (fun _ _ => rfl))) (fun _ _ => rfl)) pa_nil)) pe_int (fun _ _ => rfl)) pa_nil)))) (pss_one (ps_ret pe_bl)) pss_nil) (pss_cons (ps_set (i := 10) sc_law.nd rfl (Or.inl rfl) (pe_lst (pa_cons (pe_op op_add_str (pe_op op_mulS pe_str pe_int) (pe_op op_mulS pe_str pe_int)) (pa_cons (pe_op op_add_str pe_str (pe_op op_mulS pe_str pe_int)) pa_nil)))) (pss_one (ps_if (PW.pt (pw_and (pt_cmpR op_lt (pv 2) pe_int (nomark _)) (pw_and1 (pt_cmpR op_notN (pe_ix ix_seq (pe_b B_law_told hr (by omega) rfl passL (pa_cons (pe_ix ix_list (pv 10) (pv 2) (fun _ _ => rfl)) pa_nil)) pe_int (fun _ _ => rfl)) pe_non (nomark _))))) (pss_one (ps_ret pe_bl)) pss_nil))))))))))))))) (pss_one (ps_ret pe_bl)))), ?_⟩
  refine ⟨_, rfl, _, rfl, a, ns, rfl, hS, hn, fun d l H1 h1 s1' nd nl => ?_⟩
  have hS1 := hS.same s1'
  refine ⟨_, rfl, a, _, rfl, .inl hS1.sq, _, _, rfl, _, _, rfl, rfl, _, rfl, ?_, ?_, ?_⟩
  · show -(2 ^ 62) ≤ 1 + (if (((ns.map V.int).length : Nat) : Int) < 39 then (((ns.map V.int).length : Nat) : Int) else 39)
    split <;> omega
  · show 1 + (if (((ns.map V.int).length : Nat) : Int) < 39 then (((ns.map V.int).length : Nat) : Int) else 39) < 2 ^ 62
    split <;> omega
  refine for_it walk_range (fun i σ H' => ∃ o2 o3 o4 o5 o6 o7 o8 o9 o10, σ = [some (.ref a), some (.ref d), o2, o3, o4, o5, o6, o7, o8, o9, o10] ∧ Dr K d l a ns H') ⟨none, none, none, none, none, none, none, none, none, rfl, h1⟩ (fun _ _ _ _ _ => trivial) ?_ ?_
  · rintro i y σ H2 H3 hi ⟨o2, o3, o4, o5, o6, o7, o8, o9, o10, rfl, r1⟩ ⟨rfl, rfl⟩
    refine ⟨_, rfl, _, rfl, d, l, a, ns, rfl, r1, hn, fun n H4 r4 f4 n0 n1 => ?_⟩
    refine stepG ?_
    dsimp only
    refine ⟨_, rfl, _, _, _, rfl, d, l, a, ns, 4, rfl, rfl, rfl, r4, hn, by decide, by decide, by decide, fun u t H5 r5 f5 i5 pt nd5 dp5 tb5 _ rb5 => ?_⟩
    have n5 : t.nodes ≤ 625 := nd5
    have tb : t.tmax ≤ 830 := tb5
    have rb : t.rws ≤ 21 := rb5
    have tx := textP_max t pt
    refine ⟨_, rfl, t, i5, by omega, fun _ H6 s6 => ?_, fun z => by rw [pt] at z; cases z⟩
    have tk1 := (tok_text t pt).1
    have tkn : tok [] (textP t) ≠ [] := by
      rw [tk1]
      cases t with
      | tup l => rw [toksP]; exact List.cons_ne_nil _ _
      | bl b => rw [toksP]; exact List.cons_ne_nil _ _
      | int i => rw [toksP]; exact List.cons_ne_nil _ _
      | str x => rw [toksP]; exact List.cons_ne_nil _ _
      | non => cases pt
      | fn l => cases pt
      | oth => cases pt
    have c0 := text_c40 t pt
    refine ⟨_, rfl, _, _, rfl, textP t, n, rfl, rfl, n0, by omega, tkn, fun cs H7 s7 l7 c7 => ?_⟩
    refine stepG ?_
    dsimp only
    have r7 := r5.same (s6.trans s7)
    refine ⟨_, rfl, _, rfl, cs, rfl, by omega, fun pw H8 s8 hpw => ?_⟩
    obtain ⟨q1, q2, q3⟩ := tok_sums cs []
    have wl := len_sum _ q3
    have ct := cnt_tok cs
    have wlen : ∀ w ∈ tok [] cs, w ≠ [] ∧ w.length ≤ 20000 := fun w m => ⟨q3 w m, by
      have z : w.length ≤ sumL (tok [] cs) := by
        exact sum_mem m
      rw [List.length_nil] at q1
      omega⟩
    rw [List.length_nil] at q1
    refine ⟨_, rfl, pw, tok [] cs, rfl, hpw, wlen, by omega, by omega, fun Tt a1 b1' o rest H9 s9 one hT la hb _ => ?_⟩
    have rdo := read_one one (by omega) (by omega)
    refine ⟨Tt, _, rfl, SqT.of hT, rfl, gc2o ?_⟩
    dsimp only
    have r9 := r7.same (s8.trans s9)
    refine join_seq (fun k => ∀ p5 H', Same H9 H' → LRes K H' p5 (readP cs) → k [some (.ref a), some (.ref d), some (.int (0 + (i : Int))), some (.int n), some (.str (S cs)), some (.ref p5), some (.ref b1'), o7, o8, o9, o10] H') (fun p5 H10 s10 l5 => ?_) (fun D hk => ?_)
    case refine_2 =>
      refine ⟨_, rfl, (by show 0 ≤ sizeLine; decide), fun p0 np0 => ⟨b1', p0, _, rfl, rfl, SqL.of ((same_new np0 _) _ _ hb), SqL.of upd_same, _, rfl, ?_⟩⟩
      have s10 := same_new np0 (.lst [])
      cases rest with
      | nil =>
        refine iteF (stepN (hk a1 _ s10 ?_))
        rw [rdo, if_pos rfl]
        exact lres_same la s10
      | cons w0 r0 =>
        refine iteT ⟨(by show 0 ≤ sizeLine; decide), fun p5 np5 => hk p5 _ (s10.trans (same_new np5 _)) ?_⟩
        rw [rdo, if_neg (List.cons_ne_nil _ _)]
        exact upd_same
    dsimp only
    have r10 := r9.same s10
    refine ⟨_, rfl, _, rfl, readP cs, .inl ⟨cs, rfl, by omega, rfl⟩, fun Tu a2 b2' H11 s11 hU la2 kb2 => ?_⟩
    refine ⟨Tu, _, rfl, SqT.of hU, rfl, gc2o ?_⟩
    dsimp only
    have l5' := lres_same l5 s11
    have r11 := r10.same s11
    refine join_t (T := tAnd _ _ _ _) (fun k => ∀ H', Same H11 H' → k false H') (fun H12 s12 => iteF (stepN ?_)) (fun k hk => ?_)
    case refine_2 =>
      refine ⟨_, rfl, (by show 0 ≤ sizeLine; decide), fun p0 np0 => ?_⟩
      have s12 := same_new np0 (.lst [])
      cases ro : readP cs with
      | none =>
        rw [ro] at l5' kb2
        have l5'' : H11 p5 = some (.lst []) := l5'
        refine ⟨p5, p0, _, rfl, rfl, SqL.of (s12 _ _ l5''), SqL.of upd_same, _, rfl, iteT ?_⟩
        have kb3 : Kept (NT K) (upd H11 p0 (.lst [])) b2' true := by
          rcases kb2 with ⟨_, z⟩ | ⟨e, z1, z2, z3⟩
          · cases z
          · exact .inr ⟨e, z1, s12 _ _ z2, rfl⟩
        exact ⟨_, rfl, _, rfl, true, kb3, fun H13 s13 => ⟨_, rfl, hk _ (s12.trans s13)⟩⟩
      | some t' =>
        rw [ro] at l5'
        obtain ⟨x, z1, z2⟩ := l5'
        exact ⟨p5, p0, _, rfl, rfl, SqL.of (s12 _ _ z1), SqL.of upd_same, _, rfl, iteF (hk _ s12)⟩
    dsimp only
    have l6 := lres_same l5' s12
    have l7 := lres_same la2 s12
    have r12 := r11.same s12
    have ne2 : ∀ t', readP cs = some t' → b2' = .non := fun t' e => by
      rcases kb2 with ⟨z, _⟩ | ⟨_, _, _, z⟩
      · exact z
      · rw [e] at z; cases z
    clear l5 l5' la2
    refine join_t (T := tAnd _ _ _ _) (fun k => ∀ H', Same H12 H' → k false H') (fun H13 s13 => iteF (stepN ?_)) (fun k hk => ?_)
    case refine_2 =>
      refine ⟨_, rfl, (by show 0 ≤ sizeLine; decide), fun p0 np0 => ?_⟩
      have s13 := same_new np0 (.lst [])
      cases ro : readP cs with
      | none =>
        rw [ro] at l6
        have l6' : H12 p5 = some (.lst []) := l6
        exact ⟨p5, p0, _, rfl, rfl, SqL.of (s13 _ _ l6'), SqL.of upd_same, _, rfl, iteF (hk _ s13)⟩
      | some t' =>
        rw [ro] at l6 l7
        obtain ⟨x, z1, z2⟩ := l6
        obtain ⟨x2, y1, y2⟩ := l7
        have eb := ne2 t' ro
        subst eb
        refine ⟨p5, p0, _, rfl, rfl, SqL.of (s13 _ _ z1), SqL.of upd_same, _, rfl, iteT ?_⟩
        obtain ⟨gw, gd, gn⟩ := one_good one t' (by rw [rdo] at ro; split at ro; exact ro; cases ro)
        have tl := tok_len cs []
        rw [List.length_nil] at tl
        obtain ⟨g1, g2, g3, g4, g5⟩ := repr_one (K := K) (s13 _ _ y1) (y2.same s13) gw (by omega) (by omega)
        obtain ⟨f1, f2, f3, f4, f5⟩ := repr_one (K := K) (s13 _ _ z1) (z2.same s13) gw (by omega) (by omega)
        refine ⟨_, rfl, rfl, _, rfl, ?_⟩
        rw [decide_eq_true (rfl : V.non = V.non)]
        refine iteF ⟨_, rfl, _, _, rfl, g1, g2, g3, g4, g5, _, rfl, _, _, rfl, f1, f2, f3, f4, f5, rfl, _, rfl, ?_⟩
        rw [decide_eq_true rfl]
        exact hk _ s13
    dsimp only
    have r13 := r12.same s13
    clear hT hU la kb2 l6 l7 ne2 one hpw q3 wlen tk1 tkn c0
    refine ⟨Fl.s1, fun b1 m1 => ⟨Fl.s1, fun b2 m2 b3 m3 => ?_⟩⟩
    refine ⟨[40, 41], _, rfl, rfl, by decide, by decide, by decide, ?_⟩
    refine ⟨[40], _, rfl, rfl, by decide, by decide, by decide, [41], _, rfl, rfl, by decide, by decide, by decide, _, _, rfl, rfl, ?_, ?_⟩
    · show (S (List.replicate 101 [40]).flatten).length + (S (List.replicate 101 [41]).flatten).length ≤ _
      rw [rep_len, rep_len, sizeLine_eq]
      decide
    refine ⟨[40], _, rfl, rfl, by decide, by decide, by decide, [57], _, rfl, rfl, by decide, by decide, by decide, ?_⟩
    refine ⟨(by show 11 ≤ sizeLine; decide), fun b4 m4 => ?_⟩
    refine stepG ?_
    dsimp only
    refine ⟨_, rfl, ?_⟩
    refine ⟨[32], _, rfl, rfl, by decide, by decide, by decide, S [120], _, rfl, rfl, ?_, ?_⟩
    · show (S [120]).length + (S (List.replicate 20000 [32]).flatten).length ≤ _
      rw [rep_len, SX.S_len, sizeLine_eq]
      decide
    refine ⟨(by show 5 ≤ sizeLine; decide), fun b5 m5 => ?_⟩
    have v1 := same_new m1 (.lst [.str "x"])
    have v2 := same_new m2 (.tup [.str "x"])
    have v3 := same_new m3 (.dK [])
    have v4 := same_new m4 (.lst (odd5 b1 b2 b3))
    have v5 := same_new m5 (.lst odd5b)
    refine ⟨b4, b5, odd5 b1 b2 b3, odd5b, rfl, rfl, v5 _ _ upd_same, upd_same, (by show 16 ≤ sizeLine; decide), fun b6 m6 => ?_⟩
    refine stepG ?_
    dsimp only
    have v6 := same_new m6 (.lst (odd5 b1 b2 b3 ++ odd5b))
    have all16 : ∀ v ∈ odd5 b1 b2 b3 ++ odd5b, Rd5 K (upd (upd (upd (upd (upd (upd H13 b1 (.lst [.str "x"])) b2 (.tup [.str "x"])) b3 (.dK [])) b4 (.lst (odd5 b1 b2 b3))) b5 (.lst odd5b)) b6 (.lst (odd5 b1 b2 b3 ++ odd5b))) v none := odd_all (K := K) ((v2.trans (v3.trans (v4.trans (v5.trans v6)))) _ _ upd_same) ((v3.trans (v4.trans (v5.trans v6))) _ _ upd_same) ((v4.trans (v5.trans v6)) _ _ upd_same)
    have e6 : (upd (upd (upd (upd (upd (upd H13 b1 (.lst [.str "x"])) b2 (.tup [.str "x"])) b3 (.dK [])) b4 (.lst (odd5 b1 b2 b3))) b5 (.lst odd5b)) b6 (.lst (odd5 b1 b2 b3 ++ odd5b))) b6 = some (.lst (odd5 b1 b2 b3 ++ odd5b)) := upd_same
    have w6 : Same H13 (upd (upd (upd (upd (upd (upd H13 b1 (.lst [.str "x"])) b2 (.tup [.str "x"])) b3 (.dK [])) b4 (.lst (odd5 b1 b2 b3))) b5 (.lst odd5b)) b6 (.lst (odd5 b1 b2 b3 ++ odd5b))) := v1.trans (v2.trans (v3.trans (v4.trans (v5.trans v6))))
    change tSeq _ _ _ _ (upd (upd (upd (upd (upd (upd H13 b1 (.lst [.str "x"])) b2 (.tup [.str "x"])) b3 (.dK [])) b4 (.lst (odd5 b1 b2 b3))) b5 (.lst odd5b)) b6 (.lst (odd5 b1 b2 b3 ++ odd5b)))
    generalize upd (upd (upd (upd (upd (upd H13 b1 (.lst [.str "x"])) b2 (.tup [.str "x"])) b3 (.dK [])) b4 (.lst (odd5 b1 b2 b3))) b5 (.lst odd5b)) b6 (.lst (odd5 b1 b2 b3 ++ odd5b)) = H14 at all16 e6 w6 ⊢
    clear m1 m2 m3 m4 m5 m6 v1 v2 v3 v4 v5 v6
    have r14 := r13.same w6
    have l16 : (odd5 b1 b2 b3 ++ odd5b).length = 16 := rfl
    generalize odd5 b1 b2 b3 ++ odd5b = os at all16 e6 l16 ⊢
    refine ⟨_, rfl, _, rfl, _, _, rfl, rfl, ⟨by decide, by decide⟩, ?_⟩
    refine ⟨s2, fun b7 m7 => ?_⟩
    have v7 := same_new m7 (.lst [.int 15, .int 16])
    obtain ⟨m, hm0, hm⟩ : ∃ m : Int, (0 < m ∧ m ≤ 16) ∧ atI [V.int 15, V.int 16] (if decide ((0 : Int) + i < 3) = true then (1 : Int) else 0) = some (.int m) := by
      by_cases c : (0 : Int) + i < 3
      · exact ⟨16, by decide, by rw [decide_eq_true c]; rfl⟩
      · exact ⟨15, by decide, by rw [decide_eq_false c]; rfl⟩
    refine ⟨_, rfl, _, _, rfl, rfl, .inr ⟨_, rfl, b7, _, _, _, rfl, rfl, SqL.of upd_same, hm, _, _, rfl, rfl, hm0.1, ?_⟩⟩
    have q0 := Int.emod_nonneg (n / 3) (show m ≠ 0 by omega)
    have q4 := Int.emod_lt_of_pos (n / 3) hm0.1
    obtain ⟨j, ej⟩ : ∃ j : Nat, n / 3 % m = (j : Int) := ⟨(n / 3 % m).toNat, by omega⟩
    have hj : j < os.length := by rw [l16]; omega
    have rv := all16 os[j] (List.getElem_mem hj)
    refine ⟨b6, os, _, _, rfl, rfl, SqL.of (v7 _ _ e6), (by rw [ej]; exact atI_nat (List.getElem?_eq_getElem hj)), ?_⟩
    have rv7 : Rd5 K (upd H14 b7 (.lst [.int 15, .int 16])) os[j] none := rv.elim .inl fun ⟨t, a, b, c⟩ => .inr ⟨t, a.same v7, b, c⟩
    generalize os[j] = xv at rv rv7 ⊢
    refine ⟨_, rfl, none, rv7, fun T3 a3 b8 H15 s15 hT3 _ kb3 => ?_⟩
    refine .inr (.inl ⟨T3, _, _, _, rfl, rfl, SqT.of hT3, rfl, ?_⟩)
    refine ⟨_, rfl, true, kb3, fun H16 s16 => ⟨_, rfl, iteF (stepN ?_)⟩⟩
    have r16 := r14.same (v7.trans (s15.trans s16))
    -- good ones
    refine ⟨[40], _, rfl, rfl, by decide, by decide, by decide, [41], _, rfl, rfl, by decide, by decide, by decide, _, _, rfl, rfl, ?_, ?_⟩
    · show (S (List.replicate 100 [40]).flatten).length + (S (List.replicate 100 [41]).flatten).length ≤ _
      rw [rep_len, rep_len, sizeLine_eq]
      decide
    refine ⟨[32], _, rfl, rfl, by decide, by decide, by decide, S [120], _, rfl, rfl, ?_, ?_⟩
    · show (S [120]).length + (S (List.replicate 19999 [32]).flatten).length ≤ _
      rw [rep_len, SX.S_len, sizeLine_eq]
      decide
    refine ⟨s2, fun b9 m9 => ?_⟩
    refine stepG ?_
    dsimp only
    have v9 := same_new m9 (.lst good5)
    have e9 : (upd H16 b9 (.lst good5)) b9 = some (.lst good5) := upd_same
    change tIfS _ _ _ _ _ (upd H16 b9 (.lst good5))
    generalize upd H16 b9 (.lst good5) = H17 at v9 e9 ⊢
    have r17 := r16.same v9
    refine ⟨_, rfl, _, _, rfl, rfl, _, rfl, ?_⟩
    have fin : ∀ H', Same H17 H' → ∃ o2 o3 o4 o5 o6 o7 o8 o9 o10', ([some (V.ref a), some (V.ref d), some (V.int (0 + (i : Int))), some (V.int n), some (V.str (S cs)), some (V.ref p5), some (V.ref b1'), some (.ref a2), some b2', some (V.ref b6), some (V.ref b9)] : L2.St) = [some (.ref a), some (.ref d), o2, o3, o4, o5, o6, o7, o8, o9, o10'] ∧ Dr K d l a ns H' := fun H' s' => ⟨_, _, _, _, _, _, _, _, _, rfl, r17.same s'⟩
    refine ite2 (fun c => ?_) (fun c => iteF (stepN ?_))
    · have ci : i < 2 := by
        have z := of_decide_eq_true c
        omega
      have gl : good5.length = 2 := rfl
      have hi9 : i < good5.length := by rw [gl]; exact ci
      obtain ⟨t9, rg⟩ := good_all (K := K) (H := H17) good5[i] (List.getElem_mem hi9)
      have at9 : atI good5 (0 + (i : Int)) = some good5[i] := by
        rw [Int.zero_add]
        exact atI_nat (List.getElem?_eq_getElem hi9)
      refine ⟨_, rfl, _, rfl, b9, good5, _, _, rfl, rfl, SqL.of e9, at9, ?_⟩
      refine ⟨_, rfl, some t9, rg, fun T5 a5 b10 H18 s18 hT5 _ kb5 => ?_⟩
      refine .inr (.inl ⟨T5, _, _, _, rfl, rfl, SqT.of hT5, rfl, ?_⟩)
      rcases kb5 with ⟨rfl, _⟩ | ⟨_, _, _, z⟩
      · refine ⟨rfl, _, rfl, ?_⟩
        rw [decide_eq_true (rfl : V.non = V.non)]
        exact iteF (stepN (fin _ s18))
      · cases z
    · exact fin _ (.refl _)
  · rintro σ H2 ⟨o2, o3, o4, o5, o6, o7, o8, o9, o10, rfl, r1⟩
    exact q _
end
end Fl
/-! a thing beside itself -/
namespace Fl
open PySem PySem.Spec PyProof.Rows L2
/-- instances of the class at C are equal just where they are one -/
def cmpIn (K : PySem.W.Frag) (C : Addr) : Bool := match K.lookup C with
  | some ⟨.type "type", _, .cls cd, sl⟩ => (match cd.mro, sl.toList with
    | [.ref C', .type "object"], [_, _, _, _, some (.builtin _), _] => C' == C && (!cd.hasDel && (PySem.W.nsOkIn K cd.ns && (decide (PySem.W.nsIn K cd.ns "__eq__" = some none) && decide (PySem.W.nsIn K cd.ns "__ne__" = some none))))
    | _, _ => false)
  | _ => false
theorem cmp_of {K : PySem.W.Frag} {h : Heap} {C x dx : Addr} (X : K.In h) (q : cmpIn K C = true) (hx : h.get? x = some (PySem.W.instObj C dx)) : h.CmpInst x C [.type "object"] := by
  unfold cmpIn at q
  split at q
  · rename_i dd cd sl ho
    split at q
    · rename_i C' k0 k1 k2 k3 n k5 hm hs
      simp only [Bool.and_eq_true, beq_iff_eq, Bool.not_eq_true', decide_eq_true_eq] at q
      obtain ⟨e1, e2, e3, e4, e5⟩ := q
      subst e1
      obtain ⟨nm, bs, mro, ns, qn, hd, sn, sub, ab, col, del⟩ := cd
      dsimp only at hm e2 e3 e4 e5
      subst hm e2
      obtain ⟨sll⟩ := sl
      dsimp only at hs
      subst hs
      exact ⟨_, nm, qn, ns, bs, hd, sn, sub, ab, col, dd, k0, k1, k2, k3, k5, n, _, hx, rfl, X _ _ ho, .of_isNs (PySem.W.isNs_of_in X e3), PySem.W.nsMap_none_of_in X e3 e4, PySem.W.nsMap_none_of_in X e3 e5⟩
    · cases q
  · cases q
theorem eqAt_self (A : Around) (s : Shared) (v : Value) : SeqAt.EqAt A s v v true := fun prog w E Q hq => by
  unfold eqBool
  refine wpAny_holding ?_
  rw [if_pos (beq_self_eq_true v)]
  exact wpAny_bind (wpAny_rule (wpAny_pure hq))
section
variable {X : Cx}
/-- x != x -/
def rNeSelf (K : PySem.W.Frag) (C : Addr) : R2 := fun x y H Q => x = y ∧ (∃ t, Is C H x t ∧ t.worth true = true) ∧ Q (.bl false) H
theorem op_neSelf {C : Addr} (q : cmpIn X.K C = true) (hu : X.A.units + 1 < cLine) : OpR X (compareOp .NotEq) (rNeSelf X.K C) := by
  intro pins s σ H x y v u Q I rx ry h
  obtain ⟨rfl, ⟨t, hi, hw⟩, k⟩ := h
  have fin : EP X pins σ Q (.bool false) s := ⟨.bl false, H, I, rfl, k⟩
  cases hi with
  | non => simp [Th.worth] at hw
  | bl b =>
    cases rx
    cases ry
    exact SeqAt.RcNeAt.bool_bool b b X.prog X.w X.xe _ (by rw [beq_self_eq_true]; exact fin)
  | int i =>
    obtain ⟨t1, rfl⟩ := rx
    obtain ⟨t2, rfl⟩ := ry
    exact SeqAt.RcNeAt.int_int i t1 i t2 X.prog X.w X.xe _ (by rw [beq_self_eq_true]; exact fin)
  | str z _ =>
    obtain ⟨t1, rfl⟩ := rx
    obtain ⟨t2, rfl⟩ := ry
    exact SeqAt.RcNeAt.str_str z t1 z t2 X.prog X.w X.xe _ (by rw [beq_self_eq_true]; exact fin)
  | tup e _ =>
    cases rx
    cases ry
    obtain ⟨its, r, p1, _⟩ := I.tuple (SqT.of (K := X.K) e)
    refine SeqAt.RcNeAt.tuples (e := fun _ => true) p1 p1 (Nat.lt_of_succ_lt hu) (fun j _ _ => eqAt_self _ _ _) X.prog X.w X.xe _ ?_
    have e2 : (!((List.range (min its.toArray.size its.toArray.size)).all (fun _ => true) && its.toArray.size == its.toArray.size)) = false := by simp
    rw [e2]
    exact fin
  | fn e =>
    cases rx
    cases ry
    obtain ⟨_, _, _, e2, _⟩ := I.hok _ _ e
    obtain ⟨hp, g, d, tk, os⟩ := s
    exact richCompare_ne_same F.cmp_object (cmp_of I.kIn q e2) hu fin
  | lst _ => simp [Th.worth] at hw
  | dct _ => simp [Th.worth] at hw
end
end Fl
/-! the head's Hook with further checks of the written part -/
namespace Fl
open PySem PySem.Spec PyProof.Rows L2
abbrev Ck : Type := PySem.W.Frag → Bool
abbrev AlK : Type := Bool × He.AlD
def obsK (ck : List Ck) (fa : List He.Fa) (fn : List He.DefD) (K : PySem.W.Frag) : AlK := (ck.all fun f => f K, He.obsD fa fn K)
def valK (fn : List He.DefD) : AlK := (true, He.valD fn)
def SaysK (ck : List Ck) (fa : List He.Fa) (fn : List He.DefD) (K : PySem.W.Frag) : Prop := obsK ck fa fn K = valK fn
def obsKG (n : Nat) (ck : List Ck) (fa : List He.Fa) (fn : List He.DefD) (g : Addr → Option Obj) : AlK := obsK ck fa fn (He.frG g (He.asD g n))
def hookK (n : Nat) (ck : List Ck) (fa : List He.Fa) (fn : List He.DefD) : PySem.W.Hook where
  α := AlK
  obs := fun s => obsKG n ck fa fn s.heap.get?
  val := fun _ => valK fn
  says := fun _ h => ∃ K : PySem.W.Frag, K.In h ∧ SaysK ck fa fn K
  of := fun _ _ e => ⟨_, He.frG_in, e⟩
  keeps := fun _ _ _ ⟨K, hK, c⟩ k => ⟨K, PySem.W.Frag.In.keeps hK k, c⟩
theorem obsKG_eq {n : Nat} {ck : List Ck} {fa : List He.Fa} {fn : List He.DefD} {g : Addr → Option Obj} {s : Shared} (h : ∀ a, g a = s.heap.get? a) : obsKG n ck fa fn g = (hookK n ck fa fn).obs s := by
  have e : g = s.heap.get? := funext h
  rw [e] <;> rfl
section
variable {ck : List Ck} {fa : List He.Fa} {fn : List He.DefD} {K : PySem.W.Frag}
theorem SaysK.d (c : SaysK ck fa fn K) : He.SaysD fa fn K := congrArg (fun z : AlK => z.2) c
theorem SaysK.chk (c : SaysK ck fa fn K) (i : Nat) {f : Ck} (h : ck[i]? = some f := by rfl) : f K = true :=
  List.all_eq_true.mp (congrArg (fun z : AlK => z.1) c) f (List.mem_of_getElem? h)
end
def dA (x q : Str) (st : Stmt) : He.DefD := ⟨(x, none), q, q, defArgs st, defBody st, defScope st, [], []⟩
def dS (x : Str) (st : Stmt) : He.DefD := dA x x st
def dM (C x qn : Str) (st : Stmt) : He.DefD := ⟨(C, some x), x, qn, defArgs st, defBody st, defScope st, [], []⟩
section
variable {ck : List Ck} {fa : List He.Fa} {fn : List He.DefD} {K : PySem.W.Frag} {h : Heap} {mg : Str → Option Value} {x q C qn : Str} {st : Stmt}
theorem fnp_ok (X : K.In h) (G : h.Ns mainGlobals mg) (c : SaysK ck fa fn K) (i j : Nat) (h1 : fn[i]? = some (dA x q st) := by rfl) (h2 : fa[j]? = some (.glo x) := by rfl) : FnP K mg x st q := ⟨c.d.def_ i h1, He.glo_ok X G (c.d.fact j h2)⟩
theorem mtp_ok (c : SaysK ck fa fn K) (i : Nat) (h1 : fn[i]? = some (dM C x qn st) := by rfl) : MtP K (He.ga K C) x qn st := ⟨c.d.def_ i h1⟩
theorem ki_ok (X : K.In h) (G : h.Ns mainGlobals mg) {i : Int} (c : (He.Fa.int x i).ok K = true) : ∃ u, mg x = some u ∧ RelV (.int i) u := by
  obtain ⟨t, e⟩ := He.int_ok X G c
  exact ⟨_, e, t, rfl⟩
theorem ks_ok (X : K.In h) (G : h.Ns mainGlobals mg) {z : Str} (c : (He.Fa.str x z).ok K = true) : ∃ u, mg x = some u ∧ RelV (.str z) u := by
  obtain ⟨t, e⟩ := He.str_ok X G c
  exact ⟨_, e, t, rfl⟩
theorem cls_ok (c : (He.Fa.cls x).ok K = true) : Cls K (He.ga K x) := by
  obtain ⟨h1, h2⟩ := He.ba c
  obtain ⟨h2, h3⟩ := He.ba h2
  obtain ⟨h3, h4⟩ := He.ba h3
  exact ⟨h1, h2, h3, He.eqO_ok h4⟩
theorem mkr_ok (c : (He.Fa.mkr x).ok K = true) : Mk K (He.ga K x) (He.ma K (He.ga K x) "__init__") := by
  obtain ⟨h1, h2⟩ := He.ba c
  obtain ⟨h2, h3⟩ := He.ba h2
  obtain ⟨h3, h4⟩ := He.ba h3
  exact ⟨h1, He.eqO_ok h2, h3, h4⟩
theorem noat_ok {f : Str} (c : (He.Fa.noat x f).ok K = true) : NoAttr K (He.ga K x) f := He.eqO_ok c
abbrev XcO (K : PySem.W.Frag) (x : Str) : Prop := PySem.W.excIn K (He.ga K x) He.veBase "ValueError.__new__" = true ∧ PySem.W.keepIn K (.ref (He.ga K x)) = true ∧
  PySem.W.subIn K (.ref (He.ga K x)) (.type "BaseException") = some true ∧ PySem.W.typeIn K (.ref (He.ga K x)) = some (.type "type")
theorem exc_ok (c : (He.Fa.exc x).ok K = true) : XcO K x := by
  obtain ⟨h1, h2⟩ := He.ba c
  obtain ⟨h2, h3⟩ := He.ba h2
  obtain ⟨h3, h4⟩ := He.ba h3
  exact ⟨h1, h2, of_decide_eq_true h3, of_decide_eq_true h4⟩
theorem exm_ok {y : Str} {b : Bool} (c : (He.Fa.exm x y b).ok K = true) : PySem.W.exmOne K (.ref (He.ga K x)) (.ref (He.ga K y)) = some b := of_decide_eq_true c
end
/-! ### the checks -/
def eqB (a : Option Bool) (b : Bool) : Bool := decide (a = some b)
theorem eqB_ok {a : Option Bool} {b : Bool} (h : eqB a b = true) : a = some b := of_decide_eq_true h
def clsB (K : PySem.W.Frag) (C : Addr) : Bool := He.eqO (PySem.W.findIn K (.ref C) "__class__") (some (some (.builtin "object.__class__"))) && (He.eqO (PySem.W.specialIn K (.builtin "object.__class__") "__get__") (some (some (.builtin "getset_descriptor.__get__"))) &&
  (eqB (PySem.W.takesIn K (.builtin "object.__class__")) true && eqB (PySem.W.mroIn K C (.type "object")) true))
def kfB (x : Str) (K : PySem.W.Frag) : Bool := (He.Fa.cls x).ok K && (clsB K (He.ga K x) && ((["int", "bool", "str", "tuple"].all fun n => eqB (PySem.W.kitOne K (.ref (He.ga K x)) (.type n)) false) && (eqB (PySem.W.kitOne K (.ref (He.ga K x)) (.ref (He.ga K x))) true &&
  (["NoneType", "bool", "int", "str", "tuple", "list", "dict"].all fun n => eqB (PySem.W.kitOne K (.type n) (.ref (He.ga K x))) false))))
theorem kf_ok {x : Str} {K : PySem.W.Frag} (h : kfB x K = true) : Kf K (He.ga K x) := by
  obtain ⟨h1, h2⟩ := He.ba h
  obtain ⟨h2, h3⟩ := He.ba h2
  obtain ⟨h3, h4⟩ := He.ba h3
  obtain ⟨h4, h5⟩ := He.ba h4
  obtain ⟨g1, g2⟩ := He.ba h2
  obtain ⟨g2, g3⟩ := He.ba g2
  obtain ⟨g3, g4⟩ := He.ba g3
  have a := fun n m => eqB_ok (List.all_eq_true.mp h3 n m)
  have b := fun n m => eqB_ok (List.all_eq_true.mp h5 n m)
  exact ⟨cls_ok h1, He.eqO_ok g1, He.eqO_ok g2, eqB_ok g3, eqB_ok g4, a "int" (by simp), a "bool" (by simp), a "str" (by simp), a "tuple" (by simp), eqB_ok h4,
    b "NoneType" (by simp), b "bool" (by simp), b "int" (by simp), b "str" (by simp), b "tuple" (by simp), b "list" (by simp), b "dict" (by simp)⟩
def excB (x : Str) (K : PySem.W.Frag) : Bool := He.eqO (PySem.W.findIn K (.ref (He.ga K x)) "__getattribute__") (some (some (.builtin "BaseException.__getattribute__"))) && (He.eqO (PySem.W.findIn K (.ref (He.ga K x)) "__getattr__") (some none) &&
  (eqB (PySem.W.subIn K (.ref (He.ga K x)) (.type "BaseException")) true && (PySem.W.hasDictIn K (He.ga K x) && clsB K (He.ga K x))))
theorem excC_ok {x : Str} {K : PySem.W.Frag} (h : excB x K = true) : ExcC K (He.ga K x) := by
  obtain ⟨h1, h2⟩ := He.ba h
  obtain ⟨h2, h3⟩ := He.ba h2
  obtain ⟨h3, h4⟩ := He.ba h3
  obtain ⟨h4, h5⟩ := He.ba h4
  obtain ⟨g1, g2⟩ := He.ba h5
  obtain ⟨g2, g3⟩ := He.ba g2
  obtain ⟨g3, g4⟩ := He.ba g3
  exact ⟨He.eqO_ok h1, He.eqO_ok h2, eqB_ok h3, h4, He.eqO_ok g1, He.eqO_ok g2, eqB_ok g3, eqB_ok g4⟩
end Fl
/-! the head's Hook with checks, its part of the heap by names alone -/
namespace Fl
open PySem PySem.Spec PyProof.Rows L2
def codeA (g : Addr → Option Obj) (a : Addr) : List Addr := match g a with
  | some ⟨_, _, .func fd, _⟩ => a :: (match fd.code with
    | .ref c => [c]
    | _ => [])
  | _ => [a]
def nameA (g : Addr → Option Obj) (a : Addr) : List Addr := match g a with
  | some ⟨_, _, .func fd, _⟩ => a :: (match fd.code with
    | .ref c => [c]
    | _ => [])
  | some ⟨_, _, .cls cd, _⟩ => a :: cd.ns :: (match g cd.ns with
    | some ⟨_, _, .dict es _, _⟩ => es.toList.flatMap fun e => match e.val with
      | .ref f => codeA g f
      | _ => []
    | _ => [])
  | _ => [a]
def asN (g : Addr → Option Obj) : List Addr := mainGlobals :: (match g mainGlobals with
  | some ⟨_, _, .dict es _, _⟩ => es.toList.flatMap fun e => match e.val with
    | .ref a => nameA g a
    | _ => []
  | _ => [])
def obsNK (ck : List Ck) (fa : List He.Fa) (fn : List He.DefD) (g : Addr → Option Obj) : AlK := obsK ck fa fn (He.frG g (asN g))
def hookNK (ck : List Ck) (fa : List He.Fa) (fn : List He.DefD) : PySem.W.Hook where
  α := AlK
  obs := fun s => obsNK ck fa fn s.heap.get?
  val := fun _ => valK fn
  says := fun _ h => ∃ K : PySem.W.Frag, K.In h ∧ SaysK ck fa fn K
  of := fun _ _ e => ⟨_, He.frG_in, e⟩
  keeps := fun _ _ _ ⟨K, hK, c⟩ k => ⟨K, PySem.W.Frag.In.keeps hK k, c⟩
theorem obsNK_eq {ck : List Ck} {fa : List He.Fa} {fn : List He.DefD} {g : Addr → Option Obj} {s : Shared} (h : ∀ a, g a = s.heap.get? a) : obsNK ck fa fn g = (hookNK ck fa fn).obs s := by
  have e : g = s.heap.get? := funext h
  rw [e] <;> rfl
end Fl
namespace Fl
open PySem PySem.Spec PyProof.Rows L2
def teB (x : Str) (cs : List Str) (K : PySem.W.Frag) : Bool := excB x K && (eqB (PySem.W.kitAny K (.ref (He.ga K x)) (cs.map fun c => .ref (He.ga K c))) false && (eqB (PySem.W.kitOne K (.ref (He.ga K x)) (.ref (He.ga K x))) true && (eqB (PySem.W.kitOne K (.ref (He.ga K x)) (.type "ValueError")) true &&
  (eqB (PySem.W.kitAny K (.type "NoneType") (cs.map fun c => .ref (He.ga K c))) false && eqB (PySem.W.kitOne K (.type "NoneType") (.ref (He.ga K x))) false))))
theorem te_ok {x : Str} {cs : List Str} {K : PySem.W.Frag} {mg : Str → Option Value} (h : teB x cs K = true) : Te K mg x cs := by
  obtain ⟨h1, h2⟩ := He.ba h
  obtain ⟨h2, h3⟩ := He.ba h2
  obtain ⟨h3, h4⟩ := He.ba h3
  obtain ⟨h4, h5⟩ := He.ba h4
  obtain ⟨h5, h6⟩ := He.ba h5
  exact ⟨excC_ok h1, eqB_ok h2, eqB_ok h3, eqB_ok h4, eqB_ok h5, eqB_ok h6⟩
noncomputable def fn : List He.DefD := ([dS "is_number" s_is_number, dS "is_word" s_is_word, dS "is_made_of" s_is_made_of, dS "is_plain" s_is_plain, dS "need_plain" s_need_plain, dS "leaf_text" s_leaf_text, dS "worth_text" s_worth_text, dS "need" s_need, dS "number_in" s_number_in, dS "leaf_in" s_leaf_in, dS "words_in" s_words_in, dS "read" s_read, dS "_law_mixed" s_law_mixed, dS "_law_begun" s_law_begun, dS "_law_next" s_law_next, dS "_law_leaf" s_law_leaf] : List He.DefD) ++ ([dS "_law_worth" s_law_worth, dS "_law_leaf_in" s_law_leaf_in, dS "_law_words" s_law_words, dS "_law_one" s_law_one, dS "_law_bent" s_law_bent, dS "_law_told" s_law_told, dS "_law_is_refused" s_law_is_refused, dS "law" s_law, dM "Function" "__init__" "Function.__init__" s_Function___init__] : List He.DefD)
noncomputable def fa : List He.Fa := ([.glo "is_number", .glo "is_word", .glo "is_made_of", .glo "is_plain", .glo "need_plain", .glo "leaf_text", .glo "worth_text", .glo "need", .glo "number_in", .glo "leaf_in", .glo "words_in", .glo "read", .glo "_law_mixed", .glo "_law_begun", .glo "_law_next", .glo "_law_leaf"] : List He.Fa) ++ ([.glo "_law_worth", .glo "_law_leaf_in", .glo "_law_words", .glo "_law_one", .glo "_law_bent", .glo "_law_told", .glo "_law_is_refused", .glo "law", .glo "Function", .glo "BadWorth", .glo "FloorError", .glo "BadFloors", .glo "BadHandle", .glo "BadLimit", .glo "BadPaper", .glo "BadState"] : List He.Fa) ++ ([.glo "NoText", .glo "TooGreat", .free "isinstance", .free "int", .free "bool", .free "str", .free "tuple", .free "abs", .free "all", .free "len", .free "range", .free "min", .free "ValueError", .free "repr", .int "MOST_NUMBER" 1000000000, .int "MOST_SIGNS" 8] : List He.Fa) ++ ([.int "MOST_FIGURES" 10, .int "MOST_TEXT" 20000, .int "MOST_BRACKETS" 100, .str "SMALL" "abcdefghijklmnopqrstuvwxyz", .str "FIGURES" "0123456789", .exc "BadWorth", .exc "NoText", .mkr "Function", .noat "Function" "params", .noat "Function" "part", .noat "Function" "known", .noat "Function" "mine", .exm "NoText" "FloorError" true] : List He.Fa)
noncomputable def ck : List Ck := [kfB "Function", teB "NoText" others5]
abbrev R : PySem.W.OpenRow := PySem.W.OpenLaw.row PySem.Challenge.rw_floorhall_k05_texts_refused
noncomputable abbrev hk : PySem.W.Hook := hookNK ck fa fn
noncomputable def ob (s : PySem.W.SharedT) : AlK := obsNK ck fa fn (HandSHeadRun.getT s)
theorem ob_eq (s : PySem.W.SharedT) : ob s = hk.obs s.abs := obsNK_eq (HandSHeadRun.getT_eq s)
abbrev nms : List Str := (["__name__", "FloorError", "BadWorth", "NoText", "BadLimit", "BadFloors", "BadState", "BadHandle", "BadPaper", "TooGreat", "MOST_NUMBER", "MOST_SIGNS", "SMALL", "Function", "is_number", "is_word"] : List PySem.Str) ++ (["is_made_of", "is_plain", "need_plain", "FIGURES", "MOST_TEXT", "MOST_BRACKETS", "MOST_FIGURES", "leaf_text", "worth_text", "need", "number_in", "leaf_in", "words_in", "read", "_law_mixed", "_law_begun"] : List PySem.Str) ++ (["_law_next", "_law_leaf", "_law_worth", "_law_nested", "_law_leaf_in", "_law_words", "_law_one", "_law_bent", "_law_told", "_law_is_refused"] : List PySem.Str)
theorem run (w : World) : HandSHeadRun.RunEq R (PySem.W.view R.prog [45]) hk ob 4000 nms w := by
  intro os
  kernel_rfl
theorem facts {P : Program} {w : World} {K : PySem.W.Frag} {h : Heap} {mg : Str → Option Value} (X : K.In h) (G : h.Ns mainGlobals mg) (c : SaysK ck fa fn K) (base : Heap) : Cg P w K mg base 27 "law" ["_law_script"] (spLaw K) := by
  have F_is_number := fnp_ok (x := "is_number") (q := "is_number") (st := s_is_number) X G c 0 0
  have F_is_word := fnp_ok (x := "is_word") (q := "is_word") (st := s_is_word) X G c 1 1
  have F_is_made_of := fnp_ok (x := "is_made_of") (q := "is_made_of") (st := s_is_made_of) X G c 2 2
  have F_is_plain := fnp_ok (x := "is_plain") (q := "is_plain") (st := s_is_plain) X G c 3 3
  have F_need_plain := fnp_ok (x := "need_plain") (q := "need_plain") (st := s_need_plain) X G c 4 4
  have F_leaf_text := fnp_ok (x := "leaf_text") (q := "leaf_text") (st := s_leaf_text) X G c 5 5
  have F_worth_text := fnp_ok (x := "worth_text") (q := "worth_text") (st := s_worth_text) X G c 6 6
  have F_need := fnp_ok (x := "need") (q := "need") (st := s_need) X G c 7 7
  have F_number_in := fnp_ok (x := "number_in") (q := "number_in") (st := s_number_in) X G c 8 8
  have F_leaf_in := fnp_ok (x := "leaf_in") (q := "leaf_in") (st := s_leaf_in) X G c 9 9
  have F_words_in := fnp_ok (x := "words_in") (q := "words_in") (st := s_words_in) X G c 10 10
  have F_read := fnp_ok (x := "read") (q := "read") (st := s_read) X G c 11 11
  have F__law_mixed := fnp_ok (x := "_law_mixed") (q := "_law_mixed") (st := s_law_mixed) X G c 12 12
  have F__law_begun := fnp_ok (x := "_law_begun") (q := "_law_begun") (st := s_law_begun) X G c 13 13
  have F__law_next := fnp_ok (x := "_law_next") (q := "_law_next") (st := s_law_next) X G c 14 14
  have F__law_leaf := fnp_ok (x := "_law_leaf") (q := "_law_leaf") (st := s_law_leaf) X G c 15 15
  have F__law_worth := fnp_ok (x := "_law_worth") (q := "_law_worth") (st := s_law_worth) X G c 16 16
  have F__law_leaf_in := fnp_ok (x := "_law_leaf_in") (q := "_law_leaf_in") (st := s_law_leaf_in) X G c 17 17
  have F__law_words := fnp_ok (x := "_law_words") (q := "_law_words") (st := s_law_words) X G c 18 18
  have F__law_one := fnp_ok (x := "_law_one") (q := "_law_one") (st := s_law_one) X G c 19 19
  have F__law_bent := fnp_ok (x := "_law_bent") (q := "_law_bent") (st := s_law_bent) X G c 20 20
  have F__law_told := fnp_ok (x := "_law_told") (q := "_law_told") (st := s_law_told) X G c 21 21
  have F__law_is_refused := fnp_ok (x := "_law_is_refused") (q := "_law_is_refused") (st := s_law_is_refused) X G c 22 22
  have F_law := fnp_ok (x := "law") (q := "law") (st := s_law) X G c 23 23
  have F_Function___init__ := mtp_ok (C := "Function") (x := "__init__") (qn := "Function.__init__") (st := s_Function___init__) c 24
  have g_Function := He.glo_ok X G (c.d.fact 24 (f := .glo "Function") rfl)
  have g_BadWorth := He.glo_ok X G (c.d.fact 25 (f := .glo "BadWorth") rfl)
  have g_FloorError := He.glo_ok X G (c.d.fact 26 (f := .glo "FloorError") rfl)
  have g_BadFloors := He.glo_ok X G (c.d.fact 27 (f := .glo "BadFloors") rfl)
  have g_BadHandle := He.glo_ok X G (c.d.fact 28 (f := .glo "BadHandle") rfl)
  have g_BadLimit := He.glo_ok X G (c.d.fact 29 (f := .glo "BadLimit") rfl)
  have g_BadPaper := He.glo_ok X G (c.d.fact 30 (f := .glo "BadPaper") rfl)
  have g_BadState := He.glo_ok X G (c.d.fact 31 (f := .glo "BadState") rfl)
  have g_NoText := He.glo_ok X G (c.d.fact 32 (f := .glo "NoText") rfl)
  have g_TooGreat := He.glo_ok X G (c.d.fact 33 (f := .glo "TooGreat") rfl)
  have z_isinstance := He.free_ok X G (c.d.fact 34 (f := .free "isinstance") rfl)
  have z_int := He.free_ok X G (c.d.fact 35 (f := .free "int") rfl)
  have z_bool := He.free_ok X G (c.d.fact 36 (f := .free "bool") rfl)
  have z_str := He.free_ok X G (c.d.fact 37 (f := .free "str") rfl)
  have z_tuple := He.free_ok X G (c.d.fact 38 (f := .free "tuple") rfl)
  have z_abs := He.free_ok X G (c.d.fact 39 (f := .free "abs") rfl)
  have z_all := He.free_ok X G (c.d.fact 40 (f := .free "all") rfl)
  have z_len := He.free_ok X G (c.d.fact 41 (f := .free "len") rfl)
  have z_range := He.free_ok X G (c.d.fact 42 (f := .free "range") rfl)
  have z_min := He.free_ok X G (c.d.fact 43 (f := .free "min") rfl)
  have z_ValueError := He.free_ok X G (c.d.fact 44 (f := .free "ValueError") rfl)
  have z_repr := He.free_ok X G (c.d.fact 45 (f := .free "repr") rfl)
  have c_MOST_NUMBER := ki_ok X G (c.d.fact 46 (f := .int "MOST_NUMBER" 1000000000) rfl)
  have c_MOST_SIGNS := ki_ok X G (c.d.fact 47 (f := .int "MOST_SIGNS" 8) rfl)
  have c_MOST_FIGURES := ki_ok X G (c.d.fact 48 (f := .int "MOST_FIGURES" 10) rfl)
  have c_MOST_TEXT := ki_ok X G (c.d.fact 49 (f := .int "MOST_TEXT" 20000) rfl)
  have c_MOST_BRACKETS := ki_ok X G (c.d.fact 50 (f := .int "MOST_BRACKETS" 100) rfl)
  have c_SMALL := ks_ok X G (c.d.fact 51 (f := .str "SMALL" "abcdefghijklmnopqrstuvwxyz") rfl)
  have c_FIGURES := ks_ok X G (c.d.fact 52 (f := .str "FIGURES" "0123456789") rfl)
  have x_BadWorth := exc_ok (c.d.fact 53 (f := .exc "BadWorth") rfl)
  have x_NoText := exc_ok (c.d.fact 54 (f := .exc "NoText") rfl)
  have mk_Function := mkr_ok (c.d.fact 55 (f := .mkr "Function") rfl)
  have na_Function_params := noat_ok (c.d.fact 56 (f := .noat "Function" "params") rfl)
  have na_Function_part := noat_ok (c.d.fact 57 (f := .noat "Function" "part") rfl)
  have na_Function_known := noat_ok (c.d.fact 58 (f := .noat "Function" "known") rfl)
  have na_Function_mine := noat_ok (c.d.fact 59 (f := .noat "Function" "mine") rfl)
  have ex_NoText_FloorError := exm_ok (c.d.fact 60 (f := .exm "NoText" "FloorError" true) rfl)
  have kf := kf_ok (c.chk 0 (f := kfB "Function") rfl)
  have te := te_ok (mg := mg) (c.chk 1 (f := teB "NoText" others5) rfl)
  have tw : Tw K mg := ⟨kf, g_Function, z_isinstance, z_int, z_bool, z_str, z_tuple, z_abs, z_all, z_len, g_BadWorth, x_BadWorth, c_MOST_NUMBER, c_MOST_SIGNS, c_SMALL⟩
  have td : Td mg := ⟨z_len⟩
  have tc : Tc K := ⟨kf, na_Function_params, na_Function_part, na_Function_known, na_Function_mine⟩
  have tr : Tr mg := ⟨z_tuple, z_range⟩
  have tq : Tq K mg := ⟨z_isinstance, z_ValueError, g_FloorError, g_BadFloors, g_BadHandle, g_BadLimit, g_BadPaper, g_BadState, g_NoText, g_TooGreat, g_BadWorth, ex_NoText_FloorError, te⟩
  have tx : Tx K mg := ⟨kf, z_len, z_all, z_int, z_str, z_bool, z_tuple, z_range, z_isinstance, g_NoText, x_NoText, c_MOST_FIGURES, c_MOST_TEXT, c_MOST_BRACKETS, c_FIGURES, c_SMALL⟩
  have t5 : T5 K mg := ⟨z_range, z_min, z_len, z_int, z_repr⟩
  have B1 := ok_is_number (P := P) (w := w) (base := base) F_is_number tw
  have B2 := ok_is_word (P := P) (w := w) (base := base) F_is_word tw
  have B3 := ok_is_made_of F_is_made_of tw B1 B2
  have B5 := ok_is_plain F_is_plain B3
  have B7 := ok_need_plain F_need_plain tw B5
  have C1 := ok_law_mixed (P := P) (w := w) (K := K) (base := base) F__law_mixed
  have C2 := ok_law_begun (P := P) (w := w) (base := base) F__law_begun
  have C3 := ok_law_next F__law_next td C1
  have C4 := ok_law_leaf F__law_leaf C3
  have N1 := nw_Function (P := P) (w := w) (mg := mg) (base := base) F_Function___init__ tc mk_Function g_Function
  have W0 := ok_law_worthT_none (P := P) (w := w) (base := base) F__law_worth
  have W1 := ok_law_worthT (m := 0) F__law_worth tr C3 C4 N1 W0
  have W2 := ok_law_worthT (m := 1) F__law_worth tr C3 C4 N1 W1
  have W3 := ok_law_worthT (m := 2) F__law_worth tr C3 C4 N1 W2
  have W4 := ok_law_worthT (m := 3) F__law_worth tr C3 C4 N1 W3
  have X1 := ok_leaf_text (P := P) (w := w) (base := base) F_leaf_text tx
  have X2 := ok_worth_text F_worth_text tx B7 X1
  have X3 := ok_need (P := P) (w := w) (base := base) F_need tx
  have X4 := ok_number_in F_number_in tx X3 B1
  have X5 := ok_leaf_in F_leaf_in tx X3 B2 X4
  have X6 := ok_words_in (P := P) (w := w) (K := K) (base := base) F_words_in ⟨z_len⟩
  have X7 := ok_read F_read tx X3 X6 X5
  have A1 := ok_law_words (P := P) (w := w) (base := base) F__law_words
  have A2 := ok_law_leaf_in (P := P) (w := w) (base := base) F__law_leaf_in tx
  have A3 := ok_law_bent F__law_bent tx A1
  have O0 := ok_law_one_none (P := P) (w := w) (base := base) F__law_one
  have O1 := ok_law_one (m := 0) F__law_one tx A2 O0
  have O2 := ok_law_one (m := 1) F__law_one tx A2 O1
  have O3 := ok_law_one (m := 2) F__law_one tx A2 O2
  have O4 := ok_law_one (m := 3) F__law_one tx A2 O3
  have O5 := ok_law_one (m := 4) F__law_one tx A2 O4
  have O6 := ok_law_one (m := 5) F__law_one tx A2 O5
  have O7 := ok_law_one (m := 6) F__law_one tx A2 O6
  have O8 := ok_law_one (m := 7) F__law_one tx A2 O7
  have O9 := ok_law_one (m := 8) F__law_one tx A2 O8
  have O10 := ok_law_one (m := 9) F__law_one tx A2 O9
  have O11 := ok_law_one (m := 10) F__law_one tx A2 O10
  have O12 := ok_law_one (m := 11) F__law_one tx A2 O11
  have O13 := ok_law_one (m := 12) F__law_one tx A2 O12
  have O14 := ok_law_one (m := 13) F__law_one tx A2 O13
  have O15 := ok_law_one (m := 14) F__law_one tx A2 O14
  have O16 := ok_law_one (m := 15) F__law_one tx A2 O15
  have O17 := ok_law_one (m := 16) F__law_one tx A2 O16
  have O18 := ok_law_one (m := 17) F__law_one tx A2 O17
  have O19 := ok_law_one (m := 18) F__law_one tx A2 O18
  have O20 := ok_law_one (m := 19) F__law_one tx A2 O19
  have O21 := ok_law_one (m := 20) F__law_one tx A2 O20
  have O22 := ok_law_one (m := 21) F__law_one tx A2 O21
  have O23 := ok_law_one (m := 22) F__law_one tx A2 O22
  have O24 := ok_law_one (m := 23) F__law_one tx A2 O23
  have Q1 := ok_law_is_refused (P := P) (w := w) (base := base) F__law_is_refused tq
  have Q2 := ok_law_told F__law_told tq X7
  exact ok_law F_law t5 C2 C3 W4 X2 A1 A3 O24 Q2 Q1
end Fl
open PySem PySem.W PySem.Calls PyProof.Rows
theorem PySem.Challenge.cw_floorhall_k05_texts_refused_holds : PySem.Challenge.rw_floorhall_k05_texts_refused.Holds := by
  w_on; o_law
  refine HandSHeadRun.head_any (r := OpenLaw.row PySem.Challenge.rw_floorhall_k05_texts_refused) (q := view (OpenLaw.row PySem.Challenge.rw_floorhall_k05_texts_refused).prog [45]) (H := Fl.hk) (ob := Fl.ob) (M := 4000) (loose := Fl.nms) (d := HandSHeadRun.topDef (OpenLaw.row PySem.Challenge.rw_floorhall_k05_texts_refused).prog 45) (kwd := []) Fl.ob_eq
    (by kernel_rfl) (fun s => by kernel_rfl) Fl.run (by kernel_rfl) (by kernel_rfl) (by kernel_rfl) (by rfl) (by first | assumption | decide +kernel) (by decide +kernel) ⟨rfl, rfl, rfl, rfl, rfl, by decide +kernel⟩ ?hw ?hc
  case hw => w_witness2
  case hc =>
    refine Fl.walk_ofN (l := PySem.Challenge.rw_floorhall_k05_texts_refused) (n := 63) (k := 27) (x := "_law_script") (y := "law") rfl (by decide) (by kernel_rfl) ⟨rfl, by decide, by decide⟩ (by kernel_rfl) ?F
    intro w mg h Y G
    obtain ⟨K, KX, c⟩ := Y
    exact ⟨K, Fl.spLaw K, KX, fun H a ns hl hO hS => ⟨_, rfl, a, ns, rfl, Fl.scr_of hO hS, hl, fun _ => rfl⟩, fun base => Fl.facts KX G c base⟩
