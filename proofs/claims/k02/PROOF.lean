import PyProof.Rows.All
import Wide.All
import OpenK.AllK
import Wide.FinOn
import KE.KStateDown
import HandS.ForMost
import HandS.ForExc
import HandS.IsInst
import HandS.Wide
import HandS.Conv
import HandS.TupAny
import HandS.TupMul
import HandS.TupLe
import HandS.Deep
import HandS.Zip
import HandS.Flow
import HandS.Codes
import HandS.Head2
import HandS.HeadEnd
import HandS.HeadHook2
import HandS.EndBits
import HandS.Walk
import PySem.Challenge.RW_floorhall_k02_alike_and_kinds
import PyProof.ReprRoads
import PyProof.ReprReads
import PyProof.CallFns
import HandS.ExcIs
import HandS.ExcValue
import HandS.TryOnly
import HandS.GenList
import KE.KDictZip
import PyProof.InstEq
import PyProof.NeKinds
set_option Elab.async false
set_option linter.all false
set_option maxRecDepth 100000
set_option maxHeartbeats 0
namespace Fl
open PySem PySem.Spec PyProof.Rows L2

/-! ### things: what the laws hand about, without the heap -/
inductive Th where
  | non | bl (b : Bool) | int (i : Int) | str (x : Str) | tup (l : List Th) | fn (l : List Th) | oth
def isSign (c : Nat) : Bool := Nat.ble 97 c && Nat.ble c 122
def sTrue : Str := "true"
def sFalse : Str := "false"
def wordB (x : Str) : Bool := decide (1 ≤ x.length) && (decide (x.length ≤ 8) && (!decide (x = sTrue) && (!decide (x = sFalse) && x.cps.toList.all isSign)))
def numB (i : Int) : Bool := decide (-1000000000 ≤ i) && decide (i ≤ 1000000000)
mutual
def Th.worth (f : Bool) : Th → Bool
  | .non => false
  | .bl _ => true
  | .int i => numB i
  | .str x => wordB x
  | .tup l => Th.worths f l
  | .fn _ => f
  | .oth => false
def Th.worths (f : Bool) : List Th → Bool
  | [] => true
  | t :: r => t.worth f && Th.worths f r
end
mutual
def Th.nodes : Th → Nat
  | .tup l => Th.nodesL l + 1
  | .non => 1
  | .bl _ => 1
  | .int _ => 1
  | .str _ => 1
  | .fn _ => 1
  | .oth => 1
def Th.nodesL : List Th → Nat
  | [] => 0
  | t :: r => t.nodes + Th.nodesL r
end
mutual
def Th.depth : Th → Nat
  | .tup l => Th.depthL l + 1
  | .non => 0
  | .bl _ => 0
  | .int _ => 0
  | .str _ => 0
  | .fn _ => 0
  | .oth => 0
def Th.depthL : List Th → Nat
  | [] => 0
  | t :: r => max t.depth (Th.depthL r)
end
theorem depthL_app (a b : List Th) : Th.depthL (a ++ b) = max (Th.depthL a) (Th.depthL b) := by
  induction a with
  | nil => simp [Th.depthL]
  | cons t r ih => rw [List.cons_append, Th.depthL, Th.depthL, ih]; omega
theorem Th.nodes_pos (t : Th) : 1 ≤ t.nodes := by cases t <;> simp [Th.nodes]
theorem nodesL_app (a b : List Th) : Th.nodesL (a ++ b) = Th.nodesL a + Th.nodesL b := by
  induction a with
  | nil => simp [Th.nodesL]
  | cons t r ih => rw [List.cons_append, Th.nodesL, Th.nodesL, ih]; omega
theorem worths_app (f : Bool) (a b : List Th) : Th.worths f (a ++ b) = (Th.worths f a && Th.worths f b) := by
  induction a with
  | nil => simp [Th.worths]
  | cons t r ih => rw [List.cons_append, Th.worths, Th.worths, ih, Bool.and_assoc]
theorem len_nodesL (a : List Th) : a.length ≤ Th.nodesL a := by
  induction a with
  | nil => exact Nat.zero_le _
  | cons t r ih =>
    have := t.nodes_pos
    rw [Th.nodesL, List.length_cons]
    omega

/-! ### what stands for what -/
/-- the fields of a function -/
def fnF (n b s o : V) : List (Str × V) := putF "mine" o (putF "known" s (putF "part" b (putF "params" n [])))
mutual
inductive Is (C : Addr) (H : Hp) : V → Th → Prop
  | non : Is C H .non .non
  | bl (b : Bool) : Is C H (.bl b) (.bl b)
  | int (i : Int) : Is C H (.int i) (.int i)
  | str (x : Str) (h : x.length ≤ 100000) : Is C H (.str x) (.str x)
  | tup {p : Addr} {xs : List V} {ts : List Th} : H p = some (.tup xs) → Iss C H xs ts → Is C H (.ref p) (.tup ts)
  | fn {a dx : Addr} {n b s o : V} {l : List Th} : H a = some (.ins C dx (fnF n b s o)) → Iss C H [n, b, s, o] l → Is C H (.ref a) (.fn l)
  | lst {a : Addr} {xs : List V} : H a = some (.lst xs) → Is C H (.ref a) .oth
  | dct {a : Addr} {kvs : List (Key × V)} : H a = some (.dK kvs) → Is C H (.ref a) .oth
inductive Iss (C : Addr) (H : Hp) : List V → List Th → Prop
  | nil : Iss C H [] []
  | cons {v : V} {vs : List V} {t : Th} {ts : List Th} : Is C H v t → Iss C H vs ts → Iss C H (v :: vs) (t :: ts)
end
theorem Iss.len {C : Addr} {H : Hp} : ∀ {xs : List V} {ts : List Th}, Iss C H xs ts → xs.length = ts.length
  | _, _, .nil => rfl
  | _, _, .cons _ r => congrArg Nat.succ r.len
theorem Iss.app {C : Addr} {H : Hp} : ∀ {xs ys : List V} {ts us : List Th}, Iss C H xs ts → Iss C H ys us → Iss C H (xs ++ ys) (ts ++ us)
  | _, _, _, _, .nil, s => s
  | _, _, _, _, .cons h r, s => .cons h (r.app s)
theorem Iss.one {C : Addr} {H : Hp} {v : V} {t : Th} (h : Is C H v t) : Iss C H [v] [t] := .cons h .nil
/-- the last of some -/
theorem Iss.last {C : Addr} {H : Hp} : ∀ {xs : List V} {ts : List Th}, Iss C H xs ts → xs ≠ [] → ∃ (ys : List V) (y : V) (us : List Th) (u : Th), xs = ys ++ [y] ∧ ts = us ++ [u] ∧ Iss C H ys us ∧ Is C H y u
  | _, _, .nil, h => absurd rfl h
  | _, _, .cons (vs := []) h r, _ => by
    cases r
    exact ⟨[], _, [], _, rfl, rfl, .nil, h⟩
  | _, _, .cons (vs := a :: b) h r, _ => by
    obtain ⟨ys, y, us, u, e1, e2, h1, h2⟩ := r.last (List.cons_ne_nil _ _)
    exact ⟨_ :: ys, y, _ :: us, u, by rw [e1]; rfl, by rw [e2]; rfl, .cons h h1, h2⟩
mutual
theorem Is.same {C : Addr} {H H' : Hp} (s : Same H H') : ∀ {v : V} {t : Th}, Is C H v t → Is C H' v t
  | _, _, .non => .non
  | _, _, .bl b => .bl b
  | _, _, .int i => .int i
  | _, _, .str x h => .str x h
  | _, _, .tup h r => .tup (s _ _ h) (r.same s)
  | _, _, .fn h r => .fn (s _ _ h) (r.same s)
  | _, _, .lst h => .lst (s _ _ h)
  | _, _, .dct h => .dct (s _ _ h)
theorem Iss.same {C : Addr} {H H' : Hp} (s : Same H H') : ∀ {xs : List V} {ts : List Th}, Iss C H xs ts → Iss C H' xs ts
  | _, _, .nil => .nil
  | _, _, .cons h r => .cons (h.same s) (r.same s)
end
theorem same_new {H : Hp} {p : Addr} (h : H p = none) (o : HO) : Same H (upd H p o) := fun b u q => by rw [upd_ne (ne_of_none q h)]; exact q
/-- an object that is not of H may change -/
theorem same_mut {H H' : Hp} {p : Addr} {o : HO} (e : Same H H') (h : H p = none) : Same H (upd H' p o) := fun a u ha => by
  rw [upd_ne (ne_of_none ha h)]
  exact e a u ha

/-! ### further rules of the layer -/
theorem extend_tup (l : Addr) (items : Array Value) (n : Nat) (b : Addr) (items2 : Array Value) (n2 : Nat) (dd : Option Addr) (sl : Array (Option Value))
    (a0 : ¬(!items.isEmpty && Builtin.List.listTooLong (items.size + items2.size)) = true) (a1 : items.size ≤ sizeLine) (a2 : items.size + items2.size ≤ sizeLine + 1) :
    Meets (Builtin.«list.extend» ⟨[.ref l, .ref b], []⟩) (fun _ R s => s.heap.get? l = some { cls := .type "list", dict := none, data := .seq items n, slots := #[] } ∧
      s.heap.get? b = some { cls := .type "tuple", dict := dd, data := .seq items2 n2, slots := sl } ∧ R (.ok (.ret Value.none)) { s with heap := s.heap.update l (Obj.mapSeq fun x => x ++ items2), toks := s.toks }) :=
  .of_wp fun prog w A R s h => by
    obtain ⟨hp, g, d, tk, os⟩ := s
    obtain ⟨hl, hb, h⟩ := h
    have f1 := AutoSeq1.idx_int
    have f2 := AutoSeq1.sub_tuple_tuple
    have f3 := AutoSeq1.sub_list_list
    have f4 := AutoSeq1.sub_tuple_list
    have f5 := AutoSeq1.sub_list_tuple
    have a3 : (items ++ items2).size ≤ sizeLine + 1 := by
      rw [Array.size_append]
      exact a2
    wp_walk using (wpAny_updateSeq hl rfl (hz := a1) (_hz' := a3)), wpAny_loadPart' hl, wpAny_loadPart' hb
    exact ⟨_, rfl, h⟩
section
variable {X : Cx}
/-- xs.extend(t), t a tuple -/
def rExtT (K : PySem.W.Frag) : V → List V → Hp → VK → Prop := fun x vs H Q => ∃ l b xs zs, x = .ref l ∧ vs = [.ref b] ∧ H l = some (.lst xs) ∧ SqT K H b zs ∧ xs.length + zs.length ≤ sizeLine ∧ Q .non (upd H l (.lst (xs ++ zs)))
theorem mt_extT : MtM X "list.extend" (rExtT X.K) := by
  intro pins s σ H x vs v us Q I rx rv h
  obtain ⟨l, b, xs, zs, rfl, rfl, hH, hB, hz, q⟩ := h
  cases rx
  obtain ⟨u, rfl, ru⟩ := rv.one
  cases ru
  obtain ⟨_, its, n, r, hl, e⟩ := I.lstM hH
  obtain ⟨its2, r2, ⟨⟨cls, dd, data, sl⟩, ho, hc, n2, hd⟩, _⟩ := I.tuple hB
  simp only at hc hd
  subst hc hd
  have hl2 := r2.length
  have g1 : its.toArray.size ≤ sizeLine := by
    rw [List.size_toArray]
    omega
  have g2 : its.toArray.size + its2.toArray.size ≤ sizeLine := by
    rw [List.size_toArray, List.size_toArray]
    omega
  have g3 : ¬ (!its.toArray.isEmpty && Builtin.List.listTooLong (its.toArray.size + its2.toArray.size)) = true := by
    rw [notLongL g2, Bool.and_false]
    intro z
    cases z
  refine call_meets F.slot_list_extend ⟨_, e, rfl⟩ F.entry_list_extend (F.args_list_extend_2 _ _) (extend_tup l its.toArray n b its2.toArray n2 dd sl g3 g1 (by omega)) ⟨e, ho, ?_⟩
  exact ⟨.non, _, I.lset (its' := its ++ its2) hH e (by simp) (r.append r2) (by rw [List.length_append]; omega), rfl, q⟩
end
end Fl
namespace Fl
open PySem PySem.Spec PyProof.Rows L2

theorem hu64 {A : Around} {k : Nat} (hr : Room k A) : A.units + 64 < cLine := hr.units

/-! ### defs by name -/
theorem pe_gk {X : Cx} {x : Str} {v : V} {pos : Pos} (hg : Gl X x) (h : ∃ u, X.mg x = some u ∧ RelV v u) (hd : (x == ("__debug__" : Str)) = false := by decide) : PE X (.Name x pos) (tC v) := by
  obtain ⟨u, e, r⟩ := h
  exact pe_glob hg e r hd

def bindOk (st : Stmt) (x : Str) (ps : List Str) : Prop := ∀ (kV doc pm : Value) (an : Option Addr) (cdv ct : Value) (us : List Value), us.length = ps.length →
  bindArgs (PySem.W.fnOf x x (defArgs st) (defBody st) (defScope st) .none kV doc pm an cdv ct) ⟨us, []⟩ = pure (ps.zip us)
/-- the def st, by its own name q, stands behind the name x -/
structure FnP (K : PySem.W.Frag) (mg : Str → Option Value) (x : Str) (st : Stmt) (q : Str := x) : Prop where
  ex : ∃ fd, FunD K q q (defArgs st) (defBody st) (defScope st) [] [] (He.ga K x) fd
  gl : mg x = some (.ref (He.ga K x))
/-- the name x stands for a def that keeps the promise sp -/
structure Cl (P : Program) (w : World) (K : PySem.W.Frag) (mg : Str → Option Value) (base : Heap) (k : Nat) (x : Str) (ps : List Str) (sp : Sp) : Prop where
  ex : ∃ f fd, FnOk P w K mg base (L2.CX P w) k f fd ps sp ∧ Binds K fd ps [] ∧ PySem.W.keepIn K (.ref f) = true ∧ mg x = some (.ref f)
section
variable {X : Cx} {k j : Nat} {x : Str} {ps : List Str} {sp : Sp} {E : XK} {p pos : Pos} {e : Expr} {es : List Expr} {t : TA}
theorem pe_b (c : Cl X.prog X.w X.K X.mg X.base k x ps sp) (hr : Room j X.A) (hk : k ≤ j) (hg : Gl X x) (hx : Passes (L2.CX X.prog X.w) X E) (ha : PA X (e :: es) t) (hdb : (x == ("__debug__" : Str)) = false := by decide)
    (he : starEach (e :: es) X.env = (false, eval e X.env) :: starEach es X.env := by rfl) (hpl : (backTo pos (starEach es X.env)).any (·.1) = false := by rfl) : PE X (.Call (.Name x p) (e :: es) [] pos) (tCall sp [] E t) := by
  obtain ⟨f, fd, F, b, kp, g⟩ := c.ex
  exact pe_call F (hr.mono hk) hg g kp b .nil hx ha hdb he hpl
theorem pe_bS {E : L2.St → XK} (c : Cl X.prog X.w X.K X.mg X.base k x ps sp) (hr : Room j X.A) (hk : k ≤ j) (hg : Gl X x) (hx : ∀ σ, PassesAt (L2.CX X.prog X.w) X σ (E σ)) (ha : PA X (e :: es) t) (hdb : (x == ("__debug__" : Str)) = false := by decide)
    (he : starEach (e :: es) X.env = (false, eval e X.env) :: starEach es X.env := by rfl) (hpl : (backTo pos (starEach es X.env)).any (·.1) = false := by rfl) : PE X (.Call (.Name x p) (e :: es) [] pos) (tCallS sp E t) := by
  obtain ⟨f, fd, F, b, kp, g⟩ := c.ex
  exact pe_callS F (hr.mono hk) hg g kp b hx ha hdb he hpl
end
section
variable {P : Program} {w : World} {K : PySem.W.Frag} {mg : Str → Option Value} {base : Heap} {x : Str} {st : Stmt} {N ps : List Str} {k : Nat} {sp : Sp}
theorem Cl.imp {sp' : Sp} (c : Cl P w K mg base k x ps sp) (h : ∀ vs H Q E, sp' vs H Q E → sp vs H Q E) : Cl P w K mg base k x ps sp' := by
  obtain ⟨f, fd, F, b, kp, g⟩ := c.ex
  exact ⟨f, fd, F.imp h, b, kp, g⟩
theorem cl_mk {q : Str} (F : FnP K mg x st q) (S : FnScope N ps (defScope st)) (hb : bindOk st q ps) (len : ∀ vs H Q E, sp vs H Q E → vs.length = ps.length)
    (body : ∀ (cdv : Value) (A : Around) (outer : List Env) (s : Shared) (H : Hp) (vs : List V) (Q : VK) (E : XK), Room k (A.deeper (envOfC q (defScope st) s.heap.objs.size (He.ga K x) cdv)) → sp vs H Q E →
      ∃ t, PSs (cxOf (L2.CX P w) P w K mg base N q (defScope st) (He.ga K x) cdv A outer s H E) (defBody st) t ∧ t { nx := fun _ H' => Q .non H', rt := Q } (start N vs) H) : Cl P w K mg base (k + 1) x ps sp := by
  obtain ⟨fd, D⟩ := F.ex
  refine ⟨_, fd, D.ok S len body, ?_, D.kp, F.gl⟩
  obtain ⟨oc, od, dV, kV, doc, pm, an, cdv, ct, osl, rfl, lk, hcd, hd, hkw⟩ := D.ex
  rcases hd with ⟨_, e⟩ | ⟨e, _⟩
  · subst e
    exact Binds.all fun us hl => hb kV doc pm an cdv ct us hl
  · exact absurd rfl e
end
def sp1 (f : V → Hp → VK → XK → Prop) : Sp := fun vs H Q E => ∃ a, vs = [a] ∧ f a H Q E
def sp2 (f : V → V → Hp → VK → XK → Prop) : Sp := fun vs H Q E => ∃ a b, vs = [a, b] ∧ f a b H Q E
def sp3 (f : V → V → V → Hp → VK → XK → Prop) : Sp := fun vs H Q E => ∃ a b c, vs = [a, b, c] ∧ f a b c H Q E
def sp4 (f : V → V → V → V → Hp → VK → XK → Prop) : Sp := fun vs H Q E => ∃ a b c d, vs = [a, b, c, d] ∧ f a b c d H Q E
section
variable {P : Program} {w : World} {K : PySem.W.Frag} {mg : Str → Option Value} {base : Heap} {x p1 p2 p3 : Str} {st : Stmt} {N : List Str} {k : Nat}
theorem cl_1 {f : V → Hp → VK → XK → Prop} {q : Str} (F : FnP K mg x st q) (S : FnScope N [p1] (defScope st)) (hb : bindOk st q [p1])
    (body : ∀ (cdv : Value) (A : Around) (outer : List Env) (s : Shared) (H : Hp) (a : V) (Q : VK) (E : XK), Room k (A.deeper (envOfC q (defScope st) s.heap.objs.size (He.ga K x) cdv)) → f a H Q E →
      ∃ t, PSs (cxOf (L2.CX P w) P w K mg base N q (defScope st) (He.ga K x) cdv A outer s H E) (defBody st) t ∧ t { nx := fun _ H' => Q .non H', rt := Q } (start N [a]) H) : Cl P w K mg base (k + 1) x [p1] (sp1 f) :=
  cl_mk F S hb (fun vs H Q E h => by obtain ⟨a, rfl, _⟩ := h; rfl) fun cdv A outer s H vs Q E hr h => by
    obtain ⟨a, rfl, h⟩ := h
    exact body cdv A outer s H a Q E hr h
theorem cl_2 {f : V → V → Hp → VK → XK → Prop} {q : Str} (F : FnP K mg x st q) (S : FnScope N [p1, p2] (defScope st)) (hb : bindOk st q [p1, p2])
    (body : ∀ (cdv : Value) (A : Around) (outer : List Env) (s : Shared) (H : Hp) (a b : V) (Q : VK) (E : XK), Room k (A.deeper (envOfC q (defScope st) s.heap.objs.size (He.ga K x) cdv)) → f a b H Q E →
      ∃ t, PSs (cxOf (L2.CX P w) P w K mg base N q (defScope st) (He.ga K x) cdv A outer s H E) (defBody st) t ∧ t { nx := fun _ H' => Q .non H', rt := Q } (start N [a, b]) H) : Cl P w K mg base (k + 1) x [p1, p2] (sp2 f) :=
  cl_mk F S hb (fun vs H Q E h => by obtain ⟨a, b, rfl, _⟩ := h; rfl) fun cdv A outer s H vs Q E hr h => by
    obtain ⟨a, b, rfl, h⟩ := h
    exact body cdv A outer s H a b Q E hr h
theorem cl_3 {f : V → V → V → Hp → VK → XK → Prop} {q : Str} (F : FnP K mg x st q) (S : FnScope N [p1, p2, p3] (defScope st)) (hb : bindOk st q [p1, p2, p3])
    (body : ∀ (cdv : Value) (A : Around) (outer : List Env) (s : Shared) (H : Hp) (a b c : V) (Q : VK) (E : XK), Room k (A.deeper (envOfC q (defScope st) s.heap.objs.size (He.ga K x) cdv)) → f a b c H Q E →
      ∃ t, PSs (cxOf (L2.CX P w) P w K mg base N q (defScope st) (He.ga K x) cdv A outer s H E) (defBody st) t ∧ t { nx := fun _ H' => Q .non H', rt := Q } (start N [a, b, c]) H) : Cl P w K mg base (k + 1) x [p1, p2, p3] (sp3 f) :=
  cl_mk F S hb (fun vs H Q E h => by obtain ⟨a, b, c, rfl, _⟩ := h; rfl) fun cdv A outer s H vs Q E hr h => by
    obtain ⟨a, b, c, rfl, h⟩ := h
    exact body cdv A outer s H a b c Q E hr h
end

/-! ### classes by name -/
/-- the name x stands for a class at C whose __init__ keeps the promise sp -/
structure Nw (P : Program) (w : World) (K : PySem.W.Frag) (mg : Str → Option Value) (base : Heap) (k : Nat) (x : Str) (C : Addr) (ps : List Str) (sp : Sp) : Prop where
  ex : ∃ f fd, Mk K C f ∧ FnOk P w K mg base (L2.CX P w) k f fd ps sp ∧ Binds K fd ps [] ∧ mg x = some (.ref C)
section
variable {X : Cx} {k j : Nat} {x : Str} {C : Addr} {ps : List Str} {sp : Sp} {E : XK} {p pos : Pos} {e : Expr} {es : List Expr} {t : TA}
theorem pe_new (c : Nw X.prog X.w X.K X.mg X.base k x C ps sp) (hr : Room j X.A) (hk : k + 1 ≤ j) (hg : Gl X x) (hx : Passes (L2.CX X.prog X.w) X E) (ha : PA X (e :: es) t) (hdb : (x == ("__debug__" : Str)) = false := by decide)
    (he : starEach (e :: es) X.env = (false, eval e X.env) :: starEach es X.env := by rfl) (hpl : (backTo pos (starEach es X.env)).any (·.1) = false := by rfl) : PE X (.Call (.Name x p) (e :: es) [] pos) (tMake C sp [] E t) := by
  obtain ⟨f, fd, M, F, b, g⟩ := c.ex
  exact pe_make M F (hr.mono hk) hg g b .nil hx ha hdb he hpl
end
/-- the method st stands in the class at C by the name x (qualified qn) -/
structure MtP (K : PySem.W.Frag) (C : Addr) (x qn : Str) (st : Stmt) : Prop where
  ex : ∃ fd, FunD K x qn (defArgs st) (defBody st) (defScope st) [] [] (He.ma K C x) fd
def bindOkM (st : Stmt) (x qn : Str) (ps : List Str) : Prop := ∀ (kV doc pm : Value) (an : Option Addr) (cdv ct : Value) (us : List Value), us.length = ps.length →
  bindArgs (PySem.W.fnOf x qn (defArgs st) (defBody st) (defScope st) .none kV doc pm an cdv ct) ⟨us, []⟩ = pure (ps.zip us)
theorem mt_mk {P : Program} {w : World} {K : PySem.W.Frag} {mg : Str → Option Value} {base : Heap} {C : Addr} {x qn : Str} {st : Stmt} {N ps : List Str} {k : Nat} {sp : Sp} (F : MtP K C x qn st) (S : FnScope N ps (defScope st)) (hb : bindOkM st x qn ps)
    (len : ∀ vs H Q E, sp vs H Q E → vs.length = ps.length)
    (body : ∀ (cdv : Value) (A : Around) (outer : List Env) (s : Shared) (H : Hp) (vs : List V) (Q : VK) (E : XK), Room k (A.deeper (envOfC qn (defScope st) s.heap.objs.size (He.ma K C x) cdv)) → sp vs H Q E →
      ∃ t, PSs (cxOf (L2.CX P w) P w K mg base N qn (defScope st) (He.ma K C x) cdv A outer s H E) (defBody st) t ∧ t { nx := fun _ H' => Q .non H', rt := Q } (start N vs) H) :
    ∃ fd, FnOk P w K mg base (L2.CX P w) (k + 1) (He.ma K C x) fd ps sp ∧ Binds K fd ps [] := by
  obtain ⟨fd, D⟩ := F.ex
  refine ⟨fd, D.ok S len body, ?_⟩
  obtain ⟨oc, od, dV, kV, doc, pm, an, cdv, ct, osl, rfl, lk, hcd, hd, hkw⟩ := D.ex
  rcases hd with ⟨_, e⟩ | ⟨e, _⟩
  · subst e
    exact Binds.all fun us hl => hb kV doc pm an cdv ct us hl
  · exact absurd rfl e

/-! ### a list beside the empty one -/
section
variable {X : Cx}
def rNil (K : PySem.W.Frag) (ne : Bool) : R2 := fun x y H Q => ∃ l p xs, x = .ref l ∧ y = .ref p ∧ SqL K H l xs ∧ SqL K H p [] ∧ Q (.bl (if ne then !xs.isEmpty else xs.isEmpty)) H
theorem op_neNil (hu : X.A.units < cLine) : OpR X (compareOp .NotEq) (rNil X.K true) := by
  intro pins s σ H x y v u Q I rx ry h
  obtain ⟨l, p, xs, rfl, rfl, hl, hp, q⟩ := h
  cases rx
  cases ry
  obtain ⟨its, r, p1, _⟩ := I.list hl
  obtain ⟨its2, r2, p2, _⟩ := I.list hp
  cases r2
  have l1 : s.heap.IsList l its.toArray := p1.isList
  have l2 : s.heap.IsList p ([] : List Value).toArray := p2.isList
  cases r with
  | nil => exact SeqAt.RcNeAt.lists (e := fun _ => true) l1 l2 rfl hu (fun j h1 _ => absurd h1 (Nat.not_lt_zero _)) X.prog X.w X.xe _ ⟨.bl false, H, I, rfl, q⟩
  | cons r1 r2 => exact SeqAt.RcNeAt.lists_lengths l1 l2 (by simp) hu X.prog X.w X.xe _ ⟨.bl true, H, I, rfl, q⟩
theorem op_eqNil (hu : X.A.units < cLine) : OpR X (compareOp .Eq) (rNil X.K false) := by
  intro pins s σ H x y v u Q I rx ry h
  obtain ⟨l, p, xs, rfl, rfl, hl, hp, q⟩ := h
  cases rx
  cases ry
  obtain ⟨its, r, p1, _⟩ := I.list hl
  obtain ⟨its2, r2, p2, _⟩ := I.list hp
  cases r2
  have l1 : s.heap.IsList l its.toArray := p1.isList
  have l2 : s.heap.IsList p ([] : List Value).toArray := p2.isList
  cases r with
  | nil => exact SeqAt.RcAt.lists (e := fun _ => true) l1 l2 rfl hu (fun j h1 _ => absurd h1 (Nat.not_lt_zero _)) X.prog X.w X.xe _ ⟨.bl true, H, I, rfl, q⟩
  | cons r1 r2 => exact SeqAt.RcAt.lists_lengths l1 l2 (by simp) hu X.prog X.w X.xe _ ⟨.bl false, H, I, rfl, q⟩
end

/-! ### tuples -/
section
variable {X : Cx} {K : PySem.W.Frag} {H : Hp} {Q : VK} {a b : Addr} {xs ys : List V}
def rTupNil (K : PySem.W.Frag) (ne : Bool) : R2 := fun x y H Q => (∃ p q xs, x = .ref p ∧ y = .ref q ∧ H p = some (.tup xs) ∧ H q = some (.tup []) ∧ Q (.bl (if ne then !xs.isEmpty else xs.isEmpty)) H)
theorem op_eqTN (hu : X.A.units < cLine) : OpR X (compareOp .Eq) (rTupNil X.K false) := by
  intro pins s σ H x y v u Q I rx ry h
  obtain ⟨p, q, xs, rfl, rfl, hp, hq, k⟩ := h
  cases rx
  cases ry
  obtain ⟨its, r, p1, _⟩ := I.tuple (SqT.of (K := X.K) hp)
  obtain ⟨its2, r2, p2, _⟩ := I.tuple (SqT.of (K := X.K) hq)
  cases r2
  refine SeqAt.RcAt.tuples (e := fun _ => true) p1 p2 hu (fun j _ h2 => absurd h2 (Nat.not_lt_zero _)) X.prog X.w X.xe _ ?_
  cases r with
  | nil => exact ⟨.bl true, H, I, rfl, k⟩
  | cons r1 r2 => exact ⟨.bl false, H, I, by simp; rfl, k⟩
theorem op_neTN (hu : X.A.units < cLine) : OpR X (compareOp .NotEq) (rTupNil X.K true) := by
  intro pins s σ H x y v u Q I rx ry h
  obtain ⟨p, q, xs, rfl, rfl, hp, hq, k⟩ := h
  cases rx
  cases ry
  obtain ⟨its, r, p1, _⟩ := I.tuple (SqT.of (K := X.K) hp)
  obtain ⟨its2, r2, p2, _⟩ := I.tuple (SqT.of (K := X.K) hq)
  cases r2
  refine SeqAt.RcNeAt.tuples (e := fun _ => true) p1 p2 hu (fun j _ h2 => absurd h2 (Nat.not_lt_zero _)) X.prog X.w X.xe _ ?_
  cases r with
  | nil => exact ⟨.bl false, H, I, rfl, k⟩
  | cons r1 r2 => exact ⟨.bl true, H, I, by simp; rfl, k⟩
/-- t + u, what comes is a tuple of both -/
theorem rd_cat (ha : H a = some (.tup xs)) (hb : H b = some (.tup ys)) (hl : xs.length + ys.length ≤ sizeLine) (q : ∀ p H', Same H H' → H' p = some (.tup (xs ++ ys)) → Q (.ref p) H') : rCatA K (.ref a) (.ref b) H Q := by
  refine ⟨a, b, xs, ys, rfl, rfl, SqT.of ha, SqT.of hb, hl, fun e => ?_, fun _ e => ?_, fun _ _ p np => ?_⟩
  · subst e
    exact q b H (.refl _) hb
  · subst e
    rw [List.append_nil] at q
    exact q a H (.refl _) ha
  · exact q p _ (same_new np _) upd_same
theorem sIx_none0 (n d : Nat) : HT.sIx n d none = d := rfl
theorem sIx_pos {n d : Nat} {i : Int} (h : 0 ≤ i) : HT.sIx n d (some i) = min i.toNat n := by
  obtain ⟨j, rfl⟩ : ∃ j : Nat, i = (j : Int) := ⟨i.toNat, by omega⟩
  exact HT.sIx_nat n d j
/-- t[:i] -/
theorem rd_take {i : Int} (ha : H a = some (.tup xs)) (h0 : 0 ≤ i) (q : ∀ p H', Same H H' → H' p = some (.tup (xs.take i.toNat)) → Q (.ref p) H') : rSlA K (.ref a) none (some i) H Q := by
  refine ⟨a, xs, rfl, SqT.of ha, fun e => ?_, fun _ p np => ?_⟩
  · obtain ⟨_, e2⟩ := e
    rw [sIx_pos h0] at e2
    have : xs.take i.toNat = xs := List.take_of_length_le (by omega)
    rw [this] at q
    exact q a H (.refl _) ha
  · refine q p _ (same_new np _) ?_
    rw [upd_same]
    unfold cutV
    rw [sIx_none0, sIx_pos h0, List.drop_zero, Nat.sub_zero]
    by_cases hi : i.toNat ≤ xs.length
    · rw [Nat.min_eq_left hi]
    · rw [Nat.min_eq_right (by omega), List.take_of_length_le (Nat.le_refl _), List.take_of_length_le (by omega)]
/-- t[i:] -/
theorem rd_drop {i : Int} (ha : H a = some (.tup xs)) (h0 : 0 ≤ i) (q : ∀ p H', Same H H' → H' p = some (.tup (xs.drop i.toNat)) → Q (.ref p) H') : rSlA K (.ref a) (some i) none H Q := by
  refine ⟨a, xs, rfl, SqT.of ha, fun e => ?_, fun _ p np => ?_⟩
  · obtain ⟨e1, _⟩ := e
    rw [sIx_pos h0] at e1
    have : xs.drop i.toNat = xs := by
      by_cases hx : xs = []
      · rw [hx]
        exact List.drop_nil
      · have : 0 < xs.length := List.length_pos_iff.mpr hx
        have e3 : i.toNat = 0 := by omega
        rw [e3]
        exact List.drop_zero
    rw [this] at q
    exact q a H (.refl _) ha
  · refine q p _ (same_new np _) ?_
    rw [upd_same]
    unfold cutV
    rw [sIx_none0, sIx_pos h0]
    by_cases hi : i.toNat ≤ xs.length
    · rw [Nat.min_eq_left hi, List.take_of_length_le (by rw [List.length_drop]; exact Nat.le_refl _)]
    · rw [Nat.min_eq_right (by omega), List.drop_length, List.drop_eq_nil_of_le (by omega)]
      simp
end

/-! ### kinds of things -/
/-- what the written part says of the class of functions and of the built-in ones -/
structure Kf (K : PySem.W.Frag) (C : Addr) : Prop where
  cl : Cls K C
  ca : PySem.W.findIn K (.ref C) "__class__" = some (some (.builtin "object.__class__"))
  cn : PySem.W.specialIn K (.builtin "object.__class__") "__get__" = some (some (.builtin "getset_descriptor.__get__"))
  ct : PySem.W.takesIn K (.builtin "object.__class__") = some true
  cm : PySem.W.mroIn K C (.type "object") = some true
  fi : PySem.W.kitOne K (.ref C) (.type "int") = some false
  fb : PySem.W.kitOne K (.ref C) (.type "bool") = some false
  fs : PySem.W.kitOne K (.ref C) (.type "str") = some false
  ft : PySem.W.kitOne K (.ref C) (.type "tuple") = some false
  ff : PySem.W.kitOne K (.ref C) (.ref C) = some true
  nf : PySem.W.kitOne K (.type "NoneType") (.ref C) = some false
  bf : PySem.W.kitOne K (.type "bool") (.ref C) = some false
  if_ : PySem.W.kitOne K (.type "int") (.ref C) = some false
  sf : PySem.W.kitOne K (.type "str") (.ref C) = some false
  tf : PySem.W.kitOne K (.type "tuple") (.ref C) = some false
  lf : PySem.W.kitOne K (.type "list") (.ref C) = some false
  df : PySem.W.kitOne K (.type "dict") (.ref C) = some false
def Th.isInt : Th → Bool
  | .int _ => true
  | .bl _ => true
  | _ => false
def Th.isBl : Th → Bool
  | .bl _ => true
  | _ => false
def Th.isStr : Th → Bool
  | .str _ => true
  | _ => false
def Th.isTup : Th → Bool
  | .tup _ => true
  | _ => false
def Th.isFn : Th → Bool
  | .fn _ => true
  | _ => false
section
variable {K : PySem.W.Frag} {C : Addr} {H : Hp} {v : V} {t : Th}
theorem is_int (T : Kf K C) (h : Is C H v t) : ∃ u, TyX K H v u ∧ PySem.W.kitOne K u (.type "int") = some t.isInt := by
  cases h with
  | non => exact ⟨_, .base .non, kit_ty (r := false) (by decide +kernel)⟩
  | bl b => exact ⟨_, .base (.bl _), kit_ty (r := true) (by decide +kernel)⟩
  | int i => exact ⟨_, .base (.int _), kit_ty (r := true) (by decide +kernel)⟩
  | str x _ => exact ⟨_, .base (.str _), kit_ty (r := false) (by decide +kernel)⟩
  | tup e _ => exact ⟨_, .base (.tup e), kit_ty (r := false) (by decide +kernel)⟩
  | lst e => exact ⟨_, .base (.lst e), kit_ty (r := false) (by decide +kernel)⟩
  | dct e => exact ⟨_, .base (.dK e), kit_ty (r := false) (by decide +kernel)⟩
  | fn e => exact ⟨_, .base (.ins e T.cl T.ca T.cn T.ct T.cm), T.fi⟩
theorem is_bool (T : Kf K C) (h : Is C H v t) : ∃ u, TyX K H v u ∧ PySem.W.kitOne K u (.type "bool") = some t.isBl := by
  cases h with
  | non => exact ⟨_, .base .non, kit_ty (r := false) (by decide +kernel)⟩
  | bl b => exact ⟨_, .base (.bl _), kit_ty (r := true) (by decide +kernel)⟩
  | int i => exact ⟨_, .base (.int _), kit_ty (r := false) (by decide +kernel)⟩
  | str x _ => exact ⟨_, .base (.str _), kit_ty (r := false) (by decide +kernel)⟩
  | tup e _ => exact ⟨_, .base (.tup e), kit_ty (r := false) (by decide +kernel)⟩
  | lst e => exact ⟨_, .base (.lst e), kit_ty (r := false) (by decide +kernel)⟩
  | dct e => exact ⟨_, .base (.dK e), kit_ty (r := false) (by decide +kernel)⟩
  | fn e => exact ⟨_, .base (.ins e T.cl T.ca T.cn T.ct T.cm), T.fb⟩
theorem is_str (T : Kf K C) (h : Is C H v t) : ∃ u, TyX K H v u ∧ PySem.W.kitOne K u (.type "str") = some t.isStr := by
  cases h with
  | non => exact ⟨_, .base .non, kit_ty (r := false) (by decide +kernel)⟩
  | bl b => exact ⟨_, .base (.bl _), kit_ty (r := false) (by decide +kernel)⟩
  | int i => exact ⟨_, .base (.int _), kit_ty (r := false) (by decide +kernel)⟩
  | str x _ => exact ⟨_, .base (.str _), kit_ty (r := true) (by decide +kernel)⟩
  | tup e _ => exact ⟨_, .base (.tup e), kit_ty (r := false) (by decide +kernel)⟩
  | lst e => exact ⟨_, .base (.lst e), kit_ty (r := false) (by decide +kernel)⟩
  | dct e => exact ⟨_, .base (.dK e), kit_ty (r := false) (by decide +kernel)⟩
  | fn e => exact ⟨_, .base (.ins e T.cl T.ca T.cn T.ct T.cm), T.fs⟩
theorem is_tup (T : Kf K C) (h : Is C H v t) : ∃ u, TyX K H v u ∧ PySem.W.kitOne K u (.type "tuple") = some t.isTup := by
  cases h with
  | non => exact ⟨_, .base .non, kit_ty (r := false) (by decide +kernel)⟩
  | bl b => exact ⟨_, .base (.bl _), kit_ty (r := false) (by decide +kernel)⟩
  | int i => exact ⟨_, .base (.int _), kit_ty (r := false) (by decide +kernel)⟩
  | str x _ => exact ⟨_, .base (.str _), kit_ty (r := false) (by decide +kernel)⟩
  | tup e _ => exact ⟨_, .base (.tup e), kit_ty (r := true) (by decide +kernel)⟩
  | lst e => exact ⟨_, .base (.lst e), kit_ty (r := false) (by decide +kernel)⟩
  | dct e => exact ⟨_, .base (.dK e), kit_ty (r := false) (by decide +kernel)⟩
  | fn e => exact ⟨_, .base (.ins e T.cl T.ca T.cn T.ct T.cm), T.ft⟩
theorem is_fn (T : Kf K C) (h : Is C H v t) : ∃ u, TyX K H v u ∧ PySem.W.kitOne K u (.ref C) = some t.isFn := by
  cases h with
  | non => exact ⟨_, .base .non, T.nf⟩
  | bl b => exact ⟨_, .base (.bl _), T.bf⟩
  | int i => exact ⟨_, .base (.int _), T.if_⟩
  | str x _ => exact ⟨_, .base (.str _), T.sf⟩
  | tup e _ => exact ⟨_, .base (.tup e), T.tf⟩
  | fn e => exact ⟨_, .base (.ins e T.cl T.ca T.cn T.ct T.cm), T.ff⟩
  | lst e => exact ⟨_, .base (.lst e), T.lf⟩
  | dct e => exact ⟨_, .base (.dK e), T.df⟩
end
end Fl
namespace Fl
open PySem PySem.Spec PyProof.Rows L2
def top (i : Nat) : Stmt := PySem.Challenge.pw_floorhall_k02_alike_and_kinds.main.body.getD i (.Pass ⟨0, 0, 0, 0⟩)
abbrev s_is_number : Stmt := top 15
theorem sc_is_number : FnScope ["thing"] ["thing"] (defScope s_is_number) := ⟨rfl, rfl, rfl, by decide +kernel, rfl, by decide +kernel, by decide +kernel⟩
abbrev s_is_word : Stmt := top 16
theorem sc_is_word : FnScope ["thing", "sign"] ["thing"] (defScope s_is_word) := ⟨rfl, rfl, rfl, by decide +kernel, rfl, by decide +kernel, by decide +kernel⟩
abbrev s_is_made_of : Stmt := top 17
theorem sc_is_made_of : FnScope ["thing", "with_functions", "pile", "one"] ["thing", "with_functions"] (defScope s_is_made_of) := ⟨rfl, rfl, rfl, by decide +kernel, rfl, by decide +kernel, by decide +kernel⟩
abbrev s_is_worth : Stmt := top 18
theorem sc_is_worth : FnScope ["thing"] ["thing"] (defScope s_is_worth) := ⟨rfl, rfl, rfl, by decide +kernel, rfl, by decide +kernel, by decide +kernel⟩
abbrev s_is_plain : Stmt := top 19
theorem sc_is_plain : FnScope ["thing"] ["thing"] (defScope s_is_plain) := ⟨rfl, rfl, rfl, by decide +kernel, rfl, by decide +kernel, by decide +kernel⟩
abbrev s_need_worth : Stmt := top 20
theorem sc_need_worth : FnScope ["thing"] ["thing"] (defScope s_need_worth) := ⟨rfl, rfl, rfl, by decide +kernel, rfl, by decide +kernel, by decide +kernel⟩
abbrev s_need_plain : Stmt := top 21
theorem sc_need_plain : FnScope ["thing"] ["thing"] (defScope s_need_plain) := ⟨rfl, rfl, rfl, by decide +kernel, rfl, by decide +kernel, by decide +kernel⟩

abbrev XcP (K : PySem.W.Frag) (x : Str) : Prop := PySem.W.excIn K (He.ga K x) He.veBase "ValueError.__new__" = true ∧ PySem.W.keepIn K (.ref (He.ga K x)) = true ∧
  PySem.W.subIn K (.ref (He.ga K x)) (.type "BaseException") = some true ∧ PySem.W.typeIn K (.ref (He.ga K x)) = some (.type "type")
structure Tw (K : PySem.W.Frag) (mg : Str → Option Value) : Prop where
  kf : Kf K (He.ga K "Function")
  g_Function : mg "Function" = some (.ref (He.ga K "Function"))
  z_isinstance : mg "isinstance" = none
  z_int : mg "int" = none
  z_bool : mg "bool" = none
  z_str : mg "str" = none
  z_tuple : mg "tuple" = none
  z_abs : mg "abs" = none
  z_all : mg "all" = none
  z_len : mg "len" = none
  g_BadWorth : mg "BadWorth" = some (.ref (He.ga K "BadWorth"))
  x_BadWorth : XcP K "BadWorth"
  c_MOST_NUMBER : ∃ u, mg "MOST_NUMBER" = some u ∧ RelV (.int 1000000000) u
  c_MOST_SIGNS : ∃ u, mg "MOST_SIGNS" = some u ∧ RelV (.int 8) u
  c_SMALL : ∃ u, mg "SMALL" = some u ∧ RelV (.str "abcdefghijklmnopqrstuvwxyz") u
abbrev CF (K : PySem.W.Frag) : Addr := He.ga K "Function"
def Th.num : Th → Bool
  | .int i => numB i
  | _ => false
def Th.wrd : Th → Bool
  | .str x => wordB x
  | _ => false
def spNumber (K : PySem.W.Frag) : Sp := sp1 fun v H Q _ => ∃ t, Is (CF K) H v t ∧ Q (.bl t.num) H
def spWord (K : PySem.W.Frag) : Sp := sp1 fun v H Q _ => ∃ t, Is (CF K) H v t ∧ ∀ H', Same H H' → Q (.bl t.wrd) H'
theorem inTF (x : Str) : inV (.str x) [.str sTrue, .str sFalse] = (decide (x = sTrue) || decide (x = sFalse)) := by
  show (sTrue == x || (sFalse == x || false)) = _
  rw [Bool.or_false]
  congr 1
  · by_cases h : x = sTrue
    · rw [h, decide_eq_true rfl, beq_self_eq_true]
    · rw [decide_eq_false h]
      exact beq_eq_false_iff_ne.mpr fun e => h e.symm
  · by_cases h : x = sFalse
    · rw [h, decide_eq_true rfl, beq_self_eq_true]
    · rw [decide_eq_false h]
      exact beq_eq_false_iff_ne.mpr fun e => h e.symm
theorem take_snoc {α : Type} : ∀ {l : List α} {i : Nat} {x : α}, l[i]? = some x → l.take (i + 1) = l.take i ++ [x]
  | [], i, x, h => by simp at h
  | a :: l, 0, x, h => by
    have e : a = x := Option.some.inj h
    rw [e]
    rfl
  | a :: l, i + 1, x, h => by
    have z := take_snoc (l := l) (i := i) (x := x) h
    rw [List.take_succ_cons, z]
    rfl
theorem sign_mem (c : Nat) : decide (c ∈ ("abcdefghijklmnopqrstuvwxyz" : Str).cps.toList) = isSign c := by
  have e : (("abcdefghijklmnopqrstuvwxyz" : Str).cps.toList : List Nat) = List.range' 97 26 := by decide +kernel
  have z : (c ∈ List.range' 97 26) ↔ isSign c = true := by
    rw [List.mem_range'_1]
    unfold isSign
    rw [Bool.and_eq_true, Nat.ble_eq, Nat.ble_eq]
    omega
  cases h : isSign c with
  | true => exact decide_eq_true (by rw [e]; exact z.mpr h)
  | false => exact decide_eq_false (by rw [e]; intro m; rw [z.mp m] at h; cases h)
section
variable {P : Program} {w : World} {K : PySem.W.Frag} {mg : Str → Option Value} {base : Heap}
theorem ok_is_number (F : FnP K mg "is_number" s_is_number) (T : Tw K mg) : Cl P w K mg base 1 "is_number" ["thing"] (spNumber K) := by
  refine cl_1 F sc_is_number (fun _ _ _ _ _ _ us hl => match us, hl with | [_], _ => rfl) fun cdv A outer s H v Q E hr h => ?_
  obtain ⟨t, h, q⟩ := h
  refine ⟨_, PSs.nox (pss_one (ps_ret (pe_and (pe_callB call_isi rfl T.z_isinstance PyProof.Rows.boot_isinstance (pa_cons (pv 0) (pa_cons (pe_bltn (v := .ty "int") rfl T.z_int (by decide +kernel) rfl) pa_nil))) (pe_and (pe_not (pe_callB call_isi rfl T.z_isinstance PyProof.Rows.boot_isinstance (pa_cons (pv 0) (pa_cons (pe_bltn (v := .ty "bool") rfl T.z_bool (by decide +kernel) rfl) pa_nil)))) (pe_one (pe_cmpR op_le (pe_callB call_abs rfl T.z_abs PyProof.Rows.boot_abs (pa_cons (pv 0) pa_nil)) (pe_gk rfl T.c_MOST_NUMBER) (nomark _))))))), ?_⟩
  obtain ⟨u1, y1, k1⟩ := is_int T.kf h
  obtain ⟨u2, y2, k2⟩ := is_bool T.kf h
  refine ⟨v, rfl, v, _, u1, _, _, rfl, .ty _, y1, k1, _, rfl, ?_⟩
  cases h with
  | int i =>
    refine iteT ⟨_, rfl, _, _, u2, _, _, rfl, .ty _, y2, k2, _, rfl, _, rfl, iteT ?_⟩
    refine ⟨_, rfl, _, rfl, _, _, rfl, rfl, ?_⟩
    have e : decide ((if i < 0 then -i else i) ≤ 1000000000) = numB i := by
      unfold numB
      rw [← Bool.decide_and]
      refine decide_eq_decide.mpr ?_
      split <;> omega
    show Q (.bl (decide ((if i < 0 then -i else i) ≤ 1000000000))) H
    rw [e]
    exact q
  | bl b => exact iteT ⟨_, rfl, _, _, u2, _, _, rfl, .ty _, y2, k2, _, rfl, _, rfl, iteF q⟩
  | non => exact iteF q
  | str x _ => exact iteF q
  | tup _ _ => exact iteF q
  | fn _ => exact iteF q
  | lst _ => exact iteF q
  | dct _ => exact iteF q
theorem ok_is_word (F : FnP K mg "is_word" s_is_word) (T : Tw K mg) : Cl P w K mg base 1 "is_word" ["thing"] (spWord K) := by
  refine cl_1 F sc_is_word (fun _ _ _ _ _ _ us hl => match us, hl with | [_], _ => rfl) fun cdv A outer s H v Q E hr h => ?_
  obtain ⟨t, h, q⟩ := h
  refine ⟨_, PSs.nox (pss_cons (ps_if (PW.pt (pw_or (pt_not (pt_val (pe_callB call_isi rfl T.z_isinstance PyProof.Rows.boot_isinstance (pa_cons (pv 0) (pa_cons (pe_bltn (v := .ty "str") rfl T.z_str (by decide +kernel) rfl) pa_nil))))) (pw_or (pt_not (pt_chain op_le op_le pe_int (pe_callB call_len_str rfl T.z_len PySem.boot_len (pa_cons (pv 0) pa_nil)) (pe_gk rfl T.c_MOST_SIGNS))) (pw_or1 (pt_cmpR op_in_seq (pv 0) (pe_tup (pa_cons pe_str (pa_cons pe_str pa_nil))) rfl))))) (pss_one (ps_ret pe_bl)) pss_nil) (pss_one (ps_ret (pe_callB (cr_all rfl) rfl T.z_all PyProof.Rows.boot_all (pa_cons (pe_lc (own := [("sign", 1)]) (g := gName 1) (tt := tYes) rfl sc_is_word.nd (pi_str (pv 0)) (blkOk_by (own := [("sign", 1)]) (N := ["thing", "sign"]) (sc := defScope s_is_word) (by decide +kernel)) (fun _ _ _ _ _ => (pg_name (i := 1) sc_is_word.nd rfl (Or.inl rfl))) (fun _ _ _ _ _ => pts_nil) (fun _ _ _ _ _ => (pe_cmpR op_in_sign (pv 1) (pe_gk rfl T.c_SMALL) rfl))) pa_nil))))), ?_⟩
  obtain ⟨u1, y1, k1⟩ := is_str T.kf h
  refine ⟨v, rfl, v, _, u1, _, _, rfl, .ty _, y1, k1, _, rfl, ?_⟩
  cases h with
  | str x hx =>
    refine iteF ⟨_, rfl, x, rfl, Nat.le_trans hx (by decide), _, _, rfl, rfl, _, rfl, ite2 (fun c1 => ?_) (fun c1 => ?_)⟩
    case refine_2 =>
      refine ⟨_, rfl, iteT (iteT ?_)⟩
      have e : (Th.str x).wrd = false := by
        show wordB x = false
        unfold wordB
        rw [decide_eq_false (by intro z; exact c1 (decide_eq_true (by omega))), Bool.false_and]
      rw [← e]
      exact q _ (.refl _)
    refine ⟨_, _, rfl, rfl, _, rfl, ite2 (fun c2 => ?_) (fun c2 => ?_)⟩
    · refine iteT ?_
      have c3 : ¬ x.length ≤ 8 := by
        intro z
        rw [decide_eq_true (by omega)] at c2
        exact Bool.noConfusion c2
      have e : (Th.str x).wrd = false := by
        show wordB x = false
        unfold wordB
        rw [decide_eq_false c3, Bool.false_and, Bool.and_false]
      rw [← e]
      exact q _ (.refl _)
    have d1 : 1 ≤ x.length := by
      have := of_decide_eq_true c1
      omega
    have d2 : x.length ≤ 8 := by
      have z : ¬ (!decide ((x.length : Int) ≤ 8)) = true := c2
      rw [Bool.not_eq_true', decide_eq_false_iff_not] at z
      omega
    refine ⟨_, rfl, (by show 2 ≤ sizeLine; decide), fun p np => ⟨p, _, rfl, .inr (SqT.of upd_same), rfl, rfl, _, rfl, ?_⟩⟩
    have s1 : Same H (upd H p (.tup [.str sTrue, .str sFalse])) := same_new np _
    have ein : inV (.str x) [.str sTrue, .str sFalse] = (decide (x = sTrue) || decide (x = sFalse)) := inTF x
    show (if (if false = true then !inV (.str x) [.str sTrue, .str sFalse] else inV (.str x) [.str sTrue, .str sFalse]) = true then _ else _)
    rw [if_neg Bool.false_ne_true, ein]
    refine ite2 (fun c3 => ?_) (fun c3 => ?_)
    · have e : (Th.str x).wrd = false := by
        show wordB x = false
        unfold wordB
        rcases Bool.or_eq_true_iff.mp c3 with z | z <;> rw [z] <;> simp
      rw [← e]
      exact q _ s1
    rw [Bool.or_eq_true, not_or, Bool.not_eq_true, Bool.not_eq_true] at c3
    refine ⟨_, rfl, x, rfl, fun D nD => lc_it walk_str (fun i H' => Same H H' ∧ H' D = some (.lst (((x.cps.toList.take i).map isSign).map V.bl)) ∧ H D = none) ⟨s1.trans (same_new nD _), upd_same, s1.free nD⟩ (fun _ _ _ _ => trivial) ?_ ?_⟩
    · rintro i y H1 H2 hi ⟨r1, r2, r3⟩ ⟨rfl, c, hc, rfl⟩
      refine ⟨rfl, _, rfl, c, _, rfl, rfl, _, r2, ?_, same_mut r1 r3, ?_, r3⟩
      · rw [List.length_map, List.length_map]
        have := List.length_take_le' i x.cps.toList
        have e8 : x.cps.toList.length ≤ 8 := by
          rw [Array.length_toList]
          exact d2
        exact small1000 (by omega)
      · have hc' : x.cps.toList[i]? = some c := by
          rw [Array.getElem?_toList]
          exact hc
        rw [upd_same, take_snoc hc', List.map_append, List.map_append]
        show some (HO.lst (_ ++ [V.bl (decide (c ∈ ("abcdefghijklmnopqrstuvwxyz" : Str).cps.toList))])) = _
        rw [sign_mem c]
        rfl
    · rintro H1 ⟨r1, r2, r3⟩
      refine ⟨D, _, rfl, SqL.of r2, ?_⟩
      have e : (((x.cps.toList.take x.cps.size).map isSign).all id) = (Th.str x).wrd := by
        rw [← Array.length_toList, List.take_length, List.all_map]
        show x.cps.toList.all isSign = wordB x
        unfold wordB
        rw [decide_eq_true d1, decide_eq_true d2, c3.1, c3.2]
        rfl
      rw [e]
      exact q _ r1
  | int i => exact iteT (iteT (q _ (.refl _)))
  | bl b => exact iteT (iteT (q _ (.refl _)))
  | non => exact iteT (iteT (q _ (.refl _)))
  | tup _ _ => exact iteT (iteT (q _ (.refl _)))
  | fn _ => exact iteT (iteT (q _ (.refl _)))
  | lst _ => exact iteT (iteT (q _ (.refl _)))
  | dct _ => exact iteT (iteT (q _ (.refl _)))
def spMade (K : PySem.W.Frag) : Sp := sp2 fun v b H Q _ => ∃ t f, b = .bl f ∧ Is (CF K) H v t ∧ t.nodes ≤ 1000000 ∧ ∀ H', Same H H' → Q (.bl (t.worth f)) H'
def MadeW (C : Addr) (H : Hp) (v : V) (f : Bool) (p : Addr) (t : Th) : Nat → L2.St → Hp → Prop := fun m σ H1 =>
  ∃ (xs : List V) (ts : List Th) (o : Option V), σ = [some v, some (.bl f), some (.ref p), o] ∧ Same H H1 ∧ H1 p = some (.lst xs) ∧ Iss C H xs ts ∧ m = Th.nodesL ts ∧ m ≤ 1000000 ∧ Th.worths f ts = t.worth f
theorem ok_is_made_of (F : FnP K mg "is_made_of" s_is_made_of) (T : Tw K mg) (B_is_number : Cl P w K mg base 1 "is_number" ["thing"] (spNumber K)) (B_is_word : Cl P w K mg base 1 "is_word" ["thing"] (spWord K)) :
    Cl P w K mg base 2 "is_made_of" ["thing", "with_functions"] (spMade K) := by
  refine cl_2 F sc_is_made_of (fun _ _ _ _ _ _ us hl => match us, hl with | [_, _], _ => rfl) fun cdv A outer s H v b Q E hr h => ?_
  obtain ⟨t, f, rfl, h, hn, q⟩ := h
  refine ⟨_, PSs.nox (pss_cons (ps_set (i := 2) sc_is_made_of.nd rfl (Or.inl rfl) (pe_lst (pa_cons (pv 0) pa_nil))) (pss_cons (ps_while PassesOwn.never (pt_cmpR (op_neNil hr.units0) (pv 2) (pe_lst pa_nil) (nomark _)) (pss_cons (ps_set (i := 3) sc_is_made_of.nd rfl (Or.inl rfl) (pe_bm0 PySem.F.plainAttrs_list PySem.F.slot_list_pop PySem.F.type_list_pop mt_pop (pv 2))) (pss_one (ps_if (pt_val (pe_callB call_isi rfl T.z_isinstance PyProof.Rows.boot_isinstance (pa_cons (pv 3) (pa_cons (pe_bltn (v := .ty "tuple") rfl T.z_tuple (by decide +kernel) rfl) pa_nil)))) (pss_one (ps_expr (pe_bm PySem.F.plainAttrs_list PySem.F.slot_list_extend PySem.F.type_list_extend (mt_extT) (pv 2) (pa_cons (pv 3) pa_nil)))) (pss_one (ps_if (pt_val (pe_callB call_isi rfl T.z_isinstance PyProof.Rows.boot_isinstance (pa_cons (pv 3) (pa_cons (pe_glob (v := .ref (He.ga K "Function")) rfl T.g_Function rfl) pa_nil)))) (pss_one (ps_if (pt_not (pt_val (pv 1))) (pss_one (ps_ret pe_bl)) pss_nil)) (pss_one (ps_if (PW.pt (pw_and (pt_not (pt_val (pe_callB call_isi rfl T.z_isinstance PyProof.Rows.boot_isinstance (pa_cons (pv 3) (pa_cons (pe_bltn (v := .ty "bool") rfl T.z_bool (by decide +kernel) rfl) pa_nil))))) (pw_and (pt_not (pt_val (pe_b B_is_number hr (by omega) rfl passL (pa_cons (pv 3) pa_nil)))) (pw_and1 (pt_not (pt_val (pe_b B_is_word hr (by omega) rfl passL (pa_cons (pv 3) pa_nil)))))))) (pss_one (ps_ret pe_bl)) pss_nil)))))))) (pss_one (ps_ret pe_bl)))), ?_⟩
  refine ⟨_, rfl, (by show 1 ≤ sizeLine; decide), fun p np => ?_⟩
  refine ⟨MadeW (CF K) H v f p t, ⟨_, [v], [t], none, rfl, same_new np _, upd_same, .one h, rfl, by simpa [Th.nodesL] using hn, by simp [Th.worths]⟩, ?_⟩
  rintro m σ H1 ⟨xs, ts, o, rfl, s1, hp, hi, rfl, hm, hw⟩
  refine ⟨_, rfl, (by show 0 ≤ sizeLine; decide), fun d nd => ⟨p, d, xs, rfl, rfl, SqL.of (by rw [upd_ne (ne_of_none hp nd)]; exact hp), SqL.of upd_same, _, rfl, ?_⟩⟩
  have s2 : Same H (upd H1 d (.lst [])) := s1.trans (same_new nd _)
  have hp2 : upd H1 d (.lst []) p = some (.lst xs) := by
    rw [upd_ne (ne_of_none hp nd)]
    exact hp
  by_cases hx : xs = []
  · subst hx
    cases hi
    refine iteF ?_
    have e : t.worth f = true := hw.symm
    rw [e] at q
    exact q _ s2
  obtain ⟨ys, y, us, u, rfl, rfl, h1, h2⟩ := hi.last hx
  have hne : (!(ys ++ [y]).isEmpty) = true := by cases ys <;> rfl
  show (if (!(ys ++ [y]).isEmpty) = true then _ else _)
  rw [hne]
  refine iteT ?_
  rw [nodesL_app] at hm
  rw [worths_app] at hw
  have eu : Th.nodesL [u] = u.nodes := by simp [Th.nodesL]
  have ew : Th.worths f [u] = u.worth f := by simp [Th.worths]
  rw [eu] at hm
  rw [ew] at hw
  have up := u.nodes_pos
  have hyl : ys.length ≤ Th.nodesL us := by
    rw [h1.len]
    exact len_nodesL us
  refine ⟨_, fun σ' H' z => z, ?_⟩
  refine ⟨_, rfl, .inl ⟨rfl, _, .inl (.inl hp2)⟩, p, _, y, rfl, rfl, hp2, (by simp), ?_⟩
  rw [List.dropLast_concat]
  have s3 : Same H (upd (upd H1 d (.lst [])) p (.lst ys)) := same_mut s2 np
  have hp3 : upd (upd H1 d (.lst [])) p (.lst ys) p = some (.lst ys) := upd_same
  obtain ⟨u1, y1, k1⟩ := is_tup T.kf (h2.same s3)
  obtain ⟨u2, y2, k2⟩ := is_fn T.kf (h2.same s3)
  obtain ⟨u3, y3, k3⟩ := is_bool T.kf (h2.same s3)
  refine ⟨y, rfl, y, _, u1, _, _, rfl, .ty _, y1, k1, _, rfl, ?_⟩
  have good : u.worth f = true → ∀ H', Same H H' → H' p = some (.lst ys) → ∃ m', m' < Th.nodesL (us ++ [u]) ∧ MadeW (CF K) H v f p t m' [some v, some (.bl f), some (.ref p), some y] H' := fun e H' s5 hp5 =>
    ⟨Th.nodesL us, by rw [nodesL_app, eu]; omega, ys, us, _, rfl, s5, hp5, h1, rfl, by omega, by rw [← hw, e, Bool.and_true]⟩
  have bad : u.worth f = false → ∀ H', Same H H' → Q (.bl false) H' := fun e H' s5 => by
    have e2 : t.worth f = false := by rw [← hw, e, Bool.and_false]
    rw [e2] at q
    exact q _ s5
  cases h2 with
  | tup ht hts =>
    rename_i p2 zs l
    refine iteT ?_
    refine ⟨_, rfl, .inl ⟨rfl, _, .inl (.inl hp3)⟩, _, rfl, p, p2, ys, zs, rfl, rfl, hp3, SqT.of (s3 _ _ ht), ?_, ?_⟩
    · have e1 := hts.len
      have e2 := len_nodesL l
      simp only [Th.nodes] at hm
      rw [sizeLine_eq]
      omega
    refine ⟨Th.nodesL (us ++ l), ?_, ys ++ zs, us ++ l, _, rfl, same_mut s3 np, upd_same, h1.app hts, rfl, ?_, ?_⟩
    · rw [nodesL_app, nodesL_app, eu]
      simp only [Th.nodes]
      omega
    · rw [nodesL_app]
      simp only [Th.nodes] at hm
      omega
    · rw [worths_app]
      simpa [Th.worth] using hw
  | fn ha =>
    refine iteF ?_
    refine ⟨_, rfl, _, _, u2, _, _, rfl, .own _, y2, k2, _, rfl, iteT ?_⟩
    refine ⟨_, rfl, f, rfl, ?_⟩
    cases f with
    | true => exact iteF (good rfl _ s3 hp3)
    | false => exact iteT (bad rfl _ s3)
  | bl c =>
    refine iteF ⟨_, rfl, _, _, u2, _, _, rfl, .own _, y2, k2, _, rfl, iteF ?_⟩
    exact ⟨_, rfl, _, _, u3, _, _, rfl, .ty _, y3, k3, _, rfl, iteF (iteF (good rfl _ s3 hp3))⟩
  | int i =>
    refine iteF ⟨_, rfl, _, _, u2, _, _, rfl, .own _, y2, k2, _, rfl, iteF ?_⟩
    refine ⟨_, rfl, _, _, u3, _, _, rfl, .ty _, y3, k3, _, rfl, iteT ?_⟩
    refine ⟨_, rfl, _, rfl, _, .int i, _, rfl, ?_⟩
    cases e : numB i with
    | true =>
      show (if (!numB i) = true then _ else _)
      rw [e]
      exact iteF (iteF (good e _ s3 hp3))
    | false =>
      show (if (!numB i) = true then _ else _)
      rw [e]
      refine iteT ⟨_, rfl, _, rfl, _, .int i, fun H' s4 => ⟨_, rfl, iteT (bad e _ (s3.trans s4))⟩⟩
  | str x hxl =>
    refine iteF ⟨_, rfl, _, _, u2, _, _, rfl, .own _, y2, k2, _, rfl, iteF ?_⟩
    refine ⟨_, rfl, _, _, u3, _, _, rfl, .ty _, y3, k3, _, rfl, iteT ?_⟩
    refine ⟨_, rfl, _, rfl, _, .str x hxl, _, rfl, iteT ⟨_, rfl, _, rfl, _, .str x hxl, fun H' s4 => ⟨_, rfl, ?_⟩⟩⟩
    cases e : wordB x with
    | true =>
      show (if (!wordB x) = true then _ else _)
      rw [e]
      exact iteF (good e _ (s3.trans s4) (s4 _ _ hp3))
    | false =>
      show (if (!wordB x) = true then _ else _)
      rw [e]
      exact iteT (bad e _ (s3.trans s4))
  | non =>
    refine iteF ⟨_, rfl, _, _, u2, _, _, rfl, .own _, y2, k2, _, rfl, iteF ?_⟩
    refine ⟨_, rfl, _, _, u3, _, _, rfl, .ty _, y3, k3, _, rfl, iteT ?_⟩
    exact ⟨_, rfl, _, rfl, _, .non, _, rfl, iteT ⟨_, rfl, _, rfl, _, .non, fun H' s4 => ⟨_, rfl, iteT (bad rfl _ (s3.trans s4))⟩⟩⟩
  | lst ha =>
    refine iteF ⟨_, rfl, _, _, u2, _, _, rfl, .own _, y2, k2, _, rfl, iteF ?_⟩
    refine ⟨_, rfl, _, _, u3, _, _, rfl, .ty _, y3, k3, _, rfl, iteT ?_⟩
    exact ⟨_, rfl, _, rfl, _, .lst (s3 _ _ ha), _, rfl, iteT ⟨_, rfl, _, rfl, _, .lst (s3 _ _ ha), fun H' s4 => ⟨_, rfl, iteT (bad rfl _ (s3.trans s4))⟩⟩⟩
  | dct ha =>
    refine iteF ⟨_, rfl, _, _, u2, _, _, rfl, .own _, y2, k2, _, rfl, iteF ?_⟩
    refine ⟨_, rfl, _, _, u3, _, _, rfl, .ty _, y3, k3, _, rfl, iteT ?_⟩
    exact ⟨_, rfl, _, rfl, _, .dct (s3 _ _ ha), _, rfl, iteT ⟨_, rfl, _, rfl, _, .dct (s3 _ _ ha), fun H' s4 => ⟨_, rfl, iteT (bad rfl _ (s3.trans s4))⟩⟩⟩
/-- is_worth, is_plain -/
def spIs (K : PySem.W.Frag) (f : Bool) : Sp := sp1 fun v H Q _ => ∃ t, Is (CF K) H v t ∧ t.nodes ≤ 1000000 ∧ ∀ H', Same H H' → Q (.bl (t.worth f)) H'
theorem ok_is_worth (F : FnP K mg "is_worth" s_is_worth) (B_is_made_of : Cl P w K mg base 2 "is_made_of" ["thing", "with_functions"] (spMade K)) : Cl P w K mg base 3 "is_worth" ["thing"] (spIs K true) := by
  refine cl_1 F sc_is_worth (fun _ _ _ _ _ _ us hl => match us, hl with | [_], _ => rfl) fun cdv A outer s H v Q E hr h => ?_
  obtain ⟨t, h, hn, q⟩ := h
  exact ⟨_, PSs.nox (pss_one (ps_ret (pe_b B_is_made_of hr (by omega) rfl passL (pa_cons (pv 0) (pa_cons pe_bl pa_nil))))), _, rfl, _, _, rfl, t, true, rfl, h, hn, q⟩
theorem ok_is_plain (F : FnP K mg "is_plain" s_is_plain) (B_is_made_of : Cl P w K mg base 2 "is_made_of" ["thing", "with_functions"] (spMade K)) : Cl P w K mg base 3 "is_plain" ["thing"] (spIs K false) := by
  refine cl_1 F sc_is_plain (fun _ _ _ _ _ _ us hl => match us, hl with | [_], _ => rfl) fun cdv A outer s H v Q E hr h => ?_
  obtain ⟨t, h, hn, q⟩ := h
  exact ⟨_, PSs.nox (pss_one (ps_ret (pe_b B_is_made_of hr (by omega) rfl passL (pa_cons (pv 0) (pa_cons pe_bl pa_nil))))), _, rfl, _, _, rfl, t, false, rfl, h, hn, q⟩
/-- need_worth, need_plain: the thing, or BadWorth -/
def spNeed (K : PySem.W.Frag) (f : Bool) : Sp := sp1 fun v H Q E => ∃ t, Is (CF K) H v t ∧ t.nodes ≤ 1000000 ∧ (t.worth f = true → ∀ H', Same H H' → Q v H') ∧ (t.worth f = false → ∀ H', Same H H' → E (.ref (He.ga K "BadWorth")) none H')
theorem ok_need_worth (F : FnP K mg "need_worth" s_need_worth) (T : Tw K mg) (B_is_worth : Cl P w K mg base 3 "is_worth" ["thing"] (spIs K true)) : Cl P w K mg base 4 "need_worth" ["thing"] (spNeed K true) := by
  refine cl_1 F sc_need_worth (fun _ _ _ _ _ _ us hl => match us, hl with | [_], _ => rfl) fun cdv A outer s H v Q E hr h => ?_
  obtain ⟨t, h, hn, q, qe⟩ := h
  refine ⟨_, (pss_cons (ps_if (pt_not (pt_val (pe_b B_is_worth hr (by omega) rfl passL (pa_cons (pv 0) pa_nil)))) (pss_one (ps_raise rfl (takes_of rfl rfl rfl rfl) (pmk_own PySem.F.excBase_ValueError T.x_BadWorth.1 T.g_BadWorth T.x_BadWorth.2.1 (raises_own T.x_BadWorth.2.2.1 T.x_BadWorth.2.2.2) rfl))) pss_nil) (pss_one (ps_ret (pv 0)))), ?_⟩
  refine ⟨_, rfl, _, rfl, t, h, hn, fun H' s1 => ⟨_, rfl, ?_⟩⟩
  cases e : t.worth true with
  | true => exact iteF ⟨_, rfl, q e _ s1⟩
  | false => exact iteT (qe e _ s1)
theorem ok_need_plain (F : FnP K mg "need_plain" s_need_plain) (T : Tw K mg) (B_is_plain : Cl P w K mg base 3 "is_plain" ["thing"] (spIs K false)) : Cl P w K mg base 4 "need_plain" ["thing"] (spNeed K false) := by
  refine cl_1 F sc_need_plain (fun _ _ _ _ _ _ us hl => match us, hl with | [_], _ => rfl) fun cdv A outer s H v Q E hr h => ?_
  obtain ⟨t, h, hn, q, qe⟩ := h
  refine ⟨_, (pss_cons (ps_if (pt_not (pt_val (pe_b B_is_plain hr (by omega) rfl passL (pa_cons (pv 0) pa_nil)))) (pss_one (ps_raise rfl (takes_of rfl rfl rfl rfl) (pmk_own PySem.F.excBase_ValueError T.x_BadWorth.1 T.g_BadWorth T.x_BadWorth.2.1 (raises_own T.x_BadWorth.2.2.1 T.x_BadWorth.2.2.2) rfl))) pss_nil) (pss_one (ps_ret (pv 0)))), ?_⟩
  refine ⟨_, rfl, _, rfl, t, h, hn, fun H' s1 => ⟨_, rfl, ?_⟩⟩
  cases e : t.worth false with
  | true => exact iteF ⟨_, rfl, q e _ s1⟩
  | false => exact iteT (qe e _ s1)
end
end Fl
namespace Fl
open PySem PySem.Spec PyProof.Rows L2
abbrev s_law_mixed : Stmt := top 27
theorem sc_law_mixed : FnScope ["_law_cell", "_law_k"] ["_law_cell", "_law_k"] (defScope s_law_mixed) := ⟨rfl, rfl, rfl, by decide +kernel, rfl, by decide +kernel, by decide +kernel⟩
abbrev s_law_begun : Stmt := top 28
theorem sc_law_begun : FnScope ["_law_script", "_law_cell"] ["_law_script"] (defScope s_law_begun) := ⟨rfl, rfl, rfl, by decide +kernel, rfl, by decide +kernel, by decide +kernel⟩
abbrev s_law_next : Stmt := top 29
theorem sc_law_next : FnScope ["_law_state", "_law_k", "_law_at", "_law_number"] ["_law_state"] (defScope s_law_next) := ⟨rfl, rfl, rfl, by decide +kernel, rfl, by decide +kernel, by decide +kernel⟩

def kCells : Key := Sum.inr "cells"
def kLeft : Key := Sum.inr "left"
def kAt : Key := Sum.inr "at"
theorem p31 : (0 : Int) < 2147483647 := by decide
theorem p1000 : (0 : Int) < 1000 := by decide
theorem p50 : (0 : Int) < 50 := by decide
theorem ixN_nat {n j : Nat} (h : j < n) : ixN n (j : Int) = some j := by
  unfold ixN
  rw [if_pos (by omega), if_pos (by omega)]
  rfl
theorem p32 : (0 : Int) < 2147483629 := by decide
/-- the script: locked, or one of the module's own objects -/
def Scr (K : PySem.W.Frag) (H : Hp) (a : Addr) (xs : List V) : Prop := (∃ o, H a = some (.frz o (.lst xs))) ∨ ∀ H', SqL K H' a xs
theorem Scr.sq {K : PySem.W.Frag} {H : Hp} {a : Addr} {xs : List V} (h : Scr K H a xs) : SqL K H a xs := by
  rcases h with ⟨o, h⟩ | h
  · exact .inl (.inr ⟨o, h⟩)
  · exact h H
theorem Scr.same {K : PySem.W.Frag} {H H' : Hp} {a : Addr} {xs : List V} (h : Scr K H a xs) (s : Same H H') : Scr K H' a xs := by
  rcases h with ⟨o, h⟩ | h
  · exact .inl ⟨o, s _ _ h⟩
  · exact .inr h
theorem scr_of {K : PySem.W.Frag} {H : Hp} {a : Addr} {xs : List V} (o : Only H) (h : SqL K H a xs) : Scr K H a xs := by
  rcases h with (h | ⟨ob, h⟩) | h
  · rcases o a with z | ⟨_, _, z⟩ <;> rw [h] at z <;> cases z
  · exact .inl ⟨ob, h⟩
  · exact .inr fun _ => .inr h
/-- the dict at d holds the script at a, what is left at l, how often it was drawn -/
def Dr (K : PySem.W.Frag) (d l a : Addr) (ns : List Int) (H : Hp) : Prop := ∃ (ls : List Int) (n : Int), H d = some (.dK [(kCells, .ref a), (kLeft, .ref l), (kAt, .int n)]) ∧ Scr K H a (ns.map V.int) ∧ H l = some (.lst (ls.map V.int)) ∧
  ls.length = ns.length ∧ (∀ z ∈ ls, 0 ≤ z) ∧ 0 ≤ n
theorem Dr.same {K : PySem.W.Frag} {d l a : Addr} {ns : List Int} {H H' : Hp} (r : Dr K d l a ns H) (s : Same H H') : Dr K d l a ns H' := by
  obtain ⟨ls, n, h1, h2, h3, h4, h5, h6⟩ := r
  exact ⟨ls, n, s _ _ h1, h2.same s, s _ _ h3, h4, h5, h6⟩
/-- all but what the draws change is as it was -/
def Fr (d l : Addr) (H H' : Hp) : Prop := ∀ b o, b ≠ d → b ≠ l → H b = some o → H' b = some o
theorem Fr.refl (d l : Addr) (H : Hp) : Fr d l H H := fun _ _ _ _ e => e
theorem Fr.trans {d l : Addr} {H H1 H2 : Hp} (a : Fr d l H H1) (b : Fr d l H1 H2) : Fr d l H H2 := fun x o h1 h2 e => b x o h1 h2 (a x o h1 h2 e)
theorem fr_same {d l : Addr} {H H' : Hp} (s : Same H H') : Fr d l H H' := fun x o _ _ e => s x o e
theorem val_at {a l : Addr} {n : Int} : valV [(kCells, V.ref a), (kLeft, .ref l), (kAt, .int n)] kAt = some (.int n) := by rfl
theorem val_left {a l : Addr} {n : Int} : valV [(kCells, V.ref a), (kLeft, .ref l), (kAt, .int n)] kLeft = some (.ref l) := by rfl
theorem val_cells {a l : Addr} {n : Int} : valV [(kCells, V.ref a), (kLeft, .ref l), (kAt, .int n)] kCells = some (.ref a) := by rfl
theorem put_at {a l : Addr} {n m : Int} : putK [(kCells, V.ref a), (kLeft, .ref l), (kAt, .int n)] kAt (.int m) = [(kCells, V.ref a), (kLeft, .ref l), (kAt, .int m)] := by rfl
theorem map_at {α β : Type} {f : α → β} {l : List α} {i : Nat} {y : β} (h : (l.map f)[i]? = some y) : ∃ z, l[i]? = some z ∧ y = f z := by
  rw [List.getElem?_map] at h
  cases e : l[i]? with
  | none =>
    rw [e] at h
    cases h
  | some z =>
    rw [e] at h
    exact ⟨z, rfl, (Option.some.inj h).symm⟩
def spMixed : Sp := sp2 fun v b H Q _ => ∃ c k : Int, v = .int c ∧ b = .int k ∧ 0 ≤ k ∧ k < 1000 ∧ ∀ r : Int, 0 ≤ r → r < 2147483629 → Q (.int r) H
structure Td (mg : Str → Option Value) : Prop where
  z_len : mg "len" = none
section
variable {P : Program} {w : World} {K : PySem.W.Frag} {mg : Str → Option Value} {base : Heap}
theorem ok_law_mixed (F : FnP K mg "_law_mixed" s_law_mixed) : Cl P w K mg base 1 "_law_mixed" ["_law_cell", "_law_k"] spMixed := by
  refine cl_2 F sc_law_mixed (fun _ _ _ _ _ _ us hl => match us, hl with | [_, _], _ => rfl) fun cdv A outer s H v b Q E hr h => ?_
  obtain ⟨c, k, rfl, rfl, h0, h1, q⟩ := h
  refine ⟨_, PSs.nox (pss_one (ps_ret (pe_op op_mod (pe_op op_mul (pe_op op_mod (pe_op op_add (pe_op op_add (pe_op op_mul (pv 0) (pe_op op_add pe_int (pe_op op_mul (pe_op op_mul pe_int (pv 1)) (pv 1)))) (pe_op op_mul pe_int (pv 1))) pe_int) pe_int) pe_int) pe_int))), ?_⟩
  have k2 : 0 ≤ 2 * k * k ∧ 2 * k * k ≤ 2000000 := by
    have z1 : k * k ≤ 1000 * k := Int.mul_le_mul_of_nonneg_right (by omega) h0
    have z0 : 0 ≤ k * k := Int.mul_nonneg h0 h0
    rw [Int.mul_assoc]
    omega
  refine ⟨_, rfl, _, rfl, _, _, rfl, rfl, .inr ⟨by omega, by omega⟩, _, rfl, _, _, rfl, rfl, .inl ⟨by omega, by omega⟩, ?_⟩
  refine ⟨_, _, rfl, rfl, _, _, rfl, rfl, .inr ⟨by omega, by omega⟩, _, rfl, _, _, rfl, rfl, .inr ⟨by omega, by omega⟩, _, _, rfl, rfl, _, _, rfl, rfl, ?_⟩
  refine ⟨_, _, rfl, rfl, p31, _, _, rfl, rfl, .inr ⟨by decide, by decide⟩, _, _, rfl, rfl, p32, ?_⟩
  exact q _ (Int.emod_nonneg _ (by decide)) (Int.emod_lt_of_pos _ (by decide))
/-- what _law_begun makes -/
def spBegun (K : PySem.W.Frag) : Sp := sp1 fun v H Q _ => ∃ a ns, v = .ref a ∧ Scr K H a (ns.map V.int) ∧ ns.length ≤ 63 ∧ ∀ d l H', Dr K d l a ns H' → Same H H' → H d = none → H l = none → Q (.ref d) H'
theorem ok_law_begun (F : FnP K mg "_law_begun" s_law_begun) : Cl P w K mg base 1 "_law_begun" ["_law_script"] (spBegun K) := by
  refine cl_1 F sc_law_begun (fun _ _ _ _ _ _ us hl => match us, hl with | [_], _ => rfl) fun cdv A outer s H v Q E hr h => ?_
  obtain ⟨a, ns, rfl, hS, hn, q⟩ := h
  refine ⟨_, PSs.nox (pss_one (ps_ret (pe_disp (pps_cons pe_str (pv 0) (pps_cons pe_str (pe_lc (own := [("_law_cell", 1)]) (g := gName 1) (tt := tYes) rfl sc_law_begun.nd (pi_list (pv 0)) (blkOk_by (own := [("_law_cell", 1)]) (N := ["_law_script", "_law_cell"]) (sc := defScope s_law_begun) (by decide +kernel)) (fun _ _ _ _ _ => (pg_name (i := 1) sc_law_begun.nd rfl (Or.inl rfl))) (fun _ _ _ _ _ => pts_nil) (fun _ _ _ _ _ => (pe_ifExp (pt_cmpR op_ge (pv 1) (pe_op op_pow pe_int pe_int) (nomark _)) (pv 1) pe_int))) (pps_cons pe_str pe_int pps_nil))) (by rfl) (by rfl) (fun z => by cases z) (by decide)))), ?_⟩
  refine fun d nd => ⟨_, rfl, _, rfl, a, rfl, ⟨_, (same_new nd _).seq hS.sq⟩, fun D nD => ?_⟩
  have sd := same_new nd (.dK [])
  have nD0 : H D = none := sd.free nD
  have ned : d ≠ D := fun e => by
    rw [e, upd_same] at nD
    cases nD
  refine lc_list (K := K) (a := a) (xs := ns.map V.int) (fun i H' => ∃ ls : List Int, Same H H' ∧ H' d = some (.dK []) ∧ H' D = some (.lst (ls.map V.int)) ∧ ls.length = i ∧ i ≤ 63 ∧ ∀ z ∈ ls, 0 ≤ z)
    ⟨[], sd.trans (same_new nD _), by rw [upd_ne ned]; exact upd_same, upd_same, rfl, Nat.zero_le _, List.forall_mem_nil _⟩ (fun i H' _ z => by obtain ⟨_, z, _⟩ := z; exact z.seq hS.sq) ?_ ?_
  · rintro i y H1 hi ⟨ls, r1, r2, r3, r4, r5, r6⟩
    obtain ⟨z, hz, rfl⟩ := map_at hi
    have hi63 : i < 63 := Nat.lt_of_lt_of_le (List.getElem?_eq_some_iff.mp hz).1 hn
    have step : ∀ m : Int, 0 ≤ m → ∃ ls' : List Int, Same H (upd H1 D (.lst (ls.map V.int ++ [V.int m]))) ∧ upd H1 D (.lst (ls.map V.int ++ [V.int m])) d = some (.dK []) ∧ upd H1 D (.lst (ls.map V.int ++ [V.int m])) D = some (.lst (ls'.map V.int)) ∧ ls'.length = i + 1 ∧ i + 1 ≤ 63 ∧ ∀ z ∈ ls', 0 ≤ z := fun m hm =>
      ⟨ls ++ [m], same_mut r1 nD0, by rw [upd_ne ned]; exact r2, by rw [upd_same, List.map_append]; rfl, by rw [List.length_append, r4]; rfl, hi63, fun x hx => by
        rcases List.mem_append.mp hx with h | h
        · exact r6 x h
        · rw [List.mem_singleton.mp h]
          exact hm⟩
    have hl : (ls.map V.int).length < sizeLine := by
      rw [List.length_map, r4]
      exact small1000 (by omega)
    refine ⟨rfl, _, rfl, _, _, rfl, rfl, ⟨by decide, by decide, by decide⟩, _, _, rfl, rfl, _, rfl, ?_⟩
    refine ite2 (fun c => ?_) (fun c => ?_)
    · refine ⟨_, rfl, _, r3, hl, step z ?_⟩
      have c2 : (10 : Int) ^ (18 : Int).toNat ≤ z := of_decide_eq_true c
      have e : (10 : Int) ^ (18 : Int).toNat = 1000000000000000000 := by decide
      omega
    · exact ⟨_, r3, hl, step 0 (Int.le_refl 0)⟩
  · rintro H1 ⟨ls, r1, r2, r3, r4, r5, r6⟩
    refine ⟨r2, [(kCells, .ref a), (kLeft, .ref D), (kAt, .int 0)], rfl, (by show 3 ≤ 15; decide), ?_⟩
    have s9 : Same H (upd H1 d (.dK (mergeK [] [(kCells, V.ref a), (kLeft, .ref D), (kAt, .int 0)]))) := same_mut r1 nd
    refine q d D _ ⟨ls, 0, ?_, hS.same s9, ?_, ?_, r6, Int.le_refl 0⟩ s9 nd nD0
    · rw [upd_same]
      rfl
    · rw [upd_ne ned.symm]
      exact r3
    · rw [r4, List.length_map]
/-- _law_next: a number; the state goes on -/
def spNext (K : PySem.W.Frag) : Sp := sp1 fun v H Q _ => ∃ d l a ns, v = .ref d ∧ Dr K d l a ns H ∧ ns.length ≤ 63 ∧ ∀ (r : Int) H', Dr K d l a ns H' → Fr d l H H' → 0 ≤ r → r < 2147483647 → Q (.int r) H'
theorem ok_law_next (F : FnP K mg "_law_next" s_law_next) (T : Td mg) (B_law_mixed : Cl P w K mg base 1 "_law_mixed" ["_law_cell", "_law_k"] spMixed) : Cl P w K mg base 2 "_law_next" ["_law_state"] (spNext K) := by
  refine cl_1 F sc_law_next (fun _ _ _ _ _ _ us hl => match us, hl with | [_], _ => rfl) fun cdv A outer s H v Q E hr h => ?_
  obtain ⟨d, l, a, ns, rfl, ⟨ls, n, h1, h2, h3, h4, h5, h6⟩, hn, q⟩ := h
  refine ⟨_, PSs.nox (pss_cons (ps_dput (hu_of hr) (pv 0) pe_str (pe_op op_add (pe_dget (hu_of hr) (pv 0) pe_str (fun _ _ => rfl)) pe_int) rfl) (pss_cons (ps_set (i := 1) sc_law_next.nd rfl (Or.inl rfl) (pe_dget (hu_of hr) (pv 0) pe_str (fun _ _ => rfl))) (pss_cons (ps_if (pt_cmpR (op_eqNil hr.units0) (pe_dget (hu_of hr) (pv 0) pe_str (fun _ _ => rfl)) (pe_lst pa_nil) (nomark _)) (pss_one (ps_ret (pe_b B_law_mixed hr (by omega) rfl passL (pa_cons (pe_b B_law_mixed hr (by omega) rfl passL (pa_cons (pe_op op_mul pe_int (pv 1)) (pa_cons (pe_op op_mod (pv 1) pe_int) pa_nil))) (pa_cons pe_int pa_nil))))) pss_nil) (pss_cons (ps_set (i := 2) sc_law_next.nd rfl (Or.inl rfl) (pe_op op_mod (pv 1) (pe_callB call_len_seq rfl T.z_len PySem.boot_len (pa_cons (pe_dget (hu_of hr) (pv 0) pe_str (fun _ _ => rfl)) pa_nil)))) (pss_cons (ps_if (pt_cmpR op_gt (pe_ix ix_list (pe_dget (hu_of hr) (pv 0) pe_str (fun _ _ => rfl)) (pv 2) (fun _ _ => rfl)) pe_int (nomark _)) (pss_cons (ps_set (i := 3) sc_law_next.nd rfl (Or.inl rfl) (pe_op op_mod (pe_ix ix_list (pe_dget (hu_of hr) (pv 0) pe_str (fun _ _ => rfl)) (pv 2) (fun _ _ => rfl)) pe_int)) (pss_cons (ps_asg (pe_op op_fdivW (pe_ix ix_list (pe_dget (hu_of hr) (pv 0) pe_str (fun _ _ => rfl)) (pv 2) (fun _ _ => rfl)) pe_int) (pg_sub (pe_dget (hu_of hr) (pv 0) pe_str (fun _ _ => rfl)) (pv 2) set_list)) (pss_one (ps_ret (pv 3))))) pss_nil) (pss_one (ps_ret (pe_b B_law_mixed hr (by omega) rfl passL (pa_cons (pe_b B_law_mixed hr (by omega) rfl passL (pa_cons (pe_op op_add (pe_ix ix_list (pe_dget (hu_of hr) (pv 0) pe_str (fun _ _ => rfl)) (pv 2) (fun _ _ => rfl)) (pe_op op_mul pe_int (pv 1))) (pa_cons (pe_op op_mod (pv 1) pe_int) pa_nil))) (pa_cons (pe_op op_mod (pv 1) pe_int) pa_nil)))))))))), ?_⟩
  have ld : l ≠ d := ne_of h3 h1 (by intro z; cases z)
  refine ⟨_, rfl, d, _, rfl, DGet.k (k := kAt) h1, _, _, rfl, rfl, ?_⟩
  refine ⟨_, rfl, d, _, rfl, DPut.k (k := kAt) h1 (by show 3 < sizeLine; decide), ?_⟩
  rw [put_at]
  -- the state behind the count
  have g1 : upd H d (.dK [(kCells, V.ref a), (kLeft, .ref l), (kAt, .int (n + 1))]) d = some (.dK [(kCells, V.ref a), (kLeft, .ref l), (kAt, .int (n + 1))]) := upd_same
  have g3 : upd H d (.dK [(kCells, V.ref a), (kLeft, .ref l), (kAt, .int (n + 1))]) l = some (.lst (ls.map V.int)) := by
    rw [upd_ne ld]
    exact h3
  have g2 : Scr K (upd H d (.dK [(kCells, V.ref a), (kLeft, .ref l), (kAt, .int (n + 1))])) a (ns.map V.int) := by
    rcases h2 with ⟨o, h⟩ | h
    · exact .inl ⟨o, by rw [upd_ne (ne_of h h1 (by intro z; cases z))]; exact h⟩
    · exact .inr h
  have gf : Fr d l H (upd H d (.dK [(kCells, V.ref a), (kLeft, .ref l), (kAt, .int (n + 1))])) := fun b o e1 _ e => by
    rw [upd_ne e1]
    exact e
  generalize upd H d (.dK [(kCells, V.ref a), (kLeft, .ref l), (kAt, .int (n + 1))]) = H1 at g1 g2 g3 gf ⊢
  have gd : ∀ H2, Same H1 H2 → Dr K d l a ns H2 := fun H2 s => ⟨ls, n + 1, s _ _ g1, g2.same s, s _ _ g3, h4, h5, by omega⟩
  refine ⟨_, rfl, d, _, rfl, DGet.k (k := kAt) g1, ?_⟩
  refine ⟨_, rfl, d, _, rfl, DGet.k (k := kCells) g1, (by show 0 ≤ sizeLine; decide), fun p np => ⟨a, p, _, rfl, rfl, (g2.same (same_new np _)).sq, SqL.of upd_same, _, rfl, ?_⟩⟩
  have s2 : Same H1 (upd H1 p (.lst [])) := same_new np _
  have fr2 : Fr d l H (upd H1 p (.lst [])) := gf.trans (fr_same s2)
  have dr2 := gd _ s2
  have q1 := s2 _ _ g1
  have q2 := (g2.same s2).sq
  have q3 := s2 _ _ g3
  generalize upd H1 p (.lst []) = H2 at s2 fr2 dr2 q1 q2 q3 ⊢
  have fin : ∀ r : Int, 0 ≤ r → r < 2147483629 → Q (.int r) H2 := fun r a b => q r H2 dr2 fr2 a (by omega)
  cases ns with
  | nil =>
    refine iteT ?_
    refine ⟨_, rfl, _, _, rfl, rfl, .inl ⟨by decide, by decide⟩, _, rfl, _, _, rfl, rfl, p1000, _, _, rfl, _, _, rfl, rfl, Int.emod_nonneg _ (by decide), Int.emod_lt_of_pos _ (by decide), fun r r0 r1 => ?_⟩
    exact ⟨_, _, rfl, _, _, rfl, rfl, by decide, by decide, fin⟩
  | cons c0 cs =>
    refine iteF ?_
    have pl : (0 : Int) < (((c0 :: cs).map V.int).length : Nat) := by
      rw [List.length_map, List.length_cons]
      omega
    refine ⟨_, rfl, _, rfl, d, _, rfl, DGet.k (k := kCells) q1, a, _, rfl, .inl q2, _, _, rfl, rfl, pl, ?_⟩
    have i0 : 0 ≤ (n + 1) % (((c0 :: cs).map V.int).length : Nat) := Int.emod_nonneg _ (by omega)
    have i1 : (n + 1) % (((c0 :: cs).map V.int).length : Nat) < (((c0 :: cs).map V.int).length : Nat) := Int.emod_lt_of_pos _ pl
    obtain ⟨j, ej⟩ : ∃ j : Nat, (n + 1) % (((c0 :: cs).map V.int).length : Nat) = (j : Int) := ⟨((n + 1) % (((c0 :: cs).map V.int).length : Nat)).toNat, by omega⟩
    have hj : j < (c0 :: cs).length := by
      rw [ej, List.length_map] at i1
      omega
    obtain ⟨x, hx⟩ : ∃ x, (c0 :: cs)[j]? = some x := ⟨_, List.getElem?_eq_getElem hj⟩
    obtain ⟨z, hz⟩ : ∃ z, ls[j]? = some z := ⟨_, List.getElem?_eq_getElem (by rw [h4]; exact hj)⟩
    have ax : atI ((c0 :: cs).map V.int) ((n + 1) % (((c0 :: cs).map V.int).length : Nat)) = some (.int x) := by
      rw [ej]
      exact atI_nat (by rw [List.getElem?_map, hx]; rfl)
    have az : atI (ls.map V.int) ((n + 1) % (((c0 :: cs).map V.int).length : Nat)) = some (.int z) := by
      rw [ej]
      exact atI_nat (by rw [List.getElem?_map, hz]; rfl)
    have z0 : 0 ≤ z := h5 z (List.mem_of_getElem? hz)
    refine ⟨_, rfl, d, _, rfl, DGet.k (k := kLeft) q1, _, rfl, l, _, _, _, rfl, rfl, SqL.of q3, az, _, _, rfl, rfl, _, rfl, ?_⟩
    refine ite2 (fun c => ?_) (fun c => ?_)
    · refine ⟨_, rfl, d, _, rfl, DGet.k (k := kLeft) q1, _, rfl, l, _, _, _, rfl, rfl, SqL.of q3, az, _, _, rfl, rfl, p31, ?_⟩
      refine ⟨_, rfl, d, _, rfl, DGet.k (k := kLeft) q1, _, rfl, l, _, _, _, rfl, rfl, SqL.of q3, az, _, _, rfl, rfl, ⟨p31, by decide⟩, ?_⟩
      have lz : j < (ls.map V.int).length := by
        rw [List.length_map, h4]
        exact hj
      refine ⟨_, rfl, d, _, rfl, DGet.k (k := kLeft) q1, _, rfl, l, _, _, j, rfl, rfl, q3, by rw [ej]; exact ixN_nat lz, ?_⟩
      refine ⟨_, rfl, q _ _ ⟨ls.set j (z / 2147483647), n + 1, ?_, ?_, ?_, by rw [List.length_set, h4], ?_, by omega⟩ ?_ (Int.emod_nonneg _ (by decide)) (Int.emod_lt_of_pos _ (by decide))⟩
      · rw [upd_ne ld.symm]
        exact q1
      · rcases dr2 with ⟨_, _, _, ⟨o, h⟩ | h, _⟩
        · exact .inl ⟨o, by rw [upd_ne (ne_of h q3 (by intro z; cases z))]; exact h⟩
        · exact .inr h
      · rw [upd_same, List.map_set]
      · intro y hy
        rcases List.mem_or_eq_of_mem_set hy with h | h
        · exact h5 y h
        · rw [h]
          exact Int.ediv_nonneg z0 (by decide)
      · intro b o e1 e2 e
        rw [upd_ne e2]
        exact fr2 b o e1 e2 e
    · refine ⟨_, rfl, d, _, rfl, DGet.k (k := kCells) q1, _, rfl, a, _, _, _, rfl, rfl, q2, ax, _, rfl, _, _, rfl, rfl, .inl ⟨by decide, by decide⟩, _, _, rfl, rfl, ?_⟩
      refine ⟨_, rfl, _, _, rfl, rfl, p1000, _, _, rfl, _, _, rfl, rfl, Int.emod_nonneg _ (by decide), Int.emod_lt_of_pos _ (by decide), fun r r0 r1 => ?_⟩
      have m0 : 0 ≤ (n + 1) % 50 := Int.emod_nonneg _ (by decide)
      have m1 : (n + 1) % 50 < 50 := Int.emod_lt_of_pos _ (by decide)
      exact ⟨_, rfl, _, _, rfl, rfl, p50, _, _, rfl, _, _, rfl, rfl, m0, by omega, fin⟩
end
end Fl
namespace Fl
open PySem PySem.Spec PyProof.Rows L2
abbrev s_Function___init__ : Stmt := inClass (top 14) 0
theorem sc_Function___init__ : FnScope ["self", "names", "body", "scope", "own"] ["self", "names", "body", "scope", "own"] (defScope s_Function___init__) := ⟨rfl, rfl, rfl, by decide +kernel, rfl, by decide +kernel, by decide +kernel⟩
abbrev s_law_leaf : Stmt := top 30
theorem sc_law_leaf : FnScope ["_law_state", "_law_number", "_law_way", "_law_some"] ["_law_state"] (defScope s_law_leaf) := ⟨rfl, rfl, rfl, by decide +kernel, rfl, by decide +kernel, by decide +kernel⟩
abbrev s_law_worth : Stmt := top 31
theorem sc_law_worth : FnScope ["_law_state", "_law_deep", "_law_is_plain_one", "_law_number", "_law_scope", "_law_k"] ["_law_state", "_law_deep", "_law_is_plain_one"] (defScope s_law_worth) := ⟨rfl, rfl, rfl, by decide +kernel, rfl, by decide +kernel, by decide +kernel⟩
abbrev s_law_nested : Stmt := top 32
theorem sc_law_nested : FnScope ["_law_worth_here", "_law_many", "_law_k"] ["_law_worth_here", "_law_many"] (defScope s_law_nested) := ⟨rfl, rfl, rfl, by decide +kernel, rfl, by decide +kernel, by decide +kernel⟩

/-! ### what changes no tuple and no instance; lists stay lists, dicts dicts -/
def Im (H H' : Hp) : Prop := (∀ b xs, H b = some (.tup xs) → H' b = some (.tup xs)) ∧ (∀ b C dx fs, H b = some (.ins C dx fs) → H' b = some (.ins C dx fs)) ∧
  (∀ b xs, H b = some (.lst xs) → ∃ ys, H' b = some (.lst ys)) ∧ ∀ b kv, H b = some (.dK kv) → ∃ kw, H' b = some (.dK kw)
theorem Im.im {H H' : Hp} (a : Im H H') : Im H H' := a
theorem Im.refl (H : Hp) : Im H H := ⟨fun _ _ e => e, fun _ _ _ _ e => e, fun _ _ e => ⟨_, e⟩, fun _ _ e => ⟨_, e⟩⟩
theorem Im.trans {H H1 H2 : Hp} (a : Im H H1) (b : Im H1 H2) : Im H H2 := ⟨fun p xs e => b.1 p xs (a.1 p xs e), fun p C dx fs e => b.2.1 p C dx fs (a.2.1 p C dx fs e), fun p xs e => by
  obtain ⟨_, z⟩ := a.2.2.1 p xs e
  exact b.2.2.1 p _ z, fun p xs e => by
  obtain ⟨_, z⟩ := a.2.2.2 p xs e
  exact b.2.2.2 p _ z⟩
theorem im_same {H H' : Hp} (s : Same H H') : Im H H' := ⟨fun p xs e => s _ _ e, fun p C dx fs e => s _ _ e, fun _ _ e => ⟨_, s _ _ e⟩, fun _ _ e => ⟨_, s _ _ e⟩⟩
theorem im_fr {K : PySem.W.Frag} {d l a : Addr} {ns : List Int} {H H' : Hp} (r : Dr K d l a ns H) (r' : Dr K d l a ns H') (s : Fr d l H H') : Im H H' := by
  obtain ⟨ls, n, h1, h2, h3, _⟩ := r
  obtain ⟨_, _, g1, _, g3, _⟩ := r'
  refine ⟨fun p xs e => s _ _ (ne_of e h1 (by intro z; cases z)) (ne_of e h3 (by intro z; cases z)) e, fun p C dx fs e => s _ _ (ne_of e h1 (by intro z; cases z)) (ne_of e h3 (by intro z; cases z)) e, fun b xs e => ?_, fun b kv e => ?_⟩
  · by_cases hb : b = l
    · rw [hb]
      exact ⟨_, g3⟩
    · exact ⟨_, s _ _ (ne_of e h1 (by intro z; cases z)) hb e⟩
  · by_cases hb : b = d
    · rw [hb]
      exact ⟨_, g1⟩
    · exact ⟨_, s _ _ hb (ne_of e h3 (by intro z; cases z)) e⟩
theorem im_lst {H : Hp} {D : Addr} {xs ys : List V} (h : H D = some (.lst xs)) : Im H (upd H D (.lst ys)) := by
  refine ⟨fun p xs e => ?_, fun p C dx fs e => ?_, fun b zs e => ?_, fun b kv e => ?_⟩
  · rw [upd_ne (ne_of e h (by intro z; cases z))]
    exact e
  · rw [upd_ne (ne_of e h (by intro z; cases z))]
    exact e
  · by_cases hb : b = D
    · rw [hb]
      exact ⟨_, upd_same⟩
    · exact ⟨_, by rw [upd_ne hb]; exact e⟩
  · rw [upd_ne (ne_of e h (by intro z; cases z))]
    exact ⟨_, e⟩
mutual
theorem Is.ik {C : Addr} {H H' : Hp} (s : Im H H') : ∀ {v : V} {t : Th}, Is C H v t → Is C H' v t
  | _, _, .non => .non
  | _, _, .bl b => .bl b
  | _, _, .int i => .int i
  | _, _, .str x h => .str x h
  | _, _, .tup h r => .tup (s.1 _ _ h) (r.ik s)
  | _, _, .fn h r => .fn (s.2.1 _ _ _ _ h) (r.ik s)
  | _, _, .lst h => .lst (s.2.2.1 _ _ h).choose_spec
  | _, _, .dct h => .dct (s.2.2.2 _ _ h).choose_spec
theorem Iss.ik {C : Addr} {H H' : Hp} (s : Im H H') : ∀ {xs : List V} {ts : List Th}, Iss C H xs ts → Iss C H' xs ts
  | _, _, .nil => .nil
  | _, _, .cons h r => .cons (h.ik s) (r.ik s)
end
theorem Is.im {C : Addr} {H H' : Hp} (s : Im H H') {v : V} {t : Th} (h : Is C H v t) (_ : t.worth true = true) : Is C H' v t := h.ik s
theorem Iss.im {C : Addr} {H H' : Hp} (s : Im H H') {xs : List V} {ts : List Th} (h : Iss C H xs ts) (_ : Th.worths true ts = true) : Iss C H' xs ts := h.ik s
mutual
theorem worth_up : ∀ {t : Th}, t.worth false = true → t.worth true = true
  | .non, h => h
  | .bl _, h => h
  | .int _, h => h
  | .str _, h => h
  | .tup l, h => worths_up (by simpa [Th.worth] using h)
  | .fn _, _ => rfl
  | .oth, h => h
theorem worths_up : ∀ {l : List Th}, Th.worths false l = true → Th.worths true l = true
  | [], _ => rfl
  | t :: r, h => by
    rw [Th.worths, Bool.and_eq_true] at h
    rw [Th.worths, Bool.and_eq_true]
    exact ⟨worth_up h.1, worths_up h.2⟩
end
/-- a leaf -/
inductive Leaf : V → Th → Prop
  | int (i : Int) (h : numB i = true) : Leaf (.int i) (.int i)
  | bl (b : Bool) : Leaf (.bl b) (.bl b)
  | str (x : Str) (h : wordB x = true) : Leaf (.str x) (.str x)
theorem wordB_len {x : Str} (h : wordB x = true) : x.length ≤ 8 := by
  unfold wordB at h
  simp only [Bool.and_eq_true, decide_eq_true_eq] at h
  exact h.2.1
theorem Leaf.is {u : V} {t : Th} (h : Leaf u t) (C : Addr) (H : Hp) : Is C H u t := by
  cases h with
  | int i _ => exact .int i
  | bl b => exact .bl b
  | str x h => exact .str x (by have := wordB_len h; omega)
theorem Leaf.ok {u : V} {t : Th} (h : Leaf u t) : t.worth false = true := by
  cases h with
  | int i h => exact h
  | bl b => rfl
  | str x h => exact h
theorem Leaf.nodes {u : V} {t : Th} (h : Leaf u t) : t.nodes = 1 := by
  cases h <;> rfl
theorem Leaf.depth {u : V} {t : Th} (h : Leaf u t) : t.depth = 0 := by
  cases h <;> rfl
def spLeaf (K : PySem.W.Frag) : Sp := sp1 fun v H Q _ => ∃ d l a ns, v = .ref d ∧ Dr K d l a ns H ∧ ns.length ≤ 63 ∧ ∀ (u : V) (t : Th) H', Dr K d l a ns H' → Fr d l H H' → Leaf u t → Q u H'
def leafWords : List V := [.str "add", .str "z", .str "quote", .str "abcdefgh", .str "tru", .str "x", .str "function", .str "row", .str "q", .str "falses", .str "mm"]
def isWordV : V → Bool
  | .str x => wordB x
  | _ => false
theorem leaf_words : leafWords.all isWordV = true := by decide +kernel
theorem leaf_word {i : Nat} {v : V} (h : leafWords[i]? = some v) : ∃ t, Leaf v t := by
  have z := List.all_eq_true.mp leaf_words v (List.mem_of_getElem? h)
  cases v with
  | str x => exact ⟨_, .str x z⟩
  | _ => cases z
theorem p2 : (0 : Int) < 2 := by decide
theorem p3 : (0 : Int) < 3 := by decide
theorem p5 : (0 : Int) < 5 := by decide
theorem p8 : (0 : Int) < 8 := by decide
theorem p11 : (0 : Int) < 11 := by decide
theorem p21 : (0 : Int) < 21 := by decide
theorem p2e9 : (0 : Int) < 2000000001 := by decide
theorem s1 : 1 ≤ sizeLine := by decide
theorem s2 : 2 ≤ sizeLine := by decide
theorem s3 : 3 ≤ sizeLine := by decide
theorem p4 : (0 : Int) < 4 := by decide
theorem p9 : (0 : Int) < 9 := by decide
theorem d5 : CDiv n 5 := ⟨by decide, by decide⟩
theorem d20 : CDiv n 20 := ⟨by decide, by decide⟩
theorem d180 : CDiv n 180 := ⟨by decide, by decide⟩
theorem at2 {x y : V} {i : Int} (h : i = 0 ∨ i = 1) : atI [x, y] i = some (if i = 0 then x else y) := by
  rcases h with e | e <;> subst e <;> rfl
theorem d8 : CDiv n 8 := ⟨by decide, by decide⟩
theorem pw9 : CPow 10 9 := ⟨by decide, by decide, by decide⟩
theorem ten9 : (10 : Int) ^ (9 : Int).toNat = 1000000000 := by decide
section
variable {P : Program} {w : World} {K : PySem.W.Frag} {mg : Str → Option Value} {base : Heap}
theorem ok_law_leaf (F : FnP K mg "_law_leaf" s_law_leaf) (B_law_next : Cl P w K mg base 2 "_law_next" ["_law_state"] (spNext K)) : Cl P w K mg base 3 "_law_leaf" ["_law_state"] (spLeaf K) := by
  refine cl_1 F sc_law_leaf (fun _ _ _ _ _ _ us hl => match us, hl with | [_], _ => rfl) fun cdv A outer s H v Q E hr h => ?_
  obtain ⟨d, l, a, ns, rfl, h1, hn, q⟩ := h
  refine ⟨_, PSs.nox (pss_cons (ps_set (i := 1) sc_law_leaf.nd rfl (Or.inl rfl) (pe_b B_law_next hr (by omega) rfl passL (pa_cons (pv 0) pa_nil))) (pss_cons (ps_set (i := 2) sc_law_leaf.nd rfl (Or.inl rfl) (pe_op op_mod (pv 1) pe_int)) (pss_cons (ps_if (pt_cmpR op_lt (pv 2) pe_int (nomark _)) (pss_one (ps_ret (pe_ix ix_list (pe_lst (pa_cons (pe_op op_sub (pe_op op_mod (pe_op op_fdiv (pv 1) pe_int) pe_int) pe_int) (pa_cons (pe_op op_sub (pe_op op_mod (pe_op op_fdiv (pv 1) pe_int) pe_int) (pe_op op_pow pe_int pe_int)) (pa_cons (pe_op op_mul (pe_op op_pow pe_int pe_int) (pe_op op_sub (pe_op op_mod (pe_op op_fdiv (pv 1) pe_int) pe_int) pe_int)) pa_nil)))) (pv 2) (fun _ _ => rfl)))) pss_nil) (pss_cons (ps_if (pt_cmpR op_eq (pv 2) pe_int (nomark _)) (pss_one (ps_ret (pe_cmpR op_eq (pe_op op_mod (pe_op op_fdiv (pv 1) pe_int) pe_int) pe_int (nomark _)))) pss_nil) (pss_cons (ps_set (i := 3) sc_law_leaf.nd rfl (Or.inl rfl) (pe_lst (pa_cons pe_str (pa_cons pe_str (pa_cons pe_str (pa_cons pe_str (pa_cons pe_str (pa_cons pe_str (pa_cons pe_str (pa_cons pe_str (pa_cons pe_str (pa_cons pe_str (pa_cons pe_str pa_nil))))))))))))) (pss_one (ps_ret (pe_ix ix_list (pv 3) (pe_op op_mod (pe_op op_fdiv (pv 1) pe_int) pe_int) (fun _ _ => rfl))))))))), ?_⟩
  refine ⟨_, rfl, _, rfl, d, l, a, ns, rfl, h1, hn, fun n H1 h2 f1 n0 n1 => ?_⟩
  have w0 : 0 ≤ n % 8 := Int.emod_nonneg _ (by decide)
  have w1 : n % 8 < 8 := Int.emod_lt_of_pos _ (by decide)
  refine ⟨_, rfl, _, _, rfl, rfl, p8, _, rfl, _, _, rfl, rfl, _, rfl, ite2 (fun c => ?_) (fun c => ?_)⟩
  · have c' : n % 8 < 3 := of_decide_eq_true c
    refine ⟨_, rfl, _, _, rfl, rfl, d8, _, _, rfl, rfl, p21, _, _, rfl, rfl, ?_⟩
    refine ⟨_, rfl, _, _, rfl, rfl, d8, _, _, rfl, rfl, p2e9, _, _, rfl, rfl, pw9, _, _, rfl, rfl, ?_⟩
    refine ⟨_, _, rfl, rfl, pw9, _, rfl, _, _, rfl, rfl, d8, _, _, rfl, rfl, p3, _, _, rfl, rfl, _, _, rfl, rfl, .inr ⟨?_, ?_⟩, (by show 3 ≤ sizeLine; decide), fun p np => ?_⟩
    · have := Int.emod_nonneg (n / 8) (show (3 : Int) ≠ 0 by decide)
      have := Int.emod_lt_of_pos (n / 8) p3
      show -(2 ^ 64) < n / 8 % 3 - 1
      omega
    · have := Int.emod_lt_of_pos (n / 8) p3
      show n / 8 % 3 - 1 < 2 ^ 64
      omega
    rw [ten9]
    have sp := same_new np (.lst [V.int (n / 8 % 21 - 10), V.int (n / 8 % 2000000001 - 1000000000), V.int (1000000000 * (n / 8 % 3 - 1))])
    have hp := upd_same (H := H1) (a := p) (o := .lst [V.int (n / 8 % 21 - 10), V.int (n / 8 % 2000000001 - 1000000000), V.int (1000000000 * (n / 8 % 3 - 1))])
    have fin : ∀ i : Int, numB i = true → Q (.int i) (upd H1 p (.lst [V.int (n / 8 % 21 - 10), V.int (n / 8 % 2000000001 - 1000000000), V.int (1000000000 * (n / 8 % 3 - 1))])) := fun i hi => q _ _ _ (h2.same sp) (f1.trans (fr_same sp)) (.int i hi)
    have e0 := Int.emod_nonneg (n / 8) (show (21 : Int) ≠ 0 by decide)
    have e1 := Int.emod_lt_of_pos (n / 8) p21
    have e2 := Int.emod_nonneg (n / 8) (show (2000000001 : Int) ≠ 0 by decide)
    have e3 := Int.emod_lt_of_pos (n / 8) p2e9
    have e4 := Int.emod_nonneg (n / 8) (show (3 : Int) ≠ 0 by decide)
    have e5 := Int.emod_lt_of_pos (n / 8) p3
    have nb : ∀ i : Int, -1000000000 ≤ i → i ≤ 1000000000 → numB i = true := fun i a b => by
      unfold numB
      rw [decide_eq_true a, decide_eq_true b]
      rfl
    rcases (by omega : n % 8 = 0 ∨ n % 8 = 1 ∨ n % 8 = 2) with e | e | e
    · exact ⟨_, rfl, p, _, _, _, rfl, rfl, SqL.of hp, (by rw [e]; rfl), fin _ (nb _ (by omega) (by omega))⟩
    · exact ⟨_, rfl, p, _, _, _, rfl, rfl, SqL.of hp, (by rw [e]; rfl), fin _ (nb _ (by omega) (by omega))⟩
    · exact ⟨_, rfl, p, _, _, _, rfl, rfl, SqL.of hp, (by rw [e]; rfl), fin _ (nb _ (by omega) (by omega))⟩
  · refine ⟨_, rfl, rfl, _, rfl, ite2 (fun c2 => ?_) (fun c2 => ?_)⟩
    · exact ⟨_, rfl, _, _, rfl, rfl, d8, _, _, rfl, rfl, p2, rfl, q _ _ _ h2 f1 (.bl _)⟩
    · refine ⟨(by show 11 ≤ sizeLine; decide), fun p np => ?_⟩
      have sp := same_new np (.lst leafWords)
      refine ⟨_, rfl, _, rfl, _, _, rfl, rfl, d8, _, _, rfl, rfl, p11, ?_⟩
      have i0 := Int.emod_nonneg (n / 8) (show (11 : Int) ≠ 0 by decide)
      have i1 := Int.emod_lt_of_pos (n / 8) p11
      obtain ⟨j, ej⟩ : ∃ j : Nat, n / 8 % 11 = (j : Int) := ⟨(n / 8 % 11).toNat, by omega⟩
      have hj : j < leafWords.length := by
        show j < 11
        omega
      obtain ⟨t, ht⟩ := leaf_word (List.getElem?_eq_getElem hj)
      exact ⟨p, leafWords, _, _, rfl, rfl, SqL.of upd_same, (by rw [ej]; exact atI_nat (List.getElem?_eq_getElem hj)), q _ _ _ (h2.same sp) (f1.trans (fr_same sp)) ht⟩
/-! ### the class of functions -/
structure Tc (K : PySem.W.Frag) : Prop where
  kf : Kf K (He.ga K "Function")
  n1 : NoAttr K (He.ga K "Function") "params"
  n2 : NoAttr K (He.ga K "Function") "part"
  n3 : NoAttr K (He.ga K "Function") "known"
  n4 : NoAttr K (He.ga K "Function") "mine"
theorem putF_len (f : Str) (v : V) : ∀ fs : List (Str × V), (putF f v fs).length ≤ fs.length + 1
  | [] => by simp [putF]
  | p :: r => by
    have := putF_len f v r
    unfold putF
    split <;> simp <;> omega
def spInit (K : PySem.W.Frag) : Sp := fun vs H Q _ => ∃ (x dx : Addr) (n b s o : V), vs = [.ref x, n, b, s, o] ∧ H x = some (.ins (CF K) dx []) ∧ Q .non (upd H x (.ins (CF K) dx (fnF n b s o)))
theorem ok_Function___init__ (F : MtP K (CF K) "__init__" "Function.__init__" s_Function___init__) (T : Tc K) : ∃ fd, FnOk P w K mg base (L2.CX P w) 1 (He.ma K (CF K) "__init__") fd ["self", "names", "body", "scope", "own"] (spInit K) ∧ Binds K fd ["self", "names", "body", "scope", "own"] [] := by
  refine mt_mk F sc_Function___init__ (fun _ _ _ _ _ _ us hl => match us, hl with | [_, _, _, _, _], _ => rfl) (fun vs H Q E h => by obtain ⟨_, _, _, _, _, _, rfl, _⟩ := h; rfl) fun cdv A outer s H vs Q E hr h => ?_
  obtain ⟨x, dx, n, b, sc, o, rfl, hx, q⟩ := h
  refine ⟨_, PSs.nox (pss_cons (ps_fld (pv 0) (pv 1) rfl) (pss_cons (ps_fld (pv 0) (pv 2) rfl) (pss_cons (ps_fld (pv 0) (pv 3) rfl) (pss_one (ps_fld (pv 0) (pv 4) rfl))))), ?_⟩
  have l1 := putF_len "params" n []
  have l2 := putF_len "part" b (putF "params" n [])
  have l3 := putF_len "known" sc (putF "part" b (putF "params" n []))
  refine ⟨_, rfl, _, rfl, x, _, dx, _, rfl, hx, T.kf.cl, T.n1, (by show 0 < 1000; decide), ?_⟩
  refine ⟨_, rfl, _, rfl, x, _, dx, _, rfl, upd_same, T.kf.cl, T.n2, (by simp at l1; omega), ?_⟩
  refine ⟨_, rfl, _, rfl, x, _, dx, _, rfl, upd_same, T.kf.cl, T.n3, (by simp at l1; omega), ?_⟩
  refine ⟨_, rfl, _, rfl, x, _, dx, _, rfl, upd_same, T.kf.cl, T.n4, (by simp at l1; omega), ?_⟩
  rw [upd_upd, upd_upd, upd_upd]
  exact q
theorem nw_Function (F : MtP K (CF K) "__init__" "Function.__init__" s_Function___init__) (T : Tc K) (M : Mk K (CF K) (He.ma K (CF K) "__init__")) (g : mg "Function" = some (.ref (CF K))) :
    Nw P w K mg base 1 "Function" (CF K) ["self", "names", "body", "scope", "own"] (spInit K) := by
  obtain ⟨fd, h1, h2⟩ := ok_Function___init__ (P := P) (w := w) (mg := mg) (base := base) F T
  exact ⟨_, fd, M, h1, h2, g⟩
theorem same_made {H : Hp} {x dx : Addr} {o : HO} (nx : H x = none) (nd : H dx = none) : Same H (upd (upd (upd H dx (.own x)) x (.ins (CF K) dx [])) x o) := fun b u e => by
  rw [upd_ne (ne_of_none e nx), upd_ne (ne_of_none e nx), upd_ne (ne_of_none e nd)]
  exact e

/-! ### drawn worths -/
structure Tr (mg : Str → Option Value) : Prop where
  z_tuple : mg "tuple" = none
  z_range : mg "range" = none
/-- at most m deep (m from one on) -/
def spWorth (K : PySem.W.Frag) (m : Nat) : Sp := sp3 fun v dp pl H Q _ => ∃ d l a ns k p, v = .ref d ∧ dp = .int k ∧ pl = .bl p ∧ Dr K d l a ns H ∧ ns.length ≤ 63 ∧ k ≤ m ∧ 1 ≤ m ∧ m ≤ 6 ∧
  ∀ (u : V) (t : Th) H', Dr K d l a ns H' → Fr d l H H' → Is (CF K) H' u t → t.worth true = true → (p = true → t.worth false = true) → t.nodes ≤ 5 ^ m → t.depth ≤ m → Q u H'
theorem ok_law_worth_none (F : FnP K mg "_law_worth" s_law_worth) : Cl P w K mg base 4 "_law_worth" ["_law_state", "_law_deep", "_law_is_plain_one"] (spWorth K 0) := by
  refine cl_3 F sc_law_worth (fun _ _ _ _ _ _ us hl => match us, hl with | [_, _, _], _ => rfl) fun cdv A outer s H v b c Q E hr h => ?_
  obtain ⟨_, _, _, _, _, _, _, _, _, _, _, _, h, _⟩ := h
  omega
theorem ok_law_worth {m : Nat} (F : FnP K mg "_law_worth" s_law_worth) (T : Tr mg) (B_law_next : Cl P w K mg base 2 "_law_next" ["_law_state"] (spNext K)) (B_law_leaf : Cl P w K mg base 3 "_law_leaf" ["_law_state"] (spLeaf K))
    (B_Function : Nw P w K mg base 1 "Function" (CF K) ["self", "names", "body", "scope", "own"] (spInit K)) (B_law_worth : Cl P w K mg base (4 + m) "_law_worth" ["_law_state", "_law_deep", "_law_is_plain_one"] (spWorth K m)) :
    Cl P w K mg base (4 + m + 1) "_law_worth" ["_law_state", "_law_deep", "_law_is_plain_one"] (spWorth K (m + 1)) := by
  refine cl_3 F sc_law_worth (fun _ _ _ _ _ _ us hl => match us, hl with | [_, _, _], _ => rfl) fun cdv A outer s H v b c Q E hr h => ?_
  obtain ⟨d, l, a, ns, k, p, rfl, rfl, rfl, h1, hn, hk, hm1, hm, q⟩ := h
  refine ⟨_, PSs.nox (pss_cons (ps_set (i := 3) sc_law_worth.nd rfl (Or.inl rfl) (pe_b B_law_next hr (by omega) rfl passL (pa_cons (pv 0) pa_nil))) (pss_cons (ps_if (PW.pt (pw_or (pt_cmpR op_lt (pv 1) pe_int (nomark _)) (pw_or1 (pt_cmpR op_lt (pe_op op_mod (pv 3) pe_int) pe_int (nomark _))))) (pss_cons (ps_if (PW.pt (pw_and (pt_not (pt_val (pv 2))) (pw_and1 (pt_cmpR op_eq (pe_op op_mod (pe_op op_fdiv (pv 3) pe_int) pe_int) pe_int (nomark _))))) (pss_cons (ps_set (i := 4) sc_law_worth.nd rfl (Or.inl rfl) (pe_tup (pa_cons (pe_tup (pa_cons pe_str (pa_cons (pe_b B_law_leaf hr (by omega) rfl passL (pa_cons (pv 0) pa_nil)) pa_nil))) (pa_cons (pe_tup (pa_cons pe_str (pa_cons (pe_tup (pa_cons pe_int (pa_cons pe_str pa_nil))) pa_nil))) pa_nil)))) (pss_one (ps_ret (pe_new B_Function hr (by omega) rfl passL (pa_cons (pe_tup (pa_cons pe_str (pa_cons pe_str pa_nil))) (pa_cons (pe_tup (pa_cons pe_str (pa_cons pe_str (pa_cons (pe_op op_mod (pe_op op_fdiv (pv 3) pe_int) pe_int) pa_nil)))) (pa_cons (pv 4) (pa_cons (pe_ix ix_list (pe_lst (pa_cons pe_non (pa_cons pe_str pa_nil))) (pe_op op_mod (pe_op op_fdiv (pv 3) pe_int) pe_int) (fun _ _ => rfl)) pa_nil)))))))) pss_nil) (pss_one (ps_ret (pe_b B_law_leaf hr (by omega) rfl passL (pa_cons (pv 0) pa_nil))))) pss_nil) (pss_one (ps_ret (pe_tupleOf rfl T.z_tuple (pe_lc (own := [("_law_k", 5)]) (g := gName 5) (tt := tYes) rfl sc_law_worth.nd (pi_range1 rfl T.z_range (pa_cons (pe_op op_mod (pe_op op_fdiv (pv 3) pe_int) pe_int) pa_nil)) (blkOk_by (own := [("_law_k", 5)]) (N := ["_law_state", "_law_deep", "_law_is_plain_one", "_law_number", "_law_scope", "_law_k"]) (sc := defScope s_law_worth) (by decide +kernel)) (fun _ _ _ _ _ => (pg_name (i := 5) sc_law_worth.nd rfl (Or.inl rfl))) (fun _ _ _ _ _ => pts_nil) (fun _ _ _ _ _ => (pe_b B_law_worth hr (Nat.le_refl _) rfl passL (pa_cons (pv 0) (pa_cons (pe_op op_sub (pv 1) pe_int) (pa_cons (pv 2) pa_nil))))))))))), ?_⟩
  refine ⟨_, rfl, _, rfl, d, l, a, ns, rfl, h1, hn, fun n H1 h2 f1 n0 n1 => ?_⟩
  have p5m : 1 ≤ 5 ^ (m + 1) := Nat.one_le_pow _ _ (by decide)
  have leafQ : ∀ (u : V) (t : Th) H', Dr K d l a ns H' → Fr d l H1 H' → Leaf u t → Q u H' := fun u t H' r f g => q u t H' r (f1.trans f) (g.is _ _) (worth_up g.ok) (fun _ => g.ok) (by rw [g.nodes]; exact p5m) (by rw [g.depth]; exact Nat.zero_le _)
  refine ⟨_, rfl, _, _, rfl, rfl, _, rfl, ite2 (fun c => ?small1) (fun c => ⟨_, rfl, _, _, rfl, rfl, p5, _, _, rfl, rfl, _, rfl, ite2 (fun c2 => ?small2) (fun c2 => ?big)⟩)⟩
  case small1 | small2 =>
    refine ⟨_, rfl, p, rfl, ?_⟩
    cases p with
    | true => exact iteF (iteF ⟨_, rfl, _, rfl, d, l, a, ns, rfl, h2, hn, leafQ⟩)
    | false =>
      refine iteT ⟨_, rfl, _, _, rfl, rfl, d5, _, _, rfl, rfl, p4, rfl, _, rfl, ite2 (fun c3 => ?_) (fun c3 => ⟨_, rfl, _, rfl, d, l, a, ns, rfl, h2, hn, leafQ⟩)⟩
      refine ⟨_, rfl, _, rfl, d, l, a, ns, rfl, h2, hn, fun u1 t1 H2 r2 f2 g1 => ⟨s2, fun e1 k1 => ⟨s2, fun e2 k2 => ⟨s2, fun e3 k3 => ⟨s2, fun e4 k4 => ?_⟩⟩⟩⟩⟩
      have own : n / 180 % 2 = 0 ∨ n / 180 % 2 = 1 := by
        have := Int.emod_nonneg (n / 180) (show (2 : Int) ≠ 0 by decide)
        have := Int.emod_lt_of_pos (n / 180) p2
        omega
      refine ⟨s2, fun e5 k5 => ⟨_, rfl, _, _, rfl, rfl, d20, _, _, rfl, rfl, p9, s3, fun e6 k6 => ⟨_, rfl, s2, fun e7 k7 => ⟨_, rfl, _, _, rfl, rfl, d180, _, _, rfl, rfl, p2, e7, _, _, _, rfl, rfl, SqL.of upd_same, at2 own, ?_⟩⟩⟩⟩
      intro x dx nx ndx nex
      refine ⟨x, dx, _, _, _, _, rfl, upd_same, rfl, ?_⟩
      have c7 := same_new k7 (.lst [.non, .str "q"])
      have c6 := (same_new k6 (.tup [.str "add", .str "x", .int (n / 20 % 9)])).trans c7
      have c5 := (same_new k5 (.tup [.str "x", .str "mm"])).trans c6
      have c4 := (same_new k4 (.tup [.ref e1, .ref e3])).trans c5
      have c3 := (same_new k3 (.tup [.str "z", .ref e2])).trans c4
      have c2 := (same_new k2 (.tup [.int 1, .str "q"])).trans c3
      have c1 := (same_new k1 (.tup [.str "x", u1])).trans c2
      have sm := same_made (K := K) (o := .ins (CF K) dx (fnF (.ref e5) (.ref e6) (.ref e4) (if n / 180 % 2 = 0 then .non else .str "q"))) nx ndx
      have io : ∀ H', Is (CF K) H' (if n / 180 % 2 = 0 then V.non else .str "q") (if n / 180 % 2 = 0 then Th.non else .str "q") := fun H' => by
        split
        · exact .non
        · exact .str _ (by decide)
      refine q _ (.fn [.tup [.str "x", .str "mm"], .tup [.str "add", .str "x", .int (n / 20 % 9)], .tup [.tup [.str "x", t1], .tup [.str "z", .tup [.int 1, .str "q"]]], if n / 180 % 2 = 0 then Th.non else .str "q"]) _ (r2.same (c1.trans sm)) (f1.trans (f2.trans (fr_same (c1.trans sm)))) (.fn upd_same ?_) rfl (fun z => nomatch z) p5m (Nat.zero_le _)
      refine .cons (.tup (sm _ _ (c6 _ _ upd_same)) (.cons (.str _ (by decide)) (.one (.str _ (by decide))))) (.cons (.tup (sm _ _ (c7 _ _ upd_same)) (.cons (.str _ (by decide)) (.cons (.str _ (by decide)) (.one (.int _))))) (.cons (.tup (sm _ _ (c5 _ _ upd_same)) ?_) (.one (io _))))
      exact .cons (.tup (sm _ _ (c2 _ _ upd_same)) (.cons (.str _ (by decide)) (.one (g1.is _ _)))) (.one (.tup (sm _ _ (c4 _ _ upd_same)) (.cons (.str _ (by decide)) (.one (.tup (sm _ _ (c3 _ _ upd_same)) (.cons (.int _) (.one (.str _ (by decide)))))))))
  case big =>
    have hk2 : 2 ≤ k := by
      have : ¬ k < 2 := fun z => c (decide_eq_true z)
      omega
    refine ⟨_, rfl, _, _, rfl, rfl, d5, _, _, rfl, rfl, p5, _, rfl, ?_, ?_, fun D nD => ?_⟩
    · have := Int.emod_nonneg (n / 5) (show (5 : Int) ≠ 0 by decide)
      show -(2 ^ 62) ≤ n / 5 % 5
      omega
    · have := Int.emod_lt_of_pos (n / 5) p5
      show n / 5 % 5 < 2 ^ 62
      omega
    refine lc_it walk_range (fun i H' => ∃ xs ts, Dr K d l a ns H' ∧ Fr d l H1 H' ∧ H' D = some (.lst xs) ∧ Iss (CF K) H' xs ts ∧ Th.worths true ts = true ∧ (p = true → Th.worths false ts = true) ∧ Th.nodesL ts ≤ i * 5 ^ m ∧ xs.length = i ∧ Th.depthL ts ≤ m)
      ⟨[], [], h2.same (same_new nD _), fr_same (same_new nD _), upd_same, .nil, rfl, fun _ => rfl, Nat.zero_le _, rfl, Nat.zero_le _⟩ (fun _ _ _ _ => trivial) ?_ ?_
    · rintro i y H2 H3 hi ⟨xs, ts, r1, r2, r3, r4, r5, r6, r7, r8, r9⟩ ⟨rfl, rfl⟩
      refine ⟨rfl, _, rfl, _, rfl, _, _, rfl, rfl, _, rfl, _, _, _, rfl, d, l, a, ns, k - 1, p, rfl, rfl, rfl, r1, hn, by omega, by omega, by omega, fun u t H4 g1 g2 g3 g4 g5 g6 g7 => ?_⟩
      have eD : H4 D = some (.lst xs) := by
        obtain ⟨_, _, z1, _, z3, _⟩ := h2
        exact g2 _ _ (ne_of_none z1 nD).symm (ne_of_none z3 nD).symm r3
      have hi4 : i < 5 := by
        have := Int.emod_lt_of_pos (n / 5) p5
        omega
      refine ⟨xs, eD, by rw [r8]; exact small1000 (by omega), xs ++ [u], ts ++ [t], ?_, ?_, upd_same, ?_, ?_, ?_, ?_, ?_, ?_⟩
      · obtain ⟨ls, c9, z1, z2, z3, z4, z5, z6⟩ := g1
        refine ⟨ls, c9, ?_, ?_, ?_, z4, z5, z6⟩
        · rw [upd_ne (ne_of z1 eD (by intro z; cases z))]
          exact z1
        · rcases z2 with ⟨o, z⟩ | z
          · exact .inl ⟨o, by rw [upd_ne (ne_of z eD (by intro z; cases z))]; exact z⟩
          · exact .inr z
        · obtain ⟨_, _, _, _, y3, _⟩ := h2
          rw [upd_ne (ne_of_none y3 nD)]
          exact z3
      · intro b o e1 e2 e
        rw [upd_ne (ne_of_none e nD)]
        exact g2 b o e1 e2 (r2 b o e1 e2 e)
      · exact ((r4.im (im_fr r1 g1 g2) r5).app (.one g3)).im (im_lst eD) (by rw [worths_app, r5, Th.worths, g4]; rfl)
      · rw [worths_app, r5, Th.worths, g4]
        rfl
      · intro z
        rw [worths_app, r6 z, Th.worths, g5 z]
        rfl
      · rw [nodesL_app, Th.nodesL, Th.nodesL, Nat.add_mul, Nat.one_mul]
        omega
      · rw [List.length_append, r8]
        rfl
      · rw [depthL_app, Th.depthL, Th.depthL]
        omega
    · rintro H2 ⟨xs, ts, r1, r2, r3, r4, r5, r6, r7, r8, r9⟩
      refine .inl ⟨D, xs, rfl, SqL.of r3, fun P1 nP => ?_⟩
      have sm := same_new nP (.tup xs)
      have hi4 : (n / 5 % 5).toNat ≤ 4 := by
        have := Int.emod_lt_of_pos (n / 5) p5
        omega
      refine q _ (.tup ts) _ (r1.same sm) (f1.trans (r2.trans (fr_same sm))) (.tup upd_same (r4.same sm)) (by simpa [Th.worth] using r5) (fun z => by simpa [Th.worth] using r6 z) ?_ (by rw [Th.depth]; omega)
      have e1 : (n / 5 % 5).toNat * 5 ^ m ≤ 4 * 5 ^ m := Nat.mul_le_mul_right _ hi4
      have e2 : 1 ≤ 5 ^ m := Nat.one_le_pow _ _ (by decide)
      rw [Th.nodes, Nat.pow_succ]
      omega
def spNested (K : PySem.W.Frag) : Sp := sp2 fun v b H Q _ => ∃ t n, b = .int n ∧ Is (CF K) H v t ∧ 0 ≤ n ∧ n ≤ 10000 ∧ ∀ u t' H', Same H H' → Is (CF K) H' u t' → (∀ f, t'.worth f = t.worth f) → t'.nodes = t.nodes + n.toNat → Q u H'
theorem ok_law_nested (F : FnP K mg "_law_nested" s_law_nested) (T : Tr mg) : Cl P w K mg base 1 "_law_nested" ["_law_worth_here", "_law_many"] (spNested K) := by
  refine cl_2 F sc_law_nested (fun _ _ _ _ _ _ us hl => match us, hl with | [_, _], _ => rfl) fun cdv A outer s H v b Q E hr h => ?_
  obtain ⟨t, n, rfl, h, n0, n1, q⟩ := h
  refine ⟨_, PSs.nox (pss_cons (ps_for PassesOwn.never rfl (pi_range1 rfl T.z_range (pa_cons (pv 1) pa_nil)) (pg_name (i := 2) sc_law_nested.nd rfl (Or.inl rfl)) (pss_one (ps_set (i := 0) sc_law_nested.nd rfl (Or.inl rfl) (pe_tup (pa_cons (pv 0) pa_nil))))) (pss_one (ps_ret (pv 0)))), ?_⟩
  refine ⟨_, rfl, _, rfl, (by show -(2 ^ 62) ≤ n; omega), (by show n < 2 ^ 62; omega), ?_⟩
  refine for_it walk_range (fun i σ H' => ∃ u t' o, σ = [some u, some (.int n), o] ∧ Same H H' ∧ Is (CF K) H' u t' ∧ (∀ f, t'.worth f = t.worth f) ∧ t'.nodes = t.nodes + i)
    ⟨v, t, none, rfl, .refl _, h, fun _ => rfl, rfl⟩ (fun _ _ _ _ _ => trivial) ?_ ?_
  · rintro i y σ H1 H2 hi ⟨u, t', o, rfl, r1, r2, r3, r4⟩ ⟨rfl, rfl⟩
    refine ⟨_, rfl, s1, fun p np => ?_⟩
    refine ⟨_, .tup [t'], _, rfl, r1.trans (same_new np _), .tup upd_same (.one (r2.same (same_new np _))), fun f => ?_, ?_⟩
    · rw [Th.worth, Th.worths, Th.worths, r3 f, Bool.and_true]
    · rw [Th.nodes, Th.nodesL, Th.nodesL, r4]
      omega
  · rintro σ H1 ⟨u, t', o, rfl, r1, r2, r3, r4⟩
    exact ⟨_, rfl, q u t' _ r1 r2 r3 r4⟩
end
end Fl
/-! defs that ask repr: nothing is told by repr around them (no guard) -/
namespace Fl
open PySem PySem.Spec PyProof.Rows L2
structure FnG (P : Program) (w : World) (K : PySem.W.Frag) (mg : Str → Option Value) (base : Heap) (k : Nat) (f : Addr) (fd : FuncData) (ps : List Str) (sp : Sp) : Prop where
  len : ∀ vs H Q E, sp vs H Q E → vs.length = ps.length
  run : ∀ (A : Around) (outer : List Env) (s : Shared) (H : Hp) (args : Args) (us : List Value) (vs : List V) (Q : VK) (E : XK), Room k A → A.guards = some [] → Env0 P w K mg base A outer s H → BindsTo s fd args (ps.zip us) → Vals vs us → sp vs H Q E →
    codeAny (model P w) A (.call (.ref f) args) (CR (L2.CX P w) outer P w H s Q E) s
/-- the name x stands for such a def -/
structure Cg (P : Program) (w : World) (K : PySem.W.Frag) (mg : Str → Option Value) (base : Heap) (k : Nat) (x : Str) (ps : List Str) (sp : Sp) : Prop where
  ex : ∃ f fd, FnG P w K mg base k f fd ps sp ∧ (∀ us : List Value, us.length = ps.length → bindArgs fd ⟨us, []⟩ = pure (ps.zip us)) ∧ PySem.W.keepIn K (.ref f) = true ∧ mg x = some (.ref f) ∧ ∃ oc od osl, K.lookup f = some ⟨oc, od, .func fd, osl⟩
section
variable {P : Program} {w : World} {K : PySem.W.Frag} {mg : Str → Option Value} {base : Heap} {x : Str} {st : Stmt} {N ps : List Str} {k : Nat} {sp : Sp}
theorem fng_of {f : Addr} {name qual : Str} {params : Arguments} {body : List Stmt} {scope : Scope} {dV kV doc pm cdv ct oc : Value} {an od : Option Addr} {osl : Array (Option Value)}
    (lk : K.lookup f = some ⟨oc, od, .func (PySem.W.fnOf name qual params body scope dV kV doc pm an cdv ct), osl⟩) (hcd : PySem.W.codeIn K cdv qual = true) (S : FnScope N ps scope) (len : ∀ vs H Q E, sp vs H Q E → vs.length = ps.length)
    (hb : ∀ (A : Around) (outer : List Env) (s : Shared) (H : Hp) (vs : List V) (Q : VK) (E : XK), Room k (A.deeper (envOfC qual scope s.heap.objs.size f cdv)) → (A.deeper (envOfC qual scope s.heap.objs.size f cdv)).guards = some [] → sp vs H Q E →
      ∃ t, PSs (cxOf (L2.CX P w) P w K mg base N qual scope f cdv A outer s H E) body t ∧ t { nx := fun _ H' => Q .non H', rt := Q } (start N vs) H) :
    FnG P w K mg base (k + 1) f (PySem.W.fnOf name qual params body scope dV kV doc pm an cdv ct) ps sp := by
  constructor
  · exact len
  intro A outer s H args us vs Q E hr hg e0 bd r hsp
  have up : ∀ b o, base.get? b = some o → s.heap.get? b = some o := fun b o e => (e0.bs b o e).1
  have X0 : K.In s.heap := e0.mod.kin.keeps up
  have kinds : ∀ y ∈ ps.zip us, scope.names.lookup y.1 = some .local ∨ (scope.names.lookup y.1 = some .cell ∧ ((cellsFrom (s.heap.objs.size + 1) scope.names []).lookup y.1).isSome = true) := by
    rintro ⟨n, v⟩ hy
    rcases S.par n (List.of_mem_zip hy).1 with q | q
    · exact Or.inl q
    · exact Or.inr ⟨q, PySem.W.cellsFrom_some _ _ _ (Or.inl q)⟩
  apply codeAny_call_function hr.depth (X0 _ _ lk) rfl S.co S.gen rfl (PySem.W.codeRec_of X0 hcd)
  apply bd
  apply wpAny_newFunctionEnv_cells S.kind kinds
  intro env he z x
  subst he
  constructor
  · exact (e0.mod.nolimit.keeps up).keeps x.toInCall.keep
  apply codeAny_func
  obtain ⟨t, ht, hq⟩ := hb A outer s H vs Q E (hr.deeper _) hg hsp
  have I : Inv (cxOf (L2.CX P w) P w K mg base N qual scope f cdv A outer s H E) [] (start N vs) H z := inv_start S hr.hd e0 (len _ _ _ _ hsp) r x
  apply wpAny_mono (ht.run [] z (start N vs) H _ I hq) ?_ (fun e s' h => h)
  intro fl s' h
  cases fl with
  | ret u =>
    obtain ⟨v, σ', H', J, rv, q⟩ := h
    exact ⟨v, H', J.os, J.bare, J.base, J.hok, rv, q⟩
  | next =>
    obtain ⟨σ', H', J, q⟩ := h
    exact ⟨V.non, H', J.os, J.bare, J.base, J.hok, rfl, q⟩
  | brk =>
    obtain ⟨_, _, _, q⟩ := h
    exact q.elim
  | cont =>
    obtain ⟨_, _, _, q⟩ := h
    exact q.elim
theorem cg_mk (F : FnP K mg x st) (S : FnScope N ps (defScope st)) (hb : bindOk st x ps) (len : ∀ vs H Q E, sp vs H Q E → vs.length = ps.length)
    (body : ∀ (cdv : Value) (A : Around) (outer : List Env) (s : Shared) (H : Hp) (vs : List V) (Q : VK) (E : XK), Room k (A.deeper (envOfC x (defScope st) s.heap.objs.size (He.ga K x) cdv)) →
      (A.deeper (envOfC x (defScope st) s.heap.objs.size (He.ga K x) cdv)).guards = some [] → sp vs H Q E →
      ∃ t, PSs (cxOf (L2.CX P w) P w K mg base N x (defScope st) (He.ga K x) cdv A outer s H E) (defBody st) t ∧ t { nx := fun _ H' => Q .non H', rt := Q } (start N vs) H) : Cg P w K mg base (k + 1) x ps sp := by
  obtain ⟨fd, D⟩ := F.ex
  obtain ⟨oc, od, dV, kV, doc, pm, an, cdv, ct, osl, rfl, lk, hcd, hd, hkw⟩ := D.ex
  refine ⟨_, _, fng_of lk hcd S len (fun A outer s H vs Q E hr hg h => body cdv A outer s H vs Q E hr hg h), ?_, D.kp, F.gl, _, _, _, lk⟩
  rcases hd with ⟨_, e⟩ | ⟨e, _⟩
  · subst e
    exact fun us hl => hb kV doc pm an cdv ct us hl
  · exact absurd rfl e
end
section
variable {X : Cx} {k j : Nat} {x : Str} {ps : List Str} {sp : Sp} {E : XK} {p pos : Pos} {e : Expr} {es : List Expr} {t : TA}
theorem pe_g (c : Cg X.prog X.w X.K X.mg X.base k x ps sp) (hr : Room j X.A) (hG : X.A.guards = some []) (hk : k ≤ j) (hg : Gl X x) (hx : Passes (L2.CX X.prog X.w) X E) (ha : PA X (e :: es) t) (hdb : (x == ("__debug__" : Str)) = false := by decide)
    (he : starEach (e :: es) X.env = (false, eval e X.env) :: starEach es X.env := by rfl) (hpl : (backTo pos (starEach es X.env)).any (·.1) = false := by rfl) : PE X (.Call (.Name x p) (e :: es) [] pos) (tCall sp [] E t) := by
  obtain ⟨f, fd, F, b', kp, g, _⟩ := c.ex
  have b := Binds.all (K := X.K) b'
  constructor
  intro pins s σ H Q I h
  apply wpAny_Call_Name_kw (ld_glob I hg g ?_ hdb)
  apply PySem.W.callWith_K (h₀ := X.base) I.ok.mod.kin kp ?_ he hpl
  apply thn (ha.run pos pins s σ H _ I h)
  rintro us z ⟨vs, H1, I1, r, q⟩
  refine ⟨I1.kIn, ?_⟩
  rw [List.append_nil] at q
  have hl : us.length = ps.length := r.length.symm.trans (F.len _ _ _ _ q)
  have bd := b z us I1.kIn (by rw [List.append_nil]; exact hl)
  rw [List.append_nil] at bd
  apply wpAny_call
  apply codeAny_mono (F.run X.A X.stack z H1 ⟨us, []⟩ us vs Q E (hr.mono hk) hG I1.env0 bd r q)
  intro r' s' hq
  cases r' with
  | error er => exact hx pins σ H1 z er s' I1 hq
  | ok fl =>
    cases fl with
    | ret u => exact I1.after hq
    | next => exact hq.elim
    | brk => exact hq.elim
    | cont => exact hq.elim
/-- repr of data -/
def rReprD (K : PySem.W.Frag) : List V → Hp → VK → Prop := fun xs H Q => ∃ v d, xs = [v] ∧ Dp K H v d ∧ d.showable = true ∧ d.hasDict = false ∧ d.depth ≤ 60 ∧ d.shown.length ≤ sizeLine ∧ Q (.str d.shown) H
theorem call_reprD {j : Nat} (hr : Room j X.A) (hG : X.A.guards = some []) : CallR X (.builtin "repr") (rReprD X.K) := by
  intro pins s σ H xs us Q I r h
  obtain ⟨v, d, rfl, hd, h1, h2, h3, h4, q⟩ := h
  obtain ⟨u, rfl, ru⟩ := vals1 r
  have hu := hr.units
  obtain ⟨as, rd⟩ := Dp.reads I d v u hd ru
  have fin : ∀ t, EP X pins σ Q (.str d.shown t) { s with toks := s.toks + 1 } := fun t => ⟨.str d.shown, H, I.tok _, ⟨_, rfl⟩, q⟩
  cases rd with
  | none => exact PySem.P.repr_of_none (fin _)
  | bool b => cases b <;> exact PySem.P.repr_of_bool (fin _)
  | int i t => exact PySem.P.repr_of_int (by simpa [PyData.showable] using h1) (fin _)
  | str x t => exact PySem.P.repr_of_str (fin _) h4
  | list a b c e => exact repr_of_reads' (.list a b c e) h1 (fun z => by rw [h2] at z; cases z) hG (by omega) (fun _ _ e => e) (fun h' u tk k => ⟨.str _, H, I.kept (t' := tk) k, ⟨_, rfl⟩, q⟩) h4
  | tuple a b c e => exact repr_of_reads' (.tuple a b c e) h1 (fun z => by rw [h2] at z; cases z) hG (by omega) (fun _ _ e => e) (fun h' u tk k => ⟨.str _, H, I.kept (t' := tk) k, ⟨_, rfl⟩, q⟩) h4
  | dict a b c e f => cases h2
end
/-! ### the end of a law whose defs ask repr -/
section
variable {P : Program} {w : World} {K : PySem.W.Frag} {mg mb : Str → Option Value} {k : Nat} {fa a : Addr} {fd : FuncData} {x : Str} {sp : Sp} {s : Shared} {vs : List Value} {ns : List Int}
theorem callG_at {H : Hp} (KX : K.In s.heap) (g1 : s.heap.Ns mainGlobals mg) (g2 : s.heap.Ns builtinsNs mb) (g3 : ∀ x : Str, x ≠ "__name__" → mb x = bootBuiltins x) (g4 : s.heap.NoLimit) (g5 : s.gens = #[])
    (ha : s.heap.get? a = some { cls := .type "list", data := .seq vs.toArray }) (hr : Room k callerA) (F : ∀ base : Heap, K.In base → base.Ns mainGlobals mg → FnG P w K mg base k fa fd [x] sp) (bd : ∀ (s : Shared) (u : Value), BindsTo s fd ⟨[u], []⟩ [(x, u)])
    (hsp : sp [.ref a] H (fun v _ => v = .bl true) fun _ _ _ => False) (only : Only H) (ok : HOk P w H s.heap) (one : ∀ b, H b ≠ none → b = a) (apart : H a ≠ none → K.lookup a = none) :
    codeAny (model P w) callerA (.call (.ref fa) ⟨[.ref a], []⟩) (fun r s' => r = .ok (.ret (.bool true)) ∧ OldK s.heap s'.heap ∧ s'.os = s.os ∧ AllBare s'.gens) s := by
  have away : ∀ b : Addr, b ≠ a → H b = none := fun b hb => by
    cases q : H b with
    | none => rfl
    | some u => exact absurd (one b (by rw [q]; exact fun z => nomatch z)) hb
  have dicts : ∀ {b : Addr} {m : Str → Option Value}, s.heap.Ns b m → (hidT s.heap H).Ns b m := by
    rintro b m ⟨o, es, ep, e, d, r⟩
    have hb : b ≠ a := fun z => by
      rw [z, ha] at e
      cases e
      cases d
    exact ⟨o, es, ep, hidT_get e (away b hb), d, r⟩
  have KB : K.In (hidT s.heap H) := by
    intro b o e
    have hn : H b = none := by
      cases q : H b with
      | none => rfl
      | some u =>
        have z := one b (by rw [q]; exact fun z => nomatch z)
        rw [z] at q e
        rw [apart (by rw [q]; exact fun z => nomatch z)] at e
        cases e
    exact hidT_get (KX b o e) hn
  have lim : (hidT s.heap H).NoLimit := by
    obtain ⟨mc, z1, z2⟩ := g4
    exact ⟨mc, dicts z1, z2⟩
  have E0 : Env0 P w K mg (hidT s.heap H) callerA [] s H :=
    { frames := rfl, mod := { kin := KB, glob := dicts g1, blt := ⟨mb, dicts g2, g3⟩, nolimit := lim }, bs := fun b o e => of_hidT e, bsz := Nat.le_of_eq (hidT_size _ _), funs := trivial, frf := fun b hb => (nomatch hb), hok := ok, bare := .of_eq g5 }
  apply codeAny_mono ((F _ KB (dicts g1)).run callerA [] s H ⟨[.ref a], []⟩ [.ref a] [.ref a] _ _ hr rfl E0 (bd s (.ref a)) (.cons rfl .nil) hsp)
  intro r s' h
  cases r with
  | error e =>
    obtain ⟨_, _, _, _, _, _, _, _, _, _, _, _, z⟩ := h
    exact z.elim
  | ok fl =>
    cases fl with
    | next => exact h.elim
    | brk => exact h.elim
    | cont => exact h.elim
    | ret u =>
      obtain ⟨v, H', os, bare, un, ok', r', q⟩ := h
      subst q
      cases r'
      refine ⟨rfl, OldK.of_keep ?_, os, bare⟩
      intro b o e
      rcases only b with z | ⟨ob, ys, z⟩
      · exact un.keep b o e z (fun m => nomatch m) (fun m => nomatch m)
      · obtain ⟨y1, _⟩ := ok b _ z
        obtain ⟨y2, _⟩ := ok' b _ (un.frzs b ob _ z)
        rw [e] at y1
        cases y1
        exact y2
theorem callG (KX : K.In s.heap) (g1 : s.heap.Ns mainGlobals mg) (g2 : s.heap.Ns builtinsNs mb) (g3 : ∀ x : Str, x ≠ "__name__" → mb x = bootBuiltins x) (g4 : s.heap.NoLimit) (g5 : s.gens = #[])
    (ha : s.heap.get? a = some { cls := .type "list", data := .seq vs.toArray }) (hi : IntsAre vs ns) (hl : ns.length ≤ sizeLine) (hr : Room k callerA) (F : ∀ base : Heap, K.In base → base.Ns mainGlobals mg → FnG P w K mg base k fa fd [x] sp)
    (bd : ∀ (s : Shared) (u : Value), BindsTo s fd ⟨[u], []⟩ [(x, u)]) (hsp : ∀ H : Hp, Only H → SqL K H a (ns.map V.int) → sp [.ref a] H (fun v _ => v = .bl true) fun _ _ _ => False) :
    codeAny (model P w) callerA (.call (.ref fa) ⟨[.ref a], []⟩) (fun r s' => r = .ok (.ret (.bool true)) ∧ OldK s.heap s'.heap ∧ s'.os = s.os ∧ AllBare s'.gens) s := by
  have rv := vals_ints hi
  cases hk : K.lookup a with
  | some o =>
    have e := KX a o hk
    rw [ha] at e
    cases e
    have on : Only (fun _ => none) := fun _ => .inl rfl
    have sq : SqL K (fun _ => none) a (ns.map V.int) := .inr ⟨_, vs.toArray, _, hk, rfl, rfl, rfl, by rw [List.size_toArray, hi.length]; exact hl, by simpa using rv⟩
    exact callG_at KX g1 g2 g3 g4 g5 ha hr F bd (hsp _ on sq) on (fun b u z => nomatch z) (fun b z => absurd rfl z) fun z => absurd rfl z
  | none =>
    have at1 : (fun b : Addr => if b = a then some (HO.frz { cls := .type "list", data := .seq vs.toArray } (.lst (ns.map V.int))) else none) a = some (HO.frz { cls := .type "list", data := .seq vs.toArray } (.lst (ns.map V.int))) := if_pos rfl
    have on : Only (fun b : Addr => if b = a then some (HO.frz { cls := .type "list", data := .seq vs.toArray } (.lst (ns.map V.int))) else none) := fun b => by
      by_cases hb : b = a
      · exact .inr ⟨_, _, if_pos hb⟩
      · exact .inl (if_neg hb)
    refine callG_at KX g1 g2 g3 g4 g5 ha hr F bd (hsp _ on (.inl (.inr ⟨_, at1⟩))) on (fun b u z => ?_) (fun b z => ?_) fun _ => hk
    · by_cases hb : b = a
      · subst hb
        rw [if_pos rfl] at z
        cases z
        exact ⟨ha, by rw [List.length_map]; exact hl, vs, _, rv, ha⟩
      · rw [if_neg hb] at z
        cases z
    · by_cases hb : b = a
      · exact hb
      · exact absurd (if_neg hb) z
end
theorem walk_ofG {l : PySem.W.OpenLaw} {n k : Nat} {q : Program} {loose : List Str} {XP : (Str → Option Value) → Heap → Prop} {YP : World → Heap → Prop} {d : DefRec} {x : Str}
    (hn : l.most = some n) (hn2 : n ≤ sizeLine) (hdf : d.params.defaults = []) (hr : Room k callerA)
    (F : ∀ (w : World) (mg : Str → Option Value) (fa : Addr) (h : Heap), YP w h → h.Ns mainGlobals mg → mg d.name = some (.ref fa) →
      ∃ (K : PySem.W.Frag) (fd : FuncData) (sp : Sp), K.In h ∧ (∀ (s : Shared) (u : Value), BindsTo s fd ⟨[u], []⟩ [(x, u)]) ∧
        (∀ (H : Hp) (a : Addr) (ns : List Int), ns.length ≤ n → Only H → SqL K H a (ns.map V.int) → sp [.ref a] H (fun v _ => v = .bl true) fun _ _ _ => False) ∧
        ∀ base : Heap, K.In base → base.Ns mainGlobals mg → FnG l.prog w K mg base k fa fd [x] sp) :
    PySem.W.WalkO q loose XP YP l.row.toRowW d [] (fun f vs => PySem.call f vs) := by
  apply Att.attach_call hn hdf
  intro w s0 s1 mg mb fa o pm cd doc a vs ns G Y ho hd hcd hmg hobj hints hlen hg
  obtain ⟨K, fd, sp, KX, hb, hsp, hF⟩ := F w mg fa _ Y G.T.g hmg
  exact callG KX G.T.g G.T.b G.T.builtins G.T.nolimit hg hobj hints (Nat.le_trans hlen hn2) hr hF hb fun H hO hS => hsp H a ns hlen hO hS
/-- the end, of a def by name -/
theorem walk_ofN {l : PySem.W.OpenLaw} {n k : Nat} {q : Program} {loose : List Str} {XP : (Str → Option Value) → Heap → Prop} {YP : World → Heap → Prop} {d : DefRec} {x y : Str}
    (hn : l.most = some n) (hn2 : n ≤ sizeLine) (hdf : d.params.defaults = []) (hr : Room k callerA) (hy : d.name = y)
    (F : ∀ (w : World) (mg : Str → Option Value) (h : Heap), YP w h → h.Ns mainGlobals mg →
      ∃ (K : PySem.W.Frag) (sp : Sp), K.In h ∧ (∀ (H : Hp) (a : Addr) (ns : List Int), ns.length ≤ n → Only H → SqL K H a (ns.map V.int) → sp [.ref a] H (fun v _ => v = .bl true) fun _ _ _ => False) ∧
        ∀ base : Heap, Cg l.prog w K mg base k y [x] sp) :
    PySem.W.WalkO q loose XP YP l.row.toRowW d [] (fun f vs => PySem.call f vs) := by
  refine walk_ofG (x := x) hn hn2 hdf hr fun w mg fa h Y G g => ?_
  rw [hy] at g
  obtain ⟨K, sp, KX, hsp, C⟩ := F w mg h Y G
  obtain ⟨f, fd, F1, b, kp, gf, oc, od, osl, lk⟩ := (C h).ex
  cases g.symm.trans gf
  refine ⟨K, fd, sp, KX, fun s u => ?_, hsp, fun base _ _ => ?_⟩
  · exact .of_eq (b [u] rfl)
  · obtain ⟨f2, fd2, F2, _, _, gf2, oc2, od2, osl2, lk2⟩ := (C base).ex
    cases g.symm.trans gf2
    rw [lk] at lk2
    cases lk2
    exact F2
end Fl
/-! plain worths as data, and what stays as lists and dicts change -/
namespace Fl
open PySem PySem.Spec PyProof.Rows L2
mutual
def Th.dat : Th → PyData
  | .non => .none
  | .bl b => .bool b
  | .int i => .int i
  | .str x => .str x
  | .tup l => .tuple (Th.dats l)
  | .fn _ => .none
  | .oth => .none
def Th.dats : List Th → List PyData
  | [] => []
  | t :: r => t.dat :: Th.dats r
end
/-! what repr shows as the text says: no function, no list, no dict; good numbers and words; None too -/
mutual
def Th.showy : Th → Bool
  | .non => true
  | .bl _ => true
  | .int i => numB i
  | .str x => wordB x
  | .tup l => Th.showies l
  | .fn _ => false
  | .oth => false
def Th.showies : List Th → Bool
  | [] => true
  | t :: r => t.showy && Th.showies r
end
mutual
theorem showy_of : ∀ t : Th, t.worth false = true → t.showy = true
  | .non, w => by cases w
  | .fn _, w => by cases w
  | .oth, w => by cases w
  | .bl _, _ => rfl
  | .int _, w => w
  | .str _, w => w
  | .tup l, w => by
    rw [Th.showy]
    exact showies_of l (by simpa [Th.worth] using w)
theorem showies_of : ∀ l : List Th, Th.worths false l = true → Th.showies l = true
  | [], _ => rfl
  | t :: r, w => by
    rw [Th.worths, Bool.and_eq_true] at w
    rw [Th.showies, showy_of t w.1, showies_of r w.2]
    rfl
end
theorem wordB_signs {x : Str} (h : wordB x = true) : x.cps.toList.all isSign = true := by
  unfold wordB at h
  simp only [Bool.and_eq_true] at h
  exact h.2.2.2.2
theorem numB_abs {i : Int} (h : numB i = true) : i.natAbs ≤ 1000000000 := by
  unfold numB at h
  simp only [Bool.and_eq_true, decide_eq_true_eq] at h
  omega
theorem log2_num {n : Nat} (h : n ≤ 1000000000) : n.log2 ≤ 29 := by
  by_cases z : n = 0
  · subst z
    decide
  · have := (Nat.log2_lt z (k := 30)).mpr (by omega)
    omega
mutual
theorem dat_dp {K : PySem.W.Frag} {C : Addr} {H : Hp} : ∀ {v : V} {t : Th}, Is C H v t → t.showy = true → Dp K H v t.dat
  | _, _, .non, _ => by rw [Th.dat]; exact .non
  | _, _, .bl b, _ => by rw [Th.dat]; exact .bl b
  | _, _, .int i, _ => by rw [Th.dat]; exact .int i
  | _, _, .str x h, _ => by rw [Th.dat]; exact .str x
  | _, _, .tup h r, w => by rw [Th.dat]; exact .tup (SqT.of h) (dats_dp r (by simpa [Th.showy] using w))
  | _, _, .fn h _, w => by cases w
  | _, _, .lst h, w => by cases w
  | _, _, .dct h, w => by cases w
theorem dats_dp {K : PySem.W.Frag} {C : Addr} {H : Hp} : ∀ {xs : List V} {ts : List Th}, Iss C H xs ts → Th.showies ts = true → DpAll K H xs (Th.dats ts)
  | _, _, .nil, _ => by rw [Th.dats]; exact .nil
  | _, _, .cons h r, w => by
    rw [Th.showies, Bool.and_eq_true] at w
    rw [Th.dats]
    exact .cons (dat_dp h w.1) (dats_dp r w.2)
end
mutual
theorem dat_ok : ∀ t : Th, t.showy = true → t.dat.leavesShort 13 = true ∧ t.dat.showable = true ∧ t.dat.hasDict = false ∧ t.dat.weight + 1 ≤ 32 * t.nodes ∧ t.dat.depth ≤ t.depth
  | .non, _ => by
    rw [Th.dat, Th.nodes, Th.depth]
    exact ⟨rfl, rfl, rfl, by simp [PyData.weight], by simp [PyData.depth]⟩
  | .fn _, w => by cases w
  | .oth, w => by cases w
  | .bl b, _ => by
    rw [Th.dat, Th.nodes, Th.depth]
    exact ⟨rfl, rfl, rfl, by simp [PyData.weight], by simp [PyData.depth]⟩
  | .int i, w => by
    have z := numB_abs (show numB i = true from w)
    have lg := log2_num z
    rw [Th.dat, Th.nodes, Th.depth]
    refine ⟨?_, ?_, rfl, ?_, by simp [PyData.depth]⟩
    · simp only [PyData.leavesShort, decide_eq_true_eq]
      exact PyData.shown_int_le (by omega)
    · simp only [PyData.showable, decide_eq_true_eq]
      omega
    · simp only [PyData.weight]
      split <;> omega
  | .str x, w => by
    have z := wordB_len (show wordB x = true from w)
    have sg := wordB_signs (show wordB x = true from w)
    rw [Th.dat, Th.nodes, Th.depth]
    refine ⟨?_, rfl, rfl, ?_, by simp [PyData.depth]⟩
    · simp only [PyData.leavesShort, List.all_eq_true, decide_eq_true_eq]
      intro c hc
      have := List.all_eq_true.mp sg c hc
      unfold isSign at this
      simp only [Bool.and_eq_true, Nat.ble_eq] at this
      omega
    · have e : x.length = x.cps.size := rfl
      simp only [PyData.weight]
      omega
  | .tup l, w => by
    obtain ⟨h1, h2, h3, h4, h5⟩ := dats_ok l (by simpa [Th.showy] using w)
    rw [Th.dat, Th.nodes, Th.depth]
    refine ⟨by simpa only [PyData.leavesShort] using h1, by simpa only [PyData.showable] using h2, by simpa only [PyData.hasDict] using h3, ?_, ?_⟩
    · simp only [PyData.weight]
      omega
    · simp only [PyData.depth]
      omega
theorem dats_ok : ∀ l : List Th, Th.showies l = true → PyData.leavesShortAll 13 (Th.dats l) = true ∧ PyData.showableAll (Th.dats l) = true ∧ PyData.hasDictAll (Th.dats l) = false ∧ PyData.weightAll (Th.dats l) ≤ 32 * Th.nodesL l ∧ PyData.depthAll (Th.dats l) ≤ Th.depthL l
  | [], _ => by
    rw [Th.dats, Th.nodesL, Th.depthL]
    exact ⟨rfl, rfl, rfl, Nat.le_refl _, Nat.le_refl _⟩
  | t :: r, w => by
    rw [Th.showies, Bool.and_eq_true] at w
    obtain ⟨h1, h2, h3, h4, h5⟩ := dat_ok t w.1
    obtain ⟨g1, g2, g3, g4, g5⟩ := dats_ok r w.2
    rw [Th.dats, Th.nodesL, Th.depthL]
    refine ⟨?_, ?_, ?_, ?_, ?_⟩
    · simp only [PyData.leavesShortAll, h1, g1, Bool.and_self]
    · simp only [PyData.showableAll, h2, g2, Bool.and_self]
    · simp only [PyData.hasDictAll, h3, g3, Bool.or_self]
    · simp only [PyData.weightAll]
      omega
    · simp only [PyData.depthAll]
      omega
end
/-- repr of a plain worth -/
theorem repr_shw {K : PySem.W.Frag} {C : Addr} {H : Hp} {v : V} {t : Th} (h : Is C H v t) (w : t.showy = true) (hn : t.nodes ≤ 30000) (hd : t.depth ≤ 60) : Dp K H v t.dat ∧ t.dat.showable = true ∧ t.dat.hasDict = false ∧ t.dat.depth ≤ 60 ∧ t.dat.shown.length ≤ sizeLine := by
  obtain ⟨h1, h2, h3, h4, h5⟩ := dat_ok t w
  have e : (2 : Nat) ^ 20 = 1048576 := by decide
  exact ⟨dat_dp h w, h2, h3, by omega, PyData.shown_fits (by decide) (Nat.le_refl _) h1 (by omega)⟩
theorem repr_dat {K : PySem.W.Frag} {C : Addr} {H : Hp} {v : V} {t : Th} (h : Is C H v t) (w : t.worth false = true) (hn : t.nodes ≤ 30000) (hd : t.depth ≤ 60) : Dp K H v t.dat ∧ t.dat.showable = true ∧ t.dat.hasDict = false ∧ t.dat.depth ≤ 60 ∧ t.dat.shown.length ≤ sizeLine :=
  repr_shw h (showy_of t w) hn hd
/-! ### kinds stay -/
abbrev Ik (H H' : Hp) : Prop := Im H H'
theorem ik_same {H H' : Hp} (s : Same H H') : Im H H' := im_same s
theorem ik_fr {K : PySem.W.Frag} {d l a : Addr} {ns : List Int} {H H' : Hp} (r : Dr K d l a ns H) (r' : Dr K d l a ns H') (s : Fr d l H H') : Im H H' := im_fr r r' s
end Fl
/-! tuple * int, further than the layer's own rule -/
namespace Fl
open PySem PySem.Spec PyProof.Rows L2
def rMulT (K : PySem.W.Frag) : R2 := fun x y H Q => ∃ l k xs, x = .ref l ∧ y = .int k ∧ SqT K H l xs ∧ xs ≠ [] ∧ 2 ≤ k ∧ (xs.length : Int) * k ≤ 1000000 ∧ ∀ p, H p = none → Q (.ref p) (upd H p (.tup (List.replicate k.toNat xs).flatten))
section
variable {X : Cx}
theorem op_mulT : OpR X (binaryOp .Mult) (rMulT X.K) := by
  intro pins s σ H x y v u Q I rx ry h
  obtain ⟨l, k, xs, rfl, rfl, hT, hne, h1, hz, q⟩ := h
  cases rx
  obtain ⟨t, rfl⟩ := ry
  obtain ⟨its, r, ⟨⟨cls, dd, data, sl⟩, ho, hc, n, hd⟩, hs⟩ := I.tuple hT
  simp only at hc hd
  subst hc hd
  have hle : its.length = xs.length := r.length.symm
  have hn : its ≠ [] := fun e => hne (by
    rw [e] at hle
    exact List.eq_nil_of_length_eq_zero hle.symm)
  have hp : 1 ≤ xs.length := by
    rw [← hle]
    exact List.length_pos_iff.mpr hn
  have hi : its.toArray.isEmpty = false := by
    cases its with
    | nil => exact absurd rfl hn
    | cons a b => rfl
  have hsz0 : its.toArray.size = xs.length := by rw [List.size_toArray, hle]
  have h2 : k ≤ 1000000 := by
    have a1 : 1 * k ≤ (xs.length : Int) * k := Int.mul_le_mul_of_nonneg_right (by omega) (by omega)
    omega
  have hm : ((its.toArray.size : Nat) : Int) * k ≤ 1000000 := by
    rw [hsz0]
    exact hz
  have rl : k.toNat * xs.length ≤ 1000000 := by
    have e : ((k.toNat * xs.length : Nat) : Int) = (xs.length : Int) * k := by
      rw [Int.natCast_mul, Int.toNat_of_nonneg (by omega), Int.mul_comm]
    omega
  have flen : (List.replicate k.toNat its).flatten.length ≤ sizeLine := by
    rw [PyProof.Rows.lm_len_rep_flat, hle, sizeLine_eq]
    omega
  have c0 : (decide (k < -(2 ^ 63)) || decide (k ≥ 2 ^ 63)) = false := by
    rw [decide_eq_false (by omega), decide_eq_false (by omega)] <;> rfl
  have c1 : (its.toArray.isEmpty || k == 1) = false := by
    rw [hi, Bool.false_or]
    exact beq_eq_false_iff_ne.mpr (by omega)
  have c2 : (decide (k ≤ 0) || its.toArray.isEmpty) = false := by
    rw [hi, Bool.or_false]
    exact decide_eq_false (by omega)
  have c4 : Builtin.Tuple.tupleTooMany (((its.toArray.size : Nat) : Int) * k) = false := by
    unfold Builtin.Tuple.tupleTooMany
    rw [sizeLine_eq]
    exact decide_eq_false (by omega)
  refine wpAny_binaryOp_repeat_ref (T := "tuple") (U := "int") (by decide) ⟨_, ho, rfl⟩ (fun s' => typeIs_int s' k t) noFill_tuple_mul F.fills_int_mul F.slot_int_rmul repeat_tuple F.slot_int_index.lookup
    (call_meets F.slot_int_rmul (typeIs_int s k t) F.entry_int_rmul (F.args_int_rmul_2 _ _) (int_rmul_tuple k t l its.toArray n dd sl)
      ⟨ho, rfl, ⟨_, ho, rfl⟩, call_meets F.slot_tuple_mul ⟨_, ho, rfl⟩ F.entry_tuple_mul (F.args_tuple_mul_2 _ _) (tuple_mulW l its.toArray n dd sl k t c0 c1 c2 (by omega) c4 (by rw [size_rep, List.size_toArray]; exact flen)) ⟨ho, ?_⟩⟩)
  rw [size_rep]
  refine ⟨.ref s.heap.objs.size, _, I.laid (t' := s.toks) (o := .tup (List.replicate k.toNat xs).flatten) (fun b ob q => Heap.get?_push_of_some _ q) (Nat.le_refl _) ?_, rfl, q _ (I.hok.fresh (Nat.le_refl _))⟩
  exact ⟨by rw [PyProof.Rows.lm_len_rep_flat, sizeLine_eq]; omega, _, r.rep k.toNat, IsTup.new _ _⟩
end
end Fl
/-! what several laws want -/
namespace Fl
open PySem PySem.Spec PyProof.Rows L2
theorem Iss.get {C : Addr} {H : Hp} : ∀ {xs : List V} {ts : List Th} {i : Nat} {x : V}, Iss C H xs ts → xs[i]? = some x → ∃ t, ts[i]? = some t ∧ Is C H x t
  | _, _, 0, _, .cons h _, e => ⟨_, rfl, by cases e; exact h⟩
  | _, _, i + 1, _, .cons _ r, e => r.get (i := i) e
theorem Iss.take {C : Addr} {H : Hp} : ∀ {xs : List V} {ts : List Th} (i : Nat), Iss C H xs ts → Iss C H (xs.take i) (ts.take i)
  | _, _, 0, _ => .nil
  | _, _, _ + 1, .nil => .nil
  | _, _, i + 1, .cons h r => .cons h (r.take i)
theorem Iss.drop {C : Addr} {H : Hp} : ∀ {xs : List V} {ts : List Th} (i : Nat), Iss C H xs ts → Iss C H (xs.drop i) (ts.drop i)
  | _, _, 0, h => h
  | _, _, _ + 1, .nil => .nil
  | _, _, i + 1, .cons _ r => r.drop i
theorem depth_mem : ∀ {ts : List Th} {t : Th}, t ∈ ts → t.depth ≤ Th.depthL ts
  | _ :: _, _, .head _ => by rw [Th.depthL]; omega
  | _ :: _, _, .tail _ h => by have := depth_mem h; rw [Th.depthL]; omega
theorem nodes_mem : ∀ {ts : List Th} {t : Th}, t ∈ ts → t.nodes ≤ Th.nodesL ts
  | _ :: _, _, .head _ => by rw [Th.nodesL]; omega
  | _ :: _, _, .tail _ h => by have := nodes_mem h; rw [Th.nodesL]; omega
theorem worth_mem {f : Bool} : ∀ {ts : List Th} {t : Th}, t ∈ ts → Th.worths f ts = true → t.worth f = true
  | _ :: _, _, .head _, e => by rw [Th.worths, Bool.and_eq_true] at e; exact e.1
  | _ :: _, _, .tail _ h, e => by rw [Th.worths, Bool.and_eq_true] at e; exact worth_mem h e.2
theorem worth_down {t : Th} (h : t.worth true = false) : t.worth false = false := by
  cases e : t.worth false with
  | false => rfl
  | true => rw [worth_up e] at h; exact h
theorem hu1 {A : Around} {k : Nat} (hr : Room k A) : A.units + 1 < cLine := by
  have := hr.units
  omega
theorem join_seq {ta tb : TS} {D : Ends} {σ : L2.St} {H : Hp} (J : (L2.St → Hp → Prop) → Prop) (h1 : J (fun σ H => tb D σ H)) (h2 : ∀ D' : Ends, J D'.nx → ta D' σ H) : tSeq ta tb D σ H := h2 _ h1
theorem stepG {i : Nat} {x : V} {σ : L2.St} {H : Hp} {k : L2.St → Hp → Prop} (h : k (σ.set i (some x)) H) : gName i x σ H k := h
theorem stepN {D : Ends} {σ : L2.St} {H : Hp} (h : D.nx σ H) : tNext D σ H := h
theorem join_t {T : (Bool → Hp → Prop) → Prop} {k : Bool → Hp → Prop} (J : (Bool → Hp → Prop) → Prop) (h1 : J k) (h2 : ∀ k, J k → T k) : T k := h2 k h1
theorem flat_rep {α : Type} (v : α) : ∀ k : Nat, (List.replicate k [v]).flatten = List.replicate k v
  | 0 => rfl
  | k + 1 => by rw [List.replicate_succ, List.replicate_succ, List.flatten_cons, flat_rep v k]; rfl
theorem iss_rep {C : Addr} {H : Hp} {v : V} {t : Th} (h : Is C H v t) : ∀ k : Nat, Iss C H (List.replicate k v) (List.replicate k t)
  | 0 => .nil
  | k + 1 => .cons h (iss_rep h k)
theorem nodes_rep {t : Th} (h : t.nodes = 1) : ∀ k : Nat, Th.nodesL (List.replicate k t) = k
  | 0 => rfl
  | k + 1 => by rw [List.replicate_succ, Th.nodesL, h, nodes_rep h k]; omega
theorem worths_rep {f : Bool} {t : Th} (h : t.worth f = true) : ∀ k : Nat, Th.worths f (List.replicate k t) = true
  | 0 => rfl
  | k + 1 => by rw [List.replicate_succ, Th.worths, h, worths_rep h k]; rfl
theorem not_num {t : Th} (h : t.worth true = false) : t.num = false := by
  cases t <;> first | rfl | exact h
theorem not_wrd {t : Th} (h : t.worth true = false) : t.wrd = false := by
  cases t <;> first | rfl | exact h
theorem ite_no {c A B : Prop} [Decidable c] (h : ¬ c) (b : B) : if c then A else B := by
  rw [if_neg h]
  exact b
theorem str_self {k : Bool → Hp → Prop} {H : Hp} (x : Str) (h : k false H) : k (!decide (V.str x = V.str x)) H := by
  rw [decide_eq_true rfl]
  exact h
theorem shaped_bb (a b : Bool) : SeqAt.shaped (.tuple [.bool a, .bool b]) = true := by cases a <;> cases b <;> decide +kernel
theorem not_eqv (a b : Bool) : ¬ (!PyData.eqv (.tuple [.bool a, .bool b]) (.tuple [.bool a, .bool b])) = true := by
  simp [PyData.eqv, PyData.eqvAll]
theorem bl_not (b : Bool) : ¬ decide (V.bl b = V.bl (!b)) = true := by
  rw [dec_bl]
  cases b <;> decide
theorem bl_self (b : Bool) : ¬ (!decide (V.bl b = V.bl b)) = true := by
  rw [dec_bl]
  cases b <;> decide
end Fl
/-! the language, plain: what a part comes to, with no program in sight -/
namespace Fl
open PySem PySem.Spec PyProof.Rows L2
/-! what of the language is spoken of: calls, same, how many names -/
def callsOn : Bool := true
def sameOn : Bool := true
def namesMost : Nat := 4000
def formList : List (Str × Nat) := [("quote", 1), ("if", 3), ("fn", 2), ("rec", 3), ("let", 3), ("run", 2), ("add", 2), ("less", 2), ("times", 2), ("below", 2), ("same", 2), ("join", 2), ("first", 1), ("rest", 1), ("kind", 1), ("row", 1)]
def formCount (x : Str) : Option Nat := formList.lookup x
def isForm (x : Str) : Bool := (formCount x).isSome
/-- a row's parts -/
def Th.row : Th → List Th
  | .tup l => l
  | _ => []
mutual
/-- alike: plain worths that are equal and of one kind throughout -/
def Th.same : Th → Th → Bool
  | .bl a, .bl b => a == b
  | .int a, .int b => a == b
  | .str a, .str b => decide (a = b)
  | .tup a, .tup b => Th.sames a b
  | _, _ => false
def Th.sames : List Th → List Th → Bool
  | [], [] => true
  | t :: r, u :: s => t.same u && Th.sames r s
  | _, _ => false
end
def Th.kind : Th → Str
  | .bl _ => "truth"
  | .int _ => "number"
  | .str _ => "word"
  | .tup _ => "row"
  | _ => "function"
/-- a name: a word that is no form's -/
def isName : Th → Bool
  | .str x => !isForm x
  | _ => false
def strOf : Th → Option Str
  | .str x => some x
  | _ => none
def areNames : Th → Bool
  | .tup l => l.all isName && decide ((l.filterMap strOf).Nodup)
  | _ => false
/-- the worths of a name in a scope of pairs, in order -/
def hasName (x : Str) : Th → Option Th
  | .tup [.str y, v] => if y = x then some v else none
  | _ => none
def looks (x : Str) (sc : List Th) : List Th := sc.filterMap (hasName x)
/-- whether a row at whose head a form's word stands is told so -/
def isFormed (w : Str) (rest : List Th) : Bool :=
  decide (formCount w = some rest.length) && ((!(w == "let" || w == "rec") || isName (rest.getD 0 .non)) && (!(w == "fn" || w == "rec") || areNames (rest.getD (rest.length - 2) .non)))
/-- what is asked of names here -/
def namesG (w : Str) (rest : List Th) : Bool := !(w == "fn" || w == "rec") || Nat.ble (rest.getD (rest.length - 2) .non).row.length namesMost
/-- what comes of a part, or of a form's parts: a worth, or an end's word -/
inductive Out where
  | val (t : Th)
  | stop (e : Str)
def ofNums (w : Str) : Th → Th → Out
  | .int a, .int b => if w == "below" then .val (.bl (decide (a < b))) else
      let c := if w == "add" then a + b else if w == "less" then a - b else a * b
      if numB c then .val (.int c) else .stop "far"
  | _, _ => .stop "kind"
def isNumW (w : Str) : Bool := w == "add" || (w == "less" || (w == "times" || w == "below"))
def isNilT : Th → Bool
  | .tup [] => true
  | _ => false
def joinT (one : Th) : Th → Out
  | .tup l => .val (.tup (one :: l))
  | _ => .stop "kind"
def partT (w : Str) : Th → Out
  | .tup (a :: r) => .val (if w == "first" then a else .tup r)
  | _ => .stop "kind"
def doneBy (w : Str) (ws : List Th) : Out :=
  let one := ws.getD 0 .non
  let two := ws.getD 1 .non
  if isNumW w then ofNums w one two
  else if w == "same" then (if one.worth false && two.worth false then .val (.bl (one.same two)) else .stop "kind")
  else if w == "join" then joinT one two
  else if w == "kind" then .val (.str one.kind)
  else if w == "row" then .val (.bl (isNilT one))
  else partT w one
def small (t : Th) : Bool := Nat.ble t.nodes 30000 && Nat.ble t.depth 40
/-- what is asked of worths here -/
def doneG (w : Str) (ws : List Th) : Bool := (!(w == "same") || (sameOn && (small (ws.getD 0 .non) && small (ws.getD 1 .non)))) && (!(w == "join") || Nat.ble (ws.getD 1 .non).row.length 100000)
inductive Res where
  | val (t : Th) (n : Int)
  | stop (e : Str) (n : Int)
/-- of worths that came, from the left -/
inductive Ress where
  | vals (l : List Th) (n : Int)
  | stop (e : Str) (n : Int)
def Out.at (n : Int) : Out → Res
  | .val t => .val t n
  | .stop e => .stop e n
def Res.then (r : Option Res) (k : Th → Int → Option Res) : Option Res := match r with
  | some (.val t n) => k t n
  | some (.stop e n) => some (.stop e n)
  | none => none
def Ress.then (r : Option Ress) (k : List Th → Int → Option Res) : Option Res := match r with
  | some (.vals l n) => k l n
  | some (.stop e n) => some (.stop e n)
  | none => none
def Res.told (n0 : Int) (r : Option Res) : Option Res := match r with
  | some (.val t n) => some (.val (.tup [.str "over", t, .int (n - n0)]) n)
  | some (.stop e n) => some (.val (.tup [.str e, .tup [], .int (n - n0)]) n)
  | none => none
def bindAll : List Th → List Th → List Th → List Th
  | x :: xs, v :: vs, sc => bindAll xs vs (.tup [x, v] :: sc)
  | _, _, sc => sc
def ownTh (f o : Th) (sc : List Th) : List Th := match o with
  | .non => sc
  | o => .tup [o, f] :: sc
def scG (sc : List Th) : Bool := Nat.ble sc.length 100000
mutual
/-- what a part comes to; n: the steps so far, lim: at how many the floor ends; fuel: how deep the reckoning may go -/
def ev : Nat → Th → List Th → Int → Int → Option Res
  | 0, _, _, _, _ => none
  | f + 1, p, sc, lim, n => if n = lim then some (.stop "steps" n) else
    match p with
    | .str x => some (if isForm x then .stop "form" (n + 1) else match looks x sc with
      | v :: _ => .val v (n + 1)
      | [] => .stop "name" (n + 1))
    | .tup (h :: r) => if !scG r then none else match strOf h with
      | some w => if isForm w then evForm f w r sc lim (n + 1) else Ress.then (evs f (h :: r) sc lim (n + 1)) fun ws m => evCall f ws lim m
      | none => Ress.then (evs f (h :: r) sc lim (n + 1)) fun ws m => evCall f ws lim m
    | t => some (.val t (n + 1))
def evForm : Nat → Str → List Th → List Th → Int → Int → Option Res
  | f, w, r, sc, lim, n =>
    if !namesG w r then none
    else if !isFormed w r then some (.stop "form" n)
    else evGood f w r sc lim n
def evGood : Nat → Str → List Th → List Th → Int → Int → Option Res
  | f, w, r, sc, lim, n =>
    if w == "quote" then some (.val (r.getD 0 .non) n)
    else if w == "fn" then some (.val (.fn [r.getD 0 .non, r.getD 1 .non, .tup sc, .non]) n)
    else if w == "rec" then some (.val (.fn [r.getD 1 .non, r.getD 2 .non, .tup sc, r.getD 0 .non]) n)
    else if w == "let" then Res.then (ev f (r.getD 1 .non) sc lim n) fun v m => if scG sc then ev f (r.getD 2 .non) (.tup [r.getD 0 .non, v] :: sc) lim m else none
    else if w == "if" then Res.then (ev f (r.getD 0 .non) sc lim n) fun v m => match v with
      | .bl b => ev f (if b then r.getD 1 .non else r.getD 2 .non) sc lim m
      | _ => some (.stop "kind" m)
    else Ress.then (evs f r sc lim n) fun ws m => if w == "run" then (match ws.getD 1 .non with
        | .int k => if 0 ≤ k ∧ k ≤ 100000 then Res.told m (ev f (ws.getD 0 .non) [] (min (m + k) lim) m) else some (.stop "kind" m)
        | _ => some (.stop "kind" m))
      else if doneG w ws then some ((doneBy w ws).at m) else none
def evs : Nat → List Th → List Th → Int → Int → Option Ress
  | _, [], _, _, n => some (.vals [] n)
  | f, p :: ps, sc, lim, n => match ev f p sc lim n with
    | some (.val t m) => (match evs f ps sc lim m with
      | some (.vals l m') => some (.vals (t :: l) m')
      | some (.stop e m') => some (.stop e m')
      | none => none)
    | some (.stop e m) => some (.stop e m)
    | none => none
def evCall : Nat → List Th → Int → Int → Option Res
  | f, t :: vs, lim, n => match t with
    | .fn [ns, body, .tup sc, own] => if !callsOn then none else if ns.row.length = vs.length then
      (if scG sc && scG ns.row then ev f body (bindAll ns.row vs (ownTh (.fn [ns, body, .tup sc, own]) own sc)) lim n else none) else some (.stop "count" n)
    | .fn _ => none
    | _ => some (.stop "kind" n)
  | _, [], _, n => some (.stop "kind" n)
end
end Fl
/-! an error that was caught and is kept as a value -/
namespace Fl
open PySem PySem.Spec PyProof.Rows L2
/-- an exception of the class cls that was caught, at a -/
def CauO (cls : Value) (a : Addr) : HO := .ext fun h => ∃ (oe : Obj) (vs : Array Value), h.get? a = some oe ∧ Zc cls none oe ∧ oe.data = .fields vs
theorem cauO_ok {P : Program} {w : World} {H : Hp} {h : Heap} {a : Addr} {cls : Value} {oe : Obj} {vs : Array Value} (e : h.get? a = some oe) (z : Zc cls none oe) (d : oe.data = .fields vs) : ObjOk P w H h a (CauO cls a) :=
  ⟨⟨oe, vs, e, z, d⟩, ⟨oe, e⟩, fun _ _ ⟨o, v, q, r⟩ k => ⟨o, v, k o q, r⟩⟩
section
variable {X : Cx} {pins : List (Addr × Obj)} {σ : L2.St} {H : Hp} {s : Shared}
/-- an object that stands already, new since the entry, is tracked from here on -/
theorem inv_track {a : Addr} {o : HO} {oe : Obj} {vs : Array Value} (I : Inv X pins σ H s) (n0 : X.s_0.heap.get? a = none) (ha : s.heap.get? a = some oe) (hd : oe.data = .fields vs) (na : H a = none) (nL : a ≠ X.env.locals)
    (np : ∀ p ∈ X.pn ++ pins, p.1 ≠ a) (new : ObjOk X.prog X.w (upd H a o) s.heap a o) : Inv X pins σ (upd H a o) s := by
  have old : ∀ b u, X.s_0.heap.get? b = some u → b ≠ a := fun b u e z => by
    rw [z, n0] at e
    cases e
  have trk : ∀ b u, H b = some u → b ≠ a := fun b u e z => by
    rw [z, na] at e
    cases e
  have cel : ∀ x c, X.env.cells.lookup x = some c → c ≠ a := fun x c e z => by
    obtain ⟨v, u, hu, hc⟩ := I.cell x c e
    rw [z, ha] at hu
    cases hu
    rw [hd] at hc
    cases hc
  exact {
    ok := I.ok
    os := I.os
    bare := I.bare
    base := {
      keep := I.base.keep
      slot := I.base.slot
      free := fun b u e n hx => by rw [upd_ne (old b u e)]; exact I.base.free b u e n hx
      there := I.base.there
      tups := fun b xs e => by
        have z := I.base.tups b xs e
        rw [upd_ne (trk _ _ z)]
        exact z
      frzs := fun b u xs e => by
        have z := I.base.frzs b u xs e
        rw [upd_ne (trk _ _ z)]
        exact z
      tbls := fun b ps e => by
        obtain ⟨m, z⟩ := I.base.tbls b ps e
        exact ⟨m, by rw [upd_ne (trk _ _ z)]; exact z⟩ }
    loc := I.loc
    cell := I.cell
    free := by rw [upd_ne nL.symm]; exact I.free
    freeC := fun x c e => by rw [upd_ne (cel x c e)]; exact I.freeC x c e
    pin := fun p hp => by
      obtain ⟨p1, p2, p3, p4, p5⟩ := I.pin p hp
      exact ⟨p1, by rw [upd_ne (np p hp)]; exact p2, p3, p4, p5⟩
    hok := fun b u e => by
      by_cases hb : b = a
      · subst hb
        rw [upd_same] at e
        cases e
        exact new
      · rw [upd_ne hb] at e
        exact (I.hok b u e).stay (fun _ _ _ q => q) (fun c q => by rw [upd_ne (trk _ _ q)]; exact q) fun c xs q => by rw [upd_ne (trk _ _ q)]; exact q
    len := I.len }
end
/-- what «except x as n: suite» wishes, where the caught error is kept: slot i is n's -/
def wKeep (K : PySem.W.Frag) (c : Value) (i : Nat) (ts : Addr → TS) (Wout : WX) (D : Ends) : WX := fun cls d σ H =>
  ∃ b, PySem.W.exmOne K cls c = some b ∧
    (b = true → d = none ∧ ∀ a, H a = none → ts a { nx := fun σ' H' => H' a = none → D.nx (σ'.set i none) (upd H' a (CauO cls a)), rt := fun _ _ => False, bk := fun _ _ => False, ct := fun _ _ => False } (σ.set i (some (.ref a))) H) ∧
    (b = false → Wout cls d σ H)
section
variable {X : Cx} {x n : Str} {c : Value} {i : Nat} {body suite : List Stmt} {b0 : Stmt} {np pos pos' : Pos} {tb : WX → TS} {ts : Addr → TS} {Wout : WX}
theorem ps_try_keep (hs : X.stack = X.env :: X.outer) (hf : X.env.frame = some X.env.locals) (hx : X.ex = []) (hN : X.N.Nodup) (hi : X.N[i]? = some n) (hln : X.env.kindOf n = some .local) (hc : Names X x c) (tk : Takes X Wout)
    (hb : ∀ (W : WX) (pn : List (Addr × Obj)) (xe : Value → Shared → Prop), Takes (X.tr pn xe) W → PassesOwn (model X.prog X.w) X.A X.env xe → PSs (X.tr pn xe) body (tb W))
    (hsu : ∀ (a : Addr) (pn : List (Addr × Obj)), PSs (X.suite a pn) (b0 :: suite) (ts a)) :
    PS X (.Try body [.ExceptHandler (some (.Name x np)) (some n) (b0 :: suite) pos'] [] [] pos) (fun D σ H => tb (wKeep X.K c i ts Wout D) D σ H) := by
  constructor
  intro pins s σ H D I h
  have K0 := I.ok
  have fr : X.A.frames = some (X.env :: X.outer) := hs ▸ K0.frames
  have run := (hb (wKeep X.K c i ts Wout D) (X.pn ++ pins)
    (fun e z1 => wpAny (model X.prog X.w) X.A (noteFrame e X.env)
      (fun _ z2 => wpAny (model X.prog X.w) X.A (setFlight e none)
        (fun _ z3 => wpAny (model X.prog X.w) X.A (handleBy e X.env [.ExceptHandler (some (.Name x np)) (some n) (b0 :: suite) pos']) (SP X pins D) X.xe z3) X.xe z2) X.xe z1)
    ?caught PassesOwn.looking).run [] s σ H D (I.toTry _) h
  case caught =>
    rintro u s' ⟨a, B, sI, pins', σ', H', cls, d, rfl, J', nb, up, sky, na, os, ag, b, hb1, yes, no⟩
    have J : Inv X pins σ' H' sI := J'.ofTry K0
    have sk : Sky B (X.env :: X.outer) a (Zc cls d) X.env.locals s'.heap := hs ▸ sky
    show wpAny (model X.prog X.w) X.A (noteFrame (.ref a) X.env) _ _ _
    apply Sky.land Zc.steady fr hf sk
    intro g3 f3 u3
    have J3 : Inv X pins σ' H' { s' with heap := g3 } := J.landed nb f3.1 (up.trans u3) os ag
    obtain ⟨o3, v3, e3, z3, d3⟩ := f3.there
    have off : ∀ E ∈ (X.env :: X.outer), E.frame ≠ some a := fun E hE q => by
      obtain ⟨_, o', h1, h2⟩ := f3.2.2.1.mem (List.mem_filterMap.mpr ⟨E, hE, q⟩)
      rw [e3] at h1
      cases h1
      exact h2 _ d3
    have aL : a ≠ X.env.locals := fun q => off X.env (List.mem_cons_self ..) (by rw [hf, q])
    have aF : a ∉ X.fs := fun m => by
      obtain ⟨E, h1, h2⟩ := List.mem_filterMap.mp m
      exact off E (List.mem_cons_of_mem _ h1) h2
    have aI : sI.heap.get? a = none := by
      cases q : sI.heap.get? a with
      | none => rfl
      | some o =>
        have q2 := nb a o q (fun m => by
          rw [hs] at m
          obtain ⟨E, h1, h2⟩ := List.mem_filterMap.mp m
          exact off E h1 h2)
        rw [f3.2.1] at q2
        cases q2
    have a0 : X.s_0.heap.get? a = none := by
      cases q : X.s_0.heap.get? a with
      | none => rfl
      | some o =>
        obtain ⟨o', q2⟩ := J.base.there a o q (by rw [hx]; exact fun m => nomatch m)
        rw [aI] at q2
        cases q2
    have aP : ∀ p ∈ X.pn ++ pins, p.1 ≠ a := fun p hp q => by
      have q2 := (J.pin p hp).1
      rw [q, aI] at q2
      cases q2
    have S3 := J3.suite e3 d3 na aL aF
    apply wpAny_handleBy_cons
    · apply codeAny_handlers_test
      have tyc : PySem.W.Looks (model X.prog X.w) g3 (typeOf (.ref a)) cls := fun A' Q' E' s0 k q => wpAny_typeOf_ref (k _ _ e3) (by rw [z3.1]; exact q)
      have look := PySem.W.exm_one (M := model X.prog X.w) J3.kIn tyc hb1
      have nm : ∀ {Q' : Value → Shared → Prop} {E' : Value → Shared → Prop}, Q' c { s' with heap := g3 } → wpAny (model X.prog X.w) (X.A.mark (some (.ref a))) (eval (.Name x np) X.env) Q' E' { s' with heap := g3 } := by
        intro Q' E' q
        obtain ⟨y1, y2, y3 | ⟨y3, y4, y5⟩⟩ := hc
        · exact ld_glob (X := X.suite a ((a, o3) :: (X.pn ++ pins))) S3 y1 y3 q y2
        · exact ld_blt (X := X.suite a ((a, o3) :: (X.pn ++ pins))) S3 y1 y3 y4 q y5 y2
      apply nm
      apply look.here
      cases b with
      | true =>
        obtain ⟨dn, go⟩ := yes rfl
        subst dn
        apply codeAny_handlers_suite_as
        apply HandSPX.lands_againZ f3
        intro g4 f4 u4
        have J4 : Inv X pins σ' H' { s' with heap := g4 } := J.landed nb f4.1 ((up.trans u3).trans u4) os ag
        obtain ⟨o4, v4, e4, z4, d4⟩ := f4.there
        have S4 := J4.suite e4 d4 na aL aF
        apply store_ok (X := X.suite a ((a, o4) :: (X.pn ++ pins))) (v := .ref a) S4 hN hi (.inl hln) rfl ?_ (.inr hln)
        intro s5 S5
        apply wpAny_mono ((hsu a _).run [] s5 _ H' _ S5 (go a na)) ?_ (fun _ _ z => False.elim z)
        intro f s6 q6
        cases f with
        | next =>
          obtain ⟨σ6, H6, S6, k6⟩ := q6
          obtain ⟨p1, p2, _⟩ := S6.pin (a, o4) (List.mem_append_left _ (List.mem_cons_self ..))
          have T6 := inv_track (o := CauO cls a) (S6.unsuite K0) a0 p1 d4 p2 aL aP (cauO_ok p1 z4 d4)
          exact gone_ok T6 hN hi hln fun s7 J7 => ⟨_, _, J7, k6 p2⟩
        | brk =>
          obtain ⟨_, _, _, k6⟩ := q6
          exact k6.elim
        | cont =>
          obtain ⟨_, _, _, k6⟩ := q6
          exact k6.elim
        | ret u =>
          obtain ⟨_, _, _, _, _, k6⟩ := q6
          exact k6.elim
      | false =>
        show wpAny _ X.A (handleBy (.ref a) X.env []) _ _ _
        apply wpAny_handleBy_nil
        obtain ⟨_, _, _, oe, ve, T, oT, vT, y1, y2, y3, y4, _⟩ := id f3
        have fin : wpAny (model X.prog X.w) X.A (setFlight (.ref a) X.env.frame) (fun _ t4 => wpAny (model X.prog X.w) X.A (throw (.ref a) : Sem Flow) (SP X pins D) X.xe t4) X.xe { s' with heap := g3 } := by
          rw [hf]
          apply HandSPX.setFlight_upZ f3
          intro g4 hh4 u4
          apply wpAny_throw
          exact tk _ _ ⟨a, B, sI, pins, σ', H', cls, d, rfl, J, nb, (up.trans u3).trans u4, .inr (.inr (by rw [hs]; exact hh4)), na, os, ag, no rfl⟩
        unfold PySem.passOn
        apply wpAny_bind
        apply wpAny_field y1 y3 y4
        rw [if_neg (show ¬ ((Value.ref T == Value.none) = true) from by simp)]
        first
          | exact wpAny_bind (wpAny_pure (wpAny_bind fin))
          | exact wpAny_bind fin
    · intro q
      cases q
  apply wpAny_Try_except
  apply wpAny_mono run ?_ (fun e s1 he => he)
  intro f s1 q
  cases f with
  | next =>
    obtain ⟨σ', H', J', k⟩ := q
    exact wpAny_execs_nil ⟨σ', H', J'.ofTry K0, k⟩
  | brk =>
    obtain ⟨σ', H', J', k⟩ := q
    exact ⟨σ', H', J'.ofTry K0, k⟩
  | cont =>
    obtain ⟨σ', H', J', k⟩ := q
    exact ⟨σ', H', J'.ofTry K0, k⟩
  | ret u =>
    obtain ⟨v, σ', H', J', r, k⟩ := q
    exact ⟨v, σ', H', J'.ofTry K0, r, k⟩
end
/-! ### isinstance of a kept error -/
/-- an error of the class named D that is kept, or None -/
def rIsX (K : PySem.W.Frag) : List V → Hp → VK → Prop := fun xs H Q => ∃ (a D : Addr) (c : V) (u : Value) (b : Bool), xs = [.ref a, c] ∧ ClsV c u ∧ H a = some (CauO (.ref D) a) ∧ ExcC K D ∧ PySem.W.kitOne K (.ref D) u = some b ∧ Q (.bl b) H
def rIsXT (K : PySem.W.Frag) : List V → Hp → VK → Prop := fun xs H Q => ∃ (a D tp : Addr) (cs : List V) (us : List Value) (b : Bool), xs = [.ref a, .ref tp] ∧ H tp = some (.tup cs) ∧ Paired ClsV cs us ∧ H a = some (CauO (.ref D) a) ∧ ExcC K D ∧ PySem.W.kitAny K (.ref D) us = some b ∧ Q (.bl b) H
section
variable {X : Cx} {pins : List (Addr × Obj)} {σ : L2.St} {H : Hp} {s : Shared}
theorem cau_at {a D : Addr} (I : Inv X pins σ H s) (h : H a = some (CauO (.ref D) a)) : ∃ oe, PySem.W.InstAt s.heap a oe D none := by
  obtain ⟨⟨oe, vs, e, z, d⟩, _, _⟩ := I.hok a _ h
  obtain ⟨oc, od, oda, osl⟩ := oe
  obtain ⟨z1, z2⟩ := z
  dsimp only at z1 z2 d
  subst z1 z2 d
  exact ⟨_, e, rfl, rfl, trivial⟩
theorem call_isX : CallR X (.builtin "isinstance") (rIsX X.K) := by
  intro pins s σ H xs us Q I r h
  obtain ⟨a, D, c, u, b, rfl, k, ha, C, e, q⟩ := h
  obtain ⟨u1, u2, rfl, r1, r2⟩ := vals2 r
  cases (show u1 = Value.ref a from r1)
  have e2 := k.eq r2
  subst e2
  obtain ⟨oe, J⟩ := cau_at I ha
  exact PySem.W.kia_one (PySem.W.handS_kitx_exc C.hg C.hk C.hs C.hd C.ha C.hn C.ht C.hm) I.kIn J e (fun z => nomatch z) fun tk => ⟨.bl b, H, I.tok tk, rfl, q⟩
theorem call_isXT : CallR X (.builtin "isinstance") (rIsXT X.K) := by
  intro pins s σ H xs us Q I r h
  obtain ⟨a, D, tp, cs, ws, b, rfl, hT, k, ha, C, e, q⟩ := h
  obtain ⟨u1, u2, rfl, r1, r2⟩ := vals2 r
  cases (show u1 = Value.ref a from r1)
  cases (show u2 = Value.ref tp from r2)
  obtain ⟨oe, J⟩ := cau_at I ha
  obtain ⟨_, its, rv, o, h1, h2, n, h3⟩ := (show ObjOk X.prog X.w H s.heap tp (.tup cs) from I.hok tp _ hT)
  have e3 := ClsV.all k rv
  subst e3
  obtain ⟨oc, od, dt, sl⟩ := o
  simp only at h2 h3
  subst h2 h3
  exact PySem.W.kia_tup (PySem.W.handS_kitx_exc C.hg C.hk C.hs C.hd C.ha C.hn C.ht C.hm) I.kIn J h1 e (fun z => nomatch z) fun tk => ⟨.bl b, H, I.tok tk, rfl, q⟩
end
end Fl
/-! list(zip(t, u)) of two tuples of one length -/
namespace Fl
open PySem PySem.Spec PyProof.Rows L2
theorem zip_no_len : typeLookup (.type "zip") "__len__" = pure none := by rw [typeLookup_type, builtinLookup_eq_fast]; kernel_rfl
theorem zip_no_hint : typeLookup (.type "zip") "__length_hint__" = pure none := by rw [typeLookup_type, builtinLookup_eq_fast]; kernel_rfl
section
variable {prog : Program} {w : World} {A : Around} {E : Value → Shared → Prop} {s : Shared} {z TI TO T p q l m : Addr} {f : Bool} {oT : Obj} {i j : Nat} {xs ys : Array Value} {x y : Value}
/-- the next pair, as one is out still -/
theorem heldT_item {Q : Option Value → Shared → Prop} (D : ZipApart z TI TO p q l m) (hz : IsZipHeld s.heap z TI TO T f) (hT : s.heap.get? T = some oT) (hI : IsPair s.heap TI (.ref p) (.ref q)) (hp : s.heap.IsTupleIter p l i) (hq : s.heap.IsTupleIter q m j)
    (hl : s.heap.IsTuple l xs) (hm : s.heap.IsTuple m ys) (hx : xs[i]? = some x) (hy : ys[j]? = some y)
    (hQ : ∀ h', IsZipHeld h' z TI TO T true → h'.IsTupleIter p l (i + 1) → h'.IsTupleIter q m (j + 1) → IsPair h' s.heap.objs.size x y → h'.objs.size = s.heap.objs.size + 1 → (∀ c o, c ≠ z → c ≠ p → c ≠ q → s.heap.get? c = some o → h'.get? c = some o) →
      Q (some (.ref s.heap.objs.size)) { s with heap := h' }) : wpAny (model prog w) A (pyNext (.ref z)) Q E s := by
  have ty : s.TypeIs (.ref z) "zip" := ⟨_, hz, rfl⟩
  unfold pyNext
  refine wpAny_bind (wpAny_attempt (wpAny_callSpecial?_slot (name := Str.ofString "__next__") ty F.slot_zip_next (wpAny_call_entry F.slot_zip_next ty F.entry_zip_next ?_ (F.args_zip_next_1 _))))
  show wpAny _ A.in1 (field (.ref z) 2 >>= _) _ _ s; refine wpAny_bind (wpAny_field (x := .bool false) hz rfl rfl ?_)
  show wpAny _ A.in1 (field (.ref z) 3 >>= _) _ _ s; refine wpAny_bind (wpAny_field (x := .ref TI) hz rfl rfl (wpAny_bind (wpAny_seqItems hI rfl ?_)))
  show wpAny _ A.in1 (Builtin.SmallTypes.ownedTupleIsFree (.ref z) >>= _) _ _ s; refine wpAny_bind (wpAny_tupleHeld_zip hz hT fun g1 z1 k1 => ?_)
  simp only [Bool.false_eq_true, if_false]; refine wpAny_bind ?_; rw [← Array.forIn_toList]; simp only [List.forIn_cons, List.forIn_nil]; refine wpAny_bind (wpAny_bind (wpAny_holding ?_))
  show wpAny _ A.in1 (Builtin.SmallTypes.nextOf (.ref p) >>= _) _ _ _; refine wpAny_bind (RZ.nextOf_tuple_item (s := { s with heap := g1 }) (hp.extBut k1.extBut D.i1z) (hl.extBut k1.extBut D.l1z) hx fun g2 p2 k2 => wpAny_pure (wpAny_pure ?_))
  refine wpAny_bind (wpAny_bind (wpAny_holding ?_)); show wpAny _ A.in1 (Builtin.SmallTypes.nextOf (.ref q) >>= _) _ _ _
  refine wpAny_bind (RZ.nextOf_tuple_item (s := { s with heap := g2 }) ((hq.extBut k1.extBut D.i2z).extBut k2.extBut D.i12.symm) ((hm.extBut k1.extBut D.l2z).extBut k2.extBut D.l2i1) hy fun g3 q3 k3 => wpAny_pure (wpAny_pure (wpAny_pure ?_)))
  show wpAny _ A.in1 (newTuple [x, y] >>= _) _ _ _; refine wpAny_bind (wpAny_newTuple (wpAny_pure ⟨_, rfl, wpAny_pure ?_⟩))
  have n3 : g3.objs.size = s.heap.objs.size := by rw [k3.1, k2.1, k1.1]
  have z3 : IsZipHeld g3 z TI TO T true := k3.extBut _ _ D.i2z.symm (k2.extBut _ _ D.i1z.symm z1)
  have kk : ∀ c o, c ≠ z → c ≠ p → c ≠ q → s.heap.get? c = some o → g3.get? c = some o := fun c o e1 e2 e3 e => k3.extBut _ _ e3 (k2.extBut _ _ e2 (k1.extBut _ _ e1 e))
  have p3 : g3.IsTupleIter p l (i + 1) := p2.extBut k3.extBut D.i12
  have nw : IsPair (g3.push { cls := .type "tuple", data := .seq #[x, y] }) g3.objs.size x y := Heap.get?_push_size _ rfl
  have n4 : (g3.push { cls := .type "tuple", data := .seq #[x, y] }).objs.size = g3.objs.size + 1 := Heap.size_push ..
  show Q (some (.ref g3.objs.size)) _
  rw [n3] at nw n4 ⊢
  exact hQ _ (Heap.get?_push_of_some _ z3) (p3.at fun o e => Heap.get?_push_of_some _ e) (q3.at fun o e => Heap.get?_push_of_some _ e) nw n4 fun c o e1 e2 e3 e => Heap.get?_push_of_some _ (kk c o e1 e2 e3 e)
theorem heldT_end {Q : Option Value → Shared → Prop} (hh : A.handled = none) (D : ZipApart z TI TO p q l m) (hz : IsZipHeld s.heap z TI TO T f) (hT : s.heap.get? T = some oT) (hI : IsPair s.heap TI (.ref p) (.ref q)) (hp : s.heap.IsTupleIter p l i) (hl : s.heap.IsTuple l xs)
    (hx : xs[i]? = none) (hQ : ∀ h', (∀ c o, c ≠ z → c ≠ p → s.heap.get? c = some o → h'.get? c = some o) → Q none { s with heap := h' }) : wpAny (model prog w) A (pyNext (.ref z)) Q E s := by
  have ty : s.TypeIs (.ref z) "zip" := ⟨_, hz, rfl⟩
  unfold pyNext
  refine wpAny_bind (wpAny_attempt (wpAny_callSpecial?_slot (name := Str.ofString "__next__") ty F.slot_zip_next (wpAny_call_entry F.slot_zip_next ty F.entry_zip_next ?_ (F.args_zip_next_1 _))))
  show wpAny _ A.in1 (field (.ref z) 2 >>= _) _ _ s; refine wpAny_bind (wpAny_field (x := .bool false) hz rfl rfl ?_)
  show wpAny _ A.in1 (field (.ref z) 3 >>= _) _ _ s; refine wpAny_bind (wpAny_field (x := .ref TI) hz rfl rfl (wpAny_bind (wpAny_seqItems hI rfl ?_)))
  show wpAny _ A.in1 (Builtin.SmallTypes.ownedTupleIsFree (.ref z) >>= _) _ _ s; refine wpAny_bind (wpAny_tupleHeld_zip hz hT fun g1 z1 k1 => ?_)
  simp only [Bool.false_eq_true, if_false]; refine wpAny_bind ?_; rw [← Array.forIn_toList]; simp only [List.forIn_cons, List.forIn_nil]; refine wpAny_bind (wpAny_bind (wpAny_holding ?_))
  show wpAny _ A.in1 (Builtin.SmallTypes.nextOf (.ref p) >>= _) _ _ _; refine wpAny_bind (RZ.nextOf_tuple_end (s := { s with heap := g1 }) hh (hp.extBut k1.extBut D.i1z) (hl.extBut k1.extBut D.l1z) hx fun g2 e k2 he => ?_)
  obtain ⟨o, ho, hc⟩ := he
  exact wpAny_bind (wpAny_isInstance (T := "StopIteration") (b := true) ⟨o, ho, hc⟩ isSubtype_stop (wpAny_pure (hQ _ fun c o e1 e2 e => k2 _ _ e2 (k1.extBut _ _ e1 e))))
end
theorem sqT_same {K : PySem.W.Frag} {H H' : Hp} {a : Addr} {vs : List V} (e : Same H H') (h : SqT K H a vs) : SqT K H' a vs := by
  rcases h with (h | ⟨o, h⟩) | h
  · exact .inl (.inl (e _ _ h))
  · exact .inl (.inr ⟨o, e _ _ h⟩)
  · exact .inr h
/-! ### the loop -/
/-- a zip of the tuples at l, m, i items out; S: the list that they are put in -/
def ZSt (z TI TO p q l m S : Addr) (i : Nat) (h : Heap) : Prop :=
  IsPair h TI (.ref p) (.ref q) ∧ h.IsTupleIter p l i ∧ h.IsTupleIter q m i ∧ (∃ o, h.get? TO = some o) ∧ ((IsZip h z TI TO .none ∧ ∃ x y, IsPair h TO x y) ∨ ∃ T f oT, IsZipHeld h z TI TO T f ∧ h.get? T = some oT ∧ T ≠ z ∧ T ≠ p ∧ T ≠ q ∧ T ≠ S)
section
variable {prog : Program} {w : World} {A : Around} {E : Value → Shared → Prop} {s : Shared} {z TI TO p q l m S : Addr} {i : Nat} {xs ys : Array Value} {x y : Value}
theorem zst_item {Q : Option Value → Shared → Prop} (D : ZipApart z TI TO p q l m) (st : ZSt z TI TO p q l m S i s.heap) (hS : S < s.heap.objs.size) (hl : s.heap.IsTuple l xs) (hm : s.heap.IsTuple m ys) (hx : xs[i]? = some x) (hy : ys[i]? = some y)
    (hQ : ∀ h', ZSt z TI TO p q l m S (i + 1) h' → IsPair h' s.heap.objs.size x y → h'.objs.size = s.heap.objs.size + 1 → (∀ c o, c ∉ [z, TI, TO, p, q] → s.heap.get? c = some o → h'.get? c = some o) → Q (some (.ref s.heap.objs.size)) { s with heap := h' }) :
    wpAny (model prog w) A (pyNext (.ref z)) Q E s := by
  obtain ⟨hI, hp, hq, ⟨oO, hO⟩, st⟩ := st
  have lp : p < s.heap.objs.size := by obtain ⟨_, e, _⟩ := hp; exact Heap.lt_size e
  have lq : q < s.heap.objs.size := by obtain ⟨_, e, _⟩ := hq; exact Heap.lt_size e
  rcases st with ⟨hz, x0, y0, hTO⟩ | ⟨T, f, oT, hz, hT, t1, t2, t3, t4⟩
  · have lz : z < s.heap.objs.size := Heap.lt_size hz
    refine RZ.pyNext_zipT_item D hz hI hTO hp hq hl hm hx hy fun h' z' TO' p' q' hT hsz hk => hQ h' ⟨hk _ _ D.TIz D.TITO D.TIi1 D.TIi2 hI, p', q', ⟨_, TO'⟩, .inr ⟨_, false, _, z', hT, Nat.ne_of_gt lz, Nat.ne_of_gt lp, Nat.ne_of_gt lq, Nat.ne_of_gt hS⟩⟩ hT hsz fun c o n e => hk c o ?_ ?_ ?_ ?_ e
    all_goals
      intro z1
      exact n (by simp [z1])
  · have lz : z < s.heap.objs.size := Heap.lt_size hz
    refine heldT_item D hz hT hI hp hq hl hm hx hy fun h' z' p' q' nT hsz hk => hQ h' ⟨hk _ _ D.TIz D.TIi1 D.TIi2 hI, p', q', ⟨_, hk _ _ D.TOz D.TOi1 D.TOi2 hO⟩, .inr ⟨T, true, oT, z', hk _ _ t1 t2 t3 hT, t1, t2, t3, t4⟩⟩ nT hsz fun c o n e => hk c o ?_ ?_ ?_ e
    all_goals
      intro z1
      exact n (by simp [z1])
theorem zst_end {Q : Option Value → Shared → Prop} (hh : A.handled = none) (D : ZipApart z TI TO p q l m) (st : ZSt z TI TO p q l m S i s.heap) (hl : s.heap.IsTuple l xs) (hm : s.heap.IsTuple m ys) (hx : xs[i]? = none)
    (hQ : ∀ h', (∀ c o, c ∉ [z, TI, TO, p, q] → s.heap.get? c = some o → h'.get? c = some o) → Q none { s with heap := h' }) : wpAny (model prog w) A (pyNext (.ref z)) Q E s := by
  obtain ⟨hI, hp, hq, ⟨oO, hO⟩, st⟩ := st
  rcases st with ⟨hz, x0, y0, hTO⟩ | ⟨T, f, oT, hz, hT, t1, t2, t3, t4⟩
  · refine RZ.pyNext_zipT_end hh D hz hI hTO hp hq hl hm (.inl hx) fun h' hk => hQ h' fun c o n e => hk c o ?_ ?_ ?_ ?_ e
    all_goals
      intro z1
      exact n (by simp [z1])
  · refine heldT_end hh D hz hT hI hp hl hx fun h' hk => hQ h' fun c o n e => hk c o ?_ ?_ e
    all_goals
      intro z1
      exact n (by simp [z1])
theorem ZSt.keep {h h' : Heap} (D : ZipApart z TI TO p q l m) (st : ZSt z TI TO p q l m S i h) (hn : ∀ c ∈ [z, TI, TO, p, q], c ≠ S) (k : ∀ c o, c ≠ S → h.get? c = some o → h'.get? c = some o) : ZSt z TI TO p q l m S i h' := by
  obtain ⟨hI, hp, hq, ⟨oO, hO⟩, st⟩ := st
  refine ⟨k _ _ (hn _ (by simp)) hI, hp.at fun o e => k _ _ (hn _ (by simp)) e, hq.at fun o e => k _ _ (hn _ (by simp)) e, ⟨_, k _ _ (hn _ (by simp)) hO⟩, ?_⟩
  rcases st with ⟨hz, x0, y0, hTO⟩ | ⟨T, f, oT, hz, hT, t1, t2, t3, t4⟩
  · exact .inl ⟨k _ _ (hn _ (by simp)) hz, x0, y0, k _ _ (hn _ (by simp)) hTO⟩
  · exact .inr ⟨T, f, oT, k _ _ (hn _ (by simp)) hz, k _ _ t4 hT, t1, t2, t3, t4⟩
end
/-- what the list holds: pairs, new tuples -/
def Prs (H : Hp) (xs ys : List V) (i : Nat) (Ts : List Addr) : Prop := Ts.length = i ∧ ∀ (k : Nat) (T : Addr), Ts[k]? = some T → ∃ x y, xs[k]? = some x ∧ ys[k]? = some y ∧ H T = some (.tup [x, y])
section
variable {X : Cx} {pins : List (Addr × Obj)} {σ : L2.St} {H H0 : Hp} {s : Shared} {z TI TO p q l m S : Addr}
theorem drainZ {R : Result → Shared → Prop} {A : Around} {xs ys : List V} (hh : A.handled = none) (D : ZipApart z TI TO p q l m) (hl : xs.length = ys.length) (hn : ∀ c ∈ [z, TI, TO, p, q], c ≠ S)
    (hend : ∀ s' H' acc c Ts, Inv X pins σ H' s' → (∀ c ∈ [z, TI, TO, p, q, S], FpOk X pins H' c) → Same H0 H' → s'.heap.get? S = some (lstObj acc c) → Vals (Ts.map V.ref) acc.toList → Prs H' xs ys xs.length Ts → R (.ok (.ret .none)) s') :
    ∀ (n i : Nat) (s : Shared) (H : Hp) (acc : Array Value) (c : Nat) (Ts : List Addr), i + n = xs.length → Inv X pins σ H s → (∀ c ∈ [z, TI, TO, p, q, S], FpOk X pins H c) → Same H0 H → SqT X.K H l xs → SqT X.K H m ys → ZSt z TI TO p q l m S i s.heap → s.heap.get? S = some (lstObj acc c) →
      Vals (Ts.map V.ref) acc.toList → Prs H xs ys i Ts → codeAny (model X.prog X.w) A (.builtin "list.extend.loop" ⟨[.ref S, .ref z, .none], []⟩) R s := by
  intro n
  induction n with
  | zero =>
    intro i s H acc c Ts hi I hf sm hx hy st hS rv pr
    have ei : i = xs.length := by omega
    subst ei
    obtain ⟨its, r1, p1, _⟩ := I.tuple hx
    obtain ⟨its2, r2, p2, _⟩ := I.tuple hy
    refine codeAny_builtin F.entry_extend_loop ?_
    rw [Around.under_plainId F.plain_extend_loop _]
    show wpAny _ A.in1 (pyNext (.ref z) >>= fun _ => _) _ _ s
    refine wpAny_bind (zst_end (A := A.in1) hh D st p1 p2 ?_ fun h' hk => ?_)
    · rw [List.getElem?_toArray]
      exact List.getElem?_eq_none (by rw [r1.length]; exact Nat.le_refl _)
    · have I2 : Inv X pins σ H { s with heap := h' } := I.turnedL (t' := s.toks) (ch := [z, TI, TO, p, q]) hk fun c hc => hf c (by
        simp only [List.mem_cons, List.not_mem_nil, or_false] at hc ⊢
        rcases hc with e | e | e | e | e <;> simp [e])
      refine wpAny_pure (hend _ H acc c Ts I2 hf sm (hk _ _ ?_ hS) rv pr)
      intro hc
      exact hn S hc rfl
  | succ n ih =>
    intro i s H acc c Ts hi I hf sm hx hy st hS rv pr
    obtain ⟨its, r1, p1, z1⟩ := I.tuple hx
    obtain ⟨its2, r2, p2, _⟩ := I.tuple hy
    have hi1 : i < xs.length := by omega
    have ex : xs[i]? = some xs[i] := List.getElem?_eq_getElem hi1
    have ey : ys[i]? = some (ys[i]'(by omega)) := List.getElem?_eq_getElem (by omega)
    obtain ⟨u, hu, ru⟩ := r1.get ex
    obtain ⟨u2, hu2, ru2⟩ := r2.get ey
    have lS : S < s.heap.objs.size := Heap.lt_size hS
    have sz : acc.size = i := by
      have z2 := rv.length
      rw [List.length_map, pr.1, Array.length_toList] at z2
      exact z2.symm
    have hxl : xs.length ≤ sizeLine := z1
    refine codeAny_builtin F.entry_extend_loop ?_
    rw [Around.under_plainId F.plain_extend_loop _]
    show wpAny _ A.in1 (pyNext (.ref z) >>= fun _ => _) _ _ s
    refine wpAny_bind (zst_item (A := A.in1) (x := u) (y := u2) D st lS p1 p2 (by simpa using hu) (by simpa using hu2) fun h' st' nT hsz hk => ?_)
    have hf5 : ∀ c ∈ [z, TI, TO, p, q], FpOk X pins H c := fun c hc => hf c (by
      simp only [List.mem_cons, List.not_mem_nil, or_false] at hc ⊢
      rcases hc with e | e | e | e | e <;> simp [e])
    have nH : H s.heap.objs.size = none := I.hok.fresh (Nat.le_refl _)
    have I1 : Inv X pins σ (upd H s.heap.objs.size (.tup [xs[i], ys[i]'(by omega)])) { s with heap := h' } :=
      I.turnedNew (t' := s.toks) (ch := [z, TI, TO, p, q]) hk hf5 (Nat.le_refl _) ⟨by show 2 ≤ sizeLine; decide, [u, u2], .cons ru (.cons ru2 .nil), ⟨_, nT, rfl, _, rfl⟩⟩
    have hS' : h'.get? S = some (lstObj acc c) := hk _ _ (fun hc => hn S hc rfl) hS
    have hf' : ∀ c ∈ [z, TI, TO, p, q, S], FpOk X pins (upd H s.heap.objs.size (.tup [xs[i], ys[i]'(by omega)])) c := fun c hc => by
      obtain ⟨g1, g2⟩ := hf c hc
      refine ⟨?_, g2⟩
      have lc : c < s.heap.objs.size := by
        obtain ⟨hI, ⟨_, e1, _⟩, ⟨_, e2, _⟩, ⟨_, e3⟩, st⟩ := st
        have lz : z < s.heap.objs.size := by
          rcases st with ⟨hz, _⟩ | ⟨_, _, _, hz, _⟩ <;> exact Heap.lt_size hz
        simp only [List.mem_cons, List.not_mem_nil, or_false] at hc
        rcases hc with e | e | e | e | e | e
        · rw [e]; exact lz
        · rw [e]; exact Heap.lt_size hI
        · rw [e]; exact Heap.lt_size e3
        · rw [e]; exact Heap.lt_size e1
        · rw [e]; exact Heap.lt_size e2
        · rw [e]; exact lS
      rw [upd_ne (Nat.ne_of_lt lc)]
      exact g1
    show wpAny _ A.in1 (updateSeq S (·.push (.ref s.heap.objs.size)) >>= fun _ => _) _ _ _
    refine wpAny_bind (wpAny_updateSeq hS' rfl (wpAny_pure ⟨plainId_quiet F.plain_extend_loop _, ?_⟩) (by omega) (by show (acc.push _).size ≤ sizeLine + 1; rw [Array.size_push]; omega))
    have up : ∀ c o, c ≠ S → h'.get? c = some o → (h'.update S (Obj.mapSeq (·.push (.ref s.heap.objs.size)))).get? c = some o := fun c o hc e => (Heap.get?_update_other _ _ (Ne.symm hc)).trans e
    obtain ⟨g0, g1, g2, g3, g4, g5⟩ := hf' S (by simp)
    have I2 : Inv X pins σ (upd H s.heap.objs.size (.tup [xs[i], ys[i]'(by omega)])) { s with heap := h'.update S (Obj.mapSeq (·.push (.ref s.heap.objs.size))) } := I1.turned (t' := s.toks) (fun b o hb e => up b o hb e) g0 g1 g3 g4 g5
    have sq1 : ∀ {b : Addr} {vs : List V}, SqT X.K H b vs → SqT X.K (upd H s.heap.objs.size (.tup [xs[i], ys[i]'(by omega)])) b vs := fun e => sqT_same (same_new nH _) e
    have sm1 : Same H (upd H s.heap.objs.size (.tup [xs[i], ys[i]'(by omega)])) := same_new nH _
    obtain ⟨c', eS⟩ : ∃ c', (h'.update S (Obj.mapSeq (·.push (.ref s.heap.objs.size)))).get? S = some (lstObj (acc.push (.ref s.heap.objs.size)) c') := ⟨_, Heap.get?_update_self _ hS' rfl⟩
    refine ih (i + 1) _ _ (acc.push (.ref s.heap.objs.size)) c' (Ts ++ [s.heap.objs.size]) (by omega) I2 hf' (sm.trans sm1) ?_ ?_ (st'.keep D hn up) ?_ ?_ ?_
    · exact sq1 hx
    · exact sq1 hy
    · exact eS
    · rw [List.map_append, Array.toList_push]
      exact rv.append (.cons rfl .nil)
    · refine ⟨by rw [List.length_append, pr.1]; rfl, fun k T e => ?_⟩
      by_cases hk1 : k < Ts.length
      · rw [List.getElem?_append_left hk1] at e
        obtain ⟨x, y, e1, e2, e3⟩ := pr.2 k T e
        exact ⟨x, y, e1, e2, sm1 _ _ e3⟩
      · rw [List.getElem?_append_right (by omega)] at e
        have hk2 : k = Ts.length := by
          have := (List.getElem?_eq_some_iff.mp e).1
          simp at this
          omega
        rw [hk2, Nat.sub_self] at e
        cases e
        refine ⟨_, _, ?_, ?_, upd_same⟩
        · rw [hk2, pr.1]
          exact ex
        · rw [hk2, pr.1]
          exact ey
/-- the list's object, laid since the entry, is tracked from here on -/
theorem inv_trackL {a : Addr} {o : HO} {oe : Obj} (I : Inv X pins σ H s) (ha : s.heap.get? a = some oe) (hd : ∀ v, oe.data ≠ .cell v) (f : FpOk X pins H a) (n0 : X.s_0.heap.get? a = none)
    (new : ObjOk X.prog X.w (upd H a o) s.heap a o) : Inv X pins σ (upd H a o) s := by
  obtain ⟨na, nL, _, _, _, np⟩ := f
  have old : ∀ b u, X.s_0.heap.get? b = some u → b ≠ a := fun b u e z => by
    rw [z, n0] at e
    cases e
  have trk : ∀ b u, H b = some u → b ≠ a := fun b u e z => by
    rw [z, na] at e
    cases e
  have cel : ∀ x c, X.env.cells.lookup x = some c → c ≠ a := fun x c e z => by
    obtain ⟨v, u, hu, hc⟩ := I.cell x c e
    rw [z, ha] at hu
    cases hu
    exact hd _ hc
  exact {
    ok := I.ok
    os := I.os
    bare := I.bare
    base := {
      keep := I.base.keep
      slot := I.base.slot
      free := fun b u e n hx => by rw [upd_ne (old b u e)]; exact I.base.free b u e n hx
      there := I.base.there
      tups := fun b xs e => by
        have z := I.base.tups b xs e
        rw [upd_ne (trk _ _ z)]
        exact z
      frzs := fun b u xs e => by
        have z := I.base.frzs b u xs e
        rw [upd_ne (trk _ _ z)]
        exact z
      tbls := fun b ps e => by
        obtain ⟨m, z⟩ := I.base.tbls b ps e
        exact ⟨m, by rw [upd_ne (trk _ _ z)]; exact z⟩ }
    loc := I.loc
    cell := I.cell
    free := by rw [upd_ne nL.symm]; exact I.free
    freeC := fun x c e => by rw [upd_ne (cel x c e)]; exact I.freeC x c e
    pin := fun p hp => by
      obtain ⟨p1, p2, p3, p4, p5⟩ := I.pin p hp
      exact ⟨p1, by rw [upd_ne (np p hp)]; exact p2, p3, p4, p5⟩
    hok := fun b u e => by
      by_cases hb : b = a
      · subst hb
        rw [upd_same] at e
        cases e
        exact new
      · rw [upd_ne hb] at e
        exact (I.hok b u e).stay (fun _ _ _ q => q) (fun c q => by rw [upd_ne (trk _ _ q)]; exact q) fun c xs q => by rw [upd_ne (trk _ _ q)]; exact q
    len := I.len }
end
/-! ### the expression -/
def tListZip (K : PySem.W.Frag) (ta : TA) : TE := fun σ H Q => ta σ H fun vs H1 => ∃ a b xs ys, vs = [.ref a, .ref b] ∧ SqT K H1 a xs ∧ SqT K H1 b ys ∧ xs.length = ys.length ∧ ∀ S Ts H', Same H1 H' → H' S = none → Prs H' xs ys xs.length Ts → Q (.ref S) (upd H' S (.lst (Ts.map V.ref)))
section
variable {X : Cx}
theorem call_listZip {pins : List (Addr × Obj)} {σ : L2.St} {H : Hp} {s : Shared} {z TI TO p q l m : Addr} {xs ys : List V} {Q : VK} (hc : X.calm = true) (I : Inv X pins σ H s) (D : ZipApart z TI TO p q l m) (hx : SqT X.K H l xs) (hy : SqT X.K H m ys) (hl : xs.length = ys.length)
    (hz : IsZip s.heap z TI TO .none) (hI : IsPair s.heap TI (.ref p) (.ref q)) (hTO : IsPair s.heap TO .none .none) (hp : s.heap.IsTupleIter p l 0) (hq : s.heap.IsTupleIter q m 0) (hf : ∀ c ∈ [z, TI, TO, p, q], FpOk X pins H c)
    (h : ∀ S Ts H', Same H H' → H' S = none → Prs H' xs ys xs.length Ts → Q (.ref S) (upd H' S (.lst (Ts.map V.ref)))) : wpAny (model X.prog X.w) X.A (call (.type "list") [.ref z]) (EP X pins σ Q) X.xe s := by
  have lz : z < s.heap.objs.size := Heap.lt_size hz
  have hsub : ∀ c ∈ [z, TI, TO, p, q], c ≠ s.heap.objs.size := fun c hc' => by
    obtain ⟨_, e1, _⟩ := id hp
    obtain ⟨_, e2, _⟩ := id hq
    have l1 := Heap.lt_size hI
    have l2 := Heap.lt_size hTO
    have l3 := Heap.lt_size e1
    have l4 := Heap.lt_size e2
    simp only [List.mem_cons, List.not_mem_nil, or_false] at hc'
    rcases hc' with e | e | e | e | e <;> rw [e] <;> exact Nat.ne_of_lt (by assumption)
  refine callType_codes (Q₁ := fun obj z1 => obj = .ref s.heap.objs.size ∧ z1 = { s with heap := s.heap.push { cls := .type "list", data := .seq #[] } }) F.called_list (F.typeCall_list_1 _) F.entry_list_init (code_list_new _ ⟨rfl, rfl⟩) fun obj z1 hz1 => ?_
  obtain ⟨rfl, rfl⟩ := hz1
  have hS : (s.heap.push { cls := .type "list", data := .seq #[] }).get? s.heap.objs.size = some { cls := .type "list", data := .seq #[] } := Heap.get?_push_size _ rfl
  refine ⟨⟨_, hS, rfl⟩, F.args_list_init_2 _ _, ?_⟩
  show wpAny _ X.A.in1.in1 (do let old ← Builtin.List.listItems (.ref s.heap.objs.size); (do Builtin.List.listUpdate (.ref s.heap.objs.size) (fun _ => #[]); letGo old.toList.reverse; Builtin.List.listExtendWith (.ref s.heap.objs.size) (.ref z) .none)) _ _ _
  refine wpAny_bind ?_
  unfold Builtin.List.listItems
  refine wpAny_bind (wpAny_seqItems hS rfl (wpAny_pure ?_))
  show wpAny _ X.A.in1.in1 (updateSeq s.heap.objs.size (fun _ => #[]) >>= fun _ => (letGo (#[] : Array Value).toList.reverse >>= fun _ => Builtin.List.listExtendWith (.ref s.heap.objs.size) (.ref z) .none)) _ _ _
  refine wpAny_bind (wpAny_updateSeq hS rfl ?_)
  have hS2 := Heap.get?_update_self (Obj.mapSeq (fun _ => (#[] : Array Value))) hS rfl
  refine wpAny_bind (wpAny_letGo ?_)
  unfold Builtin.List.listExtendWith
  have up : ∀ (g : Heap) (f : Obj → Obj), (∀ b o, s.heap.get? b = some o → g.get? b = some o) → ∀ b o, s.heap.get? b = some o → (g.update s.heap.objs.size f).get? b = some o := fun g f k b o e => (Heap.get?_update_other _ _ (Nat.ne_of_gt (Heap.lt_size e))).trans (k b o e)
  have k2 := up (s.heap.push { cls := .type "list", data := .seq #[] }) (Obj.mapSeq (fun _ => (#[] : Array Value))) fun b o e => Heap.get?_push_of_some _ e
  have zt : ∀ {g : Heap}, (∀ b o, s.heap.get? b = some o → g.get? b = some o) → Shared.TypeIs { s with heap := g } (.ref z) "zip" := fun k => ⟨_, k _ _ hz, rfl⟩
  refine wpAny_bind (wpAny_typeOf (zt k2) ?_)
  have b1 : Builtin.List.listSameRef (.ref s.heap.objs.size) (.ref z) = false := by simp [Builtin.List.listSameRef, Nat.ne_of_gt lz]
  have b2 : (Value.type "zip" == Value.type "list") = false := by decide
  have b3 : (Value.type "zip" == Value.type "tuple") = false := by decide
  simp only [b1, b2, b3, Bool.or_false, Bool.false_eq_true, if_false]
  refine wpAny_bind (wpAny_pyIter_zip (s := { s with heap := _ }) (k2 _ _ hz) ?_)
  refine wpAny_bind (wpAny_holding ?_)
  unfold Builtin.List.listLengthHint
  refine wpAny_bind (wpAny_specialOf (zt k2) zip_no_len ?_)
  show wpAny _ X.A.in1.in1 (specialOf (Value.ref z) (Str.ofString "__length_hint__") >>= fun _ => _) _ _ _
  refine wpAny_bind (wpAny_specialOf (zt k2) zip_no_hint (wpAny_pure ?_))
  show wpAny _ X.A.in1.in1 (rule "list.extend.makes-room" >>= fun _ => (Builtin.List.listTouch (.ref s.heap.objs.size) >>= fun _ => again (.builtin "list.extend.loop" ⟨[.ref s.heap.objs.size, .ref z, .none], []⟩))) _ _ _
  refine wpAny_bind (wpAny_rule (wpAny_bind ?_))
  show wpAny _ X.A.in1.in1 (updateSeq s.heap.objs.size (·.push .none) >>= fun _ => updateSeq s.heap.objs.size (·.pop)) _ _ _
  refine wpAny_bind (wpAny_updateSeq hS2 rfl ?_)
  have hS3 := Heap.get?_update_self (Obj.mapSeq (·.push Value.none)) hS2 rfl
  refine wpAny_updateSeq (hz := by seq_fits) hS3 rfl ?_
  have hS4 := Heap.get?_update_self (Obj.mapSeq (·.pop)) hS3 rfl
  have k4 := up _ (Obj.mapSeq (·.pop)) (up _ (Obj.mapSeq (·.push Value.none)) k2)
  refine wpAny_pure ⟨plainId_quiet F.plain_extend_loop _, ?_⟩
  have fS : FpOk X pins H s.heap.objs.size := I.fpOk (Nat.le_refl _) (I.hok.fresh (Nat.le_refl _))
  have n0 : X.s_0.heap.get? s.heap.objs.size = none := by
    cases e : X.s_0.heap.get? s.heap.objs.size with
    | none => rfl
    | some o =>
      exact absurd (Nat.lt_of_lt_of_le (Heap.lt_size e) I.sz) (Nat.lt_irrefl _)
  refine drainZ (X := X) (A := X.A.in1) (pins := pins) (σ := σ) (H0 := H) (S := s.heap.objs.size) (I.ok.hd hc) D hl hsub (fun s' H' acc c Ts I' f' sm e rv pr => ?_) xs.length 0 _ H #[] _ [] (by omega) (I.kept (t' := s.toks) k4) ?_ (.refl _) hx hy ?_ hS4 .nil ⟨rfl, fun k T e => nomatch e⟩
  · have tr := inv_trackL (o := .lst (Ts.map V.ref)) I' e (fun v z => by cases z) (f' _ (by simp)) n0 ⟨?_, acc.toList, c, rv, by rw [e]⟩
    · exact ⟨rfl, .ref s.heap.objs.size, _, tr, rfl, h _ Ts H' sm (f' _ (by simp)).1 pr⟩
    · obtain ⟨its, r1, _, z1⟩ := I.tuple hx
      rw [List.length_map, pr.1]
      exact z1
  · intro c hc'
    by_cases ec : c = s.heap.objs.size
    · rw [ec]
      exact fS
    · refine hf c ?_
      simp only [List.mem_cons, List.not_mem_nil, or_false] at hc' ⊢
      rcases hc' with e | e | e | e | e | e
      · simp [e]
      · simp [e]
      · simp [e]
      · simp [e]
      · simp [e]
      · exact absurd e ec
  · exact ⟨k4 _ _ hI, hp.at fun o e => k4 _ o e, hq.at fun o e => k4 _ o e, ⟨_, k4 _ _ hTO⟩, .inl ⟨k4 _ _ hz, _, _, k4 _ _ hTO⟩⟩
theorem pe_listZip {e1 e2 : Expr} {ta : TA} {p p2 pos pos2 : Pos} (hg : Gl X "list") (hm : X.mg "list" = none) (hg2 : Gl X "zip") (hm2 : X.mg "zip" = none) (ha : PA X [e1, e2] ta) (hc : X.calm = true := by rfl)
    (hs : starEach [.Call (.Name "zip" p2) [e1, e2] [] pos2] X.env = [(false, eval (.Call (.Name "zip" p2) [e1, e2] [] pos2) X.env)] := by rfl) (hs2 : starEach [e1, e2] X.env = (false, eval e1 X.env) :: starEach [e2] X.env := by rfl) (hpl : (backTo pos2 (starEach [e2] X.env)).any (·.1) = false := by rfl) :
    PE X (.Call (.Name "list" p) [.Call (.Name "zip" p2) [e1, e2] [] pos2] [] pos) (tListZip X.K ta) := by
  refine ⟨fun pins s σ H Q I h => Call_ (ld_blt I hg hm PyProof.Rows.boot_list (PyProof.Rows.callWith_type1 ?_ hs rfl))⟩
  rw [hs]
  show wpAny _ _ (spliced [(false, eval (.Call (.Name "zip" p2) [e1, e2] [] pos2) X.env)]) _ _ s
  refine Calls.spliced_cons (Call_ (ld_blt I hg2 hm2 PyProof.Rows.boot_zip (PyProof.Rows.callWith_type1 (thn (ha.run pos2 pins s σ H _ I h) fun us s1 ⟨vs, H1, I1, r1, q1⟩ => ?_) hs2 hpl)))
  obtain ⟨a, b, xs, ys, ex, hx, hy, hl, q⟩ := q1
  subst ex
  obtain ⟨u1, u2, rfl, r2, r3⟩ := vals2 r1
  cases (show u1 = Value.ref a from r2)
  cases (show u2 = Value.ref b from r3)
  obtain ⟨its, rv, p1, _⟩ := I1.tuple hx
  obtain ⟨its2, rv2, p3, _⟩ := I1.tuple hy
  obtain ⟨o1, ho1, _⟩ := id p1
  obtain ⟨o2, ho2, _⟩ := id p3
  refine RZ.call_zipT (show s1.heap.IsTuple a its.toArray from p1) (show s1.heap.IsTuple b its2.toArray from p3) fun h' hz hTI hTO h1 h2 hsz hk => Calls.spliced_nil ?_
  have I2 : Inv X pins σ H1 { s1 with heap := h' } := I1.kept (t' := s1.toks) hk
  refine call_listZip (s := { s1 with heap := h' }) hc I2 (PySem.W.ktu_apart s1.heap.objs.size a b (Heap.lt_size ho1) (Heap.lt_size ho2)) hx hy hl hz hTI hTO h1 h2 (fun c hcm => ?_) q
  have hle : s1.heap.objs.size ≤ c := by
    simp only [List.mem_cons, List.not_mem_nil, or_false] at hcm
    rcases hcm with e | e | e | e | e <;> rw [e]
    · exact Nat.le_add_right _ _
    · exact Nat.le_add_right _ _
    · exact Nat.le_add_right _ _
    · exact Nat.le_refl _
    · exact Nat.le_add_right _ _
  exact I1.fpOk hle (I1.hok.fresh hle)
end
end Fl
/-! worths.py: sort_of, kind_of, are_same, are_alike -/
namespace Fl
open PySem PySem.Spec PyProof.Rows L2
abbrev s_sort_of : Stmt := top 22
theorem sc_sort_of : FnScope ["worth"] ["worth"] (defScope s_sort_of) := ⟨rfl, rfl, rfl, by decide +kernel, rfl, by decide +kernel, by decide +kernel⟩
abbrev s_kind_of : Stmt := top 23
theorem sc_kind_of : FnScope ["worth"] ["worth"] (defScope s_kind_of) := ⟨rfl, rfl, rfl, by decide +kernel, rfl, by decide +kernel, by decide +kernel⟩
abbrev s_are_same : Stmt := top 24
theorem sc_are_same : FnScope ["one", "other", "pile", "mine", "yours"] ["one", "other"] (defScope s_are_same) := ⟨rfl, rfl, rfl, by decide +kernel, rfl, by decide +kernel, by decide +kernel⟩
abbrev s_are_alike : Stmt := top 25
theorem sc_are_alike : FnScope ["one", "other"] ["one", "other"] (defScope s_are_alike) := ⟨rfl, rfl, rfl, by decide +kernel, rfl, by decide +kernel, by decide +kernel⟩
structure Ts (K : PySem.W.Frag) (mg : Str → Option Value) : Prop where
  kf : Kf K (He.ga K "Function")
  z_isinstance : mg "isinstance" = none
  z_int : mg "int" = none
  z_bool : mg "bool" = none
  z_str : mg "str" = none
  z_tuple : mg "tuple" = none
  z_len : mg "len" = none
  z_zip : mg "zip" = none
  z_list : mg "list" = none
/-- pairs that wait, as tuples -/
inductive Pa (C : Addr) (G H : Hp) : List V → List (Th × Th) → Prop
  | nil : Pa C G H [] []
  | cons {T : Addr} {x y : V} {t u : Th} {vs : List V} {ps : List (Th × Th)} : H T = some (.tup [x, y]) → Is C G x t → Is C G y u → Pa C G H vs ps → Pa C G H (.ref T :: vs) ((t, u) :: ps)
section
variable {C : Addr} {G H H' : Hp}
theorem Pa.same (s : Same H H') : ∀ {vs : List V} {ps : List (Th × Th)}, Pa C G H vs ps → Pa C G H' vs ps
  | _, _, .nil => .nil
  | _, _, .cons h a b r => .cons (s _ _ h) a b (r.same s)
theorem Pa.app : ∀ {vs ws : List V} {ps qs : List (Th × Th)}, Pa C G H vs ps → Pa C G H ws qs → Pa C G H (vs ++ ws) (ps ++ qs)
  | _, _, _, _, .nil, s => s
  | _, _, _, _, .cons h a b r, s => .cons h a b (r.app s)
theorem Pa.len : ∀ {vs : List V} {ps : List (Th × Th)}, Pa C G H vs ps → vs.length = ps.length
  | _, _, .nil => rfl
  | _, _, .cons _ _ _ r => congrArg Nat.succ r.len
theorem Pa.last : ∀ {vs : List V} {ps : List (Th × Th)}, Pa C G H vs ps → vs ≠ [] → ∃ ws T x y t u qs, vs = ws ++ [.ref T] ∧ ps = qs ++ [(t, u)] ∧ H T = some (.tup [x, y]) ∧ Is C G x t ∧ Is C G y u ∧ Pa C G H ws qs
  | _, _, .nil, h => absurd rfl h
  | _, _, .cons (vs := []) h a b r, _ => by
    cases r
    exact ⟨[], _, _, _, _, _, [], rfl, rfl, h, a, b, .nil⟩
  | _, _, .cons (vs := c :: d) h a b r, _ => by
    obtain ⟨ws, T, x, y, t, u, qs, e1, e2, e3, e4, e5, e6⟩ := r.last (List.cons_ne_nil _ _)
    exact ⟨_ :: ws, T, x, y, t, u, _ :: qs, by rw [e1]; rfl, by rw [e2]; rfl, e3, e4, e5, .cons h a b e6⟩
theorem Pa.mut {p : Addr} {xs ys : List V} (hp : H p = some (.lst xs)) : ∀ {vs : List V} {ps : List (Th × Th)}, Pa C G H vs ps → Pa C G (upd H p (.lst ys)) vs ps
  | _, _, .nil => .nil
  | _, _, .cons h a b r => .cons (by rw [upd_ne (fun z => by rw [z, hp] at h; cases h)]; exact h) a b (r.mut hp)
/-- the pairs of a zip -/
theorem Pa.zip : ∀ {xs ys : List V} {l m : List Th} {Ts : List Addr}, Iss C G xs l → Iss C G ys m → Ts.length = xs.length → xs.length = ys.length → (∀ (k : Nat) (T : Addr), Ts[k]? = some T → ∃ x y, xs[k]? = some x ∧ ys[k]? = some y ∧ H T = some (.tup [x, y])) → Pa C G H (Ts.map V.ref) (l.zip m)
  | [], [], _, _, [], .nil, .nil, _, _, _ => .nil
  | x :: xs, y :: ys, _, _, T :: Ts, .cons hx rx, .cons hy ry, h1, h2, h => by
    obtain ⟨a, b, e1, e2, e3⟩ := h 0 T rfl
    cases e1
    cases e2
    exact .cons e3 hx hy (Pa.zip rx ry (by simpa using h1) (by simpa using h2) fun k T' e => h (k + 1) T' e)
end
def psN (ps : List (Th × Th)) : Nat := Th.nodesL (ps.map fun p => p.1)
def psS (ps : List (Th × Th)) : Bool := ps.all fun p => p.1.same p.2
def psP (ps : List (Th × Th)) : Bool := ps.all fun p => p.1.worth false && p.2.worth false
theorem sames_zip : ∀ (l m : List Th), Th.sames l m = (decide (l.length = m.length) && psS (l.zip m))
  | [], [] => by rw [Th.sames]; rfl
  | [], _ :: _ => by rw [Th.sames] <;> first | rfl | (intros; simp_all)
  | _ :: _, [] => by rw [Th.sames] <;> first | rfl | (intros; simp_all)
  | t :: l, u :: m => by
    rw [Th.sames, sames_zip l m, List.zip_cons_cons]
    unfold psS
    rw [List.all_cons, List.length_cons, List.length_cons]
    have e : decide (l.length + 1 = m.length + 1) = decide (l.length = m.length) := decide_eq_decide.mpr ⟨fun h => by omega, fun h => by omega⟩
    rw [e]
    cases t.same u <;> cases decide (l.length = m.length) <;> rfl
theorem zip_plain : ∀ (l m : List Th), Th.worths false l = true → Th.worths false m = true → psP (l.zip m) = true
  | [], _, _, _ => by rw [List.zip_nil_left]; rfl
  | _ :: _, [], _, _ => by rw [List.zip_nil_right]; rfl
  | t :: l, u :: m, hl, hm => by
    rw [Th.worths, Bool.and_eq_true] at hl hm
    rw [List.zip_cons_cons]
    unfold psP
    rw [List.all_cons, hl.1, hm.1]
    exact zip_plain l m hl.2 hm.2
theorem zip_nodes : ∀ (l m : List Th), psN (l.zip m) ≤ Th.nodesL l
  | [], _ => by rw [List.zip_nil_left]; exact Nat.le_refl _
  | _ :: _, [] => by rw [List.zip_nil_right]; exact Nat.zero_le _
  | t :: l, u :: m => by
    have := zip_nodes l m
    unfold psN at this ⊢
    rw [List.zip_cons_cons, List.map_cons, Th.nodesL, Th.nodesL]
    show t.nodes + _ ≤ _
    omega
theorem same_kind {t u : Th} (h : t.kind ≠ u.kind) : t.same u = false := by
  cases e : t.same u with
  | false => rfl
  | true =>
    refine absurd ?_ h
    cases t <;> cases u <;> first | rfl | (exfalso; simp [Th.same] at e)
theorem leaf_same {C : Addr} {G : Hp} {x y : V} {t u : Th} (h1 : Is C G x t) (h2 : Is C G y u) (hk : t.kind = u.kind) (ht : t.isTup = false) (p1 : t.worth false = true) (p2 : u.worth false = true) : scal x y = true ∧ decide (x = y) = t.same u := by
  cases h1 with
  | tup _ _ => cases ht
  | fn _ _ => cases p1
  | non => cases p1
  | lst _ => cases p1
  | dct _ => cases p1
  | bl a =>
    cases h2 with
    | bl b => exact ⟨rfl, by rw [Th.same, dec_bl]⟩
    | int _ => exact absurd hk (show ¬ (("truth" : Str) = "number") by decide)
    | str _ => exact absurd hk (show ¬ (("truth" : Str) = "word") by decide)
    | tup _ _ => exact absurd hk (show ¬ (("truth" : Str) = "row") by decide)
    | fn _ _ => cases p2
    | non => cases p2
    | lst _ => cases p2
    | dct _ => cases p2
  | int a =>
    cases h2 with
    | int b => exact ⟨rfl, by rw [Th.same, dec_int]⟩
    | bl _ => exact absurd hk (show ¬ (("number" : Str) = "truth") by decide)
    | str _ => exact absurd hk (show ¬ (("number" : Str) = "word") by decide)
    | tup _ _ => exact absurd hk (show ¬ (("number" : Str) = "row") by decide)
    | fn _ _ => cases p2
    | non => cases p2
    | lst _ => cases p2
    | dct _ => cases p2
  | str a =>
    cases h2 with
    | str b => exact ⟨rfl, by rw [Th.same]; exact decide_eq_decide.mpr ⟨fun z => by injection z, fun z => by rw [z]⟩⟩
    | bl _ => exact absurd hk (show ¬ (("word" : Str) = "truth") by decide)
    | int _ => exact absurd hk (show ¬ (("word" : Str) = "number") by decide)
    | tup _ _ => exact absurd hk (show ¬ (("word" : Str) = "row") by decide)
    | fn _ _ => cases p2
    | non => cases p2
    | lst _ => cases p2
    | dct _ => cases p2
theorem row_two {C : Addr} {G : Hp} {x y : V} {t u : Th} (h1 : Is C G x t) (h2 : Is C G y u) (hk : t.kind = u.kind) (ht : t.isTup = true) (p2 : u.worth false = true) :
    ∃ a b xs ys l m, x = .ref a ∧ y = .ref b ∧ G a = some (.tup xs) ∧ G b = some (.tup ys) ∧ t = .tup l ∧ u = .tup m ∧ Iss C G xs l ∧ Iss C G ys m := by
  cases h1 with
  | tup e1 r1 =>
    cases h2 with
    | tup e2 r2 => exact ⟨_, _, _, _, _, _, rfl, rfl, e1, e2, rfl, rfl, r1, r2⟩
    | bl _ => exact absurd hk (show ¬ (("row" : Str) = "truth") by decide)
    | int _ => exact absurd hk (show ¬ (("row" : Str) = "number") by decide)
    | str _ => exact absurd hk (show ¬ (("row" : Str) = "word") by decide)
    | fn _ _ => cases p2
    | non => cases p2
    | lst _ => cases p2
    | dct _ => cases p2
  | bl _ => cases ht
  | int _ => cases ht
  | str _ => cases ht
  | fn _ _ => cases ht
  | non => cases ht
  | lst _ => cases ht
  | dct _ => cases ht
def SameW (C : Addr) (H : Hp) (a b : V) (p : Addr) (r : Bool) (m : Nat) (σ : L2.St) (H' : Hp) : Prop := ∃ xs ps o3 o4, σ = [some a, some b, some (.ref p), o3, o4] ∧ Same H H' ∧ H' p = some (.lst xs) ∧ Pa C H H' xs ps ∧ m = psN ps ∧ psN ps ≤ 1000000 ∧ psP ps = true ∧ r = psS ps
def spSort (K : PySem.W.Frag) : Sp := sp1 fun v H Q _ => ∃ t, Is (CF K) H v t ∧ t.worth true = true ∧ Q (.str t.kind) H
def spSame (K : PySem.W.Frag) : Sp := sp2 fun a b H Q _ => ∃ t u, Is (CF K) H a t ∧ Is (CF K) H b u ∧ t.worth false = true ∧ u.worth false = true ∧ t.nodes ≤ 1000000 ∧ ∀ H', Same H H' → Q (.bl (t.same u)) H'
def spKindOf (K : PySem.W.Frag) : Sp := sp1 fun v H Q E => ∃ t, Is (CF K) H v t ∧ t.nodes ≤ 1000000 ∧ (t.worth true = true → ∀ H', Same H H' → Q (.str t.kind) H') ∧ (t.worth true = false → ∀ H', Same H H' → E (.ref (He.ga K "BadWorth")) none H')
def spAlike (K : PySem.W.Frag) : Sp := sp2 fun a b H Q E => ∃ t u, Is (CF K) H a t ∧ Is (CF K) H b u ∧ t.nodes ≤ 1000000 ∧ u.nodes ≤ 1000000 ∧ ((t.worth false && u.worth false) = true → ∀ H', Same H H' → Q (.bl (t.same u)) H') ∧ ((t.worth false && u.worth false) = false → ∀ H', Same H H' → E (.ref (He.ga K "BadWorth")) none H')
section
variable {P : Program} {w : World} {K : PySem.W.Frag} {mg : Str → Option Value} {base : Heap}
theorem ok_sort_of (F : FnP K mg "sort_of" s_sort_of) (T : Ts K mg) : Cl P w K mg base 1 "sort_of" ["worth"] (spSort K) := by
  refine cl_1 F sc_sort_of (fun _ _ _ _ _ _ us hl => match us, hl with | [_], _ => rfl) fun cdv A outer s H v Q E hr h => ?_
  obtain ⟨t, h, ht, q⟩ := h
  refine ⟨_, PSs.nox (pss_cons (ps_if (pt_val (pe_callB call_isi rfl T.z_isinstance PyProof.Rows.boot_isinstance (pa_cons (pv 0) (pa_cons (pe_bltn (v := .ty "bool") rfl T.z_bool (by decide +kernel) rfl) pa_nil)))) (pss_one (ps_ret pe_str)) pss_nil) (pss_cons (ps_if (pt_val (pe_callB call_isi rfl T.z_isinstance PyProof.Rows.boot_isinstance (pa_cons (pv 0) (pa_cons (pe_bltn (v := .ty "int") rfl T.z_int (by decide +kernel) rfl) pa_nil)))) (pss_one (ps_ret pe_str)) pss_nil) (pss_cons (ps_if (pt_val (pe_callB call_isi rfl T.z_isinstance PyProof.Rows.boot_isinstance (pa_cons (pv 0) (pa_cons (pe_bltn (v := .ty "str") rfl T.z_str (by decide +kernel) rfl) pa_nil)))) (pss_one (ps_ret pe_str)) pss_nil) (pss_one (ps_ret (pe_ifExp (pt_val (pe_callB call_isi rfl T.z_isinstance PyProof.Rows.boot_isinstance (pa_cons (pv 0) (pa_cons (pe_bltn (v := .ty "tuple") rfl T.z_tuple (by decide +kernel) rfl) pa_nil)))) pe_str pe_str)))))), ?_⟩
  obtain ⟨u1, y1, k1⟩ := is_bool T.kf h
  obtain ⟨u2, y2, k2⟩ := is_int T.kf h
  obtain ⟨u3, y3, k3⟩ := is_str T.kf h
  obtain ⟨u4, y4, k4⟩ := is_tup T.kf h
  refine ⟨_, rfl, v, _, u1, _, _, rfl, .ty _, y1, k1, _, rfl, ?_⟩
  cases h with
  | bl b => exact iteT q
  | int i => exact iteF ⟨_, rfl, _, _, u2, _, _, rfl, .ty _, y2, k2, _, rfl, iteT q⟩
  | str x hx => exact iteF ⟨_, rfl, _, _, u2, _, _, rfl, .ty _, y2, k2, _, rfl, iteF ⟨_, rfl, _, _, u3, _, _, rfl, .ty _, y3, k3, _, rfl, iteT q⟩⟩
  | tup _ _ => exact iteF ⟨_, rfl, _, _, u2, _, _, rfl, .ty _, y2, k2, _, rfl, iteF ⟨_, rfl, _, _, u3, _, _, rfl, .ty _, y3, k3, _, rfl, iteF ⟨_, rfl, _, _, u4, _, _, rfl, .ty _, y4, k4, _, rfl, iteT q⟩⟩⟩
  | fn _ _ => exact iteF ⟨_, rfl, _, _, u2, _, _, rfl, .ty _, y2, k2, _, rfl, iteF ⟨_, rfl, _, _, u3, _, _, rfl, .ty _, y3, k3, _, rfl, iteF ⟨_, rfl, _, _, u4, _, _, rfl, .ty _, y4, k4, _, rfl, iteF q⟩⟩⟩
  | non => cases ht
  | lst _ => cases ht
  | dct _ => cases ht
theorem ok_are_same (F : FnP K mg "are_same" s_are_same) (T : Ts K mg) (B_sort_of : Cl P w K mg base 1 "sort_of" ["worth"] (spSort K)) : Cl P w K mg base 2 "are_same" ["one", "other"] (spSame K) := by
  refine cl_2 F sc_are_same (fun _ _ _ _ _ _ us hl => match us, hl with | [_, _], _ => rfl) fun cdv A outer s H a b Q E hr h => ?_
  obtain ⟨t, u, ha, hb, pt, pu, hn, q⟩ := h
  refine ⟨_, PSs.nox (pss_cons (ps_set (i := 2) sc_are_same.nd rfl (Or.inl rfl) (pe_lst (pa_cons (pe_tup (pa_cons (pv 0) (pa_cons (pv 1) pa_nil))) pa_nil))) (pss_cons (ps_while PassesOwn.never (pt_cmpR (op_neNil hr.units0) (pv 2) (pe_lst pa_nil) (nomark _)) (pss_cons (ps_asg (pe_bm0 PySem.F.plainAttrs_list PySem.F.slot_list_pop PySem.F.type_list_pop mt_pop (pv 2)) (pg_tup rfl (pgs_cons (pg_name (i := 3) sc_are_same.nd rfl (Or.inl rfl)) (pgs_cons (pg_name (i := 4) sc_are_same.nd rfl (Or.inl rfl)) pgs_nil)))) (pss_cons (ps_if (pt_cmpR op_ne (pe_b B_sort_of hr (by omega) rfl passL (pa_cons (pv 3) pa_nil)) (pe_b B_sort_of hr (by omega) rfl passL (pa_cons (pv 4) pa_nil)) (nomark _)) (pss_one (ps_ret pe_bl)) pss_nil) (pss_one (ps_if (pt_val (pe_callB call_isi rfl T.z_isinstance PyProof.Rows.boot_isinstance (pa_cons (pv 3) (pa_cons (pe_bltn (v := .ty "tuple") rfl T.z_tuple (by decide +kernel) rfl) pa_nil)))) (pss_cons (ps_if (pt_cmpR op_ne (pe_callB call_len_seq rfl T.z_len PySem.boot_len (pa_cons (pv 3) pa_nil)) (pe_callB call_len_seq rfl T.z_len PySem.boot_len (pa_cons (pv 4) pa_nil)) (nomark _)) (pss_one (ps_ret pe_bl)) pss_nil) (pss_one (ps_expr (pe_bm PySem.F.plainAttrs_list PySem.F.slot_list_extend PySem.F.type_list_extend (mt_extend) (pv 2) (pa_cons (pe_listZip rfl T.z_list rfl T.z_zip (pa_cons (pv 3) (pa_cons (pv 4) pa_nil))) pa_nil))))) (pss_one (ps_if (pt_cmpR op_ne (pv 3) (pv 4) (nomark _)) (pss_one (ps_ret pe_bl)) pss_nil))))))) (pss_one (ps_ret pe_bl)))), ?_⟩
  refine ⟨_, rfl, _, rfl, s2, fun p0 np0 => ⟨(by show 1 ≤ sizeLine; decide), fun p np => ?_⟩⟩
  have sH0 := (same_new np0 (.tup [a, b])).trans (same_new np (.lst [.ref p0]))
  have np' : H p = none := (same_new np0 (.tup [a, b])).free np
  refine ⟨SameW (CF K) H a b p (t.same u), ⟨_, [.ref p0], [(t, u)], none, none, rfl, sH0, upd_same, .cons ((same_new np _) _ _ upd_same) ha hb .nil, rfl, by simpa [psN, Th.nodesL] using hn, by simp [psP, pt, pu], by simp [psS]⟩, ?_⟩
  rintro m σ H1 ⟨xs, ps, o3, o4, rfl, s1, hp, hi, rfl, hm, hpl, hrs⟩
  refine ⟨_, rfl, (by show 0 ≤ sizeLine; decide), fun d nd => ⟨p, d, xs, rfl, rfl, SqL.of (by rw [upd_ne (ne_of_none hp nd)]; exact hp), SqL.of upd_same, _, rfl, ?_⟩⟩
  have s2' : Same H (upd H1 d (.lst [])) := s1.trans (same_new nd _)
  have hp2 : upd H1 d (.lst []) p = some (.lst xs) := by
    rw [upd_ne (ne_of_none hp nd)]
    exact hp
  by_cases hx : xs = []
  · subst hx
    cases hi
    refine iteF ?_
    have e : t.same u = true := hrs
    rw [e] at q
    exact q _ s2'
  obtain ⟨ys, Ta, x, y, t1, u1, qs, rfl, rfl, hT, w1, w2, hi2⟩ := hi.last hx
  have hne : (!(ys ++ [V.ref Ta]).isEmpty) = true := by cases ys <;> rfl
  show (if (!(ys ++ [V.ref Ta]).isEmpty) = true then _ else _)
  rw [hne]
  refine iteT ?_
  have eN : psN (qs ++ [(t1, u1)]) = psN qs + t1.nodes := by
    unfold psN
    rw [List.map_append, nodesL_app]
    show Th.nodesL _ + Th.nodesL [t1] = _
    rw [Th.nodesL, Th.nodesL]
    omega
  have eS : psS (qs ++ [(t1, u1)]) = (psS qs && t1.same u1) := by
    unfold psS
    rw [List.all_append, List.all_cons, List.all_nil, Bool.and_true]
  have eP : psP (qs ++ [(t1, u1)]) = (psP qs && (t1.worth false && u1.worth false)) := by
    unfold psP
    rw [List.all_append, List.all_cons, List.all_nil, Bool.and_true]
  rw [eN] at hm
  rw [eS] at hrs
  rw [eP, Bool.and_eq_true, Bool.and_eq_true] at hpl
  obtain ⟨pq, p1, p2⟩ := hpl
  have tp := t1.nodes_pos
  have hyl : ys.length ≤ psN qs := by
    rw [hi2.len]
    have := len_nodesL (qs.map fun p => p.1)
    rw [List.length_map] at this
    exact this
  refine ⟨_, fun σ' H' z => z, ?_⟩
  have hpT : Ta ≠ p := fun z => by rw [z, hp] at hT; cases hT
  have dT : Ta ≠ d := ne_of_none hT nd
  refine ⟨_, rfl, .inl ⟨rfl, _, .inl (.inl hp2)⟩, p, _, V.ref Ta, rfl, rfl, hp2, (by simp), ?_⟩
  rw [List.dropLast_concat]
  have s3 : Same H (upd (upd H1 d (.lst [])) p (.lst ys)) := same_mut s2' np'
  have hp3 : upd (upd H1 d (.lst [])) p (.lst ys) p = some (.lst ys) := upd_same
  have hT3 : upd (upd H1 d (.lst [])) p (.lst ys) Ta = some (.tup [x, y]) := by
    rw [upd_ne hpT, upd_ne dT]
    exact hT
  have hi3 : Pa (CF K) H (upd (upd H1 d (.lst [])) p (.lst ys)) ys qs := (hi2.same (same_new nd _)).mut hp2
  generalize upd (upd H1 d (.lst [])) p (.lst ys) = H3 at s3 hp3 hT3 hi3 ⊢
  refine ⟨Ta, _, rfl, SqT.of hT3, rfl, _, _, rfl, _, _, rfl, rfl, ?_⟩
  have bad : t1.same u1 = false → Q (.bl false) H3 := fun e => by
    have e2 : t.same u = false := by rw [hrs, e, Bool.and_false]
    rw [e2] at q
    exact q _ s3
  refine ⟨_, rfl, _, rfl, t1, w1.same s3, worth_up p1, _, rfl, _, rfl, u1, w2.same s3, worth_up p2, rfl, _, rfl, ?_⟩
  by_cases kk : t1.kind = u1.kind
  · rw [kk, decide_eq_true rfl]
    refine iteF (stepN ?_)
    dsimp only
    obtain ⟨k1, y1, z1⟩ := is_tup (K := K) T.kf (w1.same s3)
    refine ⟨_, rfl, _, _, k1, _, _, rfl, .ty _, y1, z1, _, rfl, ?_⟩
    have fin : ∀ H4, Same H H4 → H4 p = some (.lst ys) → Pa (CF K) H H4 ys qs → t1.same u1 = true → ∃ m', m' < psN (qs ++ [(t1, u1)]) ∧ SameW (CF K) H a b p (t.same u) m' [some a, some b, some (.ref p), some x, some y] H4 := fun H4 s4 hp4 hi4 e =>
      ⟨psN qs, by rw [eN]; omega, ys, qs, _, _, rfl, s4, hp4, hi4, rfl, by omega, pq, by rw [hrs, e, Bool.and_true]⟩
    cases it : t1.isTup with
    | false =>
      obtain ⟨l1, l2⟩ := leaf_same w1 w2 kk it p1 p2
      refine iteF ⟨_, rfl, _, rfl, l1, _, rfl, ?_⟩
      rw [l2]
      cases e : t1.same u1 with
      | true => exact iteF (fin H3 s3 hp3 hi3 e)
      | false => exact iteT (bad e)
    | true =>
      obtain ⟨a1, b1, xs1, ys1, l, m, rfl, rfl, e1, e2, rfl, rfl, v1, v2⟩ := row_two w1 w2 kk it p2
      have l1 := v1.len
      have l2 := v2.len
      have pl : Th.worths false l = true := by simpa [Th.worth] using p1
      have pm : Th.worths false m = true := by simpa [Th.worth] using p2
      have sz : Th.same (.tup l) (.tup m) = (decide (l.length = m.length) && psS (l.zip m)) := by rw [Th.same, sames_zip]
      refine iteT ⟨_, rfl, a1, _, rfl, .inr (SqT.of (s3 _ _ e1)), _, rfl, b1, _, rfl, .inr (SqT.of (s3 _ _ e2)), rfl, _, rfl, ?_⟩
      by_cases ll : l.length = m.length
      · rw [show xs1.length = ys1.length by omega, decide_eq_true rfl]
        refine iteF (stepN ?_)
        dsimp only
        have zn := zip_nodes l m
        have zl : (l.zip m).length = l.length := by rw [List.length_zip]; omega
        simp only [Th.nodes] at eN hm
        have ln := len_nodesL l
        refine ⟨_, rfl, .inl ⟨rfl, _, .inl (.inl hp3)⟩, _, rfl, _, rfl, a1, b1, xs1, ys1, rfl, SqT.of (s3 _ _ e1), SqT.of (s3 _ _ e2), by omega, fun S Ts H4 s4 nS prs => ?_⟩
        have hS : p ≠ S := ne_of_none (s4 _ _ hp3) nS
        have s5 := s4.trans (same_new nS (.lst (Ts.map V.ref)))
        refine ⟨p, S, ys, Ts.map V.ref, rfl, rfl, s5 _ _ hp3, upd_same, by rw [List.length_map, prs.1, sizeLine_eq]; omega, ?_⟩
        have pz : Pa (CF K) H H4 (Ts.map V.ref) (l.zip m) := Pa.zip v1 v2 prs.1 (by omega) prs.2
        refine ⟨psN (qs ++ l.zip m), ?_, ys ++ Ts.map V.ref, qs ++ l.zip m, _, _, rfl, same_mut (s3.trans s5) np', upd_same, ((hi3.same s5).app (pz.same (same_new nS _))).mut (s5 _ _ hp3), rfl, ?_, ?_, ?_⟩
        · rw [eN]
          unfold psN at zn ⊢
          rw [List.map_append, nodesL_app]
          omega
        · unfold psN at zn hm ⊢
          rw [List.map_append, nodesL_app]
          omega
        · unfold psP at pq ⊢
          rw [List.all_append, pq]
          exact zip_plain l m pl pm
        · rw [hrs, sz, decide_eq_true ll, Bool.true_and]
          unfold psS
          rw [List.all_append]
      · have e : (!decide (V.int ((xs1.length : Nat) : Int) = V.int ((ys1.length : Nat) : Int))) = true := by
          rw [decide_eq_false (fun z => by injection z with z; omega)]
          rfl
        rw [e]
        exact iteT (bad (by rw [sz, decide_eq_false ll]; rfl))
  · have e : (!decide (V.str t1.kind = V.str u1.kind)) = true := by
      rw [decide_eq_false fun z => kk (by injection z)]
      rfl
    rw [e]
    exact iteT (bad (same_kind kk))
theorem ok_kind_of (F : FnP K mg "kind_of" s_kind_of) (T : Ts K mg) (B_need_worth : Cl P w K mg base 4 "need_worth" ["thing"] (spNeed K true)) (B_sort_of : Cl P w K mg base 1 "sort_of" ["worth"] (spSort K)) : Cl P w K mg base 5 "kind_of" ["worth"] (spKindOf K) := by
  refine cl_1 F sc_kind_of (fun _ _ _ _ _ _ us hl => match us, hl with | [_], _ => rfl) fun cdv A outer s H v Q E hr h => ?_
  obtain ⟨t, h, hn, q, qe⟩ := h
  refine ⟨_, (pss_one (ps_ret (pe_b B_sort_of hr (by omega) rfl passL (pa_cons (pe_bS B_need_worth hr (by omega) rfl (fun σ => passAt (takes_of rfl rfl rfl rfl) σ) (pa_cons (pv 0) pa_nil)) pa_nil)))), ?_⟩
  exact ⟨_, rfl, _, rfl, t, h, hn, fun e H' s1 => ⟨_, rfl, t, h.same s1, e, q e _ s1⟩, fun e H' s1 => qe e _ s1⟩
theorem ok_are_alike (F : FnP K mg "are_alike" s_are_alike) (T : Ts K mg) (B_need_plain : Cl P w K mg base 4 "need_plain" ["thing"] (spNeed K false)) (B_are_same : Cl P w K mg base 2 "are_same" ["one", "other"] (spSame K)) : Cl P w K mg base 5 "are_alike" ["one", "other"] (spAlike K) := by
  refine cl_2 F sc_are_alike (fun _ _ _ _ _ _ us hl => match us, hl with | [_, _], _ => rfl) fun cdv A outer s H v b Q E hr h => ?_
  obtain ⟨t, u, h, hu, hn, un, q, qe⟩ := h
  refine ⟨_, (pss_one (ps_ret (pe_b B_are_same hr (by omega) rfl passL (pa_cons (pe_bS B_need_plain hr (by omega) rfl (fun σ => passAt (takes_of rfl rfl rfl rfl) σ) (pa_cons (pv 0) pa_nil)) (pa_cons (pe_bS B_need_plain hr (by omega) rfl (fun σ => passAt (takes_of rfl rfl rfl rfl) σ) (pa_cons (pv 1) pa_nil)) pa_nil))))), ?_⟩
  refine ⟨_, rfl, _, rfl, t, h, hn, fun e1 H1 s1 => ⟨_, rfl, _, rfl, u, hu.same s1, un, fun e2 H2 s2' => ⟨_, _, rfl, t, u, h.same (s1.trans s2'), hu.same (s1.trans s2'), e1, e2, hn, fun H3 s3' => q (by rw [e1, e2]; rfl) _ (s1.trans (s2'.trans s3'))⟩, fun e2 H2 s2' => qe (by rw [e1, e2]; rfl) _ (s1.trans s2')⟩, fun e1 H1 s1 => qe (by rw [e1]; rfl) _ s1⟩
end
end Fl
namespace Fl
open PySem PySem.Spec PyProof.Rows L2
abbrev s_law_is_refused : Stmt := top 38
theorem sc_law_is_refused : FnScope ["_law_error"] ["_law_error"] (defScope s_law_is_refused) := ⟨rfl, rfl, rfl, by decide +kernel, rfl, by decide +kernel, by decide +kernel⟩
/-- isinstance of a kept error, or of what else there is; one class, or a tuple of them -/
theorem call_isiU {X : Cx} : CallR X (.builtin "isinstance") (fun xs H Q => (rIsi X.K xs H Q ∨ rIsiT X.K xs H Q) ∨ (rIsX X.K xs H Q ∨ rIsXT X.K xs H Q)) := (call_isi.or call_isiT).or (call_isX.or call_isXT)
/-- the errors' classes -/
structure Te (K : PySem.W.Frag) (mg : Str → Option Value) (D : Str) (cs : List Str) : Prop where
  xc : ExcC K (He.ga K D)
  any : PySem.W.kitAny K (.ref (He.ga K D)) (cs.map fun c => .ref (He.ga K c)) = some false
  one : PySem.W.kitOne K (.ref (He.ga K D)) (.ref (He.ga K D)) = some true
  val : PySem.W.kitOne K (.ref (He.ga K D)) (.type "ValueError") = some true
  nany : PySem.W.kitAny K (.type "NoneType") (cs.map fun c => .ref (He.ga K c)) = some false
  none : PySem.W.kitOne K (.type "NoneType") (.ref (He.ga K D)) = some false
def others : List Str := ["BadFloors", "BadHandle", "BadLimit", "BadPaper", "BadState", "NoText", "TooGreat"]
structure Tq (K : PySem.W.Frag) (mg : Str → Option Value) : Prop where
  z_isinstance : mg "isinstance" = none
  z_ValueError : mg "ValueError" = none
  g_FloorError : mg "FloorError" = some (.ref (He.ga K "FloorError"))
  g_BadFloors : mg "BadFloors" = some (.ref (He.ga K "BadFloors"))
  g_BadHandle : mg "BadHandle" = some (.ref (He.ga K "BadHandle"))
  g_BadLimit : mg "BadLimit" = some (.ref (He.ga K "BadLimit"))
  g_BadPaper : mg "BadPaper" = some (.ref (He.ga K "BadPaper"))
  g_BadState : mg "BadState" = some (.ref (He.ga K "BadState"))
  g_NoText : mg "NoText" = some (.ref (He.ga K "NoText"))
  g_TooGreat : mg "TooGreat" = some (.ref (He.ga K "TooGreat"))
  g_BadWorth : mg "BadWorth" = some (.ref (He.ga K "BadWorth"))
  exm : PySem.W.exmOne K (.ref (He.ga K "BadWorth")) (.ref (He.ga K "FloorError")) = some true
  te : Te K mg "BadWorth" others
abbrev BW (K : PySem.W.Frag) : Value := .ref (He.ga K "BadWorth")
/-- nothing, or a kept error -/
def Kept (D : Value) (H : Hp) (v : V) (b : Bool) : Prop := (v = .non ∧ b = false) ∨ ∃ a, v = .ref a ∧ H a = some (CauO D a) ∧ b = true
def spRefused (K : PySem.W.Frag) (D : Value) : Sp := sp1 fun v H Q _ => ∃ b, Kept D H v b ∧ ∀ H', Same H H' → Q (.bl b) H'
section
variable {P : Program} {w : World} {K : PySem.W.Frag} {mg : Str → Option Value} {base : Heap}
theorem ok_law_is_refused (F : FnP K mg "_law_is_refused" s_law_is_refused) (T : Tq K mg) : Cl P w K mg base 1 "_law_is_refused" ["_law_error"] (spRefused K (BW K)) := by
  refine cl_1 F sc_law_is_refused (fun _ _ _ _ _ _ us hl => match us, hl with | [_], _ => rfl) fun cdv A outer s H v Q E hr h => ?_
  obtain ⟨b, h, q⟩ := h
  refine ⟨_, PSs.nox (pss_cons (ps_if (pt_val (pe_callB call_isiU rfl T.z_isinstance PyProof.Rows.boot_isinstance (pa_cons (pv 0) (pa_cons (pe_tup (pa_cons (pe_glob (v := .ref (He.ga K "BadFloors")) rfl T.g_BadFloors rfl) (pa_cons (pe_glob (v := .ref (He.ga K "BadHandle")) rfl T.g_BadHandle rfl) (pa_cons (pe_glob (v := .ref (He.ga K "BadLimit")) rfl T.g_BadLimit rfl) (pa_cons (pe_glob (v := .ref (He.ga K "BadPaper")) rfl T.g_BadPaper rfl) (pa_cons (pe_glob (v := .ref (He.ga K "BadState")) rfl T.g_BadState rfl) (pa_cons (pe_glob (v := .ref (He.ga K "NoText")) rfl T.g_NoText rfl) (pa_cons (pe_glob (v := .ref (He.ga K "TooGreat")) rfl T.g_TooGreat rfl) pa_nil)))))))) pa_nil)))) (pss_one (ps_ret pe_bl)) pss_nil) (pss_one (ps_ret (pe_and (pe_callB call_isiU rfl T.z_isinstance PyProof.Rows.boot_isinstance (pa_cons (pv 0) (pa_cons (pe_glob (v := .ref (He.ga K "BadWorth")) rfl T.g_BadWorth rfl) pa_nil))) (pe_one (pe_callB call_isiU rfl T.z_isinstance PyProof.Rows.boot_isinstance (pa_cons (pv 0) (pa_cons (pe_bltn (v := .ty "ValueError") rfl T.z_ValueError (by decide +kernel) rfl) pa_nil)))))))), ?_⟩
  refine ⟨_, rfl, (by show 7 ≤ sizeLine; decide), fun p np => ?_⟩
  have sm := same_new np (.tup [.ref (He.ga K "BadFloors"), .ref (He.ga K "BadHandle"), .ref (He.ga K "BadLimit"), .ref (He.ga K "BadPaper"), .ref (He.ga K "BadState"), .ref (He.ga K "NoText"), .ref (He.ga K "TooGreat")])
  have own : Paired ClsV [.ref (He.ga K "BadFloors"), .ref (He.ga K "BadHandle"), .ref (He.ga K "BadLimit"), .ref (He.ga K "BadPaper"), .ref (He.ga K "BadState"), .ref (He.ga K "NoText"), .ref (He.ga K "TooGreat")]
      (others.map fun c => .ref (He.ga K c)) := .cons (.own _) (.cons (.own _) (.cons (.own _) (.cons (.own _) (.cons (.own _) (.cons (.own _) (.cons (.own _) .nil))))))
  rcases h with ⟨rfl, rfl⟩ | ⟨a, rfl, ha, rfl⟩
  · refine .inl (.inr ⟨_, p, _, _, _, false, rfl, upd_same, own, .base .non, T.te.nany, _, rfl, iteF ?_⟩)
    exact ⟨_, rfl, .inl (.inl ⟨_, _, _, _, false, rfl, .own _, .base .non, T.te.none, _, rfl, iteF (q _ sm)⟩)⟩
  · refine .inr (.inr ⟨a, _, p, _, _, false, rfl, upd_same, own, sm _ _ ha, T.te.xc, T.te.any, _, rfl, iteF ?_⟩)
    refine ⟨_, rfl, .inr (.inl ⟨a, _, _, _, true, rfl, .own _, sm _ _ ha, T.te.xc, T.te.one, _, rfl, iteT ?_⟩)⟩
    exact ⟨_, rfl, .inr (.inl ⟨a, _, _, _, true, rfl, .ty _, sm _ _ ha, T.te.xc, T.te.val, q _ sm⟩)⟩
end
end Fl
namespace Fl
open PySem PySem.Spec PyProof.Rows L2
open RZ (ItzT iZipA pi_zipA)
abbrev s_law_kind : Stmt := top 33
theorem sc_law_kind : FnScope ["_law_worth_here"] ["_law_worth_here"] (defScope s_law_kind) := ⟨rfl, rfl, rfl, by decide +kernel, rfl, by decide +kernel, by decide +kernel⟩
abbrev s_law_same : Stmt := top 34
theorem sc_law_same : FnScope ["_law_one", "_law_other", "_law_mine", "_law_yours"] ["_law_one", "_law_other"] (defScope s_law_same) := ⟨rfl, rfl, rfl, by decide +kernel, rfl, by decide +kernel, by decide +kernel⟩
abbrev s_law_anew : Stmt := top 35
theorem sc_law_anew : FnScope ["_law_worth_here", "_law_part"] ["_law_worth_here"] (defScope s_law_anew) := ⟨rfl, rfl, rfl, by decide +kernel, rfl, by decide +kernel, by decide +kernel⟩
abbrev s_law_otherwise : Stmt := top 36
theorem sc_law_otherwise : FnScope ["_law_worth_here", "_law_number", "_law_at"] ["_law_worth_here", "_law_number"] (defScope s_law_otherwise) := ⟨rfl, rfl, rfl, by decide +kernel, rfl, by decide +kernel, by decide +kernel⟩
abbrev s_law_caught : Stmt := top 37
theorem sc_law_caught : FnScope ["_law_way", "_law_one", "_law_other", "_law_found", "e"] ["_law_way", "_law_one", "_law_other"] (defScope s_law_caught) := ⟨rfl, rfl, rfl, by decide +kernel, rfl, by decide +kernel, by decide +kernel⟩
abbrev s_law_is : Stmt := top 39
theorem sc_law_is : FnScope ["_law_found", "_law_due"] ["_law_found", "_law_due"] (defScope s_law_is) := ⟨rfl, rfl, rfl, by decide +kernel, rfl, by decide +kernel, by decide +kernel⟩
structure To (mg : Str → Option Value) : Prop where
  z_isinstance : mg "isinstance" = none
  z_int : mg "int" = none
  z_bool : mg "bool" = none
  z_str : mg "str" = none
  z_tuple : mg "tuple" = none
  z_len : mg "len" = none
  z_zip : mg "zip" = none
  z_all : mg "all" = none
/-- a comprehension over zip of two tuples of one length -/
theorem lc_zipT {K : PySem.W.Frag} {a b : Addr} {xs ys : List V} {g : TG} {tt : TT} {te : TE} {vs : List Nat} {σ : L2.St} {H1 : Hp} {D : Addr} {Qd : Hp → Prop} (hl : xs.length = ys.length) (Pv : Nat → Hp → Prop) (h0 : Pv 0 (upd H1 D (.lst []))) (hq : ∀ i H, Pv i H → SqT K H a xs ∧ SqT K H b ys)
    (hs : ∀ (i : Nat) (x y : V) (T : Addr) (H : Hp), xs[i]? = some x → ys[i]? = some y → Pv i H → H T = none → g (.ref T) (wipe σ vs) (upd H T (.tup [x, y])) fun σ2 H2 => wipe σ2 vs = wipe σ vs ∧ tt σ2 H2 fun b H3 =>
      if b = true then te σ2 H3 fun y H4 => ∃ acc, H4 D = some (.lst acc) ∧ acc.length < sizeLine ∧ Pv (i + 1) (upd H4 D (.lst (acc ++ [y]))) else Pv (i + 1) H3) (hd : ∀ H, Pv xs.length H → Qd H) :
    ∃ W : Nat → Nat → Hp → Prop, (∃ m, W 0 m (upd H1 D (.lst []))) ∧ ∀ i m H, W i m H →
      ((ItzT K a b).stop i H ∧ Qd H) ∨ ((ItzT K a b).go i H ∧ ∃ Nx : Hp → Prop, (∀ H', Nx H' → ∃ m', m' < m ∧ W (i + 1) m' H') ∧ ∀ x H', (ItzT K a b).yld i H x H' → g x (wipe σ vs) H' fun σ2 H2 => wipe σ2 vs = wipe σ vs ∧ tt σ2 H2 fun b H3 =>
        if b = true then te σ2 H3 fun y H4 => ∃ acc, H4 D = some (.lst acc) ∧ acc.length < sizeLine ∧ Nx (upd H4 D (.lst (acc ++ [y]))) else Nx H3) := by
  refine ⟨fun i m H => m = xs.length - i ∧ i ≤ xs.length ∧ Pv i H, ⟨xs.length, by simp, Nat.zero_le _, h0⟩, ?_⟩
  rintro i m H ⟨rfl, hi, p⟩
  obtain ⟨qx, qy⟩ := hq i H p
  by_cases hlt : i < xs.length
  · have hx : xs[i]? = some xs[i] := List.getElem?_eq_getElem hlt
    have hlt2 : i < ys.length := by omega
    have hy : ys[i]? = some ys[i] := List.getElem?_eq_getElem hlt2
    refine .inr ⟨⟨xs, ys, _, _, qx, qy, hx, hy⟩, Pv (i + 1), fun H' p' => ⟨xs.length - (i + 1), by omega, rfl, hlt, p'⟩, fun v H' y => ?_⟩
    obtain ⟨T, x', y', rfl, hT, rfl, f1, f2⟩ := y
    exact hs i x' y' T H (f1 xs qx) (f2 ys qy) p hT
  · have e : i = xs.length := by omega
    subst e
    exact .inl ⟨⟨xs, ys, qx, qy, Or.inl (Nat.le_refl _)⟩, hd H p⟩
/-- x in (0, 1), x a plain worth -/
def in01 : Th → Bool
  | .int i => decide (i = 0) || decide (i = 1)
  | .bl _ => true
  | _ => false
def rIn01 (K : PySem.W.Frag) : L2.R2 := fun x y H Q => ∃ p C t, y = .ref p ∧ SqT K H p [.int 0, .int 1] ∧ Is C H x t ∧ t.worth false = true ∧ Q (.bl (in01 t)) H
section
variable {X : Cx}
theorem op_in01 (hu : X.A.units + 1 < cLine) : OpR X (compareOp .In) (rIn01 X.K) := by
  intro pins s σ H x y v u Q I rx ry h
  obtain ⟨p, C, t, rfl, hp, it, wt, q⟩ := h
  cases it with
  | non => cases wt
  | fn _ _ => cases wt
  | lst _ => cases wt
  | dct _ => cases wt
  | bl b =>
    refine op_in_seq pins s σ H _ _ v u Q I rx ry ⟨p, _, rfl, .inr hp, rfl, rfl, ?_⟩
    cases b <;> exact q
  | int i =>
    refine op_in_seq pins s σ H _ _ v u Q I rx ry ⟨p, _, rfl, .inr hp, rfl, rfl, ?_⟩
    have e : inV (.int i) [.int 0, .int 1] = in01 (.int i) := by
      show ((0 : Int) == i || ((1 : Int) == i || false)) = (decide (i = 0) || decide (i = 1))
      rw [Bool.or_false]
      congr 1
      · by_cases h : i = 0
        · rw [h]; rfl
        · rw [decide_eq_false h]; exact beq_eq_false_iff_ne.mpr fun e => h e.symm
      · by_cases h : i = 1
        · rw [h]; rfl
        · rw [decide_eq_false h]; exact beq_eq_false_iff_ne.mpr fun e => h e.symm
    show Q (.bl (inV (.int i) [.int 0, .int 1])) H
    rw [e]
    exact q
  | str x hx =>
    refine op_in_seq pins s σ H _ _ v u Q I rx ry ⟨p, _, rfl, .inr hp, rfl, rfl, ?_⟩
    exact q
  | tup ht hts =>
    cases rx
    cases ry
    obtain ⟨its, r, pl, hz⟩ := I.tuple hp
    obtain ⟨its2, r2, pl2, hz2⟩ := I.tuple (SqT.of ht)
    have all : ∀ w ∈ its.toArray, SeqAt.EqAt X.A.in1 s w (.ref _) false := fun w hw => by
      cases r with
      | cons a1 r =>
        cases r with
        | cons a2 r =>
          cases r
          obtain ⟨t1, rfl⟩ := a1
          obtain ⟨t2, rfl⟩ := a2
          have z : w = .int 0 t1 ∨ w = .int 1 t2 := by simpa using hw
          rcases z with rfl | rfl
          · exact SeqAt.EqAt.int_tuple _ _ pl2 hu
          · exact SeqAt.EqAt.int_tuple _ _ pl2 hu
    refine SeqAt.in_tupleAt (fun _ => false) pl all ⟨.bl _, H, I, rfl, ?_⟩
    have e : its.toArray.any (fun _ => false) = false := by simp
    rw [e]
    exact q
end
theorem rd_init {K : PySem.W.Frag} {H : Hp} {a : Addr} {xs : List V} {Q : VK} (ha : H a = some (.tup xs)) (q : ∀ p H', Same H H' → H' p = some (.tup (xs.take (xs.length - 1))) → Q (.ref p) H') : rSlA K (.ref a) none (some (-1)) H Q := by
  have e1 : HT.sIx xs.length xs.length (some (-1)) = xs.length - 1 := by
    show (if (-1 : Int) < 0 then ((-1 : Int) + (xs.length : Int)).toNat else min (-1 : Int).toNat xs.length) = _
    rw [if_pos (by decide)]
    omega
  refine ⟨a, xs, rfl, SqT.of ha, fun e => ?_, fun _ p np => ?_⟩
  · obtain ⟨_, e2⟩ := e
    rw [e1] at e2
    rw [e2, List.take_length] at q
    exact q a H (.refl _) ha
  · refine q p _ (same_new np _) ?_
    rw [upd_same]
    unfold cutV
    rw [sIx_none0, e1, List.drop_zero, Nat.sub_zero]
def spKind2 (K : PySem.W.Frag) : Sp := sp1 fun v H Q _ => ∃ t, Is (CF K) H v t ∧ t.worth true = true ∧ Q (.str t.kind) H
def spSameL (K : PySem.W.Frag) (m : Nat) : Sp := sp2 fun a b H Q _ => ∃ t u, Is (CF K) H a t ∧ Is (CF K) H b u ∧ t.worth false = true ∧ u.worth false = true ∧ t.depth < m ∧ t.nodes ≤ 100000 ∧ ∀ H', Same H H' → Q (.bl (t.same u)) H'
def spAnew (K : PySem.W.Frag) (m : Nat) : Sp := sp1 fun v H Q _ => ∃ t, Is (CF K) H v t ∧ t.depth < m ∧ t.worth false = true ∧ t.nodes ≤ 100000 ∧ ∀ u H', Same H H' → Is (CF K) H' u t → Q u H'
def spOther (K : PySem.W.Frag) (m : Nat) : Sp := sp2 fun v b H Q _ => ∃ t n, b = .int n ∧ Is (CF K) H v t ∧ t.worth false = true ∧ t.depth < m ∧ t.nodes ≤ 100000 ∧ 0 ≤ n ∧ ∀ (u : V) (t' : Th) H', Same H H' → Is (CF K) H' u t' → t'.worth false = true → t'.nodes ≤ t.nodes + 10 → Q u H'
def spIsB (K : PySem.W.Frag) : Sp := sp2 fun a b H Q _ => ∃ x y : Bool, a = .bl x ∧ b = .bl y ∧ Q (.bl (x == y)) H
/-- way 0: are_alike; else kind_of -/
def spCaught2 (K : PySem.W.Frag) : Sp := sp3 fun w a b H Q _ => ∃ t r, Is (CF K) H a t ∧ t.nodes ≤ 1000000 ∧ ((w = .int 0 ∧ ∃ u, Is (CF K) H b u ∧ u.nodes ≤ 1000000 ∧ r = (t.worth false && u.worth false)) ∨ (w = .int 1 ∧ r = t.worth true)) ∧ ∀ u H', Same H H' → Kept (BW K) H' u (!r) → Q u H'
section
variable {P : Program} {w : World} {K : PySem.W.Frag} {mg : Str → Option Value} {base : Heap}
theorem ok_law_kind (F : FnP K mg "_law_kind" s_law_kind) (T : Ts K mg) : Cl P w K mg base 1 "_law_kind" ["_law_worth_here"] (spKind2 K) := by
  refine cl_1 F sc_law_kind (fun _ _ _ _ _ _ us hl => match us, hl with | [_], _ => rfl) fun cdv A outer s H v Q E hr h => ?_
  obtain ⟨t, h, ht, q⟩ := h
  refine ⟨_, PSs.nox (pss_cons (ps_if (pt_val (pe_callB call_isi rfl T.z_isinstance PyProof.Rows.boot_isinstance (pa_cons (pv 0) (pa_cons (pe_bltn (v := .ty "bool") rfl T.z_bool (by decide +kernel) rfl) pa_nil)))) (pss_one (ps_ret pe_str)) pss_nil) (pss_cons (ps_if (pt_val (pe_callB call_isi rfl T.z_isinstance PyProof.Rows.boot_isinstance (pa_cons (pv 0) (pa_cons (pe_bltn (v := .ty "int") rfl T.z_int (by decide +kernel) rfl) pa_nil)))) (pss_one (ps_ret pe_str)) pss_nil) (pss_cons (ps_if (pt_val (pe_callB call_isi rfl T.z_isinstance PyProof.Rows.boot_isinstance (pa_cons (pv 0) (pa_cons (pe_bltn (v := .ty "tuple") rfl T.z_tuple (by decide +kernel) rfl) pa_nil)))) (pss_one (ps_ret pe_str)) pss_nil) (pss_one (ps_ret (pe_ifExp (pt_val (pe_callB call_isi rfl T.z_isinstance PyProof.Rows.boot_isinstance (pa_cons (pv 0) (pa_cons (pe_bltn (v := .ty "str") rfl T.z_str (by decide +kernel) rfl) pa_nil)))) pe_str pe_str)))))), ?_⟩
  obtain ⟨u1, y1, k1⟩ := is_bool T.kf h
  obtain ⟨u2, y2, k2⟩ := is_int T.kf h
  obtain ⟨u3, y3, k3⟩ := is_str T.kf h
  obtain ⟨u4, y4, k4⟩ := is_tup T.kf h
  refine ⟨_, rfl, v, _, u1, _, _, rfl, .ty _, y1, k1, _, rfl, ?_⟩
  cases h with
  | bl b => exact iteT q
  | int i => exact iteF ⟨_, rfl, _, _, u2, _, _, rfl, .ty _, y2, k2, _, rfl, iteT q⟩
  | tup _ _ => exact iteF ⟨_, rfl, _, _, u2, _, _, rfl, .ty _, y2, k2, _, rfl, iteF ⟨_, rfl, _, _, u4, _, _, rfl, .ty _, y4, k4, _, rfl, iteT q⟩⟩
  | str x hx => exact iteF ⟨_, rfl, _, _, u2, _, _, rfl, .ty _, y2, k2, _, rfl, iteF ⟨_, rfl, _, _, u4, _, _, rfl, .ty _, y4, k4, _, rfl, iteF ⟨_, rfl, _, _, u3, _, _, rfl, .ty _, y3, k3, _, rfl, iteT q⟩⟩⟩
  | fn _ _ => exact iteF ⟨_, rfl, _, _, u2, _, _, rfl, .ty _, y2, k2, _, rfl, iteF ⟨_, rfl, _, _, u4, _, _, rfl, .ty _, y4, k4, _, rfl, iteF ⟨_, rfl, _, _, u3, _, _, rfl, .ty _, y3, k3, _, rfl, iteF q⟩⟩⟩
  | non => cases ht
  | lst _ => cases ht
  | dct _ => cases ht
theorem ok_law_same_none (F : FnP K mg "_law_same" s_law_same) : Cl P w K mg base 2 "_law_same" ["_law_one", "_law_other"] (spSameL K 0) := by
  refine cl_2 F sc_law_same (fun _ _ _ _ _ _ us hl => match us, hl with | [_, _], _ => rfl) fun cdv A outer s H a b Q E hr h => ?_
  obtain ⟨_, _, _, _, _, _, h, _⟩ := h
  omega
theorem ok_law_same {m : Nat} (F : FnP K mg "_law_same" s_law_same) (T : Ts K mg) (O : To mg) (B_law_kind : Cl P w K mg base 1 "_law_kind" ["_law_worth_here"] (spKind2 K)) (B_law_same : Cl P w K mg base (2 + m) "_law_same" ["_law_one", "_law_other"] (spSameL K m)) : Cl P w K mg base (2 + m + 1) "_law_same" ["_law_one", "_law_other"] (spSameL K (m + 1)) := by
  refine cl_2 F sc_law_same (fun _ _ _ _ _ _ us hl => match us, hl with | [_, _], _ => rfl) fun cdv A outer s H a b Q E hr h => ?_
  obtain ⟨t, u, ha, hb, pt, pu, hd, hn, q⟩ := h
  have T' := T
  clear T
  have T := O
  refine ⟨_, PSs.nox (pss_cons (ps_if (pt_cmpR op_ne (pe_b B_law_kind hr (by omega) rfl passL (pa_cons (pv 0) pa_nil)) (pe_b B_law_kind hr (by omega) rfl passL (pa_cons (pv 1) pa_nil)) (nomark _)) (pss_one (ps_ret pe_bl)) pss_nil) (pss_cons (ps_if (pt_not (pt_val (pe_callB call_isi rfl T.z_isinstance PyProof.Rows.boot_isinstance (pa_cons (pv 0) (pa_cons (pe_bltn (v := .ty "tuple") rfl T.z_tuple (by decide +kernel) rfl) pa_nil))))) (pss_one (ps_ret (pe_cmpR op_eq (pv 0) (pv 1) (nomark _)))) pss_nil) (pss_one (ps_ret (pe_and (pe_cmpR op_eq (pe_callB call_len_seq rfl T.z_len PySem.boot_len (pa_cons (pv 0) pa_nil)) (pe_callB call_len_seq rfl T.z_len PySem.boot_len (pa_cons (pv 1) pa_nil)) (nomark _)) (pe_one (pe_callB (cr_all rfl) rfl T.z_all PyProof.Rows.boot_all (pa_cons (pe_lc (own := [("_law_mine", 2), ("_law_yours", 3)]) (g := gTup K 2 (gCons (gName 2) (gCons (gName 3) gNil))) (tt := tYes) rfl sc_law_same.nd (pi_zipA rfl T.z_zip (pa_cons (pv 0) (pa_cons (pv 1) pa_nil))) (blkOk_by (own := [("_law_mine", 2), ("_law_yours", 3)]) (N := ["_law_one", "_law_other", "_law_mine", "_law_yours"]) (sc := defScope s_law_same) (by decide +kernel)) (fun _ _ _ _ _ => (pg_tup rfl (pgs_cons (pg_name (i := 2) sc_law_same.nd rfl (Or.inl rfl)) (pgs_cons (pg_name (i := 3) sc_law_same.nd rfl (Or.inl rfl)) pgs_nil)))) (fun _ _ _ _ _ => pts_nil) (fun _ _ _ _ _ => (pe_b B_law_same hr (Nat.le_refl _) rfl passL (pa_cons (pv 2) (pa_cons (pv 3) pa_nil))))) pa_nil)))))))), ?_⟩
  refine ⟨_, rfl, _, rfl, t, ha, worth_up pt, _, rfl, _, rfl, u, hb, worth_up pu, rfl, _, rfl, ?_⟩
  by_cases kk : t.kind = u.kind
  · rw [kk, decide_eq_true rfl]
    refine iteF (stepN ?_)
    dsimp only
    obtain ⟨k1, y1, z1⟩ := is_tup (K := K) T'.kf ha
    refine ⟨_, rfl, _, _, k1, _, _, rfl, .ty _, y1, z1, _, rfl, ?_⟩
    cases it : t.isTup with
    | false =>
      obtain ⟨l1, l2⟩ := leaf_same ha hb kk it pt pu
      refine iteT ⟨_, rfl, _, rfl, l1, ?_⟩
      rw [l2]
      exact q _ (.refl _)
    | true =>
      obtain ⟨a1, b1, xs1, ys1, l, m', rfl, rfl, e1, e2, rfl, rfl, v1, v2⟩ := row_two ha hb kk it pu
      have l1 := v1.len
      have l2 := v2.len
      have pl : Th.worths false l = true := by simpa [Th.worth] using pt
      have pm : Th.worths false m' = true := by simpa [Th.worth] using pu
      have sz : Th.same (.tup l) (.tup m') = (decide (l.length = m'.length) && psS (l.zip m')) := by rw [Th.same, sames_zip]
      simp only [Th.depth] at hd
      simp only [Th.nodes] at hn
      have ln := len_nodesL l
      refine iteF (stepN ?_)
      dsimp only
      refine ⟨_, rfl, a1, _, rfl, .inr (SqT.of e1), _, rfl, b1, _, rfl, .inr (SqT.of e2), rfl, ?_⟩
      refine ⟨_, rfl, ?_⟩
      by_cases ll : l.length = m'.length
      · rw [show xs1.length = ys1.length by omega, decide_eq_true rfl]
        refine iteT ⟨_, rfl, _, rfl, a1, b1, xs1, ys1, rfl, .inr ⟨SqT.of e1, SqT.of e2, fun D nD => ?_⟩⟩
        have zl : (l.zip m').length = l.length := by rw [List.length_zip]; omega
        refine lc_zipT (K := K) (a := a1) (b := b1) (xs := xs1) (ys := ys1) (by omega) (fun i H' => Same H H' ∧ H' D = some (.lst ((((l.zip m').take i).map fun p => p.1.same p.2).map V.bl)) ∧ H D = none) ⟨same_new nD _, upd_same, nD⟩ (fun _ _ z => ⟨SqT.of (z.1 _ _ e1), SqT.of (z.1 _ _ e2)⟩) ?_ ?_
        · rintro i x y T H1 hx hy ⟨r1, r2, r3⟩ nT
          obtain ⟨t1, ht1, i1⟩ := v1.get hx
          obtain ⟨u1, hu1', i2⟩ := v2.get hy
          have me := List.mem_of_getElem? ht1
          have dm := depth_mem me
          have nm := nodes_mem me
          have sT := same_new nT (.tup [x, y])
          have hi : i < l.length := (List.getElem?_eq_some_iff.mp ht1).1
          refine ⟨T, _, rfl, SqT.of upd_same, rfl, _, _, rfl, _, _, rfl, rfl, ?_⟩
          refine ⟨rfl, _, rfl, _, rfl, _, _, rfl, t1, u1, i1.same (r1.trans sT), i2.same (r1.trans sT), worth_mem me pl, worth_mem (List.mem_of_getElem? hu1') pm, by omega, by omega, fun H3 s3 => ⟨_, s3 _ _ (sT _ _ r2), ?_, same_mut (r1.trans (sT.trans s3)) r3, ?_, r3⟩⟩
          · rw [List.length_map, List.length_map, List.length_take, sizeLine_eq]
            omega
          · have hz : (l.zip m')[i]? = some (t1, u1) := by
              rw [List.getElem?_zip_eq_some]
              exact ⟨ht1, hu1'⟩
            rw [upd_same, take_snoc hz, List.map_append, List.map_append]
            rfl
        · rintro H1 ⟨r1, r2, r3⟩
          refine ⟨D, _, rfl, SqL.of r2, ?_⟩
          have e : (((l.zip m').take xs1.length).map fun p => p.1.same p.2).all id = Th.same (.tup l) (.tup m') := by
            rw [sz, decide_eq_true ll, Bool.true_and, l1, ← zl, List.take_length, List.all_map]
            rfl
          rw [e]
          exact q _ r1
      · have e : decide (V.int ((xs1.length : Nat) : Int) = V.int ((ys1.length : Nat) : Int)) = false := decide_eq_false (fun z => by injection z with z; omega)
        rw [e]
        refine iteF ?_
        have z := q H (.refl _)
        rw [sz, decide_eq_false ll] at z
        exact z
  · have e : (!decide (V.str t.kind = V.str u.kind)) = true := by
      rw [decide_eq_false fun z => kk (by injection z)]
      rfl
    rw [e]
    refine iteT ?_
    have z := q H (.refl _)
    rw [same_kind kk] at z
    exact z
theorem ok_law_is (F : FnP K mg "_law_is" s_law_is) (T : To mg) : Cl P w K mg base 1 "_law_is" ["_law_found", "_law_due"] (spIsB K) := by
  refine cl_2 F sc_law_is (fun _ _ _ _ _ _ us hl => match us, hl with | [_, _], _ => rfl) fun cdv A outer s H a b Q E hr h => ?_
  obtain ⟨x, y, rfl, rfl, q⟩ := h
  refine ⟨_, PSs.nox (pss_one (ps_ret (pe_and (pe_callB call_isi rfl T.z_isinstance PyProof.Rows.boot_isinstance (pa_cons (pv 0) (pa_cons (pe_bltn (v := .ty "bool") rfl T.z_bool (by decide +kernel) rfl) pa_nil))) (pe_one (pe_cmpR op_eq (pv 0) (pv 1) (nomark _)))))), ?_⟩
  refine ⟨_, rfl, _, _, _, _, _, rfl, .ty _, .base (.bl _), kit_ty (r := true) (by decide +kernel), _, rfl, iteT ?_⟩
  refine ⟨_, rfl, _, rfl, rfl, ?_⟩
  rw [dec_bl]
  exact q
theorem ok_law_anew {m : Nat} (F : FnP K mg "_law_anew" s_law_anew) (T : Ts K mg) (B_law_anew : Cl P w K mg base (1 + m) "_law_anew" ["_law_worth_here"] (spAnew K m)) : Cl P w K mg base (1 + m + 1) "_law_anew" ["_law_worth_here"] (spAnew K (m + 1)) := by
  refine cl_1 F sc_law_anew (fun _ _ _ _ _ _ us hl => match us, hl with | [_], _ => rfl) fun cdv A outer s H v Q E hr h => ?_
  obtain ⟨t, h, hd, hw, hn, q⟩ := h
  refine ⟨_, PSs.nox (pss_one (ps_ret (pe_ifExp (pt_val (pe_callB call_isi rfl T.z_isinstance PyProof.Rows.boot_isinstance (pa_cons (pv 0) (pa_cons (pe_bltn (v := .ty "tuple") rfl T.z_tuple (by decide +kernel) rfl) pa_nil)))) (pe_tupleOf rfl T.z_tuple (pe_lc (own := [("_law_part", 1)]) (g := gName 1) (tt := tYes) rfl sc_law_anew.nd (pi_tup (pv 0)) (blkOk_by (own := [("_law_part", 1)]) (N := ["_law_worth_here", "_law_part"]) (sc := defScope s_law_anew) (by decide +kernel)) (fun _ _ _ _ _ => (pg_name (i := 1) sc_law_anew.nd rfl (Or.inl rfl))) (fun _ _ _ _ _ => pts_nil) (fun _ _ _ _ _ => (pe_b B_law_anew hr (Nat.le_refl _) rfl passL (pa_cons (pv 1) pa_nil))))) (pv 0)))), ?_⟩
  obtain ⟨u1, y1, k1⟩ := is_tup T.kf h
  refine ⟨v, rfl, v, _, u1, _, _, rfl, .ty _, y1, k1, _, rfl, ?_⟩
  cases h with
  | tup ht hts =>
    rename_i p zs l
    simp only [Th.depth] at hd
    have hw' : Th.worths false l = true := by simpa [Th.worth] using hw
    simp only [Th.nodes] at hn
    have hl := len_nodesL l
    have hll := hts.len
    refine iteT ⟨_, rfl, p, rfl, ⟨_, SqT.of ht⟩, fun D nD => ?_⟩
    refine lc_it (walk_tup (K := K) (a := p) (xs := zs)) (fun i H' => ∃ xs, Same H H' ∧ H' D = some (.lst xs) ∧ H D = none ∧ Iss (CF K) H' xs (l.take i)) ⟨[], same_new nD _, upd_same, nD, .nil⟩ (fun _ _ _ z => by obtain ⟨_, z, _⟩ := z; exact SqT.of (z _ _ ht)) ?_ ?_
    · rintro i y H1 H2 hi ⟨xs, r1, r2, r3, r4⟩ ⟨rfl, hy⟩
      obtain ⟨t1, e1, g1⟩ := hts.get hy
      have me := List.mem_of_getElem? e1
      have dm := depth_mem me
      have nm := nodes_mem me
      have w1 := worth_mem me hw'
      refine ⟨rfl, _, rfl, _, rfl, t1, g1.same r1, by omega, w1, by omega, fun u H3 s3 g3 => ⟨xs, s3 _ _ r2, ?_, xs ++ [u], same_mut (r1.trans s3) r3, upd_same, r3, ?_⟩⟩
      · have z := r4.len
        rw [List.length_take] at z
        rw [sizeLine_eq]
        omega
      · rw [take_snoc e1]
        exact Iss.ik (im_lst (ys := xs ++ [u]) (s3 _ _ r2)) ((r4.same s3).app (.one g3))
    · rintro H1 ⟨xs, r1, r2, r3, r4⟩
      rw [hll, List.take_length] at r4
      refine .inl ⟨D, xs, rfl, SqL.of r2, fun P1 nP => ?_⟩
      exact q _ _ (r1.trans (same_new nP _)) (.tup upd_same (r4.same (same_new nP _)))
  | bl c => exact iteF ⟨_, rfl, q _ _ (.refl _) (.bl _)⟩
  | int i => exact iteF ⟨_, rfl, q _ _ (.refl _) (.int _)⟩
  | str x hxl => exact iteF ⟨_, rfl, q _ _ (.refl _) (.str x hxl)⟩
  | fn _ _ => cases hw
  | non => cases hw
  | lst ha => cases hw
  | dct ha => cases hw
theorem ok_law_anew_none (F : FnP K mg "_law_anew" s_law_anew) : Cl P w K mg base 1 "_law_anew" ["_law_worth_here"] (spAnew K 0) := by
  refine cl_1 F sc_law_anew (fun _ _ _ _ _ _ us hl => match us, hl with | [_], _ => rfl) fun cdv A outer s H v Q E hr h => ?_
  obtain ⟨_, _, h, _⟩ := h
  omega
/-- what is put in a worth's place -/
def nwT : List Th := [.int 1, .bl true, .int 0, .bl false, .str "x", .tup [], .tup [.str "x"], .tup [.int 1]]
def nwV (a1 a2 a3 : Addr) : List V := [.int 1, .bl true, .int 0, .bl false, .str "x", .ref a1, .ref a2, .ref a3]
theorem nw_ok : (nwT.all fun t => t.worth false && Nat.ble t.nodes 10) = true := by decide +kernel
theorem nw_iss {C : Addr} {H : Hp} {a1 a2 a3 : Addr} (e1 : H a1 = some (.tup [])) (e2 : H a2 = some (.tup [.str "x"])) (e3 : H a3 = some (.tup [.int 1])) : Iss C H (nwV a1 a2 a3) nwT :=
  .cons (.int _) <| .cons (.bl _) <| .cons (.int _) <| .cons (.bl _) <| .cons (.str _ (by decide)) <| .cons (.tup e1 .nil) <| .cons (.tup e2 (.one (.str _ (by decide)))) <| .one (.tup e3 (.one (.int _)))
theorem d4 {n : Int} : CDiv n 4 := ⟨by decide, by decide⟩
theorem d9 {n : Int} : CDiv n 9 := ⟨by decide, by decide⟩
theorem ok_law_otherwise_none (F : FnP K mg "_law_otherwise" s_law_otherwise) : Cl P w K mg base 1 "_law_otherwise" ["_law_worth_here", "_law_number"] (spOther K 0) := by
  refine cl_2 F sc_law_otherwise (fun _ _ _ _ _ _ us hl => match us, hl with | [_, _], _ => rfl) fun cdv A outer s H v b Q E hr h => ?_
  obtain ⟨_, _, _, _, _, h, _⟩ := h
  omega
theorem ok_law_otherwise {m : Nat} (F : FnP K mg "_law_otherwise" s_law_otherwise) (T : Ts K mg) (B_law_otherwise : Cl P w K mg base (1 + m) "_law_otherwise" ["_law_worth_here", "_law_number"] (spOther K m)) :
    Cl P w K mg base (1 + m + 1) "_law_otherwise" ["_law_worth_here", "_law_number"] (spOther K (m + 1)) := by
  refine cl_2 F sc_law_otherwise (fun _ _ _ _ _ _ us hl => match us, hl with | [_, _], _ => rfl) fun cdv A outer s H v b Q E hr h => ?_
  obtain ⟨t, n, rfl, h, wt, hd, hn, n0, q⟩ := h
  refine ⟨_, PSs.nox (pss_cons (ps_if (PW.pt (pw_or (pt_not (pt_val (pe_callB call_isi rfl T.z_isinstance PyProof.Rows.boot_isinstance (pa_cons (pv 0) (pa_cons (pe_bltn (v := .ty "tuple") rfl T.z_tuple (by decide +kernel) rfl) pa_nil))))) (pw_or (pt_cmpR (op_eqTN hr.units0) (pv 0) (pe_tup pa_nil) (nomark _)) (pw_or1 (pt_cmpR op_eq (pe_op op_mod (pv 1) pe_int) pe_int (nomark _)))))) (pss_cons (ps_if (PW.pt (pw_and (pt_cmpR (op_in01 (hu1 hr)) (pv 0) (pe_tup (pa_cons pe_int (pa_cons pe_int pa_nil))) rfl) (pw_and1 (pt_cmpR op_eq (pe_op op_mod (pe_op op_fdiv (pv 1) pe_int) pe_int) pe_int (nomark _))))) (pss_one (ps_ret (pe_ifExp (pt_val (pe_callB call_isi rfl T.z_isinstance PyProof.Rows.boot_isinstance (pa_cons (pv 0) (pa_cons (pe_bltn (v := .ty "bool") rfl T.z_bool (by decide +kernel) rfl) pa_nil)))) (pe_callTy call_int1 rfl T.z_int PyProof.Rows.boot_int (pa_cons (pv 0) pa_nil)) (pe_cmpR op_eq (pv 0) pe_int (nomark _))))) pss_nil) (pss_one (ps_ret (pe_ix ix_list (pe_lst (pa_cons pe_int (pa_cons pe_bl (pa_cons pe_int (pa_cons pe_bl (pa_cons pe_str (pa_cons (pe_tup pa_nil) (pa_cons (pe_tup (pa_cons pe_str pa_nil)) (pa_cons (pe_tup (pa_cons pe_int pa_nil)) pa_nil))))))))) (pe_op op_mod (pe_op op_fdiv (pv 1) pe_int) pe_int) (fun _ _ => rfl))))) pss_nil) (pss_cons (ps_if (pt_cmpR op_eq (pe_op op_mod (pv 1) pe_int) pe_int (nomark _)) (pss_one (ps_ret (pe_ifExp (pt_cmpR op_eq (pe_op op_mod (pe_op op_fdiv (pv 1) pe_int) pe_int) pe_int (nomark _)) (pe_op op_catA (pe_slice sl_tupA (pv 0) (po_some pe_int) po_none) (pe_slice sl_tupA (pv 0) po_none (po_some pe_int))) (pe_slice sl_tupA (pv 0) po_none (po_some (pe_un un_neg pe_int)))))) pss_nil) (pss_cons (ps_set (i := 2) sc_law_otherwise.nd rfl (Or.inl rfl) (pe_op op_mod (pe_op op_fdiv (pv 1) pe_int) (pe_callB call_len_seq rfl T.z_len PySem.boot_len (pa_cons (pv 0) pa_nil)))) (pss_one (ps_ret (pe_op op_catA (pe_op op_catA (pe_slice sl_tupA (pv 0) po_none (po_some (pv 2))) (pe_tup (pa_cons (pe_b B_law_otherwise hr (Nat.le_refl _) rfl passL (pa_cons (pe_ix ix_tup (pv 0) (pv 2) (fun _ _ => rfl)) (pa_cons (pe_op op_fdiv (pv 1) pe_int) pa_nil))) pa_nil))) (pe_slice sl_tupA (pv 0) (po_some (pe_op op_add (pv 2) pe_int)) po_none))))))), ?_⟩
  have tn := t.nodes_pos
  refine join_t (T := tOr _ _ _ _) (fun k => (∀ H1, Same H H1 → k true H1) ∧ (∀ H1 p zs l, Same H H1 → v = .ref p → t = .tup l → H p = some (.tup zs) → Iss (CF K) H zs l → zs ≠ [] → k false H1)) ⟨fun H1 s1' => ?_, fun H1 p zs l s1' ev et ht hts ne => ?_⟩ (fun k hk => ?_)
  · refine iteT ?_
    have lst : ∀ H2, Same H H2 → ∀ (Qn : VK), (∀ u t' H', Same H H' → Is (CF K) H' u t' → t'.worth false = true → t'.nodes ≤ 10 → Qn u H') → tOp (rIxL K) (tLst (tCons (tC (V.int 1)) (tCons (tC (V.bl true)) (tCons (tC (V.int 0)) (tCons (tC (V.bl false)) (tCons (tC (V.str "x")) (tCons (tTup tNil) (tCons (tTup (tCons (tC (V.str "x")) tNil)) (tCons (tTup (tCons (tC (V.int 1)) tNil)) tNil)))))))))
        (tOp (rI (fun _ j => 0 < j) fun i j => V.int (i % j)) (tOp (rI CDiv fun i j => V.int (i / j)) (tVar 1) (tC (V.int 8))) (tC (V.int 8))) (L2.start ["_law_worth_here", "_law_number", "_law_at"] [v, .int n]) H2 Qn := fun H2 s2' Qn qn => by
      refine ⟨(by show 0 ≤ sizeLine; decide), fun a1 m1 => ⟨s1, fun a2 m2 => ⟨s1, fun a3 m3 => ⟨(by show 8 ≤ sizeLine; decide), fun a4 m4 => ?_⟩⟩⟩⟩
      refine ⟨_, rfl, _, _, rfl, rfl, d8, _, _, rfl, rfl, p8, ?_⟩
      have i0 := Int.emod_nonneg (n / 8) (show (8 : Int) ≠ 0 by decide)
      have i1 := Int.emod_lt_of_pos (n / 8) p8
      obtain ⟨j, ej⟩ : ∃ j : Nat, n / 8 % 8 = (j : Int) := ⟨(n / 8 % 8).toNat, by omega⟩
      have k4 := same_new m4 (.lst (nwV a1 a2 a3))
      have k3 := (same_new m3 _).trans k4
      have k2 := (same_new m2 _).trans k3
      have ks := (same_new m1 _).trans k2
      have all8 := nw_iss (C := CF K) (k2 _ _ upd_same) (k3 _ _ upd_same) (k4 _ _ upd_same)
      have hj : j < (nwV a1 a2 a3).length := by
        show j < 8
        omega
      obtain ⟨t', f1, f2⟩ := all8.get (List.getElem?_eq_getElem hj)
      have f3 := List.all_eq_true.mp nw_ok t' (List.mem_of_getElem? f1)
      rw [Bool.and_eq_true, Nat.ble_eq] at f3
      exact ⟨a4, _, _, _, rfl, rfl, SqL.of upd_same, (by rw [ej]; exact atI_nat (List.getElem?_eq_getElem hj)), qn _ t' _ (s2'.trans ks) f2 f3.1 f3.2⟩
    refine ⟨_, rfl, s2, fun p2' np2 => ⟨p2', CF K, t, rfl, SqT.of upd_same, h.same (s1'.trans (same_new np2 _)), wt, _, rfl, ?_⟩⟩
    have S2' := s1'.trans (same_new np2 (.tup [.int 0, .int 1]))
    generalize upd H1 p2' (.tup [.int 0, .int 1]) = H2 at S2' ⊢
    have qq : ∀ u t' H', Same H H' → Is (CF K) H' u t' → t'.worth false = true → t'.nodes ≤ 10 → Q u H' := fun u t' H' a b c d => q u t' H' a b c (by omega)
    cases e01 : in01 t with
    | false => exact iteF (stepN (lst H2 S2' _ qq))
    | true =>
      refine iteT ⟨_, rfl, _, _, rfl, rfl, d4, _, _, rfl, rfl, p2, rfl, _, rfl, ite2 (fun c => ?_) (fun c => stepN (lst H2 S2' _ qq))⟩
      have h2 := h.same S2'
      obtain ⟨u2, y2, k2⟩ := is_bool T.kf h2
      refine ⟨_, rfl, _, _, u2, _, _, rfl, .ty _, y2, k2, _, rfl, ?_⟩
      cases h2 with
      | bl b =>
        refine iteT ⟨_, rfl, .inr ⟨_, rfl, q _ (.int _) _ S2' (.int _) ?_ (by show 1 ≤ _; omega)⟩⟩
        cases b <;> decide +kernel
      | int i => exact iteF ⟨_, rfl, rfl, q _ (.bl _) _ S2' (.bl _) rfl (by show 1 ≤ _; omega)⟩
      | str x hx => cases e01
      | tup _ _ => cases e01
      | fn _ _ => cases wt
      | non => cases wt
      | lst _ => cases wt
      | dct _ => cases wt
  · subst ev
    subst et
    refine iteF (stepN ?_)
    dsimp only
    have hz : 0 < zs.length := by
      cases zs with
      | nil => exact absurd rfl ne
      | cons _ _ => exact Nat.zero_lt_succ _
    have hll := hts.len
    have hl := len_nodesL l
    have hp := s1' _ _ ht
    have pl : (0 : Int) < ((zs.length : Nat) : Int) := by omega
    have wl : Th.worths false l = true := by simpa [Th.worth] using wt
    simp only [Th.depth] at hd
    simp only [Th.nodes] at hn q
    have wpart : ∀ i, Th.worths false (l.take i) = true ∧ Th.worths false (l.drop i) = true := fun i => by
      have z := List.take_append_drop i l
      rw [← z, worths_app, Bool.and_eq_true] at wl
      exact wl
    have npart : ∀ i, Th.nodesL (l.take i) + Th.nodesL (l.drop i) = Th.nodesL l := fun i => by
      rw [← nodesL_app, List.take_append_drop]
    refine ⟨_, rfl, _, _, rfl, rfl, p4, rfl, _, rfl, ite2 (fun c => ?_) (fun c => ?_)⟩
    · refine ⟨_, rfl, _, _, rfl, rfl, d4, _, _, rfl, rfl, p2, rfl, _, rfl, ite2 (fun c => ?_) (fun c => ?_)⟩
      · refine ⟨_, rfl, _, rfl, ?_⟩
        unfold tNoPart
        show rSlA K (.ref p) (some 1) none H1 _
        refine rd_drop hp (by decide) fun q1 H2 t1s e1 => ?_
        have hp2 := t1s _ _ hp
        refine ⟨_, rfl, _, rfl, rd_take hp2 (by decide) fun q2 H3 t2s e2 => ?_⟩
        have l1 := List.length_drop (i := (1 : Int).toNat) (l := zs)
        have l2 : (zs.take (1 : Int).toNat).length ≤ 1 := List.length_take_le _ _
        refine rd_cat (t2s _ _ e1) e2 (by rw [l1, sizeLine_eq]; omega) fun q3 H4 t3s e3 => ?_
        have S4 := s1'.trans (t1s.trans (t2s.trans t3s))
        have np := npart 1
        refine q _ (.tup (l.drop 1 ++ l.take 1)) _ S4 (.tup e3 (((hts.drop 1).same S4).app ((hts.take 1).same S4))) ?_ ?_
        · rw [Th.worth, worths_app, (wpart 1).1, (wpart 1).2]
          rfl
        · rw [Th.nodes, nodesL_app]
          omega
      · refine ⟨_, rfl, _, rfl, _, rfl, rd_init hp fun q2 H3 t2s e2 => ?_⟩
        have S4 := s1'.trans t2s
        have np := npart (zs.length - 1)
        refine q _ (.tup (l.take (zs.length - 1))) _ S4 (.tup e2 ((hts.take _).same S4)) ?_ ?_
        · rw [Th.worth]
          exact (wpart _).1
        · rw [Th.nodes]
          omega
    · refine ⟨_, rfl, _, _, rfl, rfl, d4, _, rfl, p, _, rfl, .inr (SqT.of hp), _, _, rfl, rfl, pl, ?_⟩
      have i0 : 0 ≤ n / 4 % (zs.length : Nat) := Int.emod_nonneg _ (by omega)
      have i1 : n / 4 % (zs.length : Nat) < (zs.length : Nat) := Int.emod_lt_of_pos _ pl
      obtain ⟨j, ej⟩ : ∃ j : Nat, n / 4 % (zs.length : Nat) = (j : Int) := ⟨(n / 4 % (zs.length : Nat)).toNat, by omega⟩
      have hj : j < zs.length := by omega
      obtain ⟨x, hx⟩ : ∃ x, zs[j]? = some x := ⟨_, List.getElem?_eq_getElem hj⟩
      obtain ⟨t1, ht1, hx1⟩ := hts.get hx
      have me := List.mem_of_getElem? ht1
      have dm := depth_mem me
      have nm := nodes_mem me
      have ax : atI zs (n / 4 % (zs.length : Nat)) = some x := by
        rw [ej]
        exact atI_nat hx
      refine ⟨_, rfl, _, rfl, _, rfl, rd_take hp i0 fun q1 H2 t1s e1 => ?_⟩
      have hp1 := t1s _ _ hp
      have st1 := s1'.trans t1s
      refine ⟨_, rfl, _, rfl, p, zs, _, _, rfl, rfl, SqT.of hp1, ax, _, rfl, _, _, rfl, rfl, d9, _, _, rfl, t1, _, rfl, hx1.same st1, worth_mem me wl, by omega, by omega, Int.ediv_nonneg n0 (by decide), fun u t2 H3 s3' g1 g2 g3 => ⟨Fl.s1, fun q2 n2 => ?_⟩⟩
      have st2 := (st1.trans s3').trans (same_new n2 (.tup [u]))
      have tl : (zs.take (n / 4 % (zs.length : Nat)).toNat).length ≤ zs.length := List.length_take_le' _ _
      refine rd_cat ((s3'.trans (same_new n2 _)) _ _ e1) upd_same (by rw [List.length_singleton, sizeLine_eq]; omega) fun q3 H4 s4' e3 => ?_
      have st3 := st2.trans s4'
      refine ⟨_, rfl, _, rfl, _, _, rfl, rfl, _, rfl, ?_⟩
      unfold tNoPart
      show rSlA K (.ref p) (some (n / 4 % (zs.length : Nat) + 1)) none H4 _
      refine rd_drop (st3 _ _ ht) (Int.add_nonneg i0 (by decide)) fun q4 H5 s5' e4 => ?_
      refine rd_cat (s5' _ _ e3) e4 ?_ fun q5 H6 s6' e5 => ?_
      · have := List.length_drop (i := (n / 4 % (zs.length : Nat) + 1).toNat) (l := zs)
        rw [List.length_append, List.length_singleton, this, sizeLine_eq]
        omega
      have ej1 : (n / 4 % (zs.length : Nat) + 1).toNat = j + 1 := by omega
      have ej0 : (n / 4 % (zs.length : Nat)).toNat = j := by omega
      rw [ej1, ej0] at e5
      have st4 := st3.trans s5'
      have st5 := st4.trans s6'
      have parts : l = (l.take j ++ [t1]) ++ l.drop (j + 1) := by
        rw [← take_snoc ht1, List.take_append_drop]
      have nn : Th.nodesL l = Th.nodesL (l.take j) + t1.nodes + Th.nodesL (l.drop (j + 1)) := by
        conv => lhs; rw [parts]
        rw [nodesL_app, nodesL_app, Th.nodesL, Th.nodesL]
        omega
      refine q _ (.tup ((l.take j ++ [t2]) ++ l.drop (j + 1))) _ st5 (.tup e5 ((((hts.take j).same st5).app (.one ((g1.same (same_new n2 _)).same (s4'.trans (s5'.trans s6'))))).app ((hts.drop (j + 1)).same st5))) ?_ ?_
      · rw [Th.worth, worths_app, worths_app, Th.worths, Th.worths, g2, (wpart j).1, (wpart (j + 1)).2]
        rfl
      · rw [Th.nodes, nodesL_app, nodesL_app, Th.nodesL, Th.nodesL]
        omega
  · obtain ⟨hk1, hk2⟩ := hk
    obtain ⟨u1, y1, k1⟩ := is_tup T.kf h
    refine ⟨_, rfl, _, _, u1, _, _, rfl, .ty _, y1, k1, _, rfl, ?_⟩
    cases h with
    | tup ht hts =>
      refine iteF ⟨_, rfl, (by show 0 ≤ sizeLine; decide), fun a0 m0 => ⟨_, a0, _, rfl, rfl, (same_new m0 _) _ _ ht, upd_same, _, rfl, ?_⟩⟩
      refine ite2 (fun c1 => hk1 _ (same_new m0 _)) (fun c1 => ⟨_, rfl, _, _, rfl, rfl, p4, rfl, _, rfl, ?_⟩)
      cases (decide (V.int (n % 4) = V.int 0)) with
      | true => exact hk1 _ (same_new m0 _)
      | false => exact hk2 _ _ _ _ (same_new m0 _) rfl rfl ht hts (fun z => c1 (by rw [z]; rfl))
    | bl _ => exact iteT (hk1 _ (.refl _))
    | int _ => exact iteT (hk1 _ (.refl _))
    | str _ _ => exact iteT (hk1 _ (.refl _))
    | fn _ _ => cases wt
    | non => cases wt
    | lst _ => cases wt
    | dct _ => cases wt
theorem ok_law_caught (F : FnP K mg "_law_caught" s_law_caught) (T : Tq K mg) (B_are_alike : Cl P w K mg base 5 "are_alike" ["one", "other"] (spAlike K)) (B_kind_of : Cl P w K mg base 5 "kind_of" ["worth"] (spKindOf K)) :
    Cl P w K mg base 6 "_law_caught" ["_law_way", "_law_one", "_law_other"] (spCaught2 K) := by
  refine cl_3 F sc_law_caught (fun _ _ _ _ _ _ us hl => match us, hl with | [_, _, _], _ => rfl) fun cdv A outer s H c a b Q E hr h => ?_
  obtain ⟨t, r, ha, hn, cs, q⟩ := h
  refine ⟨_, PSs.nox (pss_cons (ps_set (i := 3) sc_law_caught.nd rfl (Or.inl rfl) pe_non) (pss_cons (ps_try_keep (i := 4) (Wout := fun _ _ _ _ => False) rfl rfl rfl sc_law_caught.nd rfl rfl ⟨rfl, by decide, .inl T.g_FloorError⟩ takes0 (fun W pn xe tk _ => (pss_one (ps_if (pt_cmpR op_eq (pv 0) pe_int (nomark _)) (pss_one (ps_expr (by exact (pe_bS B_are_alike hr (by omega) rfl (fun σ => passAt tk σ) (pa_cons (pv 1) (pa_cons (pv 2) pa_nil)))))) (pss_one (ps_expr (by exact (pe_bS B_kind_of hr (by omega) rfl (fun σ => passAt tk σ) (pa_cons (pv 1) pa_nil)))))))) (fun a pn => (pss_one (ps_set (i := 3) sc_law_caught.nd rfl (Or.inl rfl) (pv 4))))) (pss_one (ps_ret (pv 3))))), ?_⟩
  have yes : r = true → ∀ H', Same H H' → Q .non H' := fun e H' s => q .non H' s (.inl ⟨rfl, by rw [e]; rfl⟩)
  have no : r = false → ∀ H' a, Same H H' → H' a = none → Q (.ref a) (upd H' a (CauO (BW K) a)) := fun e H' a s na => q (.ref a) _ (s.trans (same_new na _)) (.inr ⟨a, rfl, upd_same, by rw [e]; rfl⟩)
  rcases cs with ⟨rfl, u, hb, un, er⟩ | ⟨rfl, er⟩
  · refine ⟨_, rfl, rfl, _, rfl, ite2 (fun c => ?_) (fun c => absurd (decide_eq_true rfl) c)⟩
    exact ⟨_, rfl, _, rfl, _, _, rfl, t, u, ha, hb, hn, un, fun e H' s => ⟨_, rfl, yes (er.trans e) _ s⟩, fun e H' s => ⟨true, T.exm, fun _ => ⟨rfl, fun a na => ⟨_, rfl, fun na' => ⟨_, rfl, no (er.trans e) _ a s na⟩⟩⟩, fun z => nomatch z⟩⟩
  · refine ⟨_, rfl, rfl, _, rfl, ite2 (fun c => ?_) (fun c => ?_)⟩
    · exact absurd (of_decide_eq_true c) (by decide)
    exact ⟨_, rfl, _, rfl, t, ha, hn, fun e H' s => ⟨_, rfl, yes (er.trans e) _ s⟩, fun e H' s => ⟨true, T.exm, fun _ => ⟨rfl, fun a na => ⟨_, rfl, fun na' => ⟨_, rfl, no (er.trans e) _ a s na⟩⟩⟩, fun z => nomatch z⟩⟩
end
end Fl
namespace Fl
open PySem PySem.Spec PyProof.Rows L2
abbrev s_law : Stmt := top 40
theorem sc_law : FnScope ["_law_script", "_law_state", "_law_turn", "_law_one", "_law_other", "_law_due", "_law_long", "_law_longer", "_law_thing", "_law_made", "_law_odd"] ["_law_script"] (defScope s_law) := ⟨rfl, rfl, rfl, by decide +kernel, rfl, by decide +kernel, by decide +kernel⟩
/-! ### plain -/
mutual
theorem same_refl : ∀ t : Th, t.worth false = true → t.same t = true
  | .non, h => by cases h
  | .oth, h => by cases h
  | .fn _, h => by cases h
  | .bl b, _ => by rw [Th.same]; cases b <;> rfl
  | .int i, _ => by rw [Th.same]; exact beq_self_eq_true i
  | .str x, _ => by rw [Th.same]; exact decide_eq_true rfl
  | .tup l, h => by rw [Th.same]; exact sames_refl l (by simpa [Th.worth] using h)
theorem sames_refl : ∀ l : List Th, Th.worths false l = true → Th.sames l l = true
  | [], _ => by rw [Th.sames]
  | t :: r, h => by
    rw [Th.worths, Bool.and_eq_true] at h
    rw [Th.sames, same_refl t h.1, sames_refl r h.2]
    rfl
end
mutual
theorem same_comm : ∀ t u : Th, t.same u = u.same t
  | .bl a, u => by
    cases u <;> simp only [Th.same]
    exact Bool.beq_comm
  | .int a, u => by
    cases u <;> simp only [Th.same]
    exact Bool.eq_iff_iff.mpr ⟨fun h => by rw [beq_iff_eq] at h ⊢; exact h.symm, fun h => by rw [beq_iff_eq] at h ⊢; exact h.symm⟩
  | .str a, u => by
    cases u <;> simp only [Th.same]
    exact decide_eq_decide.mpr ⟨Eq.symm, Eq.symm⟩
  | .tup a, u => by
    cases u <;> simp only [Th.same]
    exact sames_comm _ _
  | .non, u => by cases u <;> simp only [Th.same]
  | .oth, u => by cases u <;> simp only [Th.same]
  | .fn _, u => by cases u <;> simp only [Th.same]
theorem sames_comm : ∀ l m : List Th, Th.sames l m = Th.sames m l
  | [], [] => rfl
  | [], _ :: _ => by simp only [Th.sames]
  | _ :: _, [] => by simp only [Th.sames]
  | t :: l, u :: m => by rw [Th.sames, Th.sames, same_comm t u, sames_comm l m]
end
def Th.nest : Nat → Th → Th
  | 0, t => t
  | n + 1, t => .tup [Th.nest n t]
theorem nest_worth (f : Bool) (t : Th) : ∀ n, (Th.nest n t).worth f = t.worth f
  | 0 => rfl
  | n + 1 => by rw [Th.nest, Th.worth, Th.worths, Th.worths, nest_worth f t n, Bool.and_true]
theorem nest_nodes (t : Th) : ∀ n, (Th.nest n t).nodes = t.nodes + n
  | 0 => rfl
  | n + 1 => by rw [Th.nest, Th.nodes, Th.nodesL, Th.nodesL, nest_nodes t n]; omega
theorem nest_kind (t : Th) : ∀ n, 0 < n → (Th.nest n t).kind = "row"
  | n + 1, _ => by rw [Th.nest]; rfl
theorem nest_same (t u : Th) : ∀ n, (Th.nest n t).same (Th.nest n u) = t.same u
  | 0 => rfl
  | n + 1 => by rw [Th.nest, Th.nest, Th.same, Th.sames, Th.sames, nest_same t u n, Bool.and_true]
theorem rep_same (v t u : Th) (hv : v.same v = true) : ∀ n, Th.sames (List.replicate n v ++ [t]) (List.replicate n v ++ [u]) = t.same u
  | 0 => by
    show Th.sames [t] [u] = _
    rw [Th.sames, Th.sames, Bool.and_true]
  | n + 1 => by
    rw [List.replicate_succ, List.cons_append, List.cons_append, Th.sames, hv, rep_same v t u hv n]
    rfl
theorem sames_len {l m : List Th} (h : l.length ≠ m.length) : Th.sames l m = false := by
  rw [sames_zip, decide_eq_false h]
  rfl
def spNested2 (K : PySem.W.Frag) : Sp := sp2 fun v b H Q _ => ∃ t n, b = .int n ∧ Is (CF K) H v t ∧ 0 ≤ n ∧ n ≤ 10000 ∧ ∀ u H', Same H H' → Is (CF K) H' u (Th.nest n.toNat t) → Q u H'
def spLaw (K : PySem.W.Frag) : Sp := sp1 fun v H Q _ => ∃ (a : Addr) (ns : List Int), v = .ref a ∧ Scr K H a (ns.map V.int) ∧ ns.length ≤ 63 ∧ ∀ H', Q (.bl true) H'
def odds8 : List Th := [.non, .oth, .int (10 ^ 10), .str "true", .str "", .oth, .oth, .tup [.int 1, .non]]
theorem odds8_ok : (odds8.all fun t => !t.worth true && Nat.ble t.nodes 10) = true := by decide +kernel
def oddV8 (a1 a2 a3 a4 : Addr) : List V := [V.non, .ref a1, .int (10 ^ (10 : Int).toNat), .str "true", .str "", .ref a2, .ref a3, .ref a4]
theorem odd_iss8 {C : Addr} {H : Hp} {a1 a2 a3 a4 : Addr} {kv : List (Key × V)} {x1 x3 : List V} (e1 : H a1 = some (.lst x1)) (e2 : H a2 = some (.dK kv)) (e3 : H a3 = some (.lst x3)) (e4 : H a4 = some (.tup [.int 1, .non])) : Iss C H (oddV8 a1 a2 a3 a4) odds8 :=
  .cons .non <| .cons (.lst e1) <| .cons (.int _) <| .cons (.str _ (by decide)) <| .cons (.str _ (by decide)) <| .cons (.dct e2) <| .cons (.lst e3) <| .one (.tup e4 (.cons (.int _) (.one .non)))
theorem pw10 : CPow 10 10 := ⟨by decide, by decide, by decide⟩
structure Tl (K : PySem.W.Frag) (mg : Str → Option Value) : Prop where
  kf : Kf K (He.ga K "Function")
  z_range : mg "range" = none
  z_min : mg "min" = none
  z_len : mg "len" = none
section
variable {P : Program} {w : World} {K : PySem.W.Frag} {mg : Str → Option Value} {base : Heap}
theorem ok_law_nested2 (F : FnP K mg "_law_nested" s_law_nested) (T : Tr mg) : Cl P w K mg base 1 "_law_nested" ["_law_worth_here", "_law_many"] (spNested2 K) := by
  refine cl_2 F sc_law_nested (fun _ _ _ _ _ _ us hl => match us, hl with | [_, _], _ => rfl) fun cdv A outer s H v b Q E hr h => ?_
  obtain ⟨t, n, rfl, h, n0, n1, q⟩ := h
  refine ⟨_, PSs.nox (pss_cons (ps_for PassesOwn.never rfl (pi_range1 rfl T.z_range (pa_cons (pv 1) pa_nil)) (pg_name (i := 2) sc_law_nested.nd rfl (Or.inl rfl)) (pss_one (ps_set (i := 0) sc_law_nested.nd rfl (Or.inl rfl) (pe_tup (pa_cons (pv 0) pa_nil))))) (pss_one (ps_ret (pv 0)))), ?_⟩
  refine ⟨_, rfl, _, rfl, (by show -(2 ^ 62) ≤ n; omega), (by show n < 2 ^ 62; omega), ?_⟩
  refine for_it walk_range (fun i σ H' => ∃ u o, σ = [some u, some (.int n), o] ∧ Same H H' ∧ Is (CF K) H' u (Th.nest i t)) ⟨v, none, rfl, .refl _, h⟩ (fun _ _ _ _ _ => trivial) ?_ ?_
  · rintro i y σ H1 H2 hi ⟨u, o, rfl, r1, r2⟩ ⟨rfl, rfl⟩
    refine ⟨_, rfl, s1, fun p np => ?_⟩
    exact ⟨_, _, rfl, r1.trans (same_new np _), .tup upd_same (.one (r2.same (same_new np _)))⟩
  · rintro σ H1 ⟨u, o, rfl, r1, r2⟩
    exact ⟨_, rfl, q u _ r1 r2⟩
theorem ok_law (F : FnP K mg "law" s_law) (T : Tl K mg)
    (B_law_begun : Cl P w K mg base 1 "_law_begun" ["_law_script"] (spBegun K)) (B_law_next : Cl P w K mg base 2 "_law_next" ["_law_state"] (spNext K))
    (B_law_worth : Cl P w K mg base 9 "_law_worth" ["_law_state", "_law_deep", "_law_is_plain_one"] (spWorth K 5))
    (B_law_nested : Cl P w K mg base 1 "_law_nested" ["_law_worth_here", "_law_many"] (spNested2 K))
    (B_law_kind : Cl P w K mg base 1 "_law_kind" ["_law_worth_here"] (spKind2 K)) (B_law_same : Cl P w K mg base 8 "_law_same" ["_law_one", "_law_other"] (spSameL K 6)) (B_law_anew : Cl P w K mg base 7 "_law_anew" ["_law_worth_here"] (spAnew K 6))
    (B_law_otherwise : Cl P w K mg base 7 "_law_otherwise" ["_law_worth_here", "_law_number"] (spOther K 6)) (B_law_caught : Cl P w K mg base 6 "_law_caught" ["_law_way", "_law_one", "_law_other"] (spCaught2 K))
    (B_law_is_refused : Cl P w K mg base 1 "_law_is_refused" ["_law_error"] (spRefused K (BW K))) (B_law_is : Cl P w K mg base 1 "_law_is" ["_law_found", "_law_due"] (spIsB K))
    (B_are_alike : Cl P w K mg base 5 "are_alike" ["one", "other"] (spAlike K)) (B_kind_of : Cl P w K mg base 5 "kind_of" ["worth"] (spKindOf K))
    (B_Function : Nw P w K mg base 1 "Function" (CF K) ["self", "names", "body", "scope", "own"] (spInit K)) : Cg P w K mg base 10 "law" ["_law_script"] (spLaw K) := by
  refine cg_mk F sc_law (fun _ _ _ _ _ _ us hl => match us, hl with | [_], _ => rfl) (fun vs H Q E h => by obtain ⟨a, rfl, _⟩ := h; rfl) fun cdv A outer s H vs Q E hr hg h => ?_
  obtain ⟨_, rfl, a, ns, rfl, hS, hn, q⟩ := h
  refine ⟨_, PSs.nox (pss_cons (ps_set (i := 1) sc_law.nd rfl (Or.inl rfl) (pe_b B_law_begun hr (by omega) rfl passL (pa_cons (pv 0) pa_nil))) (pss_cons (ps_for PassesOwn.never rfl (pi_range1 rfl T.z_range (pa_cons (pe_op op_add pe_int (pe_callB (call_min2 rfl) rfl T.z_min PyProof.Rows.boot_min (pa_cons pe_int (pa_cons (pe_callB call_len_seq rfl T.z_len PySem.boot_len (pa_cons (pv 0) pa_nil)) pa_nil)))) pa_nil)) (pg_name (i := 2) sc_law.nd rfl (Or.inl rfl)) (pss_cons (ps_set (i := 3) sc_law.nd rfl (Or.inl rfl) (pe_b B_law_worth hr (by omega) rfl passL (pa_cons (pv 1) (pa_cons pe_int (pa_cons pe_bl pa_nil))))) (pss_cons (ps_set (i := 4) sc_law.nd rfl (Or.inl rfl) (pe_b B_law_otherwise hr (by omega) rfl passL (pa_cons (pv 3) (pa_cons (pe_b B_law_next hr (by omega) rfl passL (pa_cons (pv 1) pa_nil)) pa_nil)))) (pss_cons (ps_if (pt_not (pt_val (pe_b B_law_is hr (by omega) rfl passL (pa_cons (pe_b B_are_alike hr (by omega) rfl passL (pa_cons (pv 3) (pa_cons (pe_b B_law_anew hr (by omega) rfl passL (pa_cons (pv 3) pa_nil)) pa_nil))) (pa_cons pe_bl pa_nil))))) (pss_one (ps_ret pe_bl)) pss_nil) (pss_cons (ps_set (i := 5) sc_law.nd rfl (Or.inl rfl) (pe_b B_law_same hr (by omega) rfl passL (pa_cons (pv 3) (pa_cons (pv 4) pa_nil)))) (pss_cons (ps_if (PW.pt (pw_or (pt_not (pt_val (pe_b B_law_is hr (by omega) rfl passL (pa_cons (pe_b B_are_alike hr (by omega) rfl passL (pa_cons (pv 3) (pa_cons (pv 4) pa_nil))) (pa_cons (pv 5) pa_nil))))) (pw_or1 (pt_not (pt_val (pe_b B_law_is hr (by omega) rfl passL (pa_cons (pe_b B_are_alike hr (by omega) rfl passL (pa_cons (pv 4) (pa_cons (pv 3) pa_nil))) (pa_cons (pv 5) pa_nil)))))))) (pss_one (ps_ret pe_bl)) pss_nil) (pss_cons (ps_if (PW.pt (pw_or (PW.pt (pw_and (pt_cmpR op_eq (pv 2) pe_int (nomark _)) (pw_and1 (pt_cmpR op_eq (pe_op op_mod (pe_callB call_len_seq rfl T.z_len PySem.boot_len (pa_cons (pv 0) pa_nil)) pe_int) pe_int (nomark _))))) (pw_or1 (pt_cmpR op_eq (pv 2) pe_int (nomark _))))) (pss_cons (ps_if (pt_not (pt_val (pe_b B_law_is hr (by omega) rfl passL (pa_cons (pe_b B_are_alike hr (by omega) rfl passL (pa_cons (pe_b B_law_nested hr (by omega) rfl passL (pa_cons (pv 3) (pa_cons pe_int pa_nil))) (pa_cons (pe_b B_law_nested hr (by omega) rfl passL (pa_cons (pe_b B_law_anew hr (by omega) rfl passL (pa_cons (pv 3) pa_nil)) (pa_cons pe_int pa_nil))) pa_nil))) (pa_cons pe_bl pa_nil))))) (pss_one (ps_ret pe_bl)) pss_nil) (pss_cons (ps_if (pt_not (pt_val (pe_b B_law_is hr (by omega) rfl passL (pa_cons (pe_b B_are_alike hr (by omega) rfl passL (pa_cons (pe_b B_law_nested hr (by omega) rfl passL (pa_cons (pv 3) (pa_cons pe_int pa_nil))) (pa_cons (pe_b B_law_nested hr (by omega) rfl passL (pa_cons (pv 4) (pa_cons pe_int pa_nil))) pa_nil))) (pa_cons (pv 5) pa_nil))))) (pss_one (ps_ret pe_bl)) pss_nil) (pss_cons (ps_par (i := 6) (j := 7) rfl sc_law.nd rfl rfl (by decide) rfl rfl (pa_cons (pe_op op_catA (pe_op op_mulT (pe_tup (pa_cons pe_int pa_nil)) pe_int) (pe_tup (pa_cons (pv 3) pa_nil))) (pa_cons (pe_op op_catA (pe_op op_mulT (pe_tup (pa_cons pe_int pa_nil)) pe_int) (pe_tup (pa_cons (pv 4) pa_nil))) pa_nil)) (by rfl)) (pss_cons (ps_if (PW.pt (pw_or (pt_not (pt_val (pe_b B_law_is hr (by omega) rfl passL (pa_cons (pe_b B_are_alike hr (by omega) rfl passL (pa_cons (pv 6) (pa_cons (pv 7) pa_nil))) (pa_cons (pv 5) pa_nil))))) (pw_or1 (pt_not (pt_val (pe_b B_law_is hr (by omega) rfl passL (pa_cons (pe_b B_are_alike hr (by omega) rfl passL (pa_cons (pv 6) (pa_cons (pe_slice sl_tupA (pv 6) po_none (po_some (pe_un un_neg pe_int))) pa_nil))) (pa_cons pe_bl pa_nil)))))))) (pss_one (ps_ret pe_bl)) pss_nil) (pss_one (ps_if (pt_cmpR op_ne (pe_b B_kind_of hr (by omega) rfl passL (pa_cons (pe_b B_law_nested hr (by omega) rfl passL (pa_cons (pe_new B_Function hr (by omega) rfl passL (pa_cons (pe_tup pa_nil) (pa_cons pe_int (pa_cons (pe_tup pa_nil) (pa_cons pe_non pa_nil))))) (pa_cons pe_int pa_nil))) pa_nil)) pe_str (nomark _)) (pss_one (ps_ret pe_bl)) pss_nil)))))) pss_nil) (pss_cons (ps_set (i := 8) sc_law.nd rfl (Or.inl rfl) (pe_b B_law_worth hr (by omega) rfl passL (pa_cons (pv 1) (pa_cons pe_int (pa_cons pe_bl pa_nil))))) (pss_cons (ps_if (PW.pt (pw_or (pt_cmpR op_ne (pe_b B_kind_of hr (by omega) rfl passL (pa_cons (pv 8) pa_nil)) (pe_b B_law_kind hr (by omega) rfl passL (pa_cons (pv 8) pa_nil)) (nomark _)) (pw_or1 (pt_cmpR op_ne (pe_b B_kind_of hr (by omega) rfl passL (pa_cons (pv 4) pa_nil)) (pe_b B_law_kind hr (by omega) rfl passL (pa_cons (pv 4) pa_nil)) (nomark _))))) (pss_one (ps_ret pe_bl)) pss_nil) (pss_cons (ps_set (i := 9) sc_law.nd rfl (Or.inl rfl) (pe_new B_Function hr (by omega) rfl passL (pa_cons (pe_tup pa_nil) (pa_cons pe_int (pa_cons (pe_tup pa_nil) (pa_cons pe_non pa_nil)))))) (pss_cons (ps_set (i := 10) sc_law.nd rfl (Or.inl rfl) (pe_ix ix_list (pe_lst (pa_cons pe_non (pa_cons (pe_lst pa_nil) (pa_cons (pe_op op_pow pe_int pe_int) (pa_cons pe_str (pa_cons pe_str (pa_cons pe_dnewK (pa_cons (pe_lst (pa_cons pe_int pa_nil)) (pa_cons (pe_tup (pa_cons pe_int (pa_cons pe_non pa_nil))) pa_nil))))))))) (pe_op op_mod (pe_b B_law_next hr (by omega) rfl passL (pa_cons (pv 1) pa_nil)) pe_int) (fun _ _ => rfl))) (pss_cons (ps_if (PW.pt (pw_or (pt_not (pt_val (pe_b B_law_is_refused hr (by omega) rfl passL (pa_cons (pe_b B_law_caught hr (by omega) rfl passL (pa_cons pe_int (pa_cons (pv 3) (pa_cons (pe_tup (pa_cons pe_int (pa_cons (pv 9) pa_nil))) pa_nil)))) pa_nil)))) (pw_or1 (pt_not (pt_val (pe_b B_law_is_refused hr (by omega) rfl passL (pa_cons (pe_b B_law_caught hr (by omega) rfl passL (pa_cons pe_int (pa_cons (pv 9) (pa_cons (pv 3) pa_nil)))) pa_nil))))))) (pss_one (ps_ret pe_bl)) pss_nil) (pss_one (ps_if (PW.pt (pw_or (pt_not (pt_val (pe_b B_law_is_refused hr (by omega) rfl passL (pa_cons (pe_b B_law_caught hr (by omega) rfl passL (pa_cons pe_int (pa_cons (pv 10) (pa_cons pe_int pa_nil)))) pa_nil)))) (pw_or1 (pt_not (pt_val (pe_b B_law_is_refused hr (by omega) rfl passL (pa_cons (pe_b B_law_caught hr (by omega) rfl passL (pa_cons pe_int (pa_cons (pv 3) (pa_cons (pv 10) pa_nil)))) pa_nil))))))) (pss_one (ps_ret pe_bl)) pss_nil)))))))))))))) (pss_one (ps_ret pe_bl)))), ?_⟩
  refine ⟨_, rfl, _, rfl, a, ns, rfl, hS, hn, fun d l H1 h1 s1' nd nl => ?_⟩
  have hS1 := hS.same s1'
  refine ⟨_, rfl, a, _, rfl, .inl hS1.sq, _, _, rfl, _, _, rfl, rfl, _, rfl, ?_, ?_, ?_⟩
  · show -(2 ^ 62) ≤ 1 + (if (((ns.map V.int).length : Nat) : Int) < 19 then (((ns.map V.int).length : Nat) : Int) else 19)
    split <;> omega
  · show 1 + (if (((ns.map V.int).length : Nat) : Int) < 19 then (((ns.map V.int).length : Nat) : Int) else 19) < 2 ^ 62
    split <;> omega
  refine for_it walk_range (fun i σ H' => ∃ o2 o3 o4 o5 o6 o7 o8 o9 o10, σ = [some (.ref a), some (.ref d), o2, o3, o4, o5, o6, o7, o8, o9, o10] ∧ Dr K d l a ns H') ⟨none, none, none, none, none, none, none, none, none, rfl, h1⟩ (fun _ _ _ _ _ => trivial) ?_ ?_
  · rintro i y σ H2 H3 hi ⟨o2, o3, o4, o5, o6, o7, o8, o9, o10, rfl, r1⟩ ⟨rfl, rfl⟩
    refine ⟨_, rfl, _, _, _, rfl, d, l, a, ns, 5, true, rfl, rfl, rfl, r1, hn, by decide, by decide, by decide, fun u t H5 r5 f5 i5 w5 p5 nd5 dp5 => ?_⟩
    have n5 : t.nodes ≤ 3125 := nd5
    have pt : t.worth false = true := p5 rfl
    refine stepG ?_
    dsimp only
    refine ⟨_, rfl, _, rfl, _, rfl, d, l, a, ns, rfl, r5, hn, fun n1 H6 r6 f6 n10 n11 => ?_⟩
    have i6 := i5.ik (im_fr r5 r6 f6)
    refine ⟨_, _, rfl, t, n1, rfl, i6, pt, by omega, by omega, n10, fun ou ot H7 s7 io pu no => ?_⟩
    refine stepG ?_
    dsimp only
    have i7 := i6.same s7
    have r7 := r6.same s7
    clear r5 i5 r6 i6
    have sr := same_refl t pt
    refine ⟨_, rfl, _, rfl, _, rfl, t, i7, by omega, pt, by omega, fun u8 H8 s8 i8 => ⟨_, _, rfl, t, t, i7.same s8, i8, by omega, by omega, fun _ H9 s9 => ⟨_, _, rfl, _, true, rfl, rfl, _, rfl, ?_⟩, fun z => by rw [pt] at z; cases z⟩⟩
    rw [sr]
    refine iteF (stepN ?_)
    dsimp only
    have S9 := s8.trans s9
    have both : (t.worth false && ot.worth false) = true := by rw [pt, pu]; rfl
    have both' : (ot.worth false && t.worth false) = true := by rw [pt, pu]; rfl
    have cm := same_comm ot t
    have beq1 : ∀ b : Bool, (b == b) = true := fun b => by cases b <;> rfl
    -- the law's own look
    refine ⟨_, rfl, _, rfl, _, _, rfl, t, ot, i7.same S9, io.same S9, pt, pu, by omega, by omega, fun H10 s10 => ?_⟩
    refine stepG ?_
    dsimp only
    have S10 := S9.trans s10
    refine ⟨_, rfl, _, rfl, _, _, rfl, t, ot, i7.same S10, io.same S10, by omega, by omega, fun _ H11 s11 => ⟨_, rfl, _, _, rfl, _, _, rfl, rfl, _, rfl, ?_⟩, fun z => by rw [both] at z; cases z⟩
    rw [beq1]
    have S11 := S10.trans s11
    refine iteF ⟨_, rfl, _, rfl, _, _, rfl, ot, t, io.same S11, i7.same S11, by omega, by omega, fun _ H12 s12 => ⟨_, rfl, _, _, rfl, _, _, rfl, rfl, _, rfl, ?_⟩, fun z => by rw [both'] at z; cases z⟩
    rw [cm, beq1]
    refine iteF (stepN ?_)
    dsimp only
    have S12 := S11.trans s12
    refine join_seq (fun k => ∀ H' o6 o7, Same H7 H' → k [some (.ref a), some (.ref d), some (.int (0 + (i : Int))), some u, some ou, some (.bl (t.same ot)), o6, o7, o8, o9, o10] H') (fun H13 o6 o7 S13 => ?_) (fun D hk => ?_)
    case refine_2 =>
      refine join_t (T := tOr _ _ _ _) (fun k => ∀ b H', Same H7 H' → k b H') (fun b H13 S13 => ?_) (fun k hb => ?_)
      case refine_2 =>
        have r12 := r7.same S12
        obtain ⟨ls, cn, z1, z2, z3, z4, z5, z6⟩ := r12
        have C : tTest (tOp rEq (tVar 2) (tC (.int 9))) [some (.ref a), some (.ref d), some (.int (0 + (i : Int))), some u, some ou, some (.bl (t.same ot)), o6, o7, o8, o9, o10] H12 k := ⟨_, rfl, rfl, _, rfl, hb _ _ S12⟩
        refine ⟨_, rfl, rfl, _, rfl, ite2 (fun c => ?_) (fun c => iteF C)⟩
        refine ⟨_, rfl, a, _, rfl, .inl z2.sq, _, _, rfl, rfl, p2, rfl, _, rfl, ?_⟩
        cases (decide (V.int ((((ns.map V.int).length : Nat) : Int) % 2) = V.int 0)) with
        | true => exact iteT (hb _ _ S12)
        | false => exact iteF C
      cases b with
      | false => exact iteF (stepN (hk _ _ _ S13))
      | true =>
        refine iteT ?_
        have i13 := i7.same S13
        have io13 := io.same S13
        have e5k : (5000 : Int).toNat = 5000 := rfl
        have nn : ∀ x : Th, (Th.nest (5000 : Int).toNat x).nodes = x.nodes + 5000 := fun x => by rw [nest_nodes, e5k]
        have nw := fun (f : Bool) (x : Th) => nest_worth f x (5000 : Int).toNat
        -- deep, alike
        refine ⟨_, rfl, _, _, rfl, t, 5000, rfl, i13, by decide, by decide, fun v1 H14 s14 e14 => ?_⟩
        refine ⟨_, rfl, _, rfl, t, i13.same s14, by omega, pt, by omega, fun u15 H15 s15 i15 => ⟨_, _, rfl, t, 5000, rfl, i15, by decide, by decide, fun v2 H16 s16 e16 => ?_⟩⟩
        refine ⟨_, _, rfl, _, _, e14.same (s15.trans s16), e16, by rw [nn]; omega, by rw [nn]; omega, fun _ H17 s17 => ⟨_, _, rfl, _, true, rfl, rfl, _, rfl, ?_⟩, fun z => by rw [nw, pt] at z; cases z⟩
        rw [nest_same, sr]
        refine iteF (stepN ?_)
        dsimp only
        have S17 := S13.trans (s14.trans (s15.trans (s16.trans s17)))
        -- deep, as due
        refine ⟨_, rfl, _, _, rfl, t, 5000, rfl, i7.same S17, by decide, by decide, fun v3 H18 s18 e18 => ?_⟩
        refine ⟨_, rfl, _, _, rfl, ot, 5000, rfl, (io.same S17).same s18, by decide, by decide, fun v4 H19 s19 e19 => ?_⟩
        refine ⟨_, _, rfl, _, _, e18.same s19, e19, by rw [nn]; omega, by rw [nn]; omega, fun _ H20 s20 => ⟨_, rfl, _, _, rfl, _, _, rfl, rfl, _, rfl, ?_⟩, fun z => by rw [nw, nw, pt, pu] at z; cases z⟩
        rw [nest_same, beq1]
        refine iteF (stepN ?_)
        dsimp only
        have S20 := S17.trans (s18.trans (s19.trans s20))
        -- long
        refine ⟨Fl.s1, fun a1 m1 => ⟨a1, 5000, [.int 1], rfl, rfl, SqT.of upd_same, (fun z => nomatch z), by decide, by decide, fun a2 m2 => ?_⟩⟩
        rw [flat_rep]
        refine ⟨_, rfl, Fl.s1, fun a3 m3 => ?_⟩
        refine rd_cat ((same_new m3 _) _ _ upd_same) upd_same (by rw [List.length_replicate, List.length_singleton, sizeLine_eq]; decide) fun q1 H21 t21 e21 => ?_
        have S21 := S20.trans ((same_new m1 _).trans ((same_new m2 _).trans ((same_new m3 _).trans t21)))
        refine ⟨Fl.s1, fun b1 m1' => ⟨b1, 5000, [.int 1], rfl, rfl, SqT.of upd_same, (fun z => nomatch z), by decide, by decide, fun b2 m2' => ?_⟩⟩
        rw [flat_rep]
        refine ⟨_, rfl, Fl.s1, fun b3 m3' => ?_⟩
        refine rd_cat ((same_new m3' _) _ _ upd_same) upd_same (by rw [List.length_replicate, List.length_singleton, sizeLine_eq]; decide) fun q2 H22 t22 e22 => ?_
        have d22 := (same_new m1' (.tup [.int 1])).trans ((same_new m2' (.tup (List.replicate (5000 : Int).toNat (V.int 1)))).trans ((same_new m3' (.tup [ou])).trans t22))
        have S22 := S21.trans d22
        have e21' := d22 _ _ e21
        have lg : Is (CF K) H22 (.ref q1) (.tup (List.replicate (5000 : Int).toNat (.int 1) ++ [t])) := .tup e21' ((iss_rep (.int 1) _).app (.one (i7.same S22)))
        have lh : Is (CF K) H22 (.ref q2) (.tup (List.replicate (5000 : Int).toNat (.int 1) ++ [ot])) := .tup e22 ((iss_rep (.int 1) _).app (.one (io.same S22)))
        have wr : ∀ x : Th, x.worth false = true → (Th.tup (List.replicate (5000 : Int).toNat (.int 1) ++ [x])).worth false = true := fun x hx => by
          rw [Th.worth, worths_app, worths_rep rfl, Th.worths, Th.worths, hx]
          rfl
        have nr : ∀ x : Th, (Th.tup (List.replicate (5000 : Int).toNat (.int 1) ++ [x])).nodes = 5000 + x.nodes + 1 := fun x => by
          rw [Th.nodes, nodesL_app, nodes_rep rfl, Th.nodesL, Th.nodesL, e5k]
          omega
        have w1 := wr t pt
        have w2 := wr ot pu
        have n1' := nr t
        have n2' := nr ot
        have sm : (Th.tup (List.replicate (5000 : Int).toNat (.int 1) ++ [t])).same (.tup (List.replicate (5000 : Int).toNat (.int 1) ++ [ot])) = t.same ot := by
          rw [Th.same]
          exact rep_same _ _ _ rfl _
        refine ⟨_, _, rfl, ?_⟩
        dsimp only
        refine ⟨_, rfl, _, rfl, _, _, rfl, _, _, lg, lh, by omega, by omega, fun _ H23 s23 => ⟨_, rfl, _, _, rfl, _, _, rfl, rfl, _, rfl, ?_⟩, fun z => by rw [w1, w2] at z; cases z⟩
        rw [sm, beq1]
        have lg1 := lg.same s23
        cases lg1 with
        | tup eg ig =>
        rename_i zs
        refine iteF ⟨_, rfl, _, rfl, _, rfl, _, rfl, rd_init eg fun q4 H24 t24 e24 => ?_⟩
        have gl := ig.len
        generalize List.replicate (5000 : Int).toNat (Th.int 1) ++ [t] = l1 at ig gl lg w1 n1' ⊢
        have lk : Is (CF K) H24 (.ref q4) (.tup (l1.take (zs.length - 1))) := .tup e24 ((ig.same t24).take _)
        have wl : Th.worths false l1 = true := by simpa [Th.worth] using w1
        have wk : (Th.tup (l1.take (zs.length - 1))).worth false = true := by
          have z := List.take_append_drop (zs.length - 1) l1
          rw [← z, worths_app, Bool.and_eq_true] at wl
          rw [Th.worth]
          exact wl.1
        have nk : (Th.tup (l1.take (zs.length - 1))).nodes ≤ (Th.tup l1).nodes := by
          have z := nodesL_app (l1.take (zs.length - 1)) (l1.drop (zs.length - 1))
          rw [List.take_append_drop] at z
          rw [Th.nodes, Th.nodes]
          omega
        have ln : 1 ≤ l1.length := by
          cases l1 with
          | nil => simp [Th.nodes, Th.nodesL] at n1'
          | cons _ _ => exact Nat.succ_le_succ (Nat.zero_le _)
        have sk : (Th.tup l1).same (.tup (l1.take (zs.length - 1))) = false := by
          rw [Th.same]
          exact sames_len (by rw [List.length_take]; omega)
        refine ⟨_, _, rfl, _, _, lg.same (s23.trans t24), lk, by omega, by omega, fun _ H25 s25 => ⟨_, _, rfl, _, false, rfl, rfl, _, rfl, ?_⟩, fun z => by rw [w1, wk] at z; cases z⟩
        rw [sk]
        refine iteF (stepN ?_)
        dsimp only
        have S25 := S22.trans (s23.trans (t24.trans s25))
        -- a function within rows
        refine ⟨(by show 0 ≤ sizeLine; decide), fun p1 m1 => ⟨(by show 0 ≤ sizeLine; decide), fun p2' m2 => ?_⟩⟩
        intro x dx nx ndx nex
        refine ⟨x, dx, _, _, _, _, rfl, upd_same, rfl, ?_⟩
        have smx := same_made (K := K) (o := .ins (CF K) dx (fnF (.ref p1) (.int 1) (.ref p2') .non)) nx ndx
        have c1 := (same_new m1 (.tup [])).trans (same_new m2 (.tup []))
        have mk : Is (CF K) _ (.ref x) (.fn [.tup [], .int 1, .tup [], .non]) := .fn upd_same (.cons (.tup (smx _ _ ((same_new m2 (.tup [])) _ _ upd_same)) .nil) (.cons (.int 1) (.cons (.tup (smx _ _ upd_same) .nil) (.one .non))))
        refine ⟨_, _, rfl, _, 5000, rfl, mk, by decide, by decide, fun v5 H26 s26 e26 => ?_⟩
        refine ⟨_, rfl, _, e26, by rw [nn]; decide, fun _ H27 s27 => ⟨rfl, _, rfl, ?_⟩, fun z => by rw [nw] at z; cases z⟩
        rw [nest_kind _ _ (by decide), decide_eq_true rfl]
        exact iteF (stepN (hk _ _ _ (S25.trans (c1.trans (smx.trans (s26.trans s27))))))
    dsimp only
    have i13 := i7.same S13
    have io13 := io.same S13
    have r13 := r7.same S13
    refine ⟨_, rfl, _, _, _, rfl, d, l, a, ns, 3, false, rfl, rfl, rfl, r13, hn, by decide, by decide, by decide, fun tv tt H14 r14 f14 it wt _ ndt dpt => ?_⟩
    have ntt : tt.nodes ≤ 3125 := ndt
    have im14 := im_fr r13 r14 f14
    have i14 := i13.ik im14
    have io14 := io13.ik im14
    refine stepG ?_
    dsimp only
    refine ⟨_, rfl, _, rfl, tt, it, by omega, fun _ H15 s15 => ⟨_, rfl, _, rfl, tt, it.same s15, wt, rfl, _, rfl, ?_⟩, fun z => by rw [wt] at z; cases z⟩
    rw [decide_eq_true rfl]
    refine iteF ⟨_, rfl, _, rfl, ot, io14.same s15, by omega, fun _ H16 s16 => ⟨_, rfl, _, rfl, ot, (io14.same s15).same s16, worth_up pu, rfl, _, rfl, ?_⟩, fun z => by rw [worth_up pu] at z; cases z⟩
    rw [decide_eq_true rfl]
    refine iteF (stepN ?_)
    dsimp only
    have S16 := s15.trans s16
    have i16 := i14.same S16
    have io16 := io14.same S16
    have r16 := r14.same S16
    -- a function
    refine ⟨(by show 0 ≤ sizeLine; decide), fun p1 m1 => ⟨(by show 0 ≤ sizeLine; decide), fun p2' m2 => ?_⟩⟩
    intro x dx nx ndx nex
    refine ⟨x, dx, _, _, _, _, rfl, upd_same, rfl, ?_⟩
    have smx := same_made (K := K) (o := .ins (CF K) dx (fnF (.ref p1) (.int 1) (.ref p2') .non)) nx ndx
    have c1 := (same_new m1 (.tup [])).trans (same_new m2 (.tup []))
    have mk : Is (CF K) _ (.ref x) (.fn [.tup [], .int 1, .tup [], .non]) := .fn upd_same (.cons (.tup (smx _ _ ((same_new m2 (.tup [])) _ _ upd_same)) .nil) (.cons (.int 1) (.cons (.tup (smx _ _ upd_same) .nil) (.one .non))))
    have S17 := c1.trans smx
    have i17 := i16.same S17
    have io17 := io16.same S17
    have r17 := r16.same S17
    refine stepG ?_
    dsimp only
    generalize upd (upd (upd (upd (upd H16 p1 (.tup [])) p2' (.tup [])) dx (.own x)) x (.ins (CF K) dx [])) x (.ins (CF K) dx (fnF (.ref p1) (.int 1) (.ref p2') .non)) = H17 at mk S17 i17 io17 r17 ⊢
    clear m1 m2 nx ndx nex smx c1
    refine ⟨(by show 0 ≤ sizeLine; decide), fun p1 m1 => ⟨_, _, rfl, rfl, pw10, fun p2' m2 => ⟨Fl.s1, fun p3' m3 => ⟨s2, fun p4' m4 => ⟨(by show 8 ≤ sizeLine; decide), fun p5' m5 => ?_⟩⟩⟩⟩⟩
    have v5 := same_new m5 (.lst (oddV8 p1 p2' p3' p4'))
    have v4 := same_new m4 (.tup [.int 1, .non])
    have v3 := same_new m3 (.lst [.int 1])
    have v2 := same_new m2 (.dK [])
    have v1 := same_new m1 (.lst [])
    have w4 := v1.trans (v2.trans (v3.trans v4))
    have r12 := r17.same w4
    refine ⟨_, rfl, _, rfl, d, l, a, ns, rfl, r12.same v5, hn, fun n2 H18 r18 f18 n20 n21 => ⟨_, _, rfl, rfl, p8, ?_⟩⟩
    have ik := (ik_same v5).trans (ik_fr (r12.same v5) r18 f18)
    have all8 := (odd_iss8 (C := CF K) ((v2.trans (v3.trans v4)) _ _ upd_same) ((v3.trans v4) _ _ upd_same) (v4 _ _ upd_same) upd_same).ik ik
    have e5 : H18 p5' = some (.lst (oddV8 p1 p2' p3' p4')) := by
      obtain ⟨_, _, z1, _, z3, _⟩ := r12
      exact f18 _ _ (ne_of_none z1 m5).symm (ne_of_none z3 m5).symm upd_same
    have i0 := Int.emod_nonneg n2 (show (8 : Int) ≠ 0 by decide)
    have i1 := Int.emod_lt_of_pos n2 p8
    obtain ⟨j, ej⟩ : ∃ j : Nat, n2 % 8 = (j : Int) := ⟨(n2 % 8).toNat, by omega⟩
    have hj : j < (oddV8 p1 p2' p3' p4').length := by
      show j < 8
      omega
    obtain ⟨xt, f1, ix⟩ := all8.get (List.getElem?_eq_getElem hj)
    have f3 := List.all_eq_true.mp odds8_ok xt (List.mem_of_getElem? f1)
    rw [Bool.and_eq_true, Bool.not_eq_true', Nat.ble_eq] at f3
    obtain ⟨wx, nxt⟩ := f3
    refine ⟨p5', _, _, _, rfl, rfl, SqL.of e5, (by rw [ej]; exact atI_nat (List.getElem?_eq_getElem hj)), ?_⟩
    have i18 := (i17.same w4).ik ik
    have mk18 := (mk.same w4).ik ik
    generalize (oddV8 p1 p2' p3' p4')[j] = xv at ix ⊢
    refine stepG ?_
    dsimp only
    refine ⟨_, rfl, _, rfl, s2, fun p6 m6 => ?_⟩
    have k6 := same_new m6 (.tup [.int 1, .ref x])
    refine ⟨_, _, _, rfl, t, false, i18.same k6, by omega, .inl ⟨rfl, _, .tup upd_same (.cons (.int 1) (.one (mk18.same k6))), by decide +kernel, by rw [pt]; decide +kernel⟩, fun u4 H19 s19 k19 => ?_⟩
    refine ⟨_, rfl, _, k19, fun H20 s20 => ⟨_, rfl, iteF ?_⟩⟩
    have S20 := k6.trans (s19.trans s20)
    refine ⟨_, rfl, _, rfl, _, _, _, rfl, _, false, mk18.same S20, by decide +kernel, .inl ⟨rfl, t, i18.same S20, by omega, rfl⟩, fun u5 H21 s21 k21 => ?_⟩
    refine ⟨_, rfl, _, k21, fun H22 s22 => ⟨_, rfl, iteF (stepN ?_)⟩⟩
    dsimp only
    have S22 := S20.trans (s21.trans s22)
    refine ⟨_, rfl, _, _, _, rfl, xt, false, ix.same S22, by omega, .inr ⟨rfl, wx.symm⟩, fun u6 H23 s23 k23 => ?_⟩
    refine ⟨_, rfl, _, k23, fun H24 s24 => ⟨_, rfl, iteF ?_⟩⟩
    have S24 := S22.trans (s23.trans s24)
    refine ⟨_, rfl, _, rfl, _, _, _, rfl, t, false, i18.same S24, by omega, .inl ⟨rfl, xt, ix.same S24, by omega, by rw [worth_down wx, Bool.and_false]⟩, fun u7 H25 s25 k25 => ?_⟩
    refine ⟨_, rfl, _, k25, fun H26 s26 => ⟨_, rfl, iteF ?_⟩⟩
    exact ⟨_, _, _, _, _, _, _, _, _, rfl, r18.same (S24.trans (s25.trans s26))⟩
  · rintro σ H2 ⟨o2, o3, o4, o5, o6, o7, o8, o9, o10, rfl, r1⟩
    exact q _
end
end Fl
/-! a thing beside itself -/
namespace Fl
open PySem PySem.Spec PyProof.Rows L2
/-- instances of the class at C are equal just where they are one -/
def cmpIn (K : PySem.W.Frag) (C : Addr) : Bool := match K.lookup C with
  | some ⟨.type "type", _, .cls cd, sl⟩ => (match cd.mro, sl.toList with
    | [.ref C', .type "object"], [_, _, _, _, some (.builtin _), _] => C' == C && (!cd.hasDel && (PySem.W.nsOkIn K cd.ns && (decide (PySem.W.nsIn K cd.ns "__eq__" = some none) && decide (PySem.W.nsIn K cd.ns "__ne__" = some none))))
    | _, _ => false)
  | _ => false
theorem cmp_of {K : PySem.W.Frag} {h : Heap} {C x dx : Addr} (X : K.In h) (q : cmpIn K C = true) (hx : h.get? x = some (PySem.W.instObj C dx)) : h.CmpInst x C [.type "object"] := by
  unfold cmpIn at q
  split at q
  · rename_i dd cd sl ho
    split at q
    · rename_i C' k0 k1 k2 k3 n k5 hm hs
      simp only [Bool.and_eq_true, beq_iff_eq, Bool.not_eq_true', decide_eq_true_eq] at q
      obtain ⟨e1, e2, e3, e4, e5⟩ := q
      subst e1
      obtain ⟨nm, bs, mro, ns, qn, hd, sn, sub, ab, col, del⟩ := cd
      dsimp only at hm e2 e3 e4 e5
      subst hm e2
      obtain ⟨sll⟩ := sl
      dsimp only at hs
      subst hs
      exact ⟨_, nm, qn, ns, bs, hd, sn, sub, ab, col, dd, k0, k1, k2, k3, k5, n, _, hx, rfl, X _ _ ho, .of_isNs (PySem.W.isNs_of_in X e3), PySem.W.nsMap_none_of_in X e3 e4, PySem.W.nsMap_none_of_in X e3 e5⟩
    · cases q
  · cases q
theorem eqAt_self (A : Around) (s : Shared) (v : Value) : SeqAt.EqAt A s v v true := fun prog w E Q hq => by
  unfold eqBool
  refine wpAny_holding ?_
  rw [if_pos (beq_self_eq_true v)]
  exact wpAny_bind (wpAny_rule (wpAny_pure hq))
section
variable {X : Cx}
/-- x != x -/
def rNeSelf (K : PySem.W.Frag) (C : Addr) : R2 := fun x y H Q => x = y ∧ (∃ t, Is C H x t ∧ t.worth true = true) ∧ Q (.bl false) H
theorem op_neSelf {C : Addr} (q : cmpIn X.K C = true) (hu : X.A.units + 1 < cLine) : OpR X (compareOp .NotEq) (rNeSelf X.K C) := by
  intro pins s σ H x y v u Q I rx ry h
  obtain ⟨rfl, ⟨t, hi, hw⟩, k⟩ := h
  have fin : EP X pins σ Q (.bool false) s := ⟨.bl false, H, I, rfl, k⟩
  cases hi with
  | non => simp [Th.worth] at hw
  | bl b =>
    cases rx
    cases ry
    exact SeqAt.RcNeAt.bool_bool b b X.prog X.w X.xe _ (by rw [beq_self_eq_true]; exact fin)
  | int i =>
    obtain ⟨t1, rfl⟩ := rx
    obtain ⟨t2, rfl⟩ := ry
    exact SeqAt.RcNeAt.int_int i t1 i t2 X.prog X.w X.xe _ (by rw [beq_self_eq_true]; exact fin)
  | str z _ =>
    obtain ⟨t1, rfl⟩ := rx
    obtain ⟨t2, rfl⟩ := ry
    exact SeqAt.RcNeAt.str_str z t1 z t2 X.prog X.w X.xe _ (by rw [beq_self_eq_true]; exact fin)
  | tup e _ =>
    cases rx
    cases ry
    obtain ⟨its, r, p1, _⟩ := I.tuple (SqT.of (K := X.K) e)
    refine SeqAt.RcNeAt.tuples (e := fun _ => true) p1 p1 (Nat.lt_of_succ_lt hu) (fun j _ _ => eqAt_self _ _ _) X.prog X.w X.xe _ ?_
    have e2 : (!((List.range (min its.toArray.size its.toArray.size)).all (fun _ => true) && its.toArray.size == its.toArray.size)) = false := by simp
    rw [e2]
    exact fin
  | fn e =>
    cases rx
    cases ry
    obtain ⟨_, _, _, e2, _⟩ := I.hok _ _ e
    obtain ⟨hp, g, d, tk, os⟩ := s
    exact richCompare_ne_same F.cmp_object (cmp_of I.kIn q e2) hu fin
  | lst _ => simp [Th.worth] at hw
  | dct _ => simp [Th.worth] at hw
end
end Fl
/-! the head's Hook with further checks of the written part -/
namespace Fl
open PySem PySem.Spec PyProof.Rows L2
abbrev Ck : Type := PySem.W.Frag → Bool
abbrev AlK : Type := Bool × He.AlD
def obsK (ck : List Ck) (fa : List He.Fa) (fn : List He.DefD) (K : PySem.W.Frag) : AlK := (ck.all fun f => f K, He.obsD fa fn K)
def valK (fn : List He.DefD) : AlK := (true, He.valD fn)
def SaysK (ck : List Ck) (fa : List He.Fa) (fn : List He.DefD) (K : PySem.W.Frag) : Prop := obsK ck fa fn K = valK fn
def obsKG (n : Nat) (ck : List Ck) (fa : List He.Fa) (fn : List He.DefD) (g : Addr → Option Obj) : AlK := obsK ck fa fn (He.frG g (He.asD g n))
def hookK (n : Nat) (ck : List Ck) (fa : List He.Fa) (fn : List He.DefD) : PySem.W.Hook where
  α := AlK
  obs := fun s => obsKG n ck fa fn s.heap.get?
  val := fun _ => valK fn
  says := fun _ h => ∃ K : PySem.W.Frag, K.In h ∧ SaysK ck fa fn K
  of := fun _ _ e => ⟨_, He.frG_in, e⟩
  keeps := fun _ _ _ ⟨K, hK, c⟩ k => ⟨K, PySem.W.Frag.In.keeps hK k, c⟩
theorem obsKG_eq {n : Nat} {ck : List Ck} {fa : List He.Fa} {fn : List He.DefD} {g : Addr → Option Obj} {s : Shared} (h : ∀ a, g a = s.heap.get? a) : obsKG n ck fa fn g = (hookK n ck fa fn).obs s := by
  have e : g = s.heap.get? := funext h
  rw [e] <;> rfl
section
variable {ck : List Ck} {fa : List He.Fa} {fn : List He.DefD} {K : PySem.W.Frag}
theorem SaysK.d (c : SaysK ck fa fn K) : He.SaysD fa fn K := congrArg (fun z : AlK => z.2) c
theorem SaysK.chk (c : SaysK ck fa fn K) (i : Nat) {f : Ck} (h : ck[i]? = some f := by rfl) : f K = true :=
  List.all_eq_true.mp (congrArg (fun z : AlK => z.1) c) f (List.mem_of_getElem? h)
end
def dA (x q : Str) (st : Stmt) : He.DefD := ⟨(x, none), q, q, defArgs st, defBody st, defScope st, [], []⟩
def dS (x : Str) (st : Stmt) : He.DefD := dA x x st
def dM (C x qn : Str) (st : Stmt) : He.DefD := ⟨(C, some x), x, qn, defArgs st, defBody st, defScope st, [], []⟩
section
variable {ck : List Ck} {fa : List He.Fa} {fn : List He.DefD} {K : PySem.W.Frag} {h : Heap} {mg : Str → Option Value} {x q C qn : Str} {st : Stmt}
theorem fnp_ok (X : K.In h) (G : h.Ns mainGlobals mg) (c : SaysK ck fa fn K) (i j : Nat) (h1 : fn[i]? = some (dA x q st) := by rfl) (h2 : fa[j]? = some (.glo x) := by rfl) : FnP K mg x st q := ⟨c.d.def_ i h1, He.glo_ok X G (c.d.fact j h2)⟩
theorem mtp_ok (c : SaysK ck fa fn K) (i : Nat) (h1 : fn[i]? = some (dM C x qn st) := by rfl) : MtP K (He.ga K C) x qn st := ⟨c.d.def_ i h1⟩
theorem ki_ok (X : K.In h) (G : h.Ns mainGlobals mg) {i : Int} (c : (He.Fa.int x i).ok K = true) : ∃ u, mg x = some u ∧ RelV (.int i) u := by
  obtain ⟨t, e⟩ := He.int_ok X G c
  exact ⟨_, e, t, rfl⟩
theorem ks_ok (X : K.In h) (G : h.Ns mainGlobals mg) {z : Str} (c : (He.Fa.str x z).ok K = true) : ∃ u, mg x = some u ∧ RelV (.str z) u := by
  obtain ⟨t, e⟩ := He.str_ok X G c
  exact ⟨_, e, t, rfl⟩
theorem cls_ok (c : (He.Fa.cls x).ok K = true) : Cls K (He.ga K x) := by
  obtain ⟨h1, h2⟩ := He.ba c
  obtain ⟨h2, h3⟩ := He.ba h2
  obtain ⟨h3, h4⟩ := He.ba h3
  exact ⟨h1, h2, h3, He.eqO_ok h4⟩
theorem mkr_ok (c : (He.Fa.mkr x).ok K = true) : Mk K (He.ga K x) (He.ma K (He.ga K x) "__init__") := by
  obtain ⟨h1, h2⟩ := He.ba c
  obtain ⟨h2, h3⟩ := He.ba h2
  obtain ⟨h3, h4⟩ := He.ba h3
  exact ⟨h1, He.eqO_ok h2, h3, h4⟩
theorem noat_ok {f : Str} (c : (He.Fa.noat x f).ok K = true) : NoAttr K (He.ga K x) f := He.eqO_ok c
abbrev XcO (K : PySem.W.Frag) (x : Str) : Prop := PySem.W.excIn K (He.ga K x) He.veBase "ValueError.__new__" = true ∧ PySem.W.keepIn K (.ref (He.ga K x)) = true ∧
  PySem.W.subIn K (.ref (He.ga K x)) (.type "BaseException") = some true ∧ PySem.W.typeIn K (.ref (He.ga K x)) = some (.type "type")
theorem exc_ok (c : (He.Fa.exc x).ok K = true) : XcO K x := by
  obtain ⟨h1, h2⟩ := He.ba c
  obtain ⟨h2, h3⟩ := He.ba h2
  obtain ⟨h3, h4⟩ := He.ba h3
  exact ⟨h1, h2, of_decide_eq_true h3, of_decide_eq_true h4⟩
theorem exm_ok {y : Str} {b : Bool} (c : (He.Fa.exm x y b).ok K = true) : PySem.W.exmOne K (.ref (He.ga K x)) (.ref (He.ga K y)) = some b := of_decide_eq_true c
end
/-! ### the checks -/
def eqB (a : Option Bool) (b : Bool) : Bool := decide (a = some b)
theorem eqB_ok {a : Option Bool} {b : Bool} (h : eqB a b = true) : a = some b := of_decide_eq_true h
def clsB (K : PySem.W.Frag) (C : Addr) : Bool := He.eqO (PySem.W.findIn K (.ref C) "__class__") (some (some (.builtin "object.__class__"))) && (He.eqO (PySem.W.specialIn K (.builtin "object.__class__") "__get__") (some (some (.builtin "getset_descriptor.__get__"))) &&
  (eqB (PySem.W.takesIn K (.builtin "object.__class__")) true && eqB (PySem.W.mroIn K C (.type "object")) true))
def kfB (x : Str) (K : PySem.W.Frag) : Bool := (He.Fa.cls x).ok K && (clsB K (He.ga K x) && ((["int", "bool", "str", "tuple"].all fun n => eqB (PySem.W.kitOne K (.ref (He.ga K x)) (.type n)) false) && (eqB (PySem.W.kitOne K (.ref (He.ga K x)) (.ref (He.ga K x))) true &&
  (["NoneType", "bool", "int", "str", "tuple", "list", "dict"].all fun n => eqB (PySem.W.kitOne K (.type n) (.ref (He.ga K x))) false))))
theorem kf_ok {x : Str} {K : PySem.W.Frag} (h : kfB x K = true) : Kf K (He.ga K x) := by
  obtain ⟨h1, h2⟩ := He.ba h
  obtain ⟨h2, h3⟩ := He.ba h2
  obtain ⟨h3, h4⟩ := He.ba h3
  obtain ⟨h4, h5⟩ := He.ba h4
  obtain ⟨g1, g2⟩ := He.ba h2
  obtain ⟨g2, g3⟩ := He.ba g2
  obtain ⟨g3, g4⟩ := He.ba g3
  have a := fun n m => eqB_ok (List.all_eq_true.mp h3 n m)
  have b := fun n m => eqB_ok (List.all_eq_true.mp h5 n m)
  exact ⟨cls_ok h1, He.eqO_ok g1, He.eqO_ok g2, eqB_ok g3, eqB_ok g4, a "int" (by simp), a "bool" (by simp), a "str" (by simp), a "tuple" (by simp), eqB_ok h4,
    b "NoneType" (by simp), b "bool" (by simp), b "int" (by simp), b "str" (by simp), b "tuple" (by simp), b "list" (by simp), b "dict" (by simp)⟩
def excB (x : Str) (K : PySem.W.Frag) : Bool := He.eqO (PySem.W.findIn K (.ref (He.ga K x)) "__getattribute__") (some (some (.builtin "BaseException.__getattribute__"))) && (He.eqO (PySem.W.findIn K (.ref (He.ga K x)) "__getattr__") (some none) &&
  (eqB (PySem.W.subIn K (.ref (He.ga K x)) (.type "BaseException")) true && (PySem.W.hasDictIn K (He.ga K x) && clsB K (He.ga K x))))
theorem excC_ok {x : Str} {K : PySem.W.Frag} (h : excB x K = true) : ExcC K (He.ga K x) := by
  obtain ⟨h1, h2⟩ := He.ba h
  obtain ⟨h2, h3⟩ := He.ba h2
  obtain ⟨h3, h4⟩ := He.ba h3
  obtain ⟨h4, h5⟩ := He.ba h4
  obtain ⟨g1, g2⟩ := He.ba h5
  obtain ⟨g2, g3⟩ := He.ba g2
  obtain ⟨g3, g4⟩ := He.ba g3
  exact ⟨He.eqO_ok h1, He.eqO_ok h2, eqB_ok h3, h4, He.eqO_ok g1, He.eqO_ok g2, eqB_ok g3, eqB_ok g4⟩
end Fl
/-! the head's Hook with checks, its part of the heap by names alone -/
namespace Fl
open PySem PySem.Spec PyProof.Rows L2
def codeA (g : Addr → Option Obj) (a : Addr) : List Addr := match g a with
  | some ⟨_, _, .func fd, _⟩ => a :: (match fd.code with
    | .ref c => [c]
    | _ => [])
  | _ => [a]
def nameA (g : Addr → Option Obj) (a : Addr) : List Addr := match g a with
  | some ⟨_, _, .func fd, _⟩ => a :: (match fd.code with
    | .ref c => [c]
    | _ => [])
  | some ⟨_, _, .cls cd, _⟩ => a :: cd.ns :: (match g cd.ns with
    | some ⟨_, _, .dict es _, _⟩ => es.toList.flatMap fun e => match e.val with
      | .ref f => codeA g f
      | _ => []
    | _ => [])
  | _ => [a]
def asN (g : Addr → Option Obj) : List Addr := mainGlobals :: (match g mainGlobals with
  | some ⟨_, _, .dict es _, _⟩ => es.toList.flatMap fun e => match e.val with
    | .ref a => nameA g a
    | _ => []
  | _ => [])
def obsNK (ck : List Ck) (fa : List He.Fa) (fn : List He.DefD) (g : Addr → Option Obj) : AlK := obsK ck fa fn (He.frG g (asN g))
def hookNK (ck : List Ck) (fa : List He.Fa) (fn : List He.DefD) : PySem.W.Hook where
  α := AlK
  obs := fun s => obsNK ck fa fn s.heap.get?
  val := fun _ => valK fn
  says := fun _ h => ∃ K : PySem.W.Frag, K.In h ∧ SaysK ck fa fn K
  of := fun _ _ e => ⟨_, He.frG_in, e⟩
  keeps := fun _ _ _ ⟨K, hK, c⟩ k => ⟨K, PySem.W.Frag.In.keeps hK k, c⟩
theorem obsNK_eq {ck : List Ck} {fa : List He.Fa} {fn : List He.DefD} {g : Addr → Option Obj} {s : Shared} (h : ∀ a, g a = s.heap.get? a) : obsNK ck fa fn g = (hookNK ck fa fn).obs s := by
  have e : g = s.heap.get? := funext h
  rw [e] <;> rfl
end Fl
namespace Fl
open PySem PySem.Spec PyProof.Rows L2
def teB (x : Str) (cs : List Str) (K : PySem.W.Frag) : Bool := excB x K && (eqB (PySem.W.kitAny K (.ref (He.ga K x)) (cs.map fun c => .ref (He.ga K c))) false && (eqB (PySem.W.kitOne K (.ref (He.ga K x)) (.ref (He.ga K x))) true && (eqB (PySem.W.kitOne K (.ref (He.ga K x)) (.type "ValueError")) true &&
  (eqB (PySem.W.kitAny K (.type "NoneType") (cs.map fun c => .ref (He.ga K c))) false && eqB (PySem.W.kitOne K (.type "NoneType") (.ref (He.ga K x))) false))))
theorem te_ok {x : Str} {cs : List Str} {K : PySem.W.Frag} {mg : Str → Option Value} (h : teB x cs K = true) : Te K mg x cs := by
  obtain ⟨h1, h2⟩ := He.ba h
  obtain ⟨h2, h3⟩ := He.ba h2
  obtain ⟨h3, h4⟩ := He.ba h3
  obtain ⟨h4, h5⟩ := He.ba h4
  obtain ⟨h5, h6⟩ := He.ba h5
  exact ⟨excC_ok h1, eqB_ok h2, eqB_ok h3, eqB_ok h4, eqB_ok h5, eqB_ok h6⟩
noncomputable def fn : List He.DefD := ([dS "is_number" s_is_number, dS "is_word" s_is_word, dS "is_made_of" s_is_made_of, dS "is_worth" s_is_worth, dS "is_plain" s_is_plain, dS "need_worth" s_need_worth, dS "need_plain" s_need_plain, dS "sort_of" s_sort_of, dS "kind_of" s_kind_of, dS "are_same" s_are_same, dS "are_alike" s_are_alike, dS "_law_mixed" s_law_mixed, dS "_law_begun" s_law_begun, dS "_law_next" s_law_next, dS "_law_leaf" s_law_leaf, dS "_law_worth" s_law_worth] : List He.DefD) ++ ([dS "_law_nested" s_law_nested, dS "_law_kind" s_law_kind, dS "_law_same" s_law_same, dS "_law_anew" s_law_anew, dS "_law_otherwise" s_law_otherwise, dS "_law_is" s_law_is, dS "_law_caught" s_law_caught, dS "_law_is_refused" s_law_is_refused, dS "law" s_law, dM "Function" "__init__" "Function.__init__" s_Function___init__] : List He.DefD)
noncomputable def fa : List He.Fa := ([.glo "is_number", .glo "is_word", .glo "is_made_of", .glo "is_worth", .glo "is_plain", .glo "need_worth", .glo "need_plain", .glo "sort_of", .glo "kind_of", .glo "are_same", .glo "are_alike", .glo "_law_mixed", .glo "_law_begun", .glo "_law_next", .glo "_law_leaf", .glo "_law_worth"] : List He.Fa) ++ ([.glo "_law_nested", .glo "_law_kind", .glo "_law_same", .glo "_law_anew", .glo "_law_otherwise", .glo "_law_is", .glo "_law_caught", .glo "_law_is_refused", .glo "law", .glo "Function", .glo "BadWorth", .glo "FloorError", .glo "BadFloors", .glo "BadHandle", .glo "BadLimit", .glo "BadPaper"] : List He.Fa) ++ ([.glo "BadState", .glo "NoText", .glo "TooGreat", .free "isinstance", .free "int", .free "bool", .free "str", .free "tuple", .free "abs", .free "all", .free "len", .free "range", .free "min", .free "zip", .free "list", .free "ValueError"] : List He.Fa) ++ ([.int "MOST_NUMBER" 1000000000, .int "MOST_SIGNS" 8, .str "SMALL" "abcdefghijklmnopqrstuvwxyz", .exc "BadWorth", .mkr "Function", .noat "Function" "params", .noat "Function" "part", .noat "Function" "known", .noat "Function" "mine", .exm "BadWorth" "FloorError" true] : List He.Fa)
noncomputable def ck : List Ck := [kfB "Function", teB "BadWorth" others]
abbrev R : PySem.W.OpenRow := PySem.W.OpenLaw.row PySem.Challenge.rw_floorhall_k02_alike_and_kinds
noncomputable abbrev hk : PySem.W.Hook := hookNK ck fa fn
noncomputable def ob (s : PySem.W.SharedT) : AlK := obsNK ck fa fn (HandSHeadRun.getT s)
theorem ob_eq (s : PySem.W.SharedT) : ob s = hk.obs s.abs := obsNK_eq (HandSHeadRun.getT_eq s)
abbrev nms : List Str := (["__name__", "FloorError", "BadWorth", "NoText", "BadLimit", "BadFloors", "BadState", "BadHandle", "BadPaper", "TooGreat", "MOST_NUMBER", "MOST_SIGNS", "SMALL", "Function", "is_number", "is_word"] : List PySem.Str) ++ (["is_made_of", "is_worth", "is_plain", "need_worth", "need_plain", "sort_of", "kind_of", "are_same", "are_alike", "_law_mixed", "_law_begun", "_law_next", "_law_leaf", "_law_worth", "_law_nested", "_law_kind"] : List PySem.Str) ++ (["_law_same", "_law_anew", "_law_otherwise", "_law_caught", "_law_is_refused", "_law_is"] : List PySem.Str)
theorem run (w : World) : HandSHeadRun.RunEq R (PySem.W.view R.prog [40]) hk ob 4000 nms w := by
  intro os
  kernel_rfl
theorem facts {P : Program} {w : World} {K : PySem.W.Frag} {h : Heap} {mg : Str → Option Value} (X : K.In h) (G : h.Ns mainGlobals mg) (c : SaysK ck fa fn K) (base : Heap) : Cg P w K mg base 10 "law" ["_law_script"] (spLaw K) := by
  have F_is_number := fnp_ok (x := "is_number") (q := "is_number") (st := s_is_number) X G c 0 0
  have F_is_word := fnp_ok (x := "is_word") (q := "is_word") (st := s_is_word) X G c 1 1
  have F_is_made_of := fnp_ok (x := "is_made_of") (q := "is_made_of") (st := s_is_made_of) X G c 2 2
  have F_is_worth := fnp_ok (x := "is_worth") (q := "is_worth") (st := s_is_worth) X G c 3 3
  have F_is_plain := fnp_ok (x := "is_plain") (q := "is_plain") (st := s_is_plain) X G c 4 4
  have F_need_worth := fnp_ok (x := "need_worth") (q := "need_worth") (st := s_need_worth) X G c 5 5
  have F_need_plain := fnp_ok (x := "need_plain") (q := "need_plain") (st := s_need_plain) X G c 6 6
  have F_sort_of := fnp_ok (x := "sort_of") (q := "sort_of") (st := s_sort_of) X G c 7 7
  have F_kind_of := fnp_ok (x := "kind_of") (q := "kind_of") (st := s_kind_of) X G c 8 8
  have F_are_same := fnp_ok (x := "are_same") (q := "are_same") (st := s_are_same) X G c 9 9
  have F_are_alike := fnp_ok (x := "are_alike") (q := "are_alike") (st := s_are_alike) X G c 10 10
  have F__law_mixed := fnp_ok (x := "_law_mixed") (q := "_law_mixed") (st := s_law_mixed) X G c 11 11
  have F__law_begun := fnp_ok (x := "_law_begun") (q := "_law_begun") (st := s_law_begun) X G c 12 12
  have F__law_next := fnp_ok (x := "_law_next") (q := "_law_next") (st := s_law_next) X G c 13 13
  have F__law_leaf := fnp_ok (x := "_law_leaf") (q := "_law_leaf") (st := s_law_leaf) X G c 14 14
  have F__law_worth := fnp_ok (x := "_law_worth") (q := "_law_worth") (st := s_law_worth) X G c 15 15
  have F__law_nested := fnp_ok (x := "_law_nested") (q := "_law_nested") (st := s_law_nested) X G c 16 16
  have F__law_kind := fnp_ok (x := "_law_kind") (q := "_law_kind") (st := s_law_kind) X G c 17 17
  have F__law_same := fnp_ok (x := "_law_same") (q := "_law_same") (st := s_law_same) X G c 18 18
  have F__law_anew := fnp_ok (x := "_law_anew") (q := "_law_anew") (st := s_law_anew) X G c 19 19
  have F__law_otherwise := fnp_ok (x := "_law_otherwise") (q := "_law_otherwise") (st := s_law_otherwise) X G c 20 20
  have F__law_is := fnp_ok (x := "_law_is") (q := "_law_is") (st := s_law_is) X G c 21 21
  have F__law_caught := fnp_ok (x := "_law_caught") (q := "_law_caught") (st := s_law_caught) X G c 22 22
  have F__law_is_refused := fnp_ok (x := "_law_is_refused") (q := "_law_is_refused") (st := s_law_is_refused) X G c 23 23
  have F_law := fnp_ok (x := "law") (q := "law") (st := s_law) X G c 24 24
  have F_Function___init__ := mtp_ok (C := "Function") (x := "__init__") (qn := "Function.__init__") (st := s_Function___init__) c 25
  have g_Function := He.glo_ok X G (c.d.fact 25 (f := .glo "Function") rfl)
  have g_BadWorth := He.glo_ok X G (c.d.fact 26 (f := .glo "BadWorth") rfl)
  have g_FloorError := He.glo_ok X G (c.d.fact 27 (f := .glo "FloorError") rfl)
  have g_BadFloors := He.glo_ok X G (c.d.fact 28 (f := .glo "BadFloors") rfl)
  have g_BadHandle := He.glo_ok X G (c.d.fact 29 (f := .glo "BadHandle") rfl)
  have g_BadLimit := He.glo_ok X G (c.d.fact 30 (f := .glo "BadLimit") rfl)
  have g_BadPaper := He.glo_ok X G (c.d.fact 31 (f := .glo "BadPaper") rfl)
  have g_BadState := He.glo_ok X G (c.d.fact 32 (f := .glo "BadState") rfl)
  have g_NoText := He.glo_ok X G (c.d.fact 33 (f := .glo "NoText") rfl)
  have g_TooGreat := He.glo_ok X G (c.d.fact 34 (f := .glo "TooGreat") rfl)
  have z_isinstance := He.free_ok X G (c.d.fact 35 (f := .free "isinstance") rfl)
  have z_int := He.free_ok X G (c.d.fact 36 (f := .free "int") rfl)
  have z_bool := He.free_ok X G (c.d.fact 37 (f := .free "bool") rfl)
  have z_str := He.free_ok X G (c.d.fact 38 (f := .free "str") rfl)
  have z_tuple := He.free_ok X G (c.d.fact 39 (f := .free "tuple") rfl)
  have z_abs := He.free_ok X G (c.d.fact 40 (f := .free "abs") rfl)
  have z_all := He.free_ok X G (c.d.fact 41 (f := .free "all") rfl)
  have z_len := He.free_ok X G (c.d.fact 42 (f := .free "len") rfl)
  have z_range := He.free_ok X G (c.d.fact 43 (f := .free "range") rfl)
  have z_min := He.free_ok X G (c.d.fact 44 (f := .free "min") rfl)
  have z_zip := He.free_ok X G (c.d.fact 45 (f := .free "zip") rfl)
  have z_list := He.free_ok X G (c.d.fact 46 (f := .free "list") rfl)
  have z_ValueError := He.free_ok X G (c.d.fact 47 (f := .free "ValueError") rfl)
  have c_MOST_NUMBER := ki_ok X G (c.d.fact 48 (f := .int "MOST_NUMBER" 1000000000) rfl)
  have c_MOST_SIGNS := ki_ok X G (c.d.fact 49 (f := .int "MOST_SIGNS" 8) rfl)
  have c_SMALL := ks_ok X G (c.d.fact 50 (f := .str "SMALL" "abcdefghijklmnopqrstuvwxyz") rfl)
  have x_BadWorth := exc_ok (c.d.fact 51 (f := .exc "BadWorth") rfl)
  have mk_Function := mkr_ok (c.d.fact 52 (f := .mkr "Function") rfl)
  have na_Function_params := noat_ok (c.d.fact 53 (f := .noat "Function" "params") rfl)
  have na_Function_part := noat_ok (c.d.fact 54 (f := .noat "Function" "part") rfl)
  have na_Function_known := noat_ok (c.d.fact 55 (f := .noat "Function" "known") rfl)
  have na_Function_mine := noat_ok (c.d.fact 56 (f := .noat "Function" "mine") rfl)
  have ex_BadWorth_FloorError := exm_ok (c.d.fact 57 (f := .exm "BadWorth" "FloorError" true) rfl)
  have kf := kf_ok (c.chk 0 (f := kfB "Function") rfl)
  have te := te_ok (mg := mg) (c.chk 1 (f := teB "BadWorth" others) rfl)
  have tw : Tw K mg := ⟨kf, g_Function, z_isinstance, z_int, z_bool, z_str, z_tuple, z_abs, z_all, z_len, g_BadWorth, x_BadWorth, c_MOST_NUMBER, c_MOST_SIGNS, c_SMALL⟩
  have td : Td mg := ⟨z_len⟩
  have tc : Tc K := ⟨kf, na_Function_params, na_Function_part, na_Function_known, na_Function_mine⟩
  have tr : Tr mg := ⟨z_tuple, z_range⟩
  have ts : Ts K mg := ⟨kf, z_isinstance, z_int, z_bool, z_str, z_tuple, z_len, z_zip, z_list⟩
  have to : To mg := ⟨z_isinstance, z_int, z_bool, z_str, z_tuple, z_len, z_zip, z_all⟩
  have tq : Tq K mg := ⟨z_isinstance, z_ValueError, g_FloorError, g_BadFloors, g_BadHandle, g_BadLimit, g_BadPaper, g_BadState, g_NoText, g_TooGreat, g_BadWorth, ex_BadWorth_FloorError, te⟩
  have tl : Tl K mg := ⟨kf, z_range, z_min, z_len⟩
  have B1 := ok_is_number (P := P) (w := w) (base := base) F_is_number tw
  have B2 := ok_is_word (P := P) (w := w) (base := base) F_is_word tw
  have B3 := ok_is_made_of F_is_made_of tw B1 B2
  have B4 := ok_is_worth F_is_worth B3
  have B5 := ok_is_plain F_is_plain B3
  have B6 := ok_need_worth F_need_worth tw B4
  have B7 := ok_need_plain F_need_plain tw B5
  have C1 := ok_law_mixed (P := P) (w := w) (K := K) (base := base) F__law_mixed
  have C2 := ok_law_begun (P := P) (w := w) (base := base) F__law_begun
  have C3 := ok_law_next F__law_next td C1
  have C4 := ok_law_leaf F__law_leaf C3
  have N1 := nw_Function (P := P) (w := w) (mg := mg) (base := base) F_Function___init__ tc mk_Function g_Function
  have W0 := ok_law_worth_none (P := P) (w := w) (base := base) F__law_worth
  have W1 := ok_law_worth (m := 0) F__law_worth tr C3 C4 N1 W0
  have W2 := ok_law_worth (m := 1) F__law_worth tr C3 C4 N1 W1
  have W3 := ok_law_worth (m := 2) F__law_worth tr C3 C4 N1 W2
  have W4 := ok_law_worth (m := 3) F__law_worth tr C3 C4 N1 W3
  have W5 := ok_law_worth (m := 4) F__law_worth tr C3 C4 N1 W4
  have N2 := ok_law_nested2 (P := P) (w := w) (base := base) F__law_nested tr
  have S1 := ok_sort_of (P := P) (w := w) (base := base) F_sort_of ts
  have S2 := ok_are_same F_are_same ts S1
  have S3 := ok_kind_of F_kind_of ts B6 S1
  have S4 := ok_are_alike F_are_alike ts B7 S2
  have K1 := ok_law_kind (P := P) (w := w) (base := base) F__law_kind ts
  have M0 := ok_law_same_none (P := P) (w := w) (base := base) F__law_same
  have M1 := ok_law_same (m := 0) F__law_same ts to K1 M0
  have M2 := ok_law_same (m := 1) F__law_same ts to K1 M1
  have M3 := ok_law_same (m := 2) F__law_same ts to K1 M2
  have M4 := ok_law_same (m := 3) F__law_same ts to K1 M3
  have M5 := ok_law_same (m := 4) F__law_same ts to K1 M4
  have M6 := ok_law_same (m := 5) F__law_same ts to K1 M5
  have A0 := ok_law_anew_none (P := P) (w := w) (base := base) F__law_anew
  have A1 := ok_law_anew (m := 0) F__law_anew ts A0
  have A2 := ok_law_anew (m := 1) F__law_anew ts A1
  have A3 := ok_law_anew (m := 2) F__law_anew ts A2
  have A4 := ok_law_anew (m := 3) F__law_anew ts A3
  have A5 := ok_law_anew (m := 4) F__law_anew ts A4
  have A6 := ok_law_anew (m := 5) F__law_anew ts A5
  have O0 := ok_law_otherwise_none (P := P) (w := w) (base := base) F__law_otherwise
  have O1 := ok_law_otherwise (m := 0) F__law_otherwise ts O0
  have O2 := ok_law_otherwise (m := 1) F__law_otherwise ts O1
  have O3 := ok_law_otherwise (m := 2) F__law_otherwise ts O2
  have O4 := ok_law_otherwise (m := 3) F__law_otherwise ts O3
  have O5 := ok_law_otherwise (m := 4) F__law_otherwise ts O4
  have O6 := ok_law_otherwise (m := 5) F__law_otherwise ts O5
  have Q1 := ok_law_is_refused (P := P) (w := w) (base := base) F__law_is_refused tq
  have Q2 := ok_law_caught F__law_caught tq S4 S3
  have Q3 := ok_law_is (P := P) (w := w) (K := K) (base := base) F__law_is to
  exact ok_law F_law tl C2 C3 W5 N2 K1 M6 A6 O6 Q2 Q1 Q3 S4 S3 N1
end Fl
open PySem PySem.W PySem.Calls PyProof.Rows
theorem PySem.Challenge.cw_floorhall_k02_alike_and_kinds_holds : PySem.Challenge.rw_floorhall_k02_alike_and_kinds.Holds := by
  w_on; o_law
  refine HandSHeadRun.head_any (r := OpenLaw.row PySem.Challenge.rw_floorhall_k02_alike_and_kinds) (q := view (OpenLaw.row PySem.Challenge.rw_floorhall_k02_alike_and_kinds).prog [40]) (H := Fl.hk) (ob := Fl.ob) (M := 4000) (loose := Fl.nms) (d := HandSHeadRun.topDef (OpenLaw.row PySem.Challenge.rw_floorhall_k02_alike_and_kinds).prog 40) (kwd := []) Fl.ob_eq
    (by kernel_rfl) (fun s => by kernel_rfl) Fl.run (by kernel_rfl) (by kernel_rfl) (by kernel_rfl) (by rfl) (by first | assumption | decide +kernel) (by decide +kernel) ⟨rfl, rfl, rfl, rfl, rfl, by decide +kernel⟩ ?hw ?hc
  case hw => w_witness2
  case hc =>
    refine Fl.walk_ofN (l := PySem.Challenge.rw_floorhall_k02_alike_and_kinds) (n := 63) (k := 10) (x := "_law_script") (y := "law") rfl (by decide) (by kernel_rfl) ⟨rfl, by decide, by decide⟩ (by kernel_rfl) ?F
    intro w mg h Y G
    obtain ⟨K, KX, c⟩ := Y
    exact ⟨K, Fl.spLaw K, KX, fun H a ns hl hO hS => ⟨_, rfl, a, ns, rfl, Fl.scr_of hO hS, hl, fun _ => rfl⟩, fun base => Fl.facts KX G c base⟩
