import PyProof.Rows.All
import Wide.All
import OpenK.AllK
import Wide.FinOn
import KE.KStateDown
import HandS.ForMost
import HandS.ForExc
import HandS.IsInst
import HandS.Wide
import HandS.Conv
import HandS.TupAny
import HandS.TupMul
import HandS.TupLe
import HandS.Deep
import HandS.Zip
import HandS.Flow
import HandS.Codes
import HandS.Head2
import HandS.HeadEnd
import HandS.HeadHook2
import HandS.EndBits
import HandS.Walk
import PySem.Challenge.RW_floorhall_k06_whole_one_text_a_worth
import PyProof.ReprRoads
import PyProof.ReprReads
import PyProof.CallFns
import HandS.RaiseMore
import HandS.ExcIs
import HandS.ExcValue
import HandS.TryOnly
import HandS.GenList
import KE.KDictZip
import PyProof.InstEq
import PyProof.NeKinds
set_option Elab.async false
set_option linter.all false
set_option maxRecDepth 100000
set_option maxHeartbeats 0
namespace Fl
open PySem PySem.Spec PyProof.Rows L2

/-! ### things: what the laws hand about, without the heap -/
inductive Th where
  | non | bl (b : Bool) | int (i : Int) | str (x : Str) | tup (l : List Th) | fn (l : List Th) | oth
def isSign (c : Nat) : Bool := Nat.ble 97 c && Nat.ble c 122
def sTrue : Str := "true"
def sFalse : Str := "false"
def wordB (x : Str) : Bool := decide (1 ≤ x.length) && (decide (x.length ≤ 8) && (!decide (x = sTrue) && (!decide (x = sFalse) && x.cps.toList.all isSign)))
def numB (i : Int) : Bool := decide (-1000000000 ≤ i) && decide (i ≤ 1000000000)
mutual
def Th.worth (f : Bool) : Th → Bool
  | .non => false
  | .bl _ => true
  | .int i => numB i
  | .str x => wordB x
  | .tup l => Th.worths f l
  | .fn _ => f
  | .oth => false
def Th.worths (f : Bool) : List Th → Bool
  | [] => true
  | t :: r => t.worth f && Th.worths f r
end
mutual
def Th.nodes : Th → Nat
  | .tup l => Th.nodesL l + 1
  | .non => 1
  | .bl _ => 1
  | .int _ => 1
  | .str _ => 1
  | .fn _ => 1
  | .oth => 1
def Th.nodesL : List Th → Nat
  | [] => 0
  | t :: r => t.nodes + Th.nodesL r
end
mutual
def Th.depth : Th → Nat
  | .tup l => Th.depthL l + 1
  | .non => 0
  | .bl _ => 0
  | .int _ => 0
  | .str _ => 0
  | .fn _ => 0
  | .oth => 0
def Th.depthL : List Th → Nat
  | [] => 0
  | t :: r => max t.depth (Th.depthL r)
end
theorem depthL_app (a b : List Th) : Th.depthL (a ++ b) = max (Th.depthL a) (Th.depthL b) := by
  induction a with
  | nil => simp [Th.depthL]
  | cons t r ih => rw [List.cons_append, Th.depthL, Th.depthL, ih]; omega
theorem Th.nodes_pos (t : Th) : 1 ≤ t.nodes := by cases t <;> simp [Th.nodes]
theorem nodesL_app (a b : List Th) : Th.nodesL (a ++ b) = Th.nodesL a + Th.nodesL b := by
  induction a with
  | nil => simp [Th.nodesL]
  | cons t r ih => rw [List.cons_append, Th.nodesL, Th.nodesL, ih]; omega
theorem worths_app (f : Bool) (a b : List Th) : Th.worths f (a ++ b) = (Th.worths f a && Th.worths f b) := by
  induction a with
  | nil => simp [Th.worths]
  | cons t r ih => rw [List.cons_append, Th.worths, Th.worths, ih, Bool.and_assoc]
theorem len_nodesL (a : List Th) : a.length ≤ Th.nodesL a := by
  induction a with
  | nil => exact Nat.zero_le _
  | cons t r ih =>
    have := t.nodes_pos
    rw [Th.nodesL, List.length_cons]
    omega

/-! ### what stands for what -/
/-- the fields of a function -/
def fnF (n b s o : V) : List (Str × V) := putF "mine" o (putF "known" s (putF "part" b (putF "params" n [])))
mutual
inductive Is (C : Addr) (H : Hp) : V → Th → Prop
  | non : Is C H .non .non
  | bl (b : Bool) : Is C H (.bl b) (.bl b)
  | int (i : Int) : Is C H (.int i) (.int i)
  | str (x : Str) (h : x.length ≤ 100000) : Is C H (.str x) (.str x)
  | tup {p : Addr} {xs : List V} {ts : List Th} : H p = some (.tup xs) → Iss C H xs ts → Is C H (.ref p) (.tup ts)
  | fn {a dx : Addr} {n b s o : V} {l : List Th} : H a = some (.ins C dx (fnF n b s o)) → Iss C H [n, b, s, o] l → Is C H (.ref a) (.fn l)
  | lst {a : Addr} {xs : List V} : H a = some (.lst xs) → Is C H (.ref a) .oth
  | dct {a : Addr} {kvs : List (Key × V)} : H a = some (.dK kvs) → Is C H (.ref a) .oth
inductive Iss (C : Addr) (H : Hp) : List V → List Th → Prop
  | nil : Iss C H [] []
  | cons {v : V} {vs : List V} {t : Th} {ts : List Th} : Is C H v t → Iss C H vs ts → Iss C H (v :: vs) (t :: ts)
end
theorem Iss.len {C : Addr} {H : Hp} : ∀ {xs : List V} {ts : List Th}, Iss C H xs ts → xs.length = ts.length
  | _, _, .nil => rfl
  | _, _, .cons _ r => congrArg Nat.succ r.len
theorem Iss.app {C : Addr} {H : Hp} : ∀ {xs ys : List V} {ts us : List Th}, Iss C H xs ts → Iss C H ys us → Iss C H (xs ++ ys) (ts ++ us)
  | _, _, _, _, .nil, s => s
  | _, _, _, _, .cons h r, s => .cons h (r.app s)
theorem Iss.one {C : Addr} {H : Hp} {v : V} {t : Th} (h : Is C H v t) : Iss C H [v] [t] := .cons h .nil
/-- the last of some -/
theorem Iss.last {C : Addr} {H : Hp} : ∀ {xs : List V} {ts : List Th}, Iss C H xs ts → xs ≠ [] → ∃ (ys : List V) (y : V) (us : List Th) (u : Th), xs = ys ++ [y] ∧ ts = us ++ [u] ∧ Iss C H ys us ∧ Is C H y u
  | _, _, .nil, h => absurd rfl h
  | _, _, .cons (vs := []) h r, _ => by
    cases r
    exact ⟨[], _, [], _, rfl, rfl, .nil, h⟩
  | _, _, .cons (vs := a :: b) h r, _ => by
    obtain ⟨ys, y, us, u, e1, e2, h1, h2⟩ := r.last (List.cons_ne_nil _ _)
    exact ⟨_ :: ys, y, _ :: us, u, by rw [e1]; rfl, by rw [e2]; rfl, .cons h h1, h2⟩
mutual
theorem Is.same {C : Addr} {H H' : Hp} (s : Same H H') : ∀ {v : V} {t : Th}, Is C H v t → Is C H' v t
  | _, _, .non => .non
  | _, _, .bl b => .bl b
  | _, _, .int i => .int i
  | _, _, .str x h => .str x h
  | _, _, .tup h r => .tup (s _ _ h) (r.same s)
  | _, _, .fn h r => .fn (s _ _ h) (r.same s)
  | _, _, .lst h => .lst (s _ _ h)
  | _, _, .dct h => .dct (s _ _ h)
theorem Iss.same {C : Addr} {H H' : Hp} (s : Same H H') : ∀ {xs : List V} {ts : List Th}, Iss C H xs ts → Iss C H' xs ts
  | _, _, .nil => .nil
  | _, _, .cons h r => .cons (h.same s) (r.same s)
end
theorem same_new {H : Hp} {p : Addr} (h : H p = none) (o : HO) : Same H (upd H p o) := fun b u q => by rw [upd_ne (ne_of_none q h)]; exact q
/-- an object that is not of H may change -/
theorem same_mut {H H' : Hp} {p : Addr} {o : HO} (e : Same H H') (h : H p = none) : Same H (upd H' p o) := fun a u ha => by
  rw [upd_ne (ne_of_none ha h)]
  exact e a u ha

/-! ### further rules of the layer -/
theorem extend_tup (l : Addr) (items : Array Value) (n : Nat) (b : Addr) (items2 : Array Value) (n2 : Nat) (dd : Option Addr) (sl : Array (Option Value))
    (a0 : ¬(!items.isEmpty && Builtin.List.listTooLong (items.size + items2.size)) = true) (a1 : items.size ≤ sizeLine) (a2 : items.size + items2.size ≤ sizeLine + 1) :
    Meets (Builtin.«list.extend» ⟨[.ref l, .ref b], []⟩) (fun _ R s => s.heap.get? l = some { cls := .type "list", dict := none, data := .seq items n, slots := #[] } ∧
      s.heap.get? b = some { cls := .type "tuple", dict := dd, data := .seq items2 n2, slots := sl } ∧ R (.ok (.ret Value.none)) { s with heap := s.heap.update l (Obj.mapSeq fun x => x ++ items2), toks := s.toks }) :=
  .of_wp fun prog w A R s h => by
    obtain ⟨hp, g, d, tk, os⟩ := s
    obtain ⟨hl, hb, h⟩ := h
    have f1 := AutoSeq1.idx_int
    have f2 := AutoSeq1.sub_tuple_tuple
    have f3 := AutoSeq1.sub_list_list
    have f4 := AutoSeq1.sub_tuple_list
    have f5 := AutoSeq1.sub_list_tuple
    have a3 : (items ++ items2).size ≤ sizeLine + 1 := by
      rw [Array.size_append]
      exact a2
    wp_walk using (wpAny_updateSeq hl rfl (hz := a1) (_hz' := a3)), wpAny_loadPart' hl, wpAny_loadPart' hb
    exact ⟨_, rfl, h⟩
section
variable {X : Cx}
/-- xs.extend(t), t a tuple -/
def rExtT (K : PySem.W.Frag) : V → List V → Hp → VK → Prop := fun x vs H Q => ∃ l b xs zs, x = .ref l ∧ vs = [.ref b] ∧ H l = some (.lst xs) ∧ SqT K H b zs ∧ xs.length + zs.length ≤ sizeLine ∧ Q .non (upd H l (.lst (xs ++ zs)))
theorem mt_extT : MtM X "list.extend" (rExtT X.K) := by
  intro pins s σ H x vs v us Q I rx rv h
  obtain ⟨l, b, xs, zs, rfl, rfl, hH, hB, hz, q⟩ := h
  cases rx
  obtain ⟨u, rfl, ru⟩ := rv.one
  cases ru
  obtain ⟨_, its, n, r, hl, e⟩ := I.lstM hH
  obtain ⟨its2, r2, ⟨⟨cls, dd, data, sl⟩, ho, hc, n2, hd⟩, _⟩ := I.tuple hB
  simp only at hc hd
  subst hc hd
  have hl2 := r2.length
  have g1 : its.toArray.size ≤ sizeLine := by
    rw [List.size_toArray]
    omega
  have g2 : its.toArray.size + its2.toArray.size ≤ sizeLine := by
    rw [List.size_toArray, List.size_toArray]
    omega
  have g3 : ¬ (!its.toArray.isEmpty && Builtin.List.listTooLong (its.toArray.size + its2.toArray.size)) = true := by
    rw [notLongL g2, Bool.and_false]
    intro z
    cases z
  refine call_meets F.slot_list_extend ⟨_, e, rfl⟩ F.entry_list_extend (F.args_list_extend_2 _ _) (extend_tup l its.toArray n b its2.toArray n2 dd sl g3 g1 (by omega)) ⟨e, ho, ?_⟩
  exact ⟨.non, _, I.lset (its' := its ++ its2) hH e (by simp) (r.append r2) (by rw [List.length_append]; omega), rfl, q⟩
end
end Fl
namespace Fl
open PySem PySem.Spec PyProof.Rows L2

theorem hu64 {A : Around} {k : Nat} (hr : Room k A) : A.units + 64 < cLine := hr.units

/-! ### defs by name -/
theorem pe_gk {X : Cx} {x : Str} {v : V} {pos : Pos} (hg : Gl X x) (h : ∃ u, X.mg x = some u ∧ RelV v u) (hd : (x == ("__debug__" : Str)) = false := by decide) : PE X (.Name x pos) (tC v) := by
  obtain ⟨u, e, r⟩ := h
  exact pe_glob hg e r hd

def bindOk (st : Stmt) (x : Str) (ps : List Str) : Prop := ∀ (kV doc pm : Value) (an : Option Addr) (cdv ct : Value) (us : List Value), us.length = ps.length →
  bindArgs (PySem.W.fnOf x x (defArgs st) (defBody st) (defScope st) .none kV doc pm an cdv ct) ⟨us, []⟩ = pure (ps.zip us)
/-- the def st, by its own name q, stands behind the name x -/
structure FnP (K : PySem.W.Frag) (mg : Str → Option Value) (x : Str) (st : Stmt) (q : Str := x) : Prop where
  ex : ∃ fd, FunD K q q (defArgs st) (defBody st) (defScope st) [] [] (He.ga K x) fd
  gl : mg x = some (.ref (He.ga K x))
/-- the name x stands for a def that keeps the promise sp -/
structure Cl (P : Program) (w : World) (K : PySem.W.Frag) (mg : Str → Option Value) (base : Heap) (k : Nat) (x : Str) (ps : List Str) (sp : Sp) : Prop where
  ex : ∃ f fd, FnOk P w K mg base (L2.CX P w) k f fd ps sp ∧ Binds K fd ps [] ∧ PySem.W.keepIn K (.ref f) = true ∧ mg x = some (.ref f)
section
variable {X : Cx} {k j : Nat} {x : Str} {ps : List Str} {sp : Sp} {E : XK} {p pos : Pos} {e : Expr} {es : List Expr} {t : TA}
theorem pe_b (c : Cl X.prog X.w X.K X.mg X.base k x ps sp) (hr : Room j X.A) (hk : k ≤ j) (hg : Gl X x) (hx : Passes (L2.CX X.prog X.w) X E) (ha : PA X (e :: es) t) (hdb : (x == ("__debug__" : Str)) = false := by decide)
    (he : starEach (e :: es) X.env = (false, eval e X.env) :: starEach es X.env := by rfl) (hpl : (backTo pos (starEach es X.env)).any (·.1) = false := by rfl) : PE X (.Call (.Name x p) (e :: es) [] pos) (tCall sp [] E t) := by
  obtain ⟨f, fd, F, b, kp, g⟩ := c.ex
  exact pe_call F (hr.mono hk) hg g kp b .nil hx ha hdb he hpl
theorem pe_bS {E : L2.St → XK} (c : Cl X.prog X.w X.K X.mg X.base k x ps sp) (hr : Room j X.A) (hk : k ≤ j) (hg : Gl X x) (hx : ∀ σ, PassesAt (L2.CX X.prog X.w) X σ (E σ)) (ha : PA X (e :: es) t) (hdb : (x == ("__debug__" : Str)) = false := by decide)
    (he : starEach (e :: es) X.env = (false, eval e X.env) :: starEach es X.env := by rfl) (hpl : (backTo pos (starEach es X.env)).any (·.1) = false := by rfl) : PE X (.Call (.Name x p) (e :: es) [] pos) (tCallS sp E t) := by
  obtain ⟨f, fd, F, b, kp, g⟩ := c.ex
  exact pe_callS F (hr.mono hk) hg g kp b hx ha hdb he hpl
end
section
variable {P : Program} {w : World} {K : PySem.W.Frag} {mg : Str → Option Value} {base : Heap} {x : Str} {st : Stmt} {N ps : List Str} {k : Nat} {sp : Sp}
theorem Cl.imp {sp' : Sp} (c : Cl P w K mg base k x ps sp) (h : ∀ vs H Q E, sp' vs H Q E → sp vs H Q E) : Cl P w K mg base k x ps sp' := by
  obtain ⟨f, fd, F, b, kp, g⟩ := c.ex
  exact ⟨f, fd, F.imp h, b, kp, g⟩
theorem cl_mk {q : Str} (F : FnP K mg x st q) (S : FnScope N ps (defScope st)) (hb : bindOk st q ps) (len : ∀ vs H Q E, sp vs H Q E → vs.length = ps.length)
    (body : ∀ (cdv : Value) (A : Around) (outer : List Env) (s : Shared) (H : Hp) (vs : List V) (Q : VK) (E : XK), Room k (A.deeper (envOfC q (defScope st) s.heap.objs.size (He.ga K x) cdv)) → sp vs H Q E →
      ∃ t, PSs (cxOf (L2.CX P w) P w K mg base N q (defScope st) (He.ga K x) cdv A outer s H E) (defBody st) t ∧ t { nx := fun _ H' => Q .non H', rt := Q } (start N vs) H) : Cl P w K mg base (k + 1) x ps sp := by
  obtain ⟨fd, D⟩ := F.ex
  refine ⟨_, fd, D.ok S len body, ?_, D.kp, F.gl⟩
  obtain ⟨oc, od, dV, kV, doc, pm, an, cdv, ct, osl, rfl, lk, hcd, hd, hkw⟩ := D.ex
  rcases hd with ⟨_, e⟩ | ⟨e, _⟩
  · subst e
    exact Binds.all fun us hl => hb kV doc pm an cdv ct us hl
  · exact absurd rfl e
end
def sp1 (f : V → Hp → VK → XK → Prop) : Sp := fun vs H Q E => ∃ a, vs = [a] ∧ f a H Q E
def sp2 (f : V → V → Hp → VK → XK → Prop) : Sp := fun vs H Q E => ∃ a b, vs = [a, b] ∧ f a b H Q E
def sp3 (f : V → V → V → Hp → VK → XK → Prop) : Sp := fun vs H Q E => ∃ a b c, vs = [a, b, c] ∧ f a b c H Q E
def sp4 (f : V → V → V → V → Hp → VK → XK → Prop) : Sp := fun vs H Q E => ∃ a b c d, vs = [a, b, c, d] ∧ f a b c d H Q E
section
variable {P : Program} {w : World} {K : PySem.W.Frag} {mg : Str → Option Value} {base : Heap} {x p1 p2 p3 : Str} {st : Stmt} {N : List Str} {k : Nat}
theorem cl_1 {f : V → Hp → VK → XK → Prop} {q : Str} (F : FnP K mg x st q) (S : FnScope N [p1] (defScope st)) (hb : bindOk st q [p1])
    (body : ∀ (cdv : Value) (A : Around) (outer : List Env) (s : Shared) (H : Hp) (a : V) (Q : VK) (E : XK), Room k (A.deeper (envOfC q (defScope st) s.heap.objs.size (He.ga K x) cdv)) → f a H Q E →
      ∃ t, PSs (cxOf (L2.CX P w) P w K mg base N q (defScope st) (He.ga K x) cdv A outer s H E) (defBody st) t ∧ t { nx := fun _ H' => Q .non H', rt := Q } (start N [a]) H) : Cl P w K mg base (k + 1) x [p1] (sp1 f) :=
  cl_mk F S hb (fun vs H Q E h => by obtain ⟨a, rfl, _⟩ := h; rfl) fun cdv A outer s H vs Q E hr h => by
    obtain ⟨a, rfl, h⟩ := h
    exact body cdv A outer s H a Q E hr h
theorem cl_2 {f : V → V → Hp → VK → XK → Prop} {q : Str} (F : FnP K mg x st q) (S : FnScope N [p1, p2] (defScope st)) (hb : bindOk st q [p1, p2])
    (body : ∀ (cdv : Value) (A : Around) (outer : List Env) (s : Shared) (H : Hp) (a b : V) (Q : VK) (E : XK), Room k (A.deeper (envOfC q (defScope st) s.heap.objs.size (He.ga K x) cdv)) → f a b H Q E →
      ∃ t, PSs (cxOf (L2.CX P w) P w K mg base N q (defScope st) (He.ga K x) cdv A outer s H E) (defBody st) t ∧ t { nx := fun _ H' => Q .non H', rt := Q } (start N [a, b]) H) : Cl P w K mg base (k + 1) x [p1, p2] (sp2 f) :=
  cl_mk F S hb (fun vs H Q E h => by obtain ⟨a, b, rfl, _⟩ := h; rfl) fun cdv A outer s H vs Q E hr h => by
    obtain ⟨a, b, rfl, h⟩ := h
    exact body cdv A outer s H a b Q E hr h
theorem cl_3 {f : V → V → V → Hp → VK → XK → Prop} {q : Str} (F : FnP K mg x st q) (S : FnScope N [p1, p2, p3] (defScope st)) (hb : bindOk st q [p1, p2, p3])
    (body : ∀ (cdv : Value) (A : Around) (outer : List Env) (s : Shared) (H : Hp) (a b c : V) (Q : VK) (E : XK), Room k (A.deeper (envOfC q (defScope st) s.heap.objs.size (He.ga K x) cdv)) → f a b c H Q E →
      ∃ t, PSs (cxOf (L2.CX P w) P w K mg base N q (defScope st) (He.ga K x) cdv A outer s H E) (defBody st) t ∧ t { nx := fun _ H' => Q .non H', rt := Q } (start N [a, b, c]) H) : Cl P w K mg base (k + 1) x [p1, p2, p3] (sp3 f) :=
  cl_mk F S hb (fun vs H Q E h => by obtain ⟨a, b, c, rfl, _⟩ := h; rfl) fun cdv A outer s H vs Q E hr h => by
    obtain ⟨a, b, c, rfl, h⟩ := h
    exact body cdv A outer s H a b c Q E hr h
end

/-! ### classes by name -/
/-- the name x stands for a class at C whose __init__ keeps the promise sp -/
structure Nw (P : Program) (w : World) (K : PySem.W.Frag) (mg : Str → Option Value) (base : Heap) (k : Nat) (x : Str) (C : Addr) (ps : List Str) (sp : Sp) : Prop where
  ex : ∃ f fd, Mk K C f ∧ FnOk P w K mg base (L2.CX P w) k f fd ps sp ∧ Binds K fd ps [] ∧ mg x = some (.ref C)
section
variable {X : Cx} {k j : Nat} {x : Str} {C : Addr} {ps : List Str} {sp : Sp} {E : XK} {p pos : Pos} {e : Expr} {es : List Expr} {t : TA}
theorem pe_new (c : Nw X.prog X.w X.K X.mg X.base k x C ps sp) (hr : Room j X.A) (hk : k + 1 ≤ j) (hg : Gl X x) (hx : Passes (L2.CX X.prog X.w) X E) (ha : PA X (e :: es) t) (hdb : (x == ("__debug__" : Str)) = false := by decide)
    (he : starEach (e :: es) X.env = (false, eval e X.env) :: starEach es X.env := by rfl) (hpl : (backTo pos (starEach es X.env)).any (·.1) = false := by rfl) : PE X (.Call (.Name x p) (e :: es) [] pos) (tMake C sp [] E t) := by
  obtain ⟨f, fd, M, F, b, g⟩ := c.ex
  exact pe_make M F (hr.mono hk) hg g b .nil hx ha hdb he hpl
end
/-- the method st stands in the class at C by the name x (qualified qn) -/
structure MtP (K : PySem.W.Frag) (C : Addr) (x qn : Str) (st : Stmt) : Prop where
  ex : ∃ fd, FunD K x qn (defArgs st) (defBody st) (defScope st) [] [] (He.ma K C x) fd
def bindOkM (st : Stmt) (x qn : Str) (ps : List Str) : Prop := ∀ (kV doc pm : Value) (an : Option Addr) (cdv ct : Value) (us : List Value), us.length = ps.length →
  bindArgs (PySem.W.fnOf x qn (defArgs st) (defBody st) (defScope st) .none kV doc pm an cdv ct) ⟨us, []⟩ = pure (ps.zip us)
theorem mt_mk {P : Program} {w : World} {K : PySem.W.Frag} {mg : Str → Option Value} {base : Heap} {C : Addr} {x qn : Str} {st : Stmt} {N ps : List Str} {k : Nat} {sp : Sp} (F : MtP K C x qn st) (S : FnScope N ps (defScope st)) (hb : bindOkM st x qn ps)
    (len : ∀ vs H Q E, sp vs H Q E → vs.length = ps.length)
    (body : ∀ (cdv : Value) (A : Around) (outer : List Env) (s : Shared) (H : Hp) (vs : List V) (Q : VK) (E : XK), Room k (A.deeper (envOfC qn (defScope st) s.heap.objs.size (He.ma K C x) cdv)) → sp vs H Q E →
      ∃ t, PSs (cxOf (L2.CX P w) P w K mg base N qn (defScope st) (He.ma K C x) cdv A outer s H E) (defBody st) t ∧ t { nx := fun _ H' => Q .non H', rt := Q } (start N vs) H) :
    ∃ fd, FnOk P w K mg base (L2.CX P w) (k + 1) (He.ma K C x) fd ps sp ∧ Binds K fd ps [] := by
  obtain ⟨fd, D⟩ := F.ex
  refine ⟨fd, D.ok S len body, ?_⟩
  obtain ⟨oc, od, dV, kV, doc, pm, an, cdv, ct, osl, rfl, lk, hcd, hd, hkw⟩ := D.ex
  rcases hd with ⟨_, e⟩ | ⟨e, _⟩
  · subst e
    exact Binds.all fun us hl => hb kV doc pm an cdv ct us hl
  · exact absurd rfl e

/-! ### a list beside the empty one -/
section
variable {X : Cx}
def rNil (K : PySem.W.Frag) (ne : Bool) : R2 := fun x y H Q => ∃ l p xs, x = .ref l ∧ y = .ref p ∧ SqL K H l xs ∧ SqL K H p [] ∧ Q (.bl (if ne then !xs.isEmpty else xs.isEmpty)) H
theorem op_neNil (hu : X.A.units < cLine) : OpR X (compareOp .NotEq) (rNil X.K true) := by
  intro pins s σ H x y v u Q I rx ry h
  obtain ⟨l, p, xs, rfl, rfl, hl, hp, q⟩ := h
  cases rx
  cases ry
  obtain ⟨its, r, p1, _⟩ := I.list hl
  obtain ⟨its2, r2, p2, _⟩ := I.list hp
  cases r2
  have l1 : s.heap.IsList l its.toArray := p1.isList
  have l2 : s.heap.IsList p ([] : List Value).toArray := p2.isList
  cases r with
  | nil => exact SeqAt.RcNeAt.lists (e := fun _ => true) l1 l2 rfl hu (fun j h1 _ => absurd h1 (Nat.not_lt_zero _)) X.prog X.w X.xe _ ⟨.bl false, H, I, rfl, q⟩
  | cons r1 r2 => exact SeqAt.RcNeAt.lists_lengths l1 l2 (by simp) hu X.prog X.w X.xe _ ⟨.bl true, H, I, rfl, q⟩
theorem op_eqNil (hu : X.A.units < cLine) : OpR X (compareOp .Eq) (rNil X.K false) := by
  intro pins s σ H x y v u Q I rx ry h
  obtain ⟨l, p, xs, rfl, rfl, hl, hp, q⟩ := h
  cases rx
  cases ry
  obtain ⟨its, r, p1, _⟩ := I.list hl
  obtain ⟨its2, r2, p2, _⟩ := I.list hp
  cases r2
  have l1 : s.heap.IsList l its.toArray := p1.isList
  have l2 : s.heap.IsList p ([] : List Value).toArray := p2.isList
  cases r with
  | nil => exact SeqAt.RcAt.lists (e := fun _ => true) l1 l2 rfl hu (fun j h1 _ => absurd h1 (Nat.not_lt_zero _)) X.prog X.w X.xe _ ⟨.bl true, H, I, rfl, q⟩
  | cons r1 r2 => exact SeqAt.RcAt.lists_lengths l1 l2 (by simp) hu X.prog X.w X.xe _ ⟨.bl false, H, I, rfl, q⟩
end

/-! ### tuples -/
section
variable {X : Cx} {K : PySem.W.Frag} {H : Hp} {Q : VK} {a b : Addr} {xs ys : List V}
def rTupNil (K : PySem.W.Frag) (ne : Bool) : R2 := fun x y H Q => (∃ p q xs, x = .ref p ∧ y = .ref q ∧ H p = some (.tup xs) ∧ H q = some (.tup []) ∧ Q (.bl (if ne then !xs.isEmpty else xs.isEmpty)) H)
theorem op_eqTN (hu : X.A.units < cLine) : OpR X (compareOp .Eq) (rTupNil X.K false) := by
  intro pins s σ H x y v u Q I rx ry h
  obtain ⟨p, q, xs, rfl, rfl, hp, hq, k⟩ := h
  cases rx
  cases ry
  obtain ⟨its, r, p1, _⟩ := I.tuple (SqT.of (K := X.K) hp)
  obtain ⟨its2, r2, p2, _⟩ := I.tuple (SqT.of (K := X.K) hq)
  cases r2
  refine SeqAt.RcAt.tuples (e := fun _ => true) p1 p2 hu (fun j _ h2 => absurd h2 (Nat.not_lt_zero _)) X.prog X.w X.xe _ ?_
  cases r with
  | nil => exact ⟨.bl true, H, I, rfl, k⟩
  | cons r1 r2 => exact ⟨.bl false, H, I, by simp; rfl, k⟩
theorem op_neTN (hu : X.A.units < cLine) : OpR X (compareOp .NotEq) (rTupNil X.K true) := by
  intro pins s σ H x y v u Q I rx ry h
  obtain ⟨p, q, xs, rfl, rfl, hp, hq, k⟩ := h
  cases rx
  cases ry
  obtain ⟨its, r, p1, _⟩ := I.tuple (SqT.of (K := X.K) hp)
  obtain ⟨its2, r2, p2, _⟩ := I.tuple (SqT.of (K := X.K) hq)
  cases r2
  refine SeqAt.RcNeAt.tuples (e := fun _ => true) p1 p2 hu (fun j _ h2 => absurd h2 (Nat.not_lt_zero _)) X.prog X.w X.xe _ ?_
  cases r with
  | nil => exact ⟨.bl false, H, I, rfl, k⟩
  | cons r1 r2 => exact ⟨.bl true, H, I, by simp; rfl, k⟩
/-- t + u, what comes is a tuple of both -/
theorem rd_cat (ha : H a = some (.tup xs)) (hb : H b = some (.tup ys)) (hl : xs.length + ys.length ≤ sizeLine) (q : ∀ p H', Same H H' → H' p = some (.tup (xs ++ ys)) → Q (.ref p) H') : rCatA K (.ref a) (.ref b) H Q := by
  refine ⟨a, b, xs, ys, rfl, rfl, SqT.of ha, SqT.of hb, hl, fun e => ?_, fun _ e => ?_, fun _ _ p np => ?_⟩
  · subst e
    exact q b H (.refl _) hb
  · subst e
    rw [List.append_nil] at q
    exact q a H (.refl _) ha
  · exact q p _ (same_new np _) upd_same
theorem sIx_none0 (n d : Nat) : HT.sIx n d none = d := rfl
theorem sIx_pos {n d : Nat} {i : Int} (h : 0 ≤ i) : HT.sIx n d (some i) = min i.toNat n := by
  obtain ⟨j, rfl⟩ : ∃ j : Nat, i = (j : Int) := ⟨i.toNat, by omega⟩
  exact HT.sIx_nat n d j
/-- t[:i] -/
theorem rd_take {i : Int} (ha : H a = some (.tup xs)) (h0 : 0 ≤ i) (q : ∀ p H', Same H H' → H' p = some (.tup (xs.take i.toNat)) → Q (.ref p) H') : rSlA K (.ref a) none (some i) H Q := by
  refine ⟨a, xs, rfl, SqT.of ha, fun e => ?_, fun _ p np => ?_⟩
  · obtain ⟨_, e2⟩ := e
    rw [sIx_pos h0] at e2
    have : xs.take i.toNat = xs := List.take_of_length_le (by omega)
    rw [this] at q
    exact q a H (.refl _) ha
  · refine q p _ (same_new np _) ?_
    rw [upd_same]
    unfold cutV
    rw [sIx_none0, sIx_pos h0, List.drop_zero, Nat.sub_zero]
    by_cases hi : i.toNat ≤ xs.length
    · rw [Nat.min_eq_left hi]
    · rw [Nat.min_eq_right (by omega), List.take_of_length_le (Nat.le_refl _), List.take_of_length_le (by omega)]
/-- t[i:] -/
theorem rd_drop {i : Int} (ha : H a = some (.tup xs)) (h0 : 0 ≤ i) (q : ∀ p H', Same H H' → H' p = some (.tup (xs.drop i.toNat)) → Q (.ref p) H') : rSlA K (.ref a) (some i) none H Q := by
  refine ⟨a, xs, rfl, SqT.of ha, fun e => ?_, fun _ p np => ?_⟩
  · obtain ⟨e1, _⟩ := e
    rw [sIx_pos h0] at e1
    have : xs.drop i.toNat = xs := by
      by_cases hx : xs = []
      · rw [hx]
        exact List.drop_nil
      · have : 0 < xs.length := List.length_pos_iff.mpr hx
        have e3 : i.toNat = 0 := by omega
        rw [e3]
        exact List.drop_zero
    rw [this] at q
    exact q a H (.refl _) ha
  · refine q p _ (same_new np _) ?_
    rw [upd_same]
    unfold cutV
    rw [sIx_none0, sIx_pos h0]
    by_cases hi : i.toNat ≤ xs.length
    · rw [Nat.min_eq_left hi, List.take_of_length_le (by rw [List.length_drop]; exact Nat.le_refl _)]
    · rw [Nat.min_eq_right (by omega), List.drop_length, List.drop_eq_nil_of_le (by omega)]
      simp
end

/-! ### kinds of things -/
/-- what the written part says of the class of functions and of the built-in ones -/
structure Kf (K : PySem.W.Frag) (C : Addr) : Prop where
  cl : Cls K C
  ca : PySem.W.findIn K (.ref C) "__class__" = some (some (.builtin "object.__class__"))
  cn : PySem.W.specialIn K (.builtin "object.__class__") "__get__" = some (some (.builtin "getset_descriptor.__get__"))
  ct : PySem.W.takesIn K (.builtin "object.__class__") = some true
  cm : PySem.W.mroIn K C (.type "object") = some true
  fi : PySem.W.kitOne K (.ref C) (.type "int") = some false
  fb : PySem.W.kitOne K (.ref C) (.type "bool") = some false
  fs : PySem.W.kitOne K (.ref C) (.type "str") = some false
  ft : PySem.W.kitOne K (.ref C) (.type "tuple") = some false
  ff : PySem.W.kitOne K (.ref C) (.ref C) = some true
  nf : PySem.W.kitOne K (.type "NoneType") (.ref C) = some false
  bf : PySem.W.kitOne K (.type "bool") (.ref C) = some false
  if_ : PySem.W.kitOne K (.type "int") (.ref C) = some false
  sf : PySem.W.kitOne K (.type "str") (.ref C) = some false
  tf : PySem.W.kitOne K (.type "tuple") (.ref C) = some false
  lf : PySem.W.kitOne K (.type "list") (.ref C) = some false
  df : PySem.W.kitOne K (.type "dict") (.ref C) = some false
def Th.isInt : Th → Bool
  | .int _ => true
  | .bl _ => true
  | _ => false
def Th.isBl : Th → Bool
  | .bl _ => true
  | _ => false
def Th.isStr : Th → Bool
  | .str _ => true
  | _ => false
def Th.isTup : Th → Bool
  | .tup _ => true
  | _ => false
def Th.isFn : Th → Bool
  | .fn _ => true
  | _ => false
section
variable {K : PySem.W.Frag} {C : Addr} {H : Hp} {v : V} {t : Th}
theorem is_int (T : Kf K C) (h : Is C H v t) : ∃ u, TyX K H v u ∧ PySem.W.kitOne K u (.type "int") = some t.isInt := by
  cases h with
  | non => exact ⟨_, .base .non, kit_ty (r := false) (by decide +kernel)⟩
  | bl b => exact ⟨_, .base (.bl _), kit_ty (r := true) (by decide +kernel)⟩
  | int i => exact ⟨_, .base (.int _), kit_ty (r := true) (by decide +kernel)⟩
  | str x _ => exact ⟨_, .base (.str _), kit_ty (r := false) (by decide +kernel)⟩
  | tup e _ => exact ⟨_, .base (.tup e), kit_ty (r := false) (by decide +kernel)⟩
  | lst e => exact ⟨_, .base (.lst e), kit_ty (r := false) (by decide +kernel)⟩
  | dct e => exact ⟨_, .base (.dK e), kit_ty (r := false) (by decide +kernel)⟩
  | fn e => exact ⟨_, .base (.ins e T.cl T.ca T.cn T.ct T.cm), T.fi⟩
theorem is_bool (T : Kf K C) (h : Is C H v t) : ∃ u, TyX K H v u ∧ PySem.W.kitOne K u (.type "bool") = some t.isBl := by
  cases h with
  | non => exact ⟨_, .base .non, kit_ty (r := false) (by decide +kernel)⟩
  | bl b => exact ⟨_, .base (.bl _), kit_ty (r := true) (by decide +kernel)⟩
  | int i => exact ⟨_, .base (.int _), kit_ty (r := false) (by decide +kernel)⟩
  | str x _ => exact ⟨_, .base (.str _), kit_ty (r := false) (by decide +kernel)⟩
  | tup e _ => exact ⟨_, .base (.tup e), kit_ty (r := false) (by decide +kernel)⟩
  | lst e => exact ⟨_, .base (.lst e), kit_ty (r := false) (by decide +kernel)⟩
  | dct e => exact ⟨_, .base (.dK e), kit_ty (r := false) (by decide +kernel)⟩
  | fn e => exact ⟨_, .base (.ins e T.cl T.ca T.cn T.ct T.cm), T.fb⟩
theorem is_str (T : Kf K C) (h : Is C H v t) : ∃ u, TyX K H v u ∧ PySem.W.kitOne K u (.type "str") = some t.isStr := by
  cases h with
  | non => exact ⟨_, .base .non, kit_ty (r := false) (by decide +kernel)⟩
  | bl b => exact ⟨_, .base (.bl _), kit_ty (r := false) (by decide +kernel)⟩
  | int i => exact ⟨_, .base (.int _), kit_ty (r := false) (by decide +kernel)⟩
  | str x _ => exact ⟨_, .base (.str _), kit_ty (r := true) (by decide +kernel)⟩
  | tup e _ => exact ⟨_, .base (.tup e), kit_ty (r := false) (by decide +kernel)⟩
  | lst e => exact ⟨_, .base (.lst e), kit_ty (r := false) (by decide +kernel)⟩
  | dct e => exact ⟨_, .base (.dK e), kit_ty (r := false) (by decide +kernel)⟩
  | fn e => exact ⟨_, .base (.ins e T.cl T.ca T.cn T.ct T.cm), T.fs⟩
theorem is_tup (T : Kf K C) (h : Is C H v t) : ∃ u, TyX K H v u ∧ PySem.W.kitOne K u (.type "tuple") = some t.isTup := by
  cases h with
  | non => exact ⟨_, .base .non, kit_ty (r := false) (by decide +kernel)⟩
  | bl b => exact ⟨_, .base (.bl _), kit_ty (r := false) (by decide +kernel)⟩
  | int i => exact ⟨_, .base (.int _), kit_ty (r := false) (by decide +kernel)⟩
  | str x _ => exact ⟨_, .base (.str _), kit_ty (r := false) (by decide +kernel)⟩
  | tup e _ => exact ⟨_, .base (.tup e), kit_ty (r := true) (by decide +kernel)⟩
  | lst e => exact ⟨_, .base (.lst e), kit_ty (r := false) (by decide +kernel)⟩
  | dct e => exact ⟨_, .base (.dK e), kit_ty (r := false) (by decide +kernel)⟩
  | fn e => exact ⟨_, .base (.ins e T.cl T.ca T.cn T.ct T.cm), T.ft⟩
theorem is_fn (T : Kf K C) (h : Is C H v t) : ∃ u, TyX K H v u ∧ PySem.W.kitOne K u (.ref C) = some t.isFn := by
  cases h with
  | non => exact ⟨_, .base .non, T.nf⟩
  | bl b => exact ⟨_, .base (.bl _), T.bf⟩
  | int i => exact ⟨_, .base (.int _), T.if_⟩
  | str x _ => exact ⟨_, .base (.str _), T.sf⟩
  | tup e _ => exact ⟨_, .base (.tup e), T.tf⟩
  | fn e => exact ⟨_, .base (.ins e T.cl T.ca T.cn T.ct T.cm), T.ff⟩
  | lst e => exact ⟨_, .base (.lst e), T.lf⟩
  | dct e => exact ⟨_, .base (.dK e), T.df⟩
end
end Fl
namespace Fl
open PySem PySem.Spec PyProof.Rows L2
def top (i : Nat) : Stmt := PySem.Challenge.pw_floorhall_k06_whole_one_text_a_worth.main.body.getD i (.Pass ⟨0, 0, 0, 0⟩)
abbrev s_is_number : Stmt := top 10
theorem sc_is_number : FnScope ["thing"] ["thing"] (defScope s_is_number) := ⟨rfl, rfl, rfl, by decide +kernel, rfl, by decide +kernel, by decide +kernel⟩
abbrev s_is_word : Stmt := top 11
theorem sc_is_word : FnScope ["thing", "sign"] ["thing"] (defScope s_is_word) := ⟨rfl, rfl, rfl, by decide +kernel, rfl, by decide +kernel, by decide +kernel⟩
abbrev s_is_made_of : Stmt := top 12
theorem sc_is_made_of : FnScope ["thing", "with_functions", "pile", "one"] ["thing", "with_functions"] (defScope s_is_made_of) := ⟨rfl, rfl, rfl, by decide +kernel, rfl, by decide +kernel, by decide +kernel⟩
abbrev s_is_worth : Stmt := top 13
theorem sc_is_worth : FnScope ["thing"] ["thing"] (defScope s_is_worth) := ⟨rfl, rfl, rfl, by decide +kernel, rfl, by decide +kernel, by decide +kernel⟩
abbrev s_is_plain : Stmt := top 14
theorem sc_is_plain : FnScope ["thing"] ["thing"] (defScope s_is_plain) := ⟨rfl, rfl, rfl, by decide +kernel, rfl, by decide +kernel, by decide +kernel⟩
abbrev s_need_worth : Stmt := top 15
theorem sc_need_worth : FnScope ["thing"] ["thing"] (defScope s_need_worth) := ⟨rfl, rfl, rfl, by decide +kernel, rfl, by decide +kernel, by decide +kernel⟩
abbrev s_need_plain : Stmt := top 16
theorem sc_need_plain : FnScope ["thing"] ["thing"] (defScope s_need_plain) := ⟨rfl, rfl, rfl, by decide +kernel, rfl, by decide +kernel, by decide +kernel⟩

abbrev XcP (K : PySem.W.Frag) (x : Str) : Prop := PySem.W.excIn K (He.ga K x) He.veBase "ValueError.__new__" = true ∧ PySem.W.keepIn K (.ref (He.ga K x)) = true ∧
  PySem.W.subIn K (.ref (He.ga K x)) (.type "BaseException") = some true ∧ PySem.W.typeIn K (.ref (He.ga K x)) = some (.type "type")
structure Tw (K : PySem.W.Frag) (mg : Str → Option Value) : Prop where
  kf : Kf K (He.ga K "Function")
  g_Function : mg "Function" = some (.ref (He.ga K "Function"))
  z_isinstance : mg "isinstance" = none
  z_int : mg "int" = none
  z_bool : mg "bool" = none
  z_str : mg "str" = none
  z_tuple : mg "tuple" = none
  z_abs : mg "abs" = none
  z_all : mg "all" = none
  z_len : mg "len" = none
  g_BadWorth : mg "BadWorth" = some (.ref (He.ga K "BadWorth"))
  x_BadWorth : XcP K "BadWorth"
  c_MOST_NUMBER : ∃ u, mg "MOST_NUMBER" = some u ∧ RelV (.int 1000000000) u
  c_MOST_SIGNS : ∃ u, mg "MOST_SIGNS" = some u ∧ RelV (.int 8) u
  c_SMALL : ∃ u, mg "SMALL" = some u ∧ RelV (.str "abcdefghijklmnopqrstuvwxyz") u
abbrev CF (K : PySem.W.Frag) : Addr := He.ga K "Function"
def Th.num : Th → Bool
  | .int i => numB i
  | _ => false
def Th.wrd : Th → Bool
  | .str x => wordB x
  | _ => false
def spNumber (K : PySem.W.Frag) : Sp := sp1 fun v H Q _ => ∃ t, Is (CF K) H v t ∧ Q (.bl t.num) H
def spWord (K : PySem.W.Frag) : Sp := sp1 fun v H Q _ => ∃ t, Is (CF K) H v t ∧ ∀ H', Same H H' → Q (.bl t.wrd) H'
theorem inTF (x : Str) : inV (.str x) [.str sTrue, .str sFalse] = (decide (x = sTrue) || decide (x = sFalse)) := by
  show (sTrue == x || (sFalse == x || false)) = _
  rw [Bool.or_false]
  congr 1
  · by_cases h : x = sTrue
    · rw [h, decide_eq_true rfl, beq_self_eq_true]
    · rw [decide_eq_false h]
      exact beq_eq_false_iff_ne.mpr fun e => h e.symm
  · by_cases h : x = sFalse
    · rw [h, decide_eq_true rfl, beq_self_eq_true]
    · rw [decide_eq_false h]
      exact beq_eq_false_iff_ne.mpr fun e => h e.symm
theorem take_snoc {α : Type} : ∀ {l : List α} {i : Nat} {x : α}, l[i]? = some x → l.take (i + 1) = l.take i ++ [x]
  | [], i, x, h => by simp at h
  | a :: l, 0, x, h => by
    have e : a = x := Option.some.inj h
    rw [e]
    rfl
  | a :: l, i + 1, x, h => by
    have z := take_snoc (l := l) (i := i) (x := x) h
    rw [List.take_succ_cons, z]
    rfl
theorem sign_mem (c : Nat) : decide (c ∈ ("abcdefghijklmnopqrstuvwxyz" : Str).cps.toList) = isSign c := by
  have e : (("abcdefghijklmnopqrstuvwxyz" : Str).cps.toList : List Nat) = List.range' 97 26 := by decide +kernel
  have z : (c ∈ List.range' 97 26) ↔ isSign c = true := by
    rw [List.mem_range'_1]
    unfold isSign
    rw [Bool.and_eq_true, Nat.ble_eq, Nat.ble_eq]
    omega
  cases h : isSign c with
  | true => exact decide_eq_true (by rw [e]; exact z.mpr h)
  | false => exact decide_eq_false (by rw [e]; intro m; rw [z.mp m] at h; cases h)
section
variable {P : Program} {w : World} {K : PySem.W.Frag} {mg : Str → Option Value} {base : Heap}
theorem ok_is_number (F : FnP K mg "is_number" s_is_number) (T : Tw K mg) : Cl P w K mg base 1 "is_number" ["thing"] (spNumber K) := by
  refine cl_1 F sc_is_number (fun _ _ _ _ _ _ us hl => match us, hl with | [_], _ => rfl) fun cdv A outer s H v Q E hr h => ?_
  obtain ⟨t, h, q⟩ := h
  refine ⟨_, PSs.nox (pss_one (ps_ret (pe_and (pe_callB call_isi rfl T.z_isinstance PyProof.Rows.boot_isinstance (pa_cons (pv 0) (pa_cons (pe_bltn (v := .ty "int") rfl T.z_int (by decide +kernel) rfl) pa_nil))) (pe_and (pe_not (pe_callB call_isi rfl T.z_isinstance PyProof.Rows.boot_isinstance (pa_cons (pv 0) (pa_cons (pe_bltn (v := .ty "bool") rfl T.z_bool (by decide +kernel) rfl) pa_nil)))) (pe_one (pe_cmpR op_le (pe_callB call_abs rfl T.z_abs PyProof.Rows.boot_abs (pa_cons (pv 0) pa_nil)) (pe_gk rfl T.c_MOST_NUMBER) (nomark _))))))), ?_⟩
  obtain ⟨u1, y1, k1⟩ := is_int T.kf h
  obtain ⟨u2, y2, k2⟩ := is_bool T.kf h
  refine ⟨v, rfl, v, _, u1, _, _, rfl, .ty _, y1, k1, _, rfl, ?_⟩
  cases h with
  | int i =>
    refine iteT ⟨_, rfl, _, _, u2, _, _, rfl, .ty _, y2, k2, _, rfl, _, rfl, iteT ?_⟩
    refine ⟨_, rfl, _, rfl, _, _, rfl, rfl, ?_⟩
    have e : decide ((if i < 0 then -i else i) ≤ 1000000000) = numB i := by
      unfold numB
      rw [← Bool.decide_and]
      refine decide_eq_decide.mpr ?_
      split <;> omega
    show Q (.bl (decide ((if i < 0 then -i else i) ≤ 1000000000))) H
    rw [e]
    exact q
  | bl b => exact iteT ⟨_, rfl, _, _, u2, _, _, rfl, .ty _, y2, k2, _, rfl, _, rfl, iteF q⟩
  | non => exact iteF q
  | str x _ => exact iteF q
  | tup _ _ => exact iteF q
  | fn _ => exact iteF q
  | lst _ => exact iteF q
  | dct _ => exact iteF q
theorem ok_is_word (F : FnP K mg "is_word" s_is_word) (T : Tw K mg) : Cl P w K mg base 1 "is_word" ["thing"] (spWord K) := by
  refine cl_1 F sc_is_word (fun _ _ _ _ _ _ us hl => match us, hl with | [_], _ => rfl) fun cdv A outer s H v Q E hr h => ?_
  obtain ⟨t, h, q⟩ := h
  refine ⟨_, PSs.nox (pss_cons (ps_if (PW.pt (pw_or (pt_not (pt_val (pe_callB call_isi rfl T.z_isinstance PyProof.Rows.boot_isinstance (pa_cons (pv 0) (pa_cons (pe_bltn (v := .ty "str") rfl T.z_str (by decide +kernel) rfl) pa_nil))))) (pw_or (pt_not (pt_chain op_le op_le pe_int (pe_callB call_len_str rfl T.z_len PySem.boot_len (pa_cons (pv 0) pa_nil)) (pe_gk rfl T.c_MOST_SIGNS))) (pw_or1 (pt_cmpR op_in_seq (pv 0) (pe_tup (pa_cons pe_str (pa_cons pe_str pa_nil))) rfl))))) (pss_one (ps_ret pe_bl)) pss_nil) (pss_one (ps_ret (pe_callB (cr_all rfl) rfl T.z_all PyProof.Rows.boot_all (pa_cons (pe_lc (own := [("sign", 1)]) (g := gName 1) (tt := tYes) rfl sc_is_word.nd (pi_str (pv 0)) (blkOk_by (own := [("sign", 1)]) (N := ["thing", "sign"]) (sc := defScope s_is_word) (by decide +kernel)) (fun _ _ _ _ _ => (pg_name (i := 1) sc_is_word.nd rfl (Or.inl rfl))) (fun _ _ _ _ _ => pts_nil) (fun _ _ _ _ _ => (pe_cmpR op_in_sign (pv 1) (pe_gk rfl T.c_SMALL) rfl))) pa_nil))))), ?_⟩
  obtain ⟨u1, y1, k1⟩ := is_str T.kf h
  refine ⟨v, rfl, v, _, u1, _, _, rfl, .ty _, y1, k1, _, rfl, ?_⟩
  cases h with
  | str x hx =>
    refine iteF ⟨_, rfl, x, rfl, Nat.le_trans hx (by decide), _, _, rfl, rfl, _, rfl, ite2 (fun c1 => ?_) (fun c1 => ?_)⟩
    case refine_2 =>
      refine ⟨_, rfl, iteT (iteT ?_)⟩
      have e : (Th.str x).wrd = false := by
        show wordB x = false
        unfold wordB
        rw [decide_eq_false (by intro z; exact c1 (decide_eq_true (by omega))), Bool.false_and]
      rw [← e]
      exact q _ (.refl _)
    refine ⟨_, _, rfl, rfl, _, rfl, ite2 (fun c2 => ?_) (fun c2 => ?_)⟩
    · refine iteT ?_
      have c3 : ¬ x.length ≤ 8 := by
        intro z
        rw [decide_eq_true (by omega)] at c2
        exact Bool.noConfusion c2
      have e : (Th.str x).wrd = false := by
        show wordB x = false
        unfold wordB
        rw [decide_eq_false c3, Bool.false_and, Bool.and_false]
      rw [← e]
      exact q _ (.refl _)
    have d1 : 1 ≤ x.length := by
      have := of_decide_eq_true c1
      omega
    have d2 : x.length ≤ 8 := by
      have z : ¬ (!decide ((x.length : Int) ≤ 8)) = true := c2
      rw [Bool.not_eq_true', decide_eq_false_iff_not] at z
      omega
    refine ⟨_, rfl, (by show 2 ≤ sizeLine; decide), fun p np => ⟨p, _, rfl, .inr (SqT.of upd_same), rfl, rfl, _, rfl, ?_⟩⟩
    have s1 : Same H (upd H p (.tup [.str sTrue, .str sFalse])) := same_new np _
    have ein : inV (.str x) [.str sTrue, .str sFalse] = (decide (x = sTrue) || decide (x = sFalse)) := inTF x
    show (if (if false = true then !inV (.str x) [.str sTrue, .str sFalse] else inV (.str x) [.str sTrue, .str sFalse]) = true then _ else _)
    rw [if_neg Bool.false_ne_true, ein]
    refine ite2 (fun c3 => ?_) (fun c3 => ?_)
    · have e : (Th.str x).wrd = false := by
        show wordB x = false
        unfold wordB
        rcases Bool.or_eq_true_iff.mp c3 with z | z <;> rw [z] <;> simp
      rw [← e]
      exact q _ s1
    rw [Bool.or_eq_true, not_or, Bool.not_eq_true, Bool.not_eq_true] at c3
    refine ⟨_, rfl, x, rfl, fun D nD => lc_it walk_str (fun i H' => Same H H' ∧ H' D = some (.lst (((x.cps.toList.take i).map isSign).map V.bl)) ∧ H D = none) ⟨s1.trans (same_new nD _), upd_same, s1.free nD⟩ (fun _ _ _ _ => trivial) ?_ ?_⟩
    · rintro i y H1 H2 hi ⟨r1, r2, r3⟩ ⟨rfl, c, hc, rfl⟩
      refine ⟨rfl, _, rfl, c, _, rfl, rfl, _, r2, ?_, same_mut r1 r3, ?_, r3⟩
      · rw [List.length_map, List.length_map]
        have := List.length_take_le' i x.cps.toList
        have e8 : x.cps.toList.length ≤ 8 := by
          rw [Array.length_toList]
          exact d2
        exact small1000 (by omega)
      · have hc' : x.cps.toList[i]? = some c := by
          rw [Array.getElem?_toList]
          exact hc
        rw [upd_same, take_snoc hc', List.map_append, List.map_append]
        show some (HO.lst (_ ++ [V.bl (decide (c ∈ ("abcdefghijklmnopqrstuvwxyz" : Str).cps.toList))])) = _
        rw [sign_mem c]
        rfl
    · rintro H1 ⟨r1, r2, r3⟩
      refine ⟨D, _, rfl, SqL.of r2, ?_⟩
      have e : (((x.cps.toList.take x.cps.size).map isSign).all id) = (Th.str x).wrd := by
        rw [← Array.length_toList, List.take_length, List.all_map]
        show x.cps.toList.all isSign = wordB x
        unfold wordB
        rw [decide_eq_true d1, decide_eq_true d2, c3.1, c3.2]
        rfl
      rw [e]
      exact q _ r1
  | int i => exact iteT (iteT (q _ (.refl _)))
  | bl b => exact iteT (iteT (q _ (.refl _)))
  | non => exact iteT (iteT (q _ (.refl _)))
  | tup _ _ => exact iteT (iteT (q _ (.refl _)))
  | fn _ => exact iteT (iteT (q _ (.refl _)))
  | lst _ => exact iteT (iteT (q _ (.refl _)))
  | dct _ => exact iteT (iteT (q _ (.refl _)))
def spMade (K : PySem.W.Frag) : Sp := sp2 fun v b H Q _ => ∃ t f, b = .bl f ∧ Is (CF K) H v t ∧ t.nodes ≤ 1000000 ∧ ∀ H', Same H H' → Q (.bl (t.worth f)) H'
def MadeW (C : Addr) (H : Hp) (v : V) (f : Bool) (p : Addr) (t : Th) : Nat → L2.St → Hp → Prop := fun m σ H1 =>
  ∃ (xs : List V) (ts : List Th) (o : Option V), σ = [some v, some (.bl f), some (.ref p), o] ∧ Same H H1 ∧ H1 p = some (.lst xs) ∧ Iss C H xs ts ∧ m = Th.nodesL ts ∧ m ≤ 1000000 ∧ Th.worths f ts = t.worth f
theorem ok_is_made_of (F : FnP K mg "is_made_of" s_is_made_of) (T : Tw K mg) (B_is_number : Cl P w K mg base 1 "is_number" ["thing"] (spNumber K)) (B_is_word : Cl P w K mg base 1 "is_word" ["thing"] (spWord K)) :
    Cl P w K mg base 2 "is_made_of" ["thing", "with_functions"] (spMade K) := by
  refine cl_2 F sc_is_made_of (fun _ _ _ _ _ _ us hl => match us, hl with | [_, _], _ => rfl) fun cdv A outer s H v b Q E hr h => ?_
  obtain ⟨t, f, rfl, h, hn, q⟩ := h
  refine ⟨_, PSs.nox (pss_cons (ps_set (i := 2) sc_is_made_of.nd rfl (Or.inl rfl) (pe_lst (pa_cons (pv 0) pa_nil))) (pss_cons (ps_while PassesOwn.never (pt_cmpR (op_neNil hr.units0) (pv 2) (pe_lst pa_nil) (nomark _)) (pss_cons (ps_set (i := 3) sc_is_made_of.nd rfl (Or.inl rfl) (pe_bm0 PySem.F.plainAttrs_list PySem.F.slot_list_pop PySem.F.type_list_pop mt_pop (pv 2))) (pss_one (ps_if (pt_val (pe_callB call_isi rfl T.z_isinstance PyProof.Rows.boot_isinstance (pa_cons (pv 3) (pa_cons (pe_bltn (v := .ty "tuple") rfl T.z_tuple (by decide +kernel) rfl) pa_nil)))) (pss_one (ps_expr (pe_bm PySem.F.plainAttrs_list PySem.F.slot_list_extend PySem.F.type_list_extend (mt_extT) (pv 2) (pa_cons (pv 3) pa_nil)))) (pss_one (ps_if (pt_val (pe_callB call_isi rfl T.z_isinstance PyProof.Rows.boot_isinstance (pa_cons (pv 3) (pa_cons (pe_glob (v := .ref (He.ga K "Function")) rfl T.g_Function rfl) pa_nil)))) (pss_one (ps_if (pt_not (pt_val (pv 1))) (pss_one (ps_ret pe_bl)) pss_nil)) (pss_one (ps_if (PW.pt (pw_and (pt_not (pt_val (pe_callB call_isi rfl T.z_isinstance PyProof.Rows.boot_isinstance (pa_cons (pv 3) (pa_cons (pe_bltn (v := .ty "bool") rfl T.z_bool (by decide +kernel) rfl) pa_nil))))) (pw_and (pt_not (pt_val (pe_b B_is_number hr (by omega) rfl passL (pa_cons (pv 3) pa_nil)))) (pw_and1 (pt_not (pt_val (pe_b B_is_word hr (by omega) rfl passL (pa_cons (pv 3) pa_nil)))))))) (pss_one (ps_ret pe_bl)) pss_nil)))))))) (pss_one (ps_ret pe_bl)))), ?_⟩
  refine ⟨_, rfl, (by show 1 ≤ sizeLine; decide), fun p np => ?_⟩
  refine ⟨MadeW (CF K) H v f p t, ⟨_, [v], [t], none, rfl, same_new np _, upd_same, .one h, rfl, by simpa [Th.nodesL] using hn, by simp [Th.worths]⟩, ?_⟩
  rintro m σ H1 ⟨xs, ts, o, rfl, s1, hp, hi, rfl, hm, hw⟩
  refine ⟨_, rfl, (by show 0 ≤ sizeLine; decide), fun d nd => ⟨p, d, xs, rfl, rfl, SqL.of (by rw [upd_ne (ne_of_none hp nd)]; exact hp), SqL.of upd_same, _, rfl, ?_⟩⟩
  have s2 : Same H (upd H1 d (.lst [])) := s1.trans (same_new nd _)
  have hp2 : upd H1 d (.lst []) p = some (.lst xs) := by
    rw [upd_ne (ne_of_none hp nd)]
    exact hp
  by_cases hx : xs = []
  · subst hx
    cases hi
    refine iteF ?_
    have e : t.worth f = true := hw.symm
    rw [e] at q
    exact q _ s2
  obtain ⟨ys, y, us, u, rfl, rfl, h1, h2⟩ := hi.last hx
  have hne : (!(ys ++ [y]).isEmpty) = true := by cases ys <;> rfl
  show (if (!(ys ++ [y]).isEmpty) = true then _ else _)
  rw [hne]
  refine iteT ?_
  rw [nodesL_app] at hm
  rw [worths_app] at hw
  have eu : Th.nodesL [u] = u.nodes := by simp [Th.nodesL]
  have ew : Th.worths f [u] = u.worth f := by simp [Th.worths]
  rw [eu] at hm
  rw [ew] at hw
  have up := u.nodes_pos
  have hyl : ys.length ≤ Th.nodesL us := by
    rw [h1.len]
    exact len_nodesL us
  refine ⟨_, fun σ' H' z => z, ?_⟩
  refine ⟨_, rfl, .inl ⟨rfl, _, .inl (.inl hp2)⟩, p, _, y, rfl, rfl, hp2, (by simp), ?_⟩
  rw [List.dropLast_concat]
  have s3 : Same H (upd (upd H1 d (.lst [])) p (.lst ys)) := same_mut s2 np
  have hp3 : upd (upd H1 d (.lst [])) p (.lst ys) p = some (.lst ys) := upd_same
  obtain ⟨u1, y1, k1⟩ := is_tup T.kf (h2.same s3)
  obtain ⟨u2, y2, k2⟩ := is_fn T.kf (h2.same s3)
  obtain ⟨u3, y3, k3⟩ := is_bool T.kf (h2.same s3)
  refine ⟨y, rfl, y, _, u1, _, _, rfl, .ty _, y1, k1, _, rfl, ?_⟩
  have good : u.worth f = true → ∀ H', Same H H' → H' p = some (.lst ys) → ∃ m', m' < Th.nodesL (us ++ [u]) ∧ MadeW (CF K) H v f p t m' [some v, some (.bl f), some (.ref p), some y] H' := fun e H' s5 hp5 =>
    ⟨Th.nodesL us, by rw [nodesL_app, eu]; omega, ys, us, _, rfl, s5, hp5, h1, rfl, by omega, by rw [← hw, e, Bool.and_true]⟩
  have bad : u.worth f = false → ∀ H', Same H H' → Q (.bl false) H' := fun e H' s5 => by
    have e2 : t.worth f = false := by rw [← hw, e, Bool.and_false]
    rw [e2] at q
    exact q _ s5
  cases h2 with
  | tup ht hts =>
    rename_i p2 zs l
    refine iteT ?_
    refine ⟨_, rfl, .inl ⟨rfl, _, .inl (.inl hp3)⟩, _, rfl, p, p2, ys, zs, rfl, rfl, hp3, SqT.of (s3 _ _ ht), ?_, ?_⟩
    · have e1 := hts.len
      have e2 := len_nodesL l
      simp only [Th.nodes] at hm
      rw [sizeLine_eq]
      omega
    refine ⟨Th.nodesL (us ++ l), ?_, ys ++ zs, us ++ l, _, rfl, same_mut s3 np, upd_same, h1.app hts, rfl, ?_, ?_⟩
    · rw [nodesL_app, nodesL_app, eu]
      simp only [Th.nodes]
      omega
    · rw [nodesL_app]
      simp only [Th.nodes] at hm
      omega
    · rw [worths_app]
      simpa [Th.worth] using hw
  | fn ha =>
    refine iteF ?_
    refine ⟨_, rfl, _, _, u2, _, _, rfl, .own _, y2, k2, _, rfl, iteT ?_⟩
    refine ⟨_, rfl, f, rfl, ?_⟩
    cases f with
    | true => exact iteF (good rfl _ s3 hp3)
    | false => exact iteT (bad rfl _ s3)
  | bl c =>
    refine iteF ⟨_, rfl, _, _, u2, _, _, rfl, .own _, y2, k2, _, rfl, iteF ?_⟩
    exact ⟨_, rfl, _, _, u3, _, _, rfl, .ty _, y3, k3, _, rfl, iteF (iteF (good rfl _ s3 hp3))⟩
  | int i =>
    refine iteF ⟨_, rfl, _, _, u2, _, _, rfl, .own _, y2, k2, _, rfl, iteF ?_⟩
    refine ⟨_, rfl, _, _, u3, _, _, rfl, .ty _, y3, k3, _, rfl, iteT ?_⟩
    refine ⟨_, rfl, _, rfl, _, .int i, _, rfl, ?_⟩
    cases e : numB i with
    | true =>
      show (if (!numB i) = true then _ else _)
      rw [e]
      exact iteF (iteF (good e _ s3 hp3))
    | false =>
      show (if (!numB i) = true then _ else _)
      rw [e]
      refine iteT ⟨_, rfl, _, rfl, _, .int i, fun H' s4 => ⟨_, rfl, iteT (bad e _ (s3.trans s4))⟩⟩
  | str x hxl =>
    refine iteF ⟨_, rfl, _, _, u2, _, _, rfl, .own _, y2, k2, _, rfl, iteF ?_⟩
    refine ⟨_, rfl, _, _, u3, _, _, rfl, .ty _, y3, k3, _, rfl, iteT ?_⟩
    refine ⟨_, rfl, _, rfl, _, .str x hxl, _, rfl, iteT ⟨_, rfl, _, rfl, _, .str x hxl, fun H' s4 => ⟨_, rfl, ?_⟩⟩⟩
    cases e : wordB x with
    | true =>
      show (if (!wordB x) = true then _ else _)
      rw [e]
      exact iteF (good e _ (s3.trans s4) (s4 _ _ hp3))
    | false =>
      show (if (!wordB x) = true then _ else _)
      rw [e]
      exact iteT (bad e _ (s3.trans s4))
  | non =>
    refine iteF ⟨_, rfl, _, _, u2, _, _, rfl, .own _, y2, k2, _, rfl, iteF ?_⟩
    refine ⟨_, rfl, _, _, u3, _, _, rfl, .ty _, y3, k3, _, rfl, iteT ?_⟩
    exact ⟨_, rfl, _, rfl, _, .non, _, rfl, iteT ⟨_, rfl, _, rfl, _, .non, fun H' s4 => ⟨_, rfl, iteT (bad rfl _ (s3.trans s4))⟩⟩⟩
  | lst ha =>
    refine iteF ⟨_, rfl, _, _, u2, _, _, rfl, .own _, y2, k2, _, rfl, iteF ?_⟩
    refine ⟨_, rfl, _, _, u3, _, _, rfl, .ty _, y3, k3, _, rfl, iteT ?_⟩
    exact ⟨_, rfl, _, rfl, _, .lst (s3 _ _ ha), _, rfl, iteT ⟨_, rfl, _, rfl, _, .lst (s3 _ _ ha), fun H' s4 => ⟨_, rfl, iteT (bad rfl _ (s3.trans s4))⟩⟩⟩
  | dct ha =>
    refine iteF ⟨_, rfl, _, _, u2, _, _, rfl, .own _, y2, k2, _, rfl, iteF ?_⟩
    refine ⟨_, rfl, _, _, u3, _, _, rfl, .ty _, y3, k3, _, rfl, iteT ?_⟩
    exact ⟨_, rfl, _, rfl, _, .dct (s3 _ _ ha), _, rfl, iteT ⟨_, rfl, _, rfl, _, .dct (s3 _ _ ha), fun H' s4 => ⟨_, rfl, iteT (bad rfl _ (s3.trans s4))⟩⟩⟩
/-- is_worth, is_plain -/
def spIs (K : PySem.W.Frag) (f : Bool) : Sp := sp1 fun v H Q _ => ∃ t, Is (CF K) H v t ∧ t.nodes ≤ 1000000 ∧ ∀ H', Same H H' → Q (.bl (t.worth f)) H'
theorem ok_is_worth (F : FnP K mg "is_worth" s_is_worth) (B_is_made_of : Cl P w K mg base 2 "is_made_of" ["thing", "with_functions"] (spMade K)) : Cl P w K mg base 3 "is_worth" ["thing"] (spIs K true) := by
  refine cl_1 F sc_is_worth (fun _ _ _ _ _ _ us hl => match us, hl with | [_], _ => rfl) fun cdv A outer s H v Q E hr h => ?_
  obtain ⟨t, h, hn, q⟩ := h
  exact ⟨_, PSs.nox (pss_one (ps_ret (pe_b B_is_made_of hr (by omega) rfl passL (pa_cons (pv 0) (pa_cons pe_bl pa_nil))))), _, rfl, _, _, rfl, t, true, rfl, h, hn, q⟩
theorem ok_is_plain (F : FnP K mg "is_plain" s_is_plain) (B_is_made_of : Cl P w K mg base 2 "is_made_of" ["thing", "with_functions"] (spMade K)) : Cl P w K mg base 3 "is_plain" ["thing"] (spIs K false) := by
  refine cl_1 F sc_is_plain (fun _ _ _ _ _ _ us hl => match us, hl with | [_], _ => rfl) fun cdv A outer s H v Q E hr h => ?_
  obtain ⟨t, h, hn, q⟩ := h
  exact ⟨_, PSs.nox (pss_one (ps_ret (pe_b B_is_made_of hr (by omega) rfl passL (pa_cons (pv 0) (pa_cons pe_bl pa_nil))))), _, rfl, _, _, rfl, t, false, rfl, h, hn, q⟩
/-- need_worth, need_plain: the thing, or BadWorth -/
def spNeed (K : PySem.W.Frag) (f : Bool) : Sp := sp1 fun v H Q E => ∃ t, Is (CF K) H v t ∧ t.nodes ≤ 1000000 ∧ (t.worth f = true → ∀ H', Same H H' → Q v H') ∧ (t.worth f = false → ∀ H', Same H H' → E (.ref (He.ga K "BadWorth")) none H')
theorem ok_need_worth (F : FnP K mg "need_worth" s_need_worth) (T : Tw K mg) (B_is_worth : Cl P w K mg base 3 "is_worth" ["thing"] (spIs K true)) : Cl P w K mg base 4 "need_worth" ["thing"] (spNeed K true) := by
  refine cl_1 F sc_need_worth (fun _ _ _ _ _ _ us hl => match us, hl with | [_], _ => rfl) fun cdv A outer s H v Q E hr h => ?_
  obtain ⟨t, h, hn, q, qe⟩ := h
  refine ⟨_, (pss_cons (ps_if (pt_not (pt_val (pe_b B_is_worth hr (by omega) rfl passL (pa_cons (pv 0) pa_nil)))) (pss_one (ps_raise rfl (takes_of rfl rfl rfl rfl) (pmk_own PySem.F.excBase_ValueError T.x_BadWorth.1 T.g_BadWorth T.x_BadWorth.2.1 (raises_own T.x_BadWorth.2.2.1 T.x_BadWorth.2.2.2) rfl))) pss_nil) (pss_one (ps_ret (pv 0)))), ?_⟩
  refine ⟨_, rfl, _, rfl, t, h, hn, fun H' s1 => ⟨_, rfl, ?_⟩⟩
  cases e : t.worth true with
  | true => exact iteF ⟨_, rfl, q e _ s1⟩
  | false => exact iteT (qe e _ s1)
theorem ok_need_plain (F : FnP K mg "need_plain" s_need_plain) (T : Tw K mg) (B_is_plain : Cl P w K mg base 3 "is_plain" ["thing"] (spIs K false)) : Cl P w K mg base 4 "need_plain" ["thing"] (spNeed K false) := by
  refine cl_1 F sc_need_plain (fun _ _ _ _ _ _ us hl => match us, hl with | [_], _ => rfl) fun cdv A outer s H v Q E hr h => ?_
  obtain ⟨t, h, hn, q, qe⟩ := h
  refine ⟨_, (pss_cons (ps_if (pt_not (pt_val (pe_b B_is_plain hr (by omega) rfl passL (pa_cons (pv 0) pa_nil)))) (pss_one (ps_raise rfl (takes_of rfl rfl rfl rfl) (pmk_own PySem.F.excBase_ValueError T.x_BadWorth.1 T.g_BadWorth T.x_BadWorth.2.1 (raises_own T.x_BadWorth.2.2.1 T.x_BadWorth.2.2.2) rfl))) pss_nil) (pss_one (ps_ret (pv 0)))), ?_⟩
  refine ⟨_, rfl, _, rfl, t, h, hn, fun H' s1 => ⟨_, rfl, ?_⟩⟩
  cases e : t.worth false with
  | true => exact iteF ⟨_, rfl, q e _ s1⟩
  | false => exact iteT (qe e _ s1)
end
end Fl
namespace Fl
open PySem PySem.Spec PyProof.Rows L2
abbrev s_law_mixed : Stmt := top 34
theorem sc_law_mixed : FnScope ["_law_cell", "_law_k"] ["_law_cell", "_law_k"] (defScope s_law_mixed) := ⟨rfl, rfl, rfl, by decide +kernel, rfl, by decide +kernel, by decide +kernel⟩
abbrev s_law_begun : Stmt := top 35
theorem sc_law_begun : FnScope ["_law_script", "_law_cell"] ["_law_script"] (defScope s_law_begun) := ⟨rfl, rfl, rfl, by decide +kernel, rfl, by decide +kernel, by decide +kernel⟩
abbrev s_law_next : Stmt := top 36
theorem sc_law_next : FnScope ["_law_state", "_law_k", "_law_at", "_law_number"] ["_law_state"] (defScope s_law_next) := ⟨rfl, rfl, rfl, by decide +kernel, rfl, by decide +kernel, by decide +kernel⟩

def kCells : Key := Sum.inr "cells"
def kLeft : Key := Sum.inr "left"
def kAt : Key := Sum.inr "at"
theorem p31 : (0 : Int) < 2147483647 := by decide
theorem p1000 : (0 : Int) < 1000 := by decide
theorem p50 : (0 : Int) < 50 := by decide
theorem ixN_nat {n j : Nat} (h : j < n) : ixN n (j : Int) = some j := by
  unfold ixN
  rw [if_pos (by omega), if_pos (by omega)]
  rfl
theorem p32 : (0 : Int) < 2147483629 := by decide
/-- the script: locked, or one of the module's own objects -/
def Scr (K : PySem.W.Frag) (H : Hp) (a : Addr) (xs : List V) : Prop := (∃ o, H a = some (.frz o (.lst xs))) ∨ ∀ H', SqL K H' a xs
theorem Scr.sq {K : PySem.W.Frag} {H : Hp} {a : Addr} {xs : List V} (h : Scr K H a xs) : SqL K H a xs := by
  rcases h with ⟨o, h⟩ | h
  · exact .inl (.inr ⟨o, h⟩)
  · exact h H
theorem Scr.same {K : PySem.W.Frag} {H H' : Hp} {a : Addr} {xs : List V} (h : Scr K H a xs) (s : Same H H') : Scr K H' a xs := by
  rcases h with ⟨o, h⟩ | h
  · exact .inl ⟨o, s _ _ h⟩
  · exact .inr h
theorem scr_of {K : PySem.W.Frag} {H : Hp} {a : Addr} {xs : List V} (o : Only H) (h : SqL K H a xs) : Scr K H a xs := by
  rcases h with (h | ⟨ob, h⟩) | h
  · rcases o a with z | ⟨_, _, z⟩ <;> rw [h] at z <;> cases z
  · exact .inl ⟨ob, h⟩
  · exact .inr fun _ => .inr h
/-- the dict at d holds the script at a, what is left at l, how often it was drawn -/
def Dr (K : PySem.W.Frag) (d l a : Addr) (ns : List Int) (H : Hp) : Prop := ∃ (ls : List Int) (n : Int), H d = some (.dK [(kCells, .ref a), (kLeft, .ref l), (kAt, .int n)]) ∧ Scr K H a (ns.map V.int) ∧ H l = some (.lst (ls.map V.int)) ∧
  ls.length = ns.length ∧ (∀ z ∈ ls, 0 ≤ z) ∧ 0 ≤ n
theorem Dr.same {K : PySem.W.Frag} {d l a : Addr} {ns : List Int} {H H' : Hp} (r : Dr K d l a ns H) (s : Same H H') : Dr K d l a ns H' := by
  obtain ⟨ls, n, h1, h2, h3, h4, h5, h6⟩ := r
  exact ⟨ls, n, s _ _ h1, h2.same s, s _ _ h3, h4, h5, h6⟩
/-- all but what the draws change is as it was -/
def Fr (d l : Addr) (H H' : Hp) : Prop := ∀ b o, b ≠ d → b ≠ l → H b = some o → H' b = some o
theorem Fr.refl (d l : Addr) (H : Hp) : Fr d l H H := fun _ _ _ _ e => e
theorem Fr.trans {d l : Addr} {H H1 H2 : Hp} (a : Fr d l H H1) (b : Fr d l H1 H2) : Fr d l H H2 := fun x o h1 h2 e => b x o h1 h2 (a x o h1 h2 e)
theorem fr_same {d l : Addr} {H H' : Hp} (s : Same H H') : Fr d l H H' := fun x o _ _ e => s x o e
theorem val_at {a l : Addr} {n : Int} : valV [(kCells, V.ref a), (kLeft, .ref l), (kAt, .int n)] kAt = some (.int n) := by rfl
theorem val_left {a l : Addr} {n : Int} : valV [(kCells, V.ref a), (kLeft, .ref l), (kAt, .int n)] kLeft = some (.ref l) := by rfl
theorem val_cells {a l : Addr} {n : Int} : valV [(kCells, V.ref a), (kLeft, .ref l), (kAt, .int n)] kCells = some (.ref a) := by rfl
theorem put_at {a l : Addr} {n m : Int} : putK [(kCells, V.ref a), (kLeft, .ref l), (kAt, .int n)] kAt (.int m) = [(kCells, V.ref a), (kLeft, .ref l), (kAt, .int m)] := by rfl
theorem map_at {α β : Type} {f : α → β} {l : List α} {i : Nat} {y : β} (h : (l.map f)[i]? = some y) : ∃ z, l[i]? = some z ∧ y = f z := by
  rw [List.getElem?_map] at h
  cases e : l[i]? with
  | none =>
    rw [e] at h
    cases h
  | some z =>
    rw [e] at h
    exact ⟨z, rfl, (Option.some.inj h).symm⟩
def spMixed : Sp := sp2 fun v b H Q _ => ∃ c k : Int, v = .int c ∧ b = .int k ∧ 0 ≤ k ∧ k < 1000 ∧ ∀ r : Int, 0 ≤ r → r < 2147483629 → Q (.int r) H
structure Td (mg : Str → Option Value) : Prop where
  z_len : mg "len" = none
section
variable {P : Program} {w : World} {K : PySem.W.Frag} {mg : Str → Option Value} {base : Heap}
theorem ok_law_mixed (F : FnP K mg "_law_mixed" s_law_mixed) : Cl P w K mg base 1 "_law_mixed" ["_law_cell", "_law_k"] spMixed := by
  refine cl_2 F sc_law_mixed (fun _ _ _ _ _ _ us hl => match us, hl with | [_, _], _ => rfl) fun cdv A outer s H v b Q E hr h => ?_
  obtain ⟨c, k, rfl, rfl, h0, h1, q⟩ := h
  refine ⟨_, PSs.nox (pss_one (ps_ret (pe_op op_mod (pe_op op_mul (pe_op op_mod (pe_op op_add (pe_op op_add (pe_op op_mul (pv 0) (pe_op op_add pe_int (pe_op op_mul (pe_op op_mul pe_int (pv 1)) (pv 1)))) (pe_op op_mul pe_int (pv 1))) pe_int) pe_int) pe_int) pe_int))), ?_⟩
  have k2 : 0 ≤ 2 * k * k ∧ 2 * k * k ≤ 2000000 := by
    have z1 : k * k ≤ 1000 * k := Int.mul_le_mul_of_nonneg_right (by omega) h0
    have z0 : 0 ≤ k * k := Int.mul_nonneg h0 h0
    rw [Int.mul_assoc]
    omega
  refine ⟨_, rfl, _, rfl, _, _, rfl, rfl, .inr ⟨by omega, by omega⟩, _, rfl, _, _, rfl, rfl, .inl ⟨by omega, by omega⟩, ?_⟩
  refine ⟨_, _, rfl, rfl, _, _, rfl, rfl, .inr ⟨by omega, by omega⟩, _, rfl, _, _, rfl, rfl, .inr ⟨by omega, by omega⟩, _, _, rfl, rfl, _, _, rfl, rfl, ?_⟩
  refine ⟨_, _, rfl, rfl, p31, _, _, rfl, rfl, .inr ⟨by decide, by decide⟩, _, _, rfl, rfl, p32, ?_⟩
  exact q _ (Int.emod_nonneg _ (by decide)) (Int.emod_lt_of_pos _ (by decide))
/-- what _law_begun makes -/
def spBegun (K : PySem.W.Frag) : Sp := sp1 fun v H Q _ => ∃ a ns, v = .ref a ∧ Scr K H a (ns.map V.int) ∧ ns.length ≤ 63 ∧ ∀ d l H', Dr K d l a ns H' → Same H H' → H d = none → H l = none → Q (.ref d) H'
theorem ok_law_begun (F : FnP K mg "_law_begun" s_law_begun) : Cl P w K mg base 1 "_law_begun" ["_law_script"] (spBegun K) := by
  refine cl_1 F sc_law_begun (fun _ _ _ _ _ _ us hl => match us, hl with | [_], _ => rfl) fun cdv A outer s H v Q E hr h => ?_
  obtain ⟨a, ns, rfl, hS, hn, q⟩ := h
  refine ⟨_, PSs.nox (pss_one (ps_ret (pe_disp (pps_cons pe_str (pv 0) (pps_cons pe_str (pe_lc (own := [("_law_cell", 1)]) (g := gName 1) (tt := tYes) rfl sc_law_begun.nd (pi_list (pv 0)) (blkOk_by (own := [("_law_cell", 1)]) (N := ["_law_script", "_law_cell"]) (sc := defScope s_law_begun) (by decide +kernel)) (fun _ _ _ _ _ => (pg_name (i := 1) sc_law_begun.nd rfl (Or.inl rfl))) (fun _ _ _ _ _ => pts_nil) (fun _ _ _ _ _ => (pe_ifExp (pt_cmpR op_ge (pv 1) (pe_op op_pow pe_int pe_int) (nomark _)) (pv 1) pe_int))) (pps_cons pe_str pe_int pps_nil))) (by rfl) (by rfl) (fun z => by cases z) (by decide)))), ?_⟩
  refine fun d nd => ⟨_, rfl, _, rfl, a, rfl, ⟨_, (same_new nd _).seq hS.sq⟩, fun D nD => ?_⟩
  have sd := same_new nd (.dK [])
  have nD0 : H D = none := sd.free nD
  have ned : d ≠ D := fun e => by
    rw [e, upd_same] at nD
    cases nD
  refine lc_list (K := K) (a := a) (xs := ns.map V.int) (fun i H' => ∃ ls : List Int, Same H H' ∧ H' d = some (.dK []) ∧ H' D = some (.lst (ls.map V.int)) ∧ ls.length = i ∧ i ≤ 63 ∧ ∀ z ∈ ls, 0 ≤ z)
    ⟨[], sd.trans (same_new nD _), by rw [upd_ne ned]; exact upd_same, upd_same, rfl, Nat.zero_le _, List.forall_mem_nil _⟩ (fun i H' _ z => by obtain ⟨_, z, _⟩ := z; exact z.seq hS.sq) ?_ ?_
  · rintro i y H1 hi ⟨ls, r1, r2, r3, r4, r5, r6⟩
    obtain ⟨z, hz, rfl⟩ := map_at hi
    have hi63 : i < 63 := Nat.lt_of_lt_of_le (List.getElem?_eq_some_iff.mp hz).1 hn
    have step : ∀ m : Int, 0 ≤ m → ∃ ls' : List Int, Same H (upd H1 D (.lst (ls.map V.int ++ [V.int m]))) ∧ upd H1 D (.lst (ls.map V.int ++ [V.int m])) d = some (.dK []) ∧ upd H1 D (.lst (ls.map V.int ++ [V.int m])) D = some (.lst (ls'.map V.int)) ∧ ls'.length = i + 1 ∧ i + 1 ≤ 63 ∧ ∀ z ∈ ls', 0 ≤ z := fun m hm =>
      ⟨ls ++ [m], same_mut r1 nD0, by rw [upd_ne ned]; exact r2, by rw [upd_same, List.map_append]; rfl, by rw [List.length_append, r4]; rfl, hi63, fun x hx => by
        rcases List.mem_append.mp hx with h | h
        · exact r6 x h
        · rw [List.mem_singleton.mp h]
          exact hm⟩
    have hl : (ls.map V.int).length < sizeLine := by
      rw [List.length_map, r4]
      exact small1000 (by omega)
    refine ⟨rfl, _, rfl, _, _, rfl, rfl, ⟨by decide, by decide, by decide⟩, _, _, rfl, rfl, _, rfl, ?_⟩
    refine ite2 (fun c => ?_) (fun c => ?_)
    · refine ⟨_, rfl, _, r3, hl, step z ?_⟩
      have c2 : (10 : Int) ^ (18 : Int).toNat ≤ z := of_decide_eq_true c
      have e : (10 : Int) ^ (18 : Int).toNat = 1000000000000000000 := by decide
      omega
    · exact ⟨_, r3, hl, step 0 (Int.le_refl 0)⟩
  · rintro H1 ⟨ls, r1, r2, r3, r4, r5, r6⟩
    refine ⟨r2, [(kCells, .ref a), (kLeft, .ref D), (kAt, .int 0)], rfl, (by show 3 ≤ 15; decide), ?_⟩
    have s9 : Same H (upd H1 d (.dK (mergeK [] [(kCells, V.ref a), (kLeft, .ref D), (kAt, .int 0)]))) := same_mut r1 nd
    refine q d D _ ⟨ls, 0, ?_, hS.same s9, ?_, ?_, r6, Int.le_refl 0⟩ s9 nd nD0
    · rw [upd_same]
      rfl
    · rw [upd_ne ned.symm]
      exact r3
    · rw [r4, List.length_map]
/-- _law_next: a number; the state goes on -/
def spNext (K : PySem.W.Frag) : Sp := sp1 fun v H Q _ => ∃ d l a ns, v = .ref d ∧ Dr K d l a ns H ∧ ns.length ≤ 63 ∧ ∀ (r : Int) H', Dr K d l a ns H' → Fr d l H H' → 0 ≤ r → r < 2147483647 → Q (.int r) H'
theorem ok_law_next (F : FnP K mg "_law_next" s_law_next) (T : Td mg) (B_law_mixed : Cl P w K mg base 1 "_law_mixed" ["_law_cell", "_law_k"] spMixed) : Cl P w K mg base 2 "_law_next" ["_law_state"] (spNext K) := by
  refine cl_1 F sc_law_next (fun _ _ _ _ _ _ us hl => match us, hl with | [_], _ => rfl) fun cdv A outer s H v Q E hr h => ?_
  obtain ⟨d, l, a, ns, rfl, ⟨ls, n, h1, h2, h3, h4, h5, h6⟩, hn, q⟩ := h
  refine ⟨_, PSs.nox (pss_cons (ps_dput (hu_of hr) (pv 0) pe_str (pe_op op_add (pe_dget (hu_of hr) (pv 0) pe_str (fun _ _ => rfl)) pe_int) rfl) (pss_cons (ps_set (i := 1) sc_law_next.nd rfl (Or.inl rfl) (pe_dget (hu_of hr) (pv 0) pe_str (fun _ _ => rfl))) (pss_cons (ps_if (pt_cmpR (op_eqNil hr.units0) (pe_dget (hu_of hr) (pv 0) pe_str (fun _ _ => rfl)) (pe_lst pa_nil) (nomark _)) (pss_one (ps_ret (pe_b B_law_mixed hr (by omega) rfl passL (pa_cons (pe_b B_law_mixed hr (by omega) rfl passL (pa_cons (pe_op op_mul pe_int (pv 1)) (pa_cons (pe_op op_mod (pv 1) pe_int) pa_nil))) (pa_cons pe_int pa_nil))))) pss_nil) (pss_cons (ps_set (i := 2) sc_law_next.nd rfl (Or.inl rfl) (pe_op op_mod (pv 1) (pe_callB call_len_seq rfl T.z_len PySem.boot_len (pa_cons (pe_dget (hu_of hr) (pv 0) pe_str (fun _ _ => rfl)) pa_nil)))) (pss_cons (ps_if (pt_cmpR op_gt (pe_ix ix_list (pe_dget (hu_of hr) (pv 0) pe_str (fun _ _ => rfl)) (pv 2) (fun _ _ => rfl)) pe_int (nomark _)) (pss_cons (ps_set (i := 3) sc_law_next.nd rfl (Or.inl rfl) (pe_op op_mod (pe_ix ix_list (pe_dget (hu_of hr) (pv 0) pe_str (fun _ _ => rfl)) (pv 2) (fun _ _ => rfl)) pe_int)) (pss_cons (ps_asg (pe_op op_fdivW (pe_ix ix_list (pe_dget (hu_of hr) (pv 0) pe_str (fun _ _ => rfl)) (pv 2) (fun _ _ => rfl)) pe_int) (pg_sub (pe_dget (hu_of hr) (pv 0) pe_str (fun _ _ => rfl)) (pv 2) set_list)) (pss_one (ps_ret (pv 3))))) pss_nil) (pss_one (ps_ret (pe_b B_law_mixed hr (by omega) rfl passL (pa_cons (pe_b B_law_mixed hr (by omega) rfl passL (pa_cons (pe_op op_add (pe_ix ix_list (pe_dget (hu_of hr) (pv 0) pe_str (fun _ _ => rfl)) (pv 2) (fun _ _ => rfl)) (pe_op op_mul pe_int (pv 1))) (pa_cons (pe_op op_mod (pv 1) pe_int) pa_nil))) (pa_cons (pe_op op_mod (pv 1) pe_int) pa_nil)))))))))), ?_⟩
  have ld : l ≠ d := ne_of h3 h1 (by intro z; cases z)
  refine ⟨_, rfl, d, _, rfl, DGet.k (k := kAt) h1, _, _, rfl, rfl, ?_⟩
  refine ⟨_, rfl, d, _, rfl, DPut.k (k := kAt) h1 (by show 3 < sizeLine; decide), ?_⟩
  rw [put_at]
  -- the state behind the count
  have g1 : upd H d (.dK [(kCells, V.ref a), (kLeft, .ref l), (kAt, .int (n + 1))]) d = some (.dK [(kCells, V.ref a), (kLeft, .ref l), (kAt, .int (n + 1))]) := upd_same
  have g3 : upd H d (.dK [(kCells, V.ref a), (kLeft, .ref l), (kAt, .int (n + 1))]) l = some (.lst (ls.map V.int)) := by
    rw [upd_ne ld]
    exact h3
  have g2 : Scr K (upd H d (.dK [(kCells, V.ref a), (kLeft, .ref l), (kAt, .int (n + 1))])) a (ns.map V.int) := by
    rcases h2 with ⟨o, h⟩ | h
    · exact .inl ⟨o, by rw [upd_ne (ne_of h h1 (by intro z; cases z))]; exact h⟩
    · exact .inr h
  have gf : Fr d l H (upd H d (.dK [(kCells, V.ref a), (kLeft, .ref l), (kAt, .int (n + 1))])) := fun b o e1 _ e => by
    rw [upd_ne e1]
    exact e
  generalize upd H d (.dK [(kCells, V.ref a), (kLeft, .ref l), (kAt, .int (n + 1))]) = H1 at g1 g2 g3 gf ⊢
  have gd : ∀ H2, Same H1 H2 → Dr K d l a ns H2 := fun H2 s => ⟨ls, n + 1, s _ _ g1, g2.same s, s _ _ g3, h4, h5, by omega⟩
  refine ⟨_, rfl, d, _, rfl, DGet.k (k := kAt) g1, ?_⟩
  refine ⟨_, rfl, d, _, rfl, DGet.k (k := kCells) g1, (by show 0 ≤ sizeLine; decide), fun p np => ⟨a, p, _, rfl, rfl, (g2.same (same_new np _)).sq, SqL.of upd_same, _, rfl, ?_⟩⟩
  have s2 : Same H1 (upd H1 p (.lst [])) := same_new np _
  have fr2 : Fr d l H (upd H1 p (.lst [])) := gf.trans (fr_same s2)
  have dr2 := gd _ s2
  have q1 := s2 _ _ g1
  have q2 := (g2.same s2).sq
  have q3 := s2 _ _ g3
  generalize upd H1 p (.lst []) = H2 at s2 fr2 dr2 q1 q2 q3 ⊢
  have fin : ∀ r : Int, 0 ≤ r → r < 2147483629 → Q (.int r) H2 := fun r a b => q r H2 dr2 fr2 a (by omega)
  cases ns with
  | nil =>
    refine iteT ?_
    refine ⟨_, rfl, _, _, rfl, rfl, .inl ⟨by decide, by decide⟩, _, rfl, _, _, rfl, rfl, p1000, _, _, rfl, _, _, rfl, rfl, Int.emod_nonneg _ (by decide), Int.emod_lt_of_pos _ (by decide), fun r r0 r1 => ?_⟩
    exact ⟨_, _, rfl, _, _, rfl, rfl, by decide, by decide, fin⟩
  | cons c0 cs =>
    refine iteF ?_
    have pl : (0 : Int) < (((c0 :: cs).map V.int).length : Nat) := by
      rw [List.length_map, List.length_cons]
      omega
    refine ⟨_, rfl, _, rfl, d, _, rfl, DGet.k (k := kCells) q1, a, _, rfl, .inl q2, _, _, rfl, rfl, pl, ?_⟩
    have i0 : 0 ≤ (n + 1) % (((c0 :: cs).map V.int).length : Nat) := Int.emod_nonneg _ (by omega)
    have i1 : (n + 1) % (((c0 :: cs).map V.int).length : Nat) < (((c0 :: cs).map V.int).length : Nat) := Int.emod_lt_of_pos _ pl
    obtain ⟨j, ej⟩ : ∃ j : Nat, (n + 1) % (((c0 :: cs).map V.int).length : Nat) = (j : Int) := ⟨((n + 1) % (((c0 :: cs).map V.int).length : Nat)).toNat, by omega⟩
    have hj : j < (c0 :: cs).length := by
      rw [ej, List.length_map] at i1
      omega
    obtain ⟨x, hx⟩ : ∃ x, (c0 :: cs)[j]? = some x := ⟨_, List.getElem?_eq_getElem hj⟩
    obtain ⟨z, hz⟩ : ∃ z, ls[j]? = some z := ⟨_, List.getElem?_eq_getElem (by rw [h4]; exact hj)⟩
    have ax : atI ((c0 :: cs).map V.int) ((n + 1) % (((c0 :: cs).map V.int).length : Nat)) = some (.int x) := by
      rw [ej]
      exact atI_nat (by rw [List.getElem?_map, hx]; rfl)
    have az : atI (ls.map V.int) ((n + 1) % (((c0 :: cs).map V.int).length : Nat)) = some (.int z) := by
      rw [ej]
      exact atI_nat (by rw [List.getElem?_map, hz]; rfl)
    have z0 : 0 ≤ z := h5 z (List.mem_of_getElem? hz)
    refine ⟨_, rfl, d, _, rfl, DGet.k (k := kLeft) q1, _, rfl, l, _, _, _, rfl, rfl, SqL.of q3, az, _, _, rfl, rfl, _, rfl, ?_⟩
    refine ite2 (fun c => ?_) (fun c => ?_)
    · refine ⟨_, rfl, d, _, rfl, DGet.k (k := kLeft) q1, _, rfl, l, _, _, _, rfl, rfl, SqL.of q3, az, _, _, rfl, rfl, p31, ?_⟩
      refine ⟨_, rfl, d, _, rfl, DGet.k (k := kLeft) q1, _, rfl, l, _, _, _, rfl, rfl, SqL.of q3, az, _, _, rfl, rfl, ⟨p31, by decide⟩, ?_⟩
      have lz : j < (ls.map V.int).length := by
        rw [List.length_map, h4]
        exact hj
      refine ⟨_, rfl, d, _, rfl, DGet.k (k := kLeft) q1, _, rfl, l, _, _, j, rfl, rfl, q3, by rw [ej]; exact ixN_nat lz, ?_⟩
      refine ⟨_, rfl, q _ _ ⟨ls.set j (z / 2147483647), n + 1, ?_, ?_, ?_, by rw [List.length_set, h4], ?_, by omega⟩ ?_ (Int.emod_nonneg _ (by decide)) (Int.emod_lt_of_pos _ (by decide))⟩
      · rw [upd_ne ld.symm]
        exact q1
      · rcases dr2 with ⟨_, _, _, ⟨o, h⟩ | h, _⟩
        · exact .inl ⟨o, by rw [upd_ne (ne_of h q3 (by intro z; cases z))]; exact h⟩
        · exact .inr h
      · rw [upd_same, List.map_set]
      · intro y hy
        rcases List.mem_or_eq_of_mem_set hy with h | h
        · exact h5 y h
        · rw [h]
          exact Int.ediv_nonneg z0 (by decide)
      · intro b o e1 e2 e
        rw [upd_ne e2]
        exact fr2 b o e1 e2 e
    · refine ⟨_, rfl, d, _, rfl, DGet.k (k := kCells) q1, _, rfl, a, _, _, _, rfl, rfl, q2, ax, _, rfl, _, _, rfl, rfl, .inl ⟨by decide, by decide⟩, _, _, rfl, rfl, ?_⟩
      refine ⟨_, rfl, _, _, rfl, rfl, p1000, _, _, rfl, _, _, rfl, rfl, Int.emod_nonneg _ (by decide), Int.emod_lt_of_pos _ (by decide), fun r r0 r1 => ?_⟩
      have m0 : 0 ≤ (n + 1) % 50 := Int.emod_nonneg _ (by decide)
      have m1 : (n + 1) % 50 < 50 := Int.emod_lt_of_pos _ (by decide)
      exact ⟨_, rfl, _, _, rfl, rfl, p50, _, _, rfl, _, _, rfl, rfl, m0, by omega, fin⟩
end
end Fl
namespace Fl
open PySem PySem.Spec PyProof.Rows L2
abbrev s_Function___init__ : Stmt := inClass (top 9) 0
theorem sc_Function___init__ : FnScope ["self", "names", "body", "scope", "own"] ["self", "names", "body", "scope", "own"] (defScope s_Function___init__) := ⟨rfl, rfl, rfl, by decide +kernel, rfl, by decide +kernel, by decide +kernel⟩
abbrev s_law_leaf : Stmt := top 37
theorem sc_law_leaf : FnScope ["_law_state", "_law_number", "_law_way", "_law_some"] ["_law_state"] (defScope s_law_leaf) := ⟨rfl, rfl, rfl, by decide +kernel, rfl, by decide +kernel, by decide +kernel⟩
abbrev s_law_worth : Stmt := top 38
theorem sc_law_worth : FnScope ["_law_state", "_law_deep", "_law_is_plain_one", "_law_number", "_law_scope", "_law_k"] ["_law_state", "_law_deep", "_law_is_plain_one"] (defScope s_law_worth) := ⟨rfl, rfl, rfl, by decide +kernel, rfl, by decide +kernel, by decide +kernel⟩
abbrev s_law_nested : Stmt := top 39
theorem sc_law_nested : FnScope ["_law_worth_here", "_law_many", "_law_k"] ["_law_worth_here", "_law_many"] (defScope s_law_nested) := ⟨rfl, rfl, rfl, by decide +kernel, rfl, by decide +kernel, by decide +kernel⟩

/-! ### what changes no tuple and no instance; lists stay lists, dicts dicts -/
def Im (H H' : Hp) : Prop := (∀ b xs, H b = some (.tup xs) → H' b = some (.tup xs)) ∧ (∀ b C dx fs, H b = some (.ins C dx fs) → H' b = some (.ins C dx fs)) ∧
  (∀ b xs, H b = some (.lst xs) → ∃ ys, H' b = some (.lst ys)) ∧ ∀ b kv, H b = some (.dK kv) → ∃ kw, H' b = some (.dK kw)
theorem Im.im {H H' : Hp} (a : Im H H') : Im H H' := a
theorem Im.refl (H : Hp) : Im H H := ⟨fun _ _ e => e, fun _ _ _ _ e => e, fun _ _ e => ⟨_, e⟩, fun _ _ e => ⟨_, e⟩⟩
theorem Im.trans {H H1 H2 : Hp} (a : Im H H1) (b : Im H1 H2) : Im H H2 := ⟨fun p xs e => b.1 p xs (a.1 p xs e), fun p C dx fs e => b.2.1 p C dx fs (a.2.1 p C dx fs e), fun p xs e => by
  obtain ⟨_, z⟩ := a.2.2.1 p xs e
  exact b.2.2.1 p _ z, fun p xs e => by
  obtain ⟨_, z⟩ := a.2.2.2 p xs e
  exact b.2.2.2 p _ z⟩
theorem im_same {H H' : Hp} (s : Same H H') : Im H H' := ⟨fun p xs e => s _ _ e, fun p C dx fs e => s _ _ e, fun _ _ e => ⟨_, s _ _ e⟩, fun _ _ e => ⟨_, s _ _ e⟩⟩
theorem im_fr {K : PySem.W.Frag} {d l a : Addr} {ns : List Int} {H H' : Hp} (r : Dr K d l a ns H) (r' : Dr K d l a ns H') (s : Fr d l H H') : Im H H' := by
  obtain ⟨ls, n, h1, h2, h3, _⟩ := r
  obtain ⟨_, _, g1, _, g3, _⟩ := r'
  refine ⟨fun p xs e => s _ _ (ne_of e h1 (by intro z; cases z)) (ne_of e h3 (by intro z; cases z)) e, fun p C dx fs e => s _ _ (ne_of e h1 (by intro z; cases z)) (ne_of e h3 (by intro z; cases z)) e, fun b xs e => ?_, fun b kv e => ?_⟩
  · by_cases hb : b = l
    · rw [hb]
      exact ⟨_, g3⟩
    · exact ⟨_, s _ _ (ne_of e h1 (by intro z; cases z)) hb e⟩
  · by_cases hb : b = d
    · rw [hb]
      exact ⟨_, g1⟩
    · exact ⟨_, s _ _ hb (ne_of e h3 (by intro z; cases z)) e⟩
theorem im_lst {H : Hp} {D : Addr} {xs ys : List V} (h : H D = some (.lst xs)) : Im H (upd H D (.lst ys)) := by
  refine ⟨fun p xs e => ?_, fun p C dx fs e => ?_, fun b zs e => ?_, fun b kv e => ?_⟩
  · rw [upd_ne (ne_of e h (by intro z; cases z))]
    exact e
  · rw [upd_ne (ne_of e h (by intro z; cases z))]
    exact e
  · by_cases hb : b = D
    · rw [hb]
      exact ⟨_, upd_same⟩
    · exact ⟨_, by rw [upd_ne hb]; exact e⟩
  · rw [upd_ne (ne_of e h (by intro z; cases z))]
    exact ⟨_, e⟩
mutual
theorem Is.ik {C : Addr} {H H' : Hp} (s : Im H H') : ∀ {v : V} {t : Th}, Is C H v t → Is C H' v t
  | _, _, .non => .non
  | _, _, .bl b => .bl b
  | _, _, .int i => .int i
  | _, _, .str x h => .str x h
  | _, _, .tup h r => .tup (s.1 _ _ h) (r.ik s)
  | _, _, .fn h r => .fn (s.2.1 _ _ _ _ h) (r.ik s)
  | _, _, .lst h => .lst (s.2.2.1 _ _ h).choose_spec
  | _, _, .dct h => .dct (s.2.2.2 _ _ h).choose_spec
theorem Iss.ik {C : Addr} {H H' : Hp} (s : Im H H') : ∀ {xs : List V} {ts : List Th}, Iss C H xs ts → Iss C H' xs ts
  | _, _, .nil => .nil
  | _, _, .cons h r => .cons (h.ik s) (r.ik s)
end
theorem Is.im {C : Addr} {H H' : Hp} (s : Im H H') {v : V} {t : Th} (h : Is C H v t) (_ : t.worth true = true) : Is C H' v t := h.ik s
theorem Iss.im {C : Addr} {H H' : Hp} (s : Im H H') {xs : List V} {ts : List Th} (h : Iss C H xs ts) (_ : Th.worths true ts = true) : Iss C H' xs ts := h.ik s
mutual
theorem worth_up : ∀ {t : Th}, t.worth false = true → t.worth true = true
  | .non, h => h
  | .bl _, h => h
  | .int _, h => h
  | .str _, h => h
  | .tup l, h => worths_up (by simpa [Th.worth] using h)
  | .fn _, _ => rfl
  | .oth, h => h
theorem worths_up : ∀ {l : List Th}, Th.worths false l = true → Th.worths true l = true
  | [], _ => rfl
  | t :: r, h => by
    rw [Th.worths, Bool.and_eq_true] at h
    rw [Th.worths, Bool.and_eq_true]
    exact ⟨worth_up h.1, worths_up h.2⟩
end
/-- a leaf -/
inductive Leaf : V → Th → Prop
  | int (i : Int) (h : numB i = true) : Leaf (.int i) (.int i)
  | bl (b : Bool) : Leaf (.bl b) (.bl b)
  | str (x : Str) (h : wordB x = true) : Leaf (.str x) (.str x)
theorem wordB_len {x : Str} (h : wordB x = true) : x.length ≤ 8 := by
  unfold wordB at h
  simp only [Bool.and_eq_true, decide_eq_true_eq] at h
  exact h.2.1
theorem Leaf.is {u : V} {t : Th} (h : Leaf u t) (C : Addr) (H : Hp) : Is C H u t := by
  cases h with
  | int i _ => exact .int i
  | bl b => exact .bl b
  | str x h => exact .str x (by have := wordB_len h; omega)
theorem Leaf.ok {u : V} {t : Th} (h : Leaf u t) : t.worth false = true := by
  cases h with
  | int i h => exact h
  | bl b => rfl
  | str x h => exact h
theorem Leaf.nodes {u : V} {t : Th} (h : Leaf u t) : t.nodes = 1 := by
  cases h <;> rfl
theorem Leaf.depth {u : V} {t : Th} (h : Leaf u t) : t.depth = 0 := by
  cases h <;> rfl
def spLeaf (K : PySem.W.Frag) : Sp := sp1 fun v H Q _ => ∃ d l a ns, v = .ref d ∧ Dr K d l a ns H ∧ ns.length ≤ 63 ∧ ∀ (u : V) (t : Th) H', Dr K d l a ns H' → Fr d l H H' → Leaf u t → Q u H'
def leafWords : List V := [.str "add", .str "z", .str "quote", .str "abcdefgh", .str "tru", .str "x", .str "function", .str "row", .str "q", .str "falses", .str "mm"]
def isWordV : V → Bool
  | .str x => wordB x
  | _ => false
theorem leaf_words : leafWords.all isWordV = true := by decide +kernel
theorem leaf_word {i : Nat} {v : V} (h : leafWords[i]? = some v) : ∃ t, Leaf v t := by
  have z := List.all_eq_true.mp leaf_words v (List.mem_of_getElem? h)
  cases v with
  | str x => exact ⟨_, .str x z⟩
  | _ => cases z
theorem p2 : (0 : Int) < 2 := by decide
theorem p3 : (0 : Int) < 3 := by decide
theorem p5 : (0 : Int) < 5 := by decide
theorem p8 : (0 : Int) < 8 := by decide
theorem p11 : (0 : Int) < 11 := by decide
theorem p21 : (0 : Int) < 21 := by decide
theorem p2e9 : (0 : Int) < 2000000001 := by decide
theorem s1 : 1 ≤ sizeLine := by decide
theorem s2 : 2 ≤ sizeLine := by decide
theorem s3 : 3 ≤ sizeLine := by decide
theorem p4 : (0 : Int) < 4 := by decide
theorem p9 : (0 : Int) < 9 := by decide
theorem d5 : CDiv n 5 := ⟨by decide, by decide⟩
theorem d20 : CDiv n 20 := ⟨by decide, by decide⟩
theorem d180 : CDiv n 180 := ⟨by decide, by decide⟩
theorem at2 {x y : V} {i : Int} (h : i = 0 ∨ i = 1) : atI [x, y] i = some (if i = 0 then x else y) := by
  rcases h with e | e <;> subst e <;> rfl
theorem d8 : CDiv n 8 := ⟨by decide, by decide⟩
theorem pw9 : CPow 10 9 := ⟨by decide, by decide, by decide⟩
theorem ten9 : (10 : Int) ^ (9 : Int).toNat = 1000000000 := by decide
section
variable {P : Program} {w : World} {K : PySem.W.Frag} {mg : Str → Option Value} {base : Heap}
theorem ok_law_leaf (F : FnP K mg "_law_leaf" s_law_leaf) (B_law_next : Cl P w K mg base 2 "_law_next" ["_law_state"] (spNext K)) : Cl P w K mg base 3 "_law_leaf" ["_law_state"] (spLeaf K) := by
  refine cl_1 F sc_law_leaf (fun _ _ _ _ _ _ us hl => match us, hl with | [_], _ => rfl) fun cdv A outer s H v Q E hr h => ?_
  obtain ⟨d, l, a, ns, rfl, h1, hn, q⟩ := h
  refine ⟨_, PSs.nox (pss_cons (ps_set (i := 1) sc_law_leaf.nd rfl (Or.inl rfl) (pe_b B_law_next hr (by omega) rfl passL (pa_cons (pv 0) pa_nil))) (pss_cons (ps_set (i := 2) sc_law_leaf.nd rfl (Or.inl rfl) (pe_op op_mod (pv 1) pe_int)) (pss_cons (ps_if (pt_cmpR op_lt (pv 2) pe_int (nomark _)) (pss_one (ps_ret (pe_ix ix_list (pe_lst (pa_cons (pe_op op_sub (pe_op op_mod (pe_op op_fdiv (pv 1) pe_int) pe_int) pe_int) (pa_cons (pe_op op_sub (pe_op op_mod (pe_op op_fdiv (pv 1) pe_int) pe_int) (pe_op op_pow pe_int pe_int)) (pa_cons (pe_op op_mul (pe_op op_pow pe_int pe_int) (pe_op op_sub (pe_op op_mod (pe_op op_fdiv (pv 1) pe_int) pe_int) pe_int)) pa_nil)))) (pv 2) (fun _ _ => rfl)))) pss_nil) (pss_cons (ps_if (pt_cmpR op_eq (pv 2) pe_int (nomark _)) (pss_one (ps_ret (pe_cmpR op_eq (pe_op op_mod (pe_op op_fdiv (pv 1) pe_int) pe_int) pe_int (nomark _)))) pss_nil) (pss_cons (ps_set (i := 3) sc_law_leaf.nd rfl (Or.inl rfl) (pe_lst (pa_cons pe_str (pa_cons pe_str (pa_cons pe_str (pa_cons pe_str (pa_cons pe_str (pa_cons pe_str (pa_cons pe_str (pa_cons pe_str (pa_cons pe_str (pa_cons pe_str (pa_cons pe_str pa_nil))))))))))))) (pss_one (ps_ret (pe_ix ix_list (pv 3) (pe_op op_mod (pe_op op_fdiv (pv 1) pe_int) pe_int) (fun _ _ => rfl))))))))), ?_⟩
  refine ⟨_, rfl, _, rfl, d, l, a, ns, rfl, h1, hn, fun n H1 h2 f1 n0 n1 => ?_⟩
  have w0 : 0 ≤ n % 8 := Int.emod_nonneg _ (by decide)
  have w1 : n % 8 < 8 := Int.emod_lt_of_pos _ (by decide)
  refine ⟨_, rfl, _, _, rfl, rfl, p8, _, rfl, _, _, rfl, rfl, _, rfl, ite2 (fun c => ?_) (fun c => ?_)⟩
  · have c' : n % 8 < 3 := of_decide_eq_true c
    refine ⟨_, rfl, _, _, rfl, rfl, d8, _, _, rfl, rfl, p21, _, _, rfl, rfl, ?_⟩
    refine ⟨_, rfl, _, _, rfl, rfl, d8, _, _, rfl, rfl, p2e9, _, _, rfl, rfl, pw9, _, _, rfl, rfl, ?_⟩
    refine ⟨_, _, rfl, rfl, pw9, _, rfl, _, _, rfl, rfl, d8, _, _, rfl, rfl, p3, _, _, rfl, rfl, _, _, rfl, rfl, .inr ⟨?_, ?_⟩, (by show 3 ≤ sizeLine; decide), fun p np => ?_⟩
    · have := Int.emod_nonneg (n / 8) (show (3 : Int) ≠ 0 by decide)
      have := Int.emod_lt_of_pos (n / 8) p3
      show -(2 ^ 64) < n / 8 % 3 - 1
      omega
    · have := Int.emod_lt_of_pos (n / 8) p3
      show n / 8 % 3 - 1 < 2 ^ 64
      omega
    rw [ten9]
    have sp := same_new np (.lst [V.int (n / 8 % 21 - 10), V.int (n / 8 % 2000000001 - 1000000000), V.int (1000000000 * (n / 8 % 3 - 1))])
    have hp := upd_same (H := H1) (a := p) (o := .lst [V.int (n / 8 % 21 - 10), V.int (n / 8 % 2000000001 - 1000000000), V.int (1000000000 * (n / 8 % 3 - 1))])
    have fin : ∀ i : Int, numB i = true → Q (.int i) (upd H1 p (.lst [V.int (n / 8 % 21 - 10), V.int (n / 8 % 2000000001 - 1000000000), V.int (1000000000 * (n / 8 % 3 - 1))])) := fun i hi => q _ _ _ (h2.same sp) (f1.trans (fr_same sp)) (.int i hi)
    have e0 := Int.emod_nonneg (n / 8) (show (21 : Int) ≠ 0 by decide)
    have e1 := Int.emod_lt_of_pos (n / 8) p21
    have e2 := Int.emod_nonneg (n / 8) (show (2000000001 : Int) ≠ 0 by decide)
    have e3 := Int.emod_lt_of_pos (n / 8) p2e9
    have e4 := Int.emod_nonneg (n / 8) (show (3 : Int) ≠ 0 by decide)
    have e5 := Int.emod_lt_of_pos (n / 8) p3
    have nb : ∀ i : Int, -1000000000 ≤ i → i ≤ 1000000000 → numB i = true := fun i a b => by
      unfold numB
      rw [decide_eq_true a, decide_eq_true b]
      rfl
    rcases (by omega : n % 8 = 0 ∨ n % 8 = 1 ∨ n % 8 = 2) with e | e | e
    · exact ⟨_, rfl, p, _, _, _, rfl, rfl, SqL.of hp, (by rw [e]; rfl), fin _ (nb _ (by omega) (by omega))⟩
    · exact ⟨_, rfl, p, _, _, _, rfl, rfl, SqL.of hp, (by rw [e]; rfl), fin _ (nb _ (by omega) (by omega))⟩
    · exact ⟨_, rfl, p, _, _, _, rfl, rfl, SqL.of hp, (by rw [e]; rfl), fin _ (nb _ (by omega) (by omega))⟩
  · refine ⟨_, rfl, rfl, _, rfl, ite2 (fun c2 => ?_) (fun c2 => ?_)⟩
    · exact ⟨_, rfl, _, _, rfl, rfl, d8, _, _, rfl, rfl, p2, rfl, q _ _ _ h2 f1 (.bl _)⟩
    · refine ⟨(by show 11 ≤ sizeLine; decide), fun p np => ?_⟩
      have sp := same_new np (.lst leafWords)
      refine ⟨_, rfl, _, rfl, _, _, rfl, rfl, d8, _, _, rfl, rfl, p11, ?_⟩
      have i0 := Int.emod_nonneg (n / 8) (show (11 : Int) ≠ 0 by decide)
      have i1 := Int.emod_lt_of_pos (n / 8) p11
      obtain ⟨j, ej⟩ : ∃ j : Nat, n / 8 % 11 = (j : Int) := ⟨(n / 8 % 11).toNat, by omega⟩
      have hj : j < leafWords.length := by
        show j < 11
        omega
      obtain ⟨t, ht⟩ := leaf_word (List.getElem?_eq_getElem hj)
      exact ⟨p, leafWords, _, _, rfl, rfl, SqL.of upd_same, (by rw [ej]; exact atI_nat (List.getElem?_eq_getElem hj)), q _ _ _ (h2.same sp) (f1.trans (fr_same sp)) ht⟩
/-! ### the class of functions -/
structure Tc (K : PySem.W.Frag) : Prop where
  kf : Kf K (He.ga K "Function")
  n1 : NoAttr K (He.ga K "Function") "params"
  n2 : NoAttr K (He.ga K "Function") "part"
  n3 : NoAttr K (He.ga K "Function") "known"
  n4 : NoAttr K (He.ga K "Function") "mine"
theorem putF_len (f : Str) (v : V) : ∀ fs : List (Str × V), (putF f v fs).length ≤ fs.length + 1
  | [] => by simp [putF]
  | p :: r => by
    have := putF_len f v r
    unfold putF
    split <;> simp <;> omega
def spInit (K : PySem.W.Frag) : Sp := fun vs H Q _ => ∃ (x dx : Addr) (n b s o : V), vs = [.ref x, n, b, s, o] ∧ H x = some (.ins (CF K) dx []) ∧ Q .non (upd H x (.ins (CF K) dx (fnF n b s o)))
theorem ok_Function___init__ (F : MtP K (CF K) "__init__" "Function.__init__" s_Function___init__) (T : Tc K) : ∃ fd, FnOk P w K mg base (L2.CX P w) 1 (He.ma K (CF K) "__init__") fd ["self", "names", "body", "scope", "own"] (spInit K) ∧ Binds K fd ["self", "names", "body", "scope", "own"] [] := by
  refine mt_mk F sc_Function___init__ (fun _ _ _ _ _ _ us hl => match us, hl with | [_, _, _, _, _], _ => rfl) (fun vs H Q E h => by obtain ⟨_, _, _, _, _, _, rfl, _⟩ := h; rfl) fun cdv A outer s H vs Q E hr h => ?_
  obtain ⟨x, dx, n, b, sc, o, rfl, hx, q⟩ := h
  refine ⟨_, PSs.nox (pss_cons (ps_fld (pv 0) (pv 1) rfl) (pss_cons (ps_fld (pv 0) (pv 2) rfl) (pss_cons (ps_fld (pv 0) (pv 3) rfl) (pss_one (ps_fld (pv 0) (pv 4) rfl))))), ?_⟩
  have l1 := putF_len "params" n []
  have l2 := putF_len "part" b (putF "params" n [])
  have l3 := putF_len "known" sc (putF "part" b (putF "params" n []))
  refine ⟨_, rfl, _, rfl, x, _, dx, _, rfl, hx, T.kf.cl, T.n1, (by show 0 < 1000; decide), ?_⟩
  refine ⟨_, rfl, _, rfl, x, _, dx, _, rfl, upd_same, T.kf.cl, T.n2, (by simp at l1; omega), ?_⟩
  refine ⟨_, rfl, _, rfl, x, _, dx, _, rfl, upd_same, T.kf.cl, T.n3, (by simp at l1; omega), ?_⟩
  refine ⟨_, rfl, _, rfl, x, _, dx, _, rfl, upd_same, T.kf.cl, T.n4, (by simp at l1; omega), ?_⟩
  rw [upd_upd, upd_upd, upd_upd]
  exact q
theorem nw_Function (F : MtP K (CF K) "__init__" "Function.__init__" s_Function___init__) (T : Tc K) (M : Mk K (CF K) (He.ma K (CF K) "__init__")) (g : mg "Function" = some (.ref (CF K))) :
    Nw P w K mg base 1 "Function" (CF K) ["self", "names", "body", "scope", "own"] (spInit K) := by
  obtain ⟨fd, h1, h2⟩ := ok_Function___init__ (P := P) (w := w) (mg := mg) (base := base) F T
  exact ⟨_, fd, M, h1, h2, g⟩
theorem same_made {H : Hp} {x dx : Addr} {o : HO} (nx : H x = none) (nd : H dx = none) : Same H (upd (upd (upd H dx (.own x)) x (.ins (CF K) dx [])) x o) := fun b u e => by
  rw [upd_ne (ne_of_none e nx), upd_ne (ne_of_none e nx), upd_ne (ne_of_none e nd)]
  exact e

/-! ### drawn worths -/
structure Tr (mg : Str → Option Value) : Prop where
  z_tuple : mg "tuple" = none
  z_range : mg "range" = none
/-- at most m deep (m from one on) -/
def spWorth (K : PySem.W.Frag) (m : Nat) : Sp := sp3 fun v dp pl H Q _ => ∃ d l a ns k p, v = .ref d ∧ dp = .int k ∧ pl = .bl p ∧ Dr K d l a ns H ∧ ns.length ≤ 63 ∧ k ≤ m ∧ 1 ≤ m ∧ m ≤ 6 ∧
  ∀ (u : V) (t : Th) H', Dr K d l a ns H' → Fr d l H H' → Is (CF K) H' u t → t.worth true = true → (p = true → t.worth false = true) → t.nodes ≤ 5 ^ m → t.depth ≤ m → Q u H'
theorem ok_law_worth_none (F : FnP K mg "_law_worth" s_law_worth) : Cl P w K mg base 4 "_law_worth" ["_law_state", "_law_deep", "_law_is_plain_one"] (spWorth K 0) := by
  refine cl_3 F sc_law_worth (fun _ _ _ _ _ _ us hl => match us, hl with | [_, _, _], _ => rfl) fun cdv A outer s H v b c Q E hr h => ?_
  obtain ⟨_, _, _, _, _, _, _, _, _, _, _, _, h, _⟩ := h
  omega
theorem ok_law_worth {m : Nat} (F : FnP K mg "_law_worth" s_law_worth) (T : Tr mg) (B_law_next : Cl P w K mg base 2 "_law_next" ["_law_state"] (spNext K)) (B_law_leaf : Cl P w K mg base 3 "_law_leaf" ["_law_state"] (spLeaf K))
    (B_Function : Nw P w K mg base 1 "Function" (CF K) ["self", "names", "body", "scope", "own"] (spInit K)) (B_law_worth : Cl P w K mg base (4 + m) "_law_worth" ["_law_state", "_law_deep", "_law_is_plain_one"] (spWorth K m)) :
    Cl P w K mg base (4 + m + 1) "_law_worth" ["_law_state", "_law_deep", "_law_is_plain_one"] (spWorth K (m + 1)) := by
  refine cl_3 F sc_law_worth (fun _ _ _ _ _ _ us hl => match us, hl with | [_, _, _], _ => rfl) fun cdv A outer s H v b c Q E hr h => ?_
  obtain ⟨d, l, a, ns, k, p, rfl, rfl, rfl, h1, hn, hk, hm1, hm, q⟩ := h
  refine ⟨_, PSs.nox (pss_cons (ps_set (i := 3) sc_law_worth.nd rfl (Or.inl rfl) (pe_b B_law_next hr (by omega) rfl passL (pa_cons (pv 0) pa_nil))) (pss_cons (ps_if (PW.pt (pw_or (pt_cmpR op_lt (pv 1) pe_int (nomark _)) (pw_or1 (pt_cmpR op_lt (pe_op op_mod (pv 3) pe_int) pe_int (nomark _))))) (pss_cons (ps_if (PW.pt (pw_and (pt_not (pt_val (pv 2))) (pw_and1 (pt_cmpR op_eq (pe_op op_mod (pe_op op_fdiv (pv 3) pe_int) pe_int) pe_int (nomark _))))) (pss_cons (ps_set (i := 4) sc_law_worth.nd rfl (Or.inl rfl) (pe_tup (pa_cons (pe_tup (pa_cons pe_str (pa_cons (pe_b B_law_leaf hr (by omega) rfl passL (pa_cons (pv 0) pa_nil)) pa_nil))) (pa_cons (pe_tup (pa_cons pe_str (pa_cons (pe_tup (pa_cons pe_int (pa_cons pe_str pa_nil))) pa_nil))) pa_nil)))) (pss_one (ps_ret (pe_new B_Function hr (by omega) rfl passL (pa_cons (pe_tup (pa_cons pe_str (pa_cons pe_str pa_nil))) (pa_cons (pe_tup (pa_cons pe_str (pa_cons pe_str (pa_cons (pe_op op_mod (pe_op op_fdiv (pv 3) pe_int) pe_int) pa_nil)))) (pa_cons (pv 4) (pa_cons (pe_ix ix_list (pe_lst (pa_cons pe_non (pa_cons pe_str pa_nil))) (pe_op op_mod (pe_op op_fdiv (pv 3) pe_int) pe_int) (fun _ _ => rfl)) pa_nil)))))))) pss_nil) (pss_one (ps_ret (pe_b B_law_leaf hr (by omega) rfl passL (pa_cons (pv 0) pa_nil))))) pss_nil) (pss_one (ps_ret (pe_tupleOf rfl T.z_tuple (pe_lc (own := [("_law_k", 5)]) (g := gName 5) (tt := tYes) rfl sc_law_worth.nd (pi_range1 rfl T.z_range (pa_cons (pe_op op_mod (pe_op op_fdiv (pv 3) pe_int) pe_int) pa_nil)) (blkOk_by (own := [("_law_k", 5)]) (N := ["_law_state", "_law_deep", "_law_is_plain_one", "_law_number", "_law_scope", "_law_k"]) (sc := defScope s_law_worth) (by decide +kernel)) (fun _ _ _ _ _ => (pg_name (i := 5) sc_law_worth.nd rfl (Or.inl rfl))) (fun _ _ _ _ _ => pts_nil) (fun _ _ _ _ _ => (pe_b B_law_worth hr (Nat.le_refl _) rfl passL (pa_cons (pv 0) (pa_cons (pe_op op_sub (pv 1) pe_int) (pa_cons (pv 2) pa_nil))))))))))), ?_⟩
  refine ⟨_, rfl, _, rfl, d, l, a, ns, rfl, h1, hn, fun n H1 h2 f1 n0 n1 => ?_⟩
  have p5m : 1 ≤ 5 ^ (m + 1) := Nat.one_le_pow _ _ (by decide)
  have leafQ : ∀ (u : V) (t : Th) H', Dr K d l a ns H' → Fr d l H1 H' → Leaf u t → Q u H' := fun u t H' r f g => q u t H' r (f1.trans f) (g.is _ _) (worth_up g.ok) (fun _ => g.ok) (by rw [g.nodes]; exact p5m) (by rw [g.depth]; exact Nat.zero_le _)
  refine ⟨_, rfl, _, _, rfl, rfl, _, rfl, ite2 (fun c => ?small1) (fun c => ⟨_, rfl, _, _, rfl, rfl, p5, _, _, rfl, rfl, _, rfl, ite2 (fun c2 => ?small2) (fun c2 => ?big)⟩)⟩
  case small1 | small2 =>
    refine ⟨_, rfl, p, rfl, ?_⟩
    cases p with
    | true => exact iteF (iteF ⟨_, rfl, _, rfl, d, l, a, ns, rfl, h2, hn, leafQ⟩)
    | false =>
      refine iteT ⟨_, rfl, _, _, rfl, rfl, d5, _, _, rfl, rfl, p4, rfl, _, rfl, ite2 (fun c3 => ?_) (fun c3 => ⟨_, rfl, _, rfl, d, l, a, ns, rfl, h2, hn, leafQ⟩)⟩
      refine ⟨_, rfl, _, rfl, d, l, a, ns, rfl, h2, hn, fun u1 t1 H2 r2 f2 g1 => ⟨s2, fun e1 k1 => ⟨s2, fun e2 k2 => ⟨s2, fun e3 k3 => ⟨s2, fun e4 k4 => ?_⟩⟩⟩⟩⟩
      have own : n / 180 % 2 = 0 ∨ n / 180 % 2 = 1 := by
        have := Int.emod_nonneg (n / 180) (show (2 : Int) ≠ 0 by decide)
        have := Int.emod_lt_of_pos (n / 180) p2
        omega
      refine ⟨s2, fun e5 k5 => ⟨_, rfl, _, _, rfl, rfl, d20, _, _, rfl, rfl, p9, s3, fun e6 k6 => ⟨_, rfl, s2, fun e7 k7 => ⟨_, rfl, _, _, rfl, rfl, d180, _, _, rfl, rfl, p2, e7, _, _, _, rfl, rfl, SqL.of upd_same, at2 own, ?_⟩⟩⟩⟩
      intro x dx nx ndx nex
      refine ⟨x, dx, _, _, _, _, rfl, upd_same, rfl, ?_⟩
      have c7 := same_new k7 (.lst [.non, .str "q"])
      have c6 := (same_new k6 (.tup [.str "add", .str "x", .int (n / 20 % 9)])).trans c7
      have c5 := (same_new k5 (.tup [.str "x", .str "mm"])).trans c6
      have c4 := (same_new k4 (.tup [.ref e1, .ref e3])).trans c5
      have c3 := (same_new k3 (.tup [.str "z", .ref e2])).trans c4
      have c2 := (same_new k2 (.tup [.int 1, .str "q"])).trans c3
      have c1 := (same_new k1 (.tup [.str "x", u1])).trans c2
      have sm := same_made (K := K) (o := .ins (CF K) dx (fnF (.ref e5) (.ref e6) (.ref e4) (if n / 180 % 2 = 0 then .non else .str "q"))) nx ndx
      have io : ∀ H', Is (CF K) H' (if n / 180 % 2 = 0 then V.non else .str "q") (if n / 180 % 2 = 0 then Th.non else .str "q") := fun H' => by
        split
        · exact .non
        · exact .str _ (by decide)
      refine q _ (.fn [.tup [.str "x", .str "mm"], .tup [.str "add", .str "x", .int (n / 20 % 9)], .tup [.tup [.str "x", t1], .tup [.str "z", .tup [.int 1, .str "q"]]], if n / 180 % 2 = 0 then Th.non else .str "q"]) _ (r2.same (c1.trans sm)) (f1.trans (f2.trans (fr_same (c1.trans sm)))) (.fn upd_same ?_) rfl (fun z => nomatch z) p5m (Nat.zero_le _)
      refine .cons (.tup (sm _ _ (c6 _ _ upd_same)) (.cons (.str _ (by decide)) (.one (.str _ (by decide))))) (.cons (.tup (sm _ _ (c7 _ _ upd_same)) (.cons (.str _ (by decide)) (.cons (.str _ (by decide)) (.one (.int _))))) (.cons (.tup (sm _ _ (c5 _ _ upd_same)) ?_) (.one (io _))))
      exact .cons (.tup (sm _ _ (c2 _ _ upd_same)) (.cons (.str _ (by decide)) (.one (g1.is _ _)))) (.one (.tup (sm _ _ (c4 _ _ upd_same)) (.cons (.str _ (by decide)) (.one (.tup (sm _ _ (c3 _ _ upd_same)) (.cons (.int _) (.one (.str _ (by decide)))))))))
  case big =>
    have hk2 : 2 ≤ k := by
      have : ¬ k < 2 := fun z => c (decide_eq_true z)
      omega
    refine ⟨_, rfl, _, _, rfl, rfl, d5, _, _, rfl, rfl, p5, _, rfl, ?_, ?_, fun D nD => ?_⟩
    · have := Int.emod_nonneg (n / 5) (show (5 : Int) ≠ 0 by decide)
      show -(2 ^ 62) ≤ n / 5 % 5
      omega
    · have := Int.emod_lt_of_pos (n / 5) p5
      show n / 5 % 5 < 2 ^ 62
      omega
    refine lc_it walk_range (fun i H' => ∃ xs ts, Dr K d l a ns H' ∧ Fr d l H1 H' ∧ H' D = some (.lst xs) ∧ Iss (CF K) H' xs ts ∧ Th.worths true ts = true ∧ (p = true → Th.worths false ts = true) ∧ Th.nodesL ts ≤ i * 5 ^ m ∧ xs.length = i ∧ Th.depthL ts ≤ m)
      ⟨[], [], h2.same (same_new nD _), fr_same (same_new nD _), upd_same, .nil, rfl, fun _ => rfl, Nat.zero_le _, rfl, Nat.zero_le _⟩ (fun _ _ _ _ => trivial) ?_ ?_
    · rintro i y H2 H3 hi ⟨xs, ts, r1, r2, r3, r4, r5, r6, r7, r8, r9⟩ ⟨rfl, rfl⟩
      refine ⟨rfl, _, rfl, _, rfl, _, _, rfl, rfl, _, rfl, _, _, _, rfl, d, l, a, ns, k - 1, p, rfl, rfl, rfl, r1, hn, by omega, by omega, by omega, fun u t H4 g1 g2 g3 g4 g5 g6 g7 => ?_⟩
      have eD : H4 D = some (.lst xs) := by
        obtain ⟨_, _, z1, _, z3, _⟩ := h2
        exact g2 _ _ (ne_of_none z1 nD).symm (ne_of_none z3 nD).symm r3
      have hi4 : i < 5 := by
        have := Int.emod_lt_of_pos (n / 5) p5
        omega
      refine ⟨xs, eD, by rw [r8]; exact small1000 (by omega), xs ++ [u], ts ++ [t], ?_, ?_, upd_same, ?_, ?_, ?_, ?_, ?_, ?_⟩
      · obtain ⟨ls, c9, z1, z2, z3, z4, z5, z6⟩ := g1
        refine ⟨ls, c9, ?_, ?_, ?_, z4, z5, z6⟩
        · rw [upd_ne (ne_of z1 eD (by intro z; cases z))]
          exact z1
        · rcases z2 with ⟨o, z⟩ | z
          · exact .inl ⟨o, by rw [upd_ne (ne_of z eD (by intro z; cases z))]; exact z⟩
          · exact .inr z
        · obtain ⟨_, _, _, _, y3, _⟩ := h2
          rw [upd_ne (ne_of_none y3 nD)]
          exact z3
      · intro b o e1 e2 e
        rw [upd_ne (ne_of_none e nD)]
        exact g2 b o e1 e2 (r2 b o e1 e2 e)
      · exact ((r4.im (im_fr r1 g1 g2) r5).app (.one g3)).im (im_lst eD) (by rw [worths_app, r5, Th.worths, g4]; rfl)
      · rw [worths_app, r5, Th.worths, g4]
        rfl
      · intro z
        rw [worths_app, r6 z, Th.worths, g5 z]
        rfl
      · rw [nodesL_app, Th.nodesL, Th.nodesL, Nat.add_mul, Nat.one_mul]
        omega
      · rw [List.length_append, r8]
        rfl
      · rw [depthL_app, Th.depthL, Th.depthL]
        omega
    · rintro H2 ⟨xs, ts, r1, r2, r3, r4, r5, r6, r7, r8, r9⟩
      refine .inl ⟨D, xs, rfl, SqL.of r3, fun P1 nP => ?_⟩
      have sm := same_new nP (.tup xs)
      have hi4 : (n / 5 % 5).toNat ≤ 4 := by
        have := Int.emod_lt_of_pos (n / 5) p5
        omega
      refine q _ (.tup ts) _ (r1.same sm) (f1.trans (r2.trans (fr_same sm))) (.tup upd_same (r4.same sm)) (by simpa [Th.worth] using r5) (fun z => by simpa [Th.worth] using r6 z) ?_ (by rw [Th.depth]; omega)
      have e1 : (n / 5 % 5).toNat * 5 ^ m ≤ 4 * 5 ^ m := Nat.mul_le_mul_right _ hi4
      have e2 : 1 ≤ 5 ^ m := Nat.one_le_pow _ _ (by decide)
      rw [Th.nodes, Nat.pow_succ]
      omega
def spNested (K : PySem.W.Frag) : Sp := sp2 fun v b H Q _ => ∃ t n, b = .int n ∧ Is (CF K) H v t ∧ 0 ≤ n ∧ n ≤ 10000 ∧ ∀ u t' H', Same H H' → Is (CF K) H' u t' → (∀ f, t'.worth f = t.worth f) → t'.nodes = t.nodes + n.toNat → Q u H'
theorem ok_law_nested (F : FnP K mg "_law_nested" s_law_nested) (T : Tr mg) : Cl P w K mg base 1 "_law_nested" ["_law_worth_here", "_law_many"] (spNested K) := by
  refine cl_2 F sc_law_nested (fun _ _ _ _ _ _ us hl => match us, hl with | [_, _], _ => rfl) fun cdv A outer s H v b Q E hr h => ?_
  obtain ⟨t, n, rfl, h, n0, n1, q⟩ := h
  refine ⟨_, PSs.nox (pss_cons (ps_for PassesOwn.never rfl (pi_range1 rfl T.z_range (pa_cons (pv 1) pa_nil)) (pg_name (i := 2) sc_law_nested.nd rfl (Or.inl rfl)) (pss_one (ps_set (i := 0) sc_law_nested.nd rfl (Or.inl rfl) (pe_tup (pa_cons (pv 0) pa_nil))))) (pss_one (ps_ret (pv 0)))), ?_⟩
  refine ⟨_, rfl, _, rfl, (by show -(2 ^ 62) ≤ n; omega), (by show n < 2 ^ 62; omega), ?_⟩
  refine for_it walk_range (fun i σ H' => ∃ u t' o, σ = [some u, some (.int n), o] ∧ Same H H' ∧ Is (CF K) H' u t' ∧ (∀ f, t'.worth f = t.worth f) ∧ t'.nodes = t.nodes + i)
    ⟨v, t, none, rfl, .refl _, h, fun _ => rfl, rfl⟩ (fun _ _ _ _ _ => trivial) ?_ ?_
  · rintro i y σ H1 H2 hi ⟨u, t', o, rfl, r1, r2, r3, r4⟩ ⟨rfl, rfl⟩
    refine ⟨_, rfl, s1, fun p np => ?_⟩
    refine ⟨_, .tup [t'], _, rfl, r1.trans (same_new np _), .tup upd_same (.one (r2.same (same_new np _))), fun f => ?_, ?_⟩
    · rw [Th.worth, Th.worths, Th.worths, r3 f, Bool.and_true]
    · rw [Th.nodes, Th.nodesL, Th.nodesL, r4]
      omega
  · rintro σ H1 ⟨u, t', o, rfl, r1, r2, r3, r4⟩
    exact ⟨_, rfl, q u t' _ r1 r2 r3 r4⟩
end
end Fl
/-! defs that ask repr: nothing is told by repr around them (no guard) -/
namespace Fl
open PySem PySem.Spec PyProof.Rows L2
structure FnG (P : Program) (w : World) (K : PySem.W.Frag) (mg : Str → Option Value) (base : Heap) (k : Nat) (f : Addr) (fd : FuncData) (ps : List Str) (sp : Sp) : Prop where
  len : ∀ vs H Q E, sp vs H Q E → vs.length = ps.length
  run : ∀ (A : Around) (outer : List Env) (s : Shared) (H : Hp) (args : Args) (us : List Value) (vs : List V) (Q : VK) (E : XK), Room k A → A.guards = some [] → Env0 P w K mg base A outer s H → BindsTo s fd args (ps.zip us) → Vals vs us → sp vs H Q E →
    codeAny (model P w) A (.call (.ref f) args) (CR (L2.CX P w) outer P w H s Q E) s
/-- the name x stands for such a def -/
structure Cg (P : Program) (w : World) (K : PySem.W.Frag) (mg : Str → Option Value) (base : Heap) (k : Nat) (x : Str) (ps : List Str) (sp : Sp) : Prop where
  ex : ∃ f fd, FnG P w K mg base k f fd ps sp ∧ (∀ us : List Value, us.length = ps.length → bindArgs fd ⟨us, []⟩ = pure (ps.zip us)) ∧ PySem.W.keepIn K (.ref f) = true ∧ mg x = some (.ref f) ∧ ∃ oc od osl, K.lookup f = some ⟨oc, od, .func fd, osl⟩
section
variable {P : Program} {w : World} {K : PySem.W.Frag} {mg : Str → Option Value} {base : Heap} {x : Str} {st : Stmt} {N ps : List Str} {k : Nat} {sp : Sp}
theorem fng_of {f : Addr} {name qual : Str} {params : Arguments} {body : List Stmt} {scope : Scope} {dV kV doc pm cdv ct oc : Value} {an od : Option Addr} {osl : Array (Option Value)}
    (lk : K.lookup f = some ⟨oc, od, .func (PySem.W.fnOf name qual params body scope dV kV doc pm an cdv ct), osl⟩) (hcd : PySem.W.codeIn K cdv qual = true) (S : FnScope N ps scope) (len : ∀ vs H Q E, sp vs H Q E → vs.length = ps.length)
    (hb : ∀ (A : Around) (outer : List Env) (s : Shared) (H : Hp) (vs : List V) (Q : VK) (E : XK), Room k (A.deeper (envOfC qual scope s.heap.objs.size f cdv)) → (A.deeper (envOfC qual scope s.heap.objs.size f cdv)).guards = some [] → sp vs H Q E →
      ∃ t, PSs (cxOf (L2.CX P w) P w K mg base N qual scope f cdv A outer s H E) body t ∧ t { nx := fun _ H' => Q .non H', rt := Q } (start N vs) H) :
    FnG P w K mg base (k + 1) f (PySem.W.fnOf name qual params body scope dV kV doc pm an cdv ct) ps sp := by
  constructor
  · exact len
  intro A outer s H args us vs Q E hr hg e0 bd r hsp
  have up : ∀ b o, base.get? b = some o → s.heap.get? b = some o := fun b o e => (e0.bs b o e).1
  have X0 : K.In s.heap := e0.mod.kin.keeps up
  have kinds : ∀ y ∈ ps.zip us, scope.names.lookup y.1 = some .local ∨ (scope.names.lookup y.1 = some .cell ∧ ((cellsFrom (s.heap.objs.size + 1) scope.names []).lookup y.1).isSome = true) := by
    rintro ⟨n, v⟩ hy
    rcases S.par n (List.of_mem_zip hy).1 with q | q
    · exact Or.inl q
    · exact Or.inr ⟨q, PySem.W.cellsFrom_some _ _ _ (Or.inl q)⟩
  apply codeAny_call_function hr.depth (X0 _ _ lk) rfl S.co S.gen rfl (PySem.W.codeRec_of X0 hcd)
  apply bd
  apply wpAny_newFunctionEnv_cells S.kind kinds
  intro env he z x
  subst he
  constructor
  · exact (e0.mod.nolimit.keeps up).keeps x.toInCall.keep
  apply codeAny_func
  obtain ⟨t, ht, hq⟩ := hb A outer s H vs Q E (hr.deeper _) hg hsp
  have I : Inv (cxOf (L2.CX P w) P w K mg base N qual scope f cdv A outer s H E) [] (start N vs) H z := inv_start S hr.hd e0 (len _ _ _ _ hsp) r x
  apply wpAny_mono (ht.run [] z (start N vs) H _ I hq) ?_ (fun e s' h => h)
  intro fl s' h
  cases fl with
  | ret u =>
    obtain ⟨v, σ', H', J, rv, q⟩ := h
    exact ⟨v, H', J.os, J.bare, J.base, J.hok, rv, q⟩
  | next =>
    obtain ⟨σ', H', J, q⟩ := h
    exact ⟨V.non, H', J.os, J.bare, J.base, J.hok, rfl, q⟩
  | brk =>
    obtain ⟨_, _, _, q⟩ := h
    exact q.elim
  | cont =>
    obtain ⟨_, _, _, q⟩ := h
    exact q.elim
theorem cg_mk (F : FnP K mg x st) (S : FnScope N ps (defScope st)) (hb : bindOk st x ps) (len : ∀ vs H Q E, sp vs H Q E → vs.length = ps.length)
    (body : ∀ (cdv : Value) (A : Around) (outer : List Env) (s : Shared) (H : Hp) (vs : List V) (Q : VK) (E : XK), Room k (A.deeper (envOfC x (defScope st) s.heap.objs.size (He.ga K x) cdv)) →
      (A.deeper (envOfC x (defScope st) s.heap.objs.size (He.ga K x) cdv)).guards = some [] → sp vs H Q E →
      ∃ t, PSs (cxOf (L2.CX P w) P w K mg base N x (defScope st) (He.ga K x) cdv A outer s H E) (defBody st) t ∧ t { nx := fun _ H' => Q .non H', rt := Q } (start N vs) H) : Cg P w K mg base (k + 1) x ps sp := by
  obtain ⟨fd, D⟩ := F.ex
  obtain ⟨oc, od, dV, kV, doc, pm, an, cdv, ct, osl, rfl, lk, hcd, hd, hkw⟩ := D.ex
  refine ⟨_, _, fng_of lk hcd S len (fun A outer s H vs Q E hr hg h => body cdv A outer s H vs Q E hr hg h), ?_, D.kp, F.gl, _, _, _, lk⟩
  rcases hd with ⟨_, e⟩ | ⟨e, _⟩
  · subst e
    exact fun us hl => hb kV doc pm an cdv ct us hl
  · exact absurd rfl e
end
section
variable {X : Cx} {k j : Nat} {x : Str} {ps : List Str} {sp : Sp} {E : XK} {p pos : Pos} {e : Expr} {es : List Expr} {t : TA}
theorem pe_g (c : Cg X.prog X.w X.K X.mg X.base k x ps sp) (hr : Room j X.A) (hG : X.A.guards = some []) (hk : k ≤ j) (hg : Gl X x) (hx : Passes (L2.CX X.prog X.w) X E) (ha : PA X (e :: es) t) (hdb : (x == ("__debug__" : Str)) = false := by decide)
    (he : starEach (e :: es) X.env = (false, eval e X.env) :: starEach es X.env := by rfl) (hpl : (backTo pos (starEach es X.env)).any (·.1) = false := by rfl) : PE X (.Call (.Name x p) (e :: es) [] pos) (tCall sp [] E t) := by
  obtain ⟨f, fd, F, b', kp, g, _⟩ := c.ex
  have b := Binds.all (K := X.K) b'
  constructor
  intro pins s σ H Q I h
  apply wpAny_Call_Name_kw (ld_glob I hg g ?_ hdb)
  apply PySem.W.callWith_K (h₀ := X.base) I.ok.mod.kin kp ?_ he hpl
  apply thn (ha.run pos pins s σ H _ I h)
  rintro us z ⟨vs, H1, I1, r, q⟩
  refine ⟨I1.kIn, ?_⟩
  rw [List.append_nil] at q
  have hl : us.length = ps.length := r.length.symm.trans (F.len _ _ _ _ q)
  have bd := b z us I1.kIn (by rw [List.append_nil]; exact hl)
  rw [List.append_nil] at bd
  apply wpAny_call
  apply codeAny_mono (F.run X.A X.stack z H1 ⟨us, []⟩ us vs Q E (hr.mono hk) hG I1.env0 bd r q)
  intro r' s' hq
  cases r' with
  | error er => exact hx pins σ H1 z er s' I1 hq
  | ok fl =>
    cases fl with
    | ret u => exact I1.after hq
    | next => exact hq.elim
    | brk => exact hq.elim
    | cont => exact hq.elim
/-- repr of data -/
def rReprD (K : PySem.W.Frag) : List V → Hp → VK → Prop := fun xs H Q => ∃ v d, xs = [v] ∧ Dp K H v d ∧ d.showable = true ∧ d.hasDict = false ∧ d.depth ≤ 60 ∧ d.shown.length ≤ sizeLine ∧ Q (.str d.shown) H
theorem call_reprD {j : Nat} (hr : Room j X.A) (hG : X.A.guards = some []) : CallR X (.builtin "repr") (rReprD X.K) := by
  intro pins s σ H xs us Q I r h
  obtain ⟨v, d, rfl, hd, h1, h2, h3, h4, q⟩ := h
  obtain ⟨u, rfl, ru⟩ := vals1 r
  have hu := hr.units
  obtain ⟨as, rd⟩ := Dp.reads I d v u hd ru
  have fin : ∀ t, EP X pins σ Q (.str d.shown t) { s with toks := s.toks + 1 } := fun t => ⟨.str d.shown, H, I.tok _, ⟨_, rfl⟩, q⟩
  cases rd with
  | none => exact PySem.P.repr_of_none (fin _)
  | bool b => cases b <;> exact PySem.P.repr_of_bool (fin _)
  | int i t => exact PySem.P.repr_of_int (by simpa [PyData.showable] using h1) (fin _)
  | str x t => exact PySem.P.repr_of_str (fin _) h4
  | list a b c e => exact repr_of_reads' (.list a b c e) h1 (fun z => by rw [h2] at z; cases z) hG (by omega) (fun _ _ e => e) (fun h' u tk k => ⟨.str _, H, I.kept (t' := tk) k, ⟨_, rfl⟩, q⟩) h4
  | tuple a b c e => exact repr_of_reads' (.tuple a b c e) h1 (fun z => by rw [h2] at z; cases z) hG (by omega) (fun _ _ e => e) (fun h' u tk k => ⟨.str _, H, I.kept (t' := tk) k, ⟨_, rfl⟩, q⟩) h4
  | dict a b c e f => cases h2
end
/-! ### the end of a law whose defs ask repr -/
section
variable {P : Program} {w : World} {K : PySem.W.Frag} {mg mb : Str → Option Value} {k : Nat} {fa a : Addr} {fd : FuncData} {x : Str} {sp : Sp} {s : Shared} {vs : List Value} {ns : List Int}
theorem callG_at {H : Hp} (KX : K.In s.heap) (g1 : s.heap.Ns mainGlobals mg) (g2 : s.heap.Ns builtinsNs mb) (g3 : ∀ x : Str, x ≠ "__name__" → mb x = bootBuiltins x) (g4 : s.heap.NoLimit) (g5 : s.gens = #[])
    (ha : s.heap.get? a = some { cls := .type "list", data := .seq vs.toArray }) (hr : Room k callerA) (F : ∀ base : Heap, K.In base → base.Ns mainGlobals mg → FnG P w K mg base k fa fd [x] sp) (bd : ∀ (s : Shared) (u : Value), BindsTo s fd ⟨[u], []⟩ [(x, u)])
    (hsp : sp [.ref a] H (fun v _ => v = .bl true) fun _ _ _ => False) (only : Only H) (ok : HOk P w H s.heap) (one : ∀ b, H b ≠ none → b = a) (apart : H a ≠ none → K.lookup a = none) :
    codeAny (model P w) callerA (.call (.ref fa) ⟨[.ref a], []⟩) (fun r s' => r = .ok (.ret (.bool true)) ∧ OldK s.heap s'.heap ∧ s'.os = s.os ∧ AllBare s'.gens) s := by
  have away : ∀ b : Addr, b ≠ a → H b = none := fun b hb => by
    cases q : H b with
    | none => rfl
    | some u => exact absurd (one b (by rw [q]; exact fun z => nomatch z)) hb
  have dicts : ∀ {b : Addr} {m : Str → Option Value}, s.heap.Ns b m → (hidT s.heap H).Ns b m := by
    rintro b m ⟨o, es, ep, e, d, r⟩
    have hb : b ≠ a := fun z => by
      rw [z, ha] at e
      cases e
      cases d
    exact ⟨o, es, ep, hidT_get e (away b hb), d, r⟩
  have KB : K.In (hidT s.heap H) := by
    intro b o e
    have hn : H b = none := by
      cases q : H b with
      | none => rfl
      | some u =>
        have z := one b (by rw [q]; exact fun z => nomatch z)
        rw [z] at q e
        rw [apart (by rw [q]; exact fun z => nomatch z)] at e
        cases e
    exact hidT_get (KX b o e) hn
  have lim : (hidT s.heap H).NoLimit := by
    obtain ⟨mc, z1, z2⟩ := g4
    exact ⟨mc, dicts z1, z2⟩
  have E0 : Env0 P w K mg (hidT s.heap H) callerA [] s H :=
    { frames := rfl, mod := { kin := KB, glob := dicts g1, blt := ⟨mb, dicts g2, g3⟩, nolimit := lim }, bs := fun b o e => of_hidT e, bsz := Nat.le_of_eq (hidT_size _ _), funs := trivial, frf := fun b hb => (nomatch hb), hok := ok, bare := .of_eq g5 }
  apply codeAny_mono ((F _ KB (dicts g1)).run callerA [] s H ⟨[.ref a], []⟩ [.ref a] [.ref a] _ _ hr rfl E0 (bd s (.ref a)) (.cons rfl .nil) hsp)
  intro r s' h
  cases r with
  | error e =>
    obtain ⟨_, _, _, _, _, _, _, _, _, _, _, _, z⟩ := h
    exact z.elim
  | ok fl =>
    cases fl with
    | next => exact h.elim
    | brk => exact h.elim
    | cont => exact h.elim
    | ret u =>
      obtain ⟨v, H', os, bare, un, ok', r', q⟩ := h
      subst q
      cases r'
      refine ⟨rfl, OldK.of_keep ?_, os, bare⟩
      intro b o e
      rcases only b with z | ⟨ob, ys, z⟩
      · exact un.keep b o e z (fun m => nomatch m) (fun m => nomatch m)
      · obtain ⟨y1, _⟩ := ok b _ z
        obtain ⟨y2, _⟩ := ok' b _ (un.frzs b ob _ z)
        rw [e] at y1
        cases y1
        exact y2
theorem callG (KX : K.In s.heap) (g1 : s.heap.Ns mainGlobals mg) (g2 : s.heap.Ns builtinsNs mb) (g3 : ∀ x : Str, x ≠ "__name__" → mb x = bootBuiltins x) (g4 : s.heap.NoLimit) (g5 : s.gens = #[])
    (ha : s.heap.get? a = some { cls := .type "list", data := .seq vs.toArray }) (hi : IntsAre vs ns) (hl : ns.length ≤ sizeLine) (hr : Room k callerA) (F : ∀ base : Heap, K.In base → base.Ns mainGlobals mg → FnG P w K mg base k fa fd [x] sp)
    (bd : ∀ (s : Shared) (u : Value), BindsTo s fd ⟨[u], []⟩ [(x, u)]) (hsp : ∀ H : Hp, Only H → SqL K H a (ns.map V.int) → sp [.ref a] H (fun v _ => v = .bl true) fun _ _ _ => False) :
    codeAny (model P w) callerA (.call (.ref fa) ⟨[.ref a], []⟩) (fun r s' => r = .ok (.ret (.bool true)) ∧ OldK s.heap s'.heap ∧ s'.os = s.os ∧ AllBare s'.gens) s := by
  have rv := vals_ints hi
  cases hk : K.lookup a with
  | some o =>
    have e := KX a o hk
    rw [ha] at e
    cases e
    have on : Only (fun _ => none) := fun _ => .inl rfl
    have sq : SqL K (fun _ => none) a (ns.map V.int) := .inr ⟨_, vs.toArray, _, hk, rfl, rfl, rfl, by rw [List.size_toArray, hi.length]; exact hl, by simpa using rv⟩
    exact callG_at KX g1 g2 g3 g4 g5 ha hr F bd (hsp _ on sq) on (fun b u z => nomatch z) (fun b z => absurd rfl z) fun z => absurd rfl z
  | none =>
    have at1 : (fun b : Addr => if b = a then some (HO.frz { cls := .type "list", data := .seq vs.toArray } (.lst (ns.map V.int))) else none) a = some (HO.frz { cls := .type "list", data := .seq vs.toArray } (.lst (ns.map V.int))) := if_pos rfl
    have on : Only (fun b : Addr => if b = a then some (HO.frz { cls := .type "list", data := .seq vs.toArray } (.lst (ns.map V.int))) else none) := fun b => by
      by_cases hb : b = a
      · exact .inr ⟨_, _, if_pos hb⟩
      · exact .inl (if_neg hb)
    refine callG_at KX g1 g2 g3 g4 g5 ha hr F bd (hsp _ on (.inl (.inr ⟨_, at1⟩))) on (fun b u z => ?_) (fun b z => ?_) fun _ => hk
    · by_cases hb : b = a
      · subst hb
        rw [if_pos rfl] at z
        cases z
        exact ⟨ha, by rw [List.length_map]; exact hl, vs, _, rv, ha⟩
      · rw [if_neg hb] at z
        cases z
    · by_cases hb : b = a
      · exact hb
      · exact absurd (if_neg hb) z
end
theorem walk_ofG {l : PySem.W.OpenLaw} {n k : Nat} {q : Program} {loose : List Str} {XP : (Str → Option Value) → Heap → Prop} {YP : World → Heap → Prop} {d : DefRec} {x : Str}
    (hn : l.most = some n) (hn2 : n ≤ sizeLine) (hdf : d.params.defaults = []) (hr : Room k callerA)
    (F : ∀ (w : World) (mg : Str → Option Value) (fa : Addr) (h : Heap), YP w h → h.Ns mainGlobals mg → mg d.name = some (.ref fa) →
      ∃ (K : PySem.W.Frag) (fd : FuncData) (sp : Sp), K.In h ∧ (∀ (s : Shared) (u : Value), BindsTo s fd ⟨[u], []⟩ [(x, u)]) ∧
        (∀ (H : Hp) (a : Addr) (ns : List Int), ns.length ≤ n → Only H → SqL K H a (ns.map V.int) → sp [.ref a] H (fun v _ => v = .bl true) fun _ _ _ => False) ∧
        ∀ base : Heap, K.In base → base.Ns mainGlobals mg → FnG l.prog w K mg base k fa fd [x] sp) :
    PySem.W.WalkO q loose XP YP l.row.toRowW d [] (fun f vs => PySem.call f vs) := by
  apply Att.attach_call hn hdf
  intro w s0 s1 mg mb fa o pm cd doc a vs ns G Y ho hd hcd hmg hobj hints hlen hg
  obtain ⟨K, fd, sp, KX, hb, hsp, hF⟩ := F w mg fa _ Y G.T.g hmg
  exact callG KX G.T.g G.T.b G.T.builtins G.T.nolimit hg hobj hints (Nat.le_trans hlen hn2) hr hF hb fun H hO hS => hsp H a ns hlen hO hS
/-- the end, of a def by name -/
theorem walk_ofN {l : PySem.W.OpenLaw} {n k : Nat} {q : Program} {loose : List Str} {XP : (Str → Option Value) → Heap → Prop} {YP : World → Heap → Prop} {d : DefRec} {x y : Str}
    (hn : l.most = some n) (hn2 : n ≤ sizeLine) (hdf : d.params.defaults = []) (hr : Room k callerA) (hy : d.name = y)
    (F : ∀ (w : World) (mg : Str → Option Value) (h : Heap), YP w h → h.Ns mainGlobals mg →
      ∃ (K : PySem.W.Frag) (sp : Sp), K.In h ∧ (∀ (H : Hp) (a : Addr) (ns : List Int), ns.length ≤ n → Only H → SqL K H a (ns.map V.int) → sp [.ref a] H (fun v _ => v = .bl true) fun _ _ _ => False) ∧
        ∀ base : Heap, Cg l.prog w K mg base k y [x] sp) :
    PySem.W.WalkO q loose XP YP l.row.toRowW d [] (fun f vs => PySem.call f vs) := by
  refine walk_ofG (x := x) hn hn2 hdf hr fun w mg fa h Y G g => ?_
  rw [hy] at g
  obtain ⟨K, sp, KX, hsp, C⟩ := F w mg h Y G
  obtain ⟨f, fd, F1, b, kp, gf, oc, od, osl, lk⟩ := (C h).ex
  cases g.symm.trans gf
  refine ⟨K, fd, sp, KX, fun s u => ?_, hsp, fun base _ _ => ?_⟩
  · exact .of_eq (b [u] rfl)
  · obtain ⟨f2, fd2, F2, _, _, gf2, oc2, od2, osl2, lk2⟩ := (C base).ex
    cases g.symm.trans gf2
    rw [lk] at lk2
    cases lk2
    exact F2
end Fl
/-! plain worths as data, and what stays as lists and dicts change -/
namespace Fl
open PySem PySem.Spec PyProof.Rows L2
mutual
def Th.dat : Th → PyData
  | .non => .none
  | .bl b => .bool b
  | .int i => .int i
  | .str x => .str x
  | .tup l => .tuple (Th.dats l)
  | .fn _ => .none
  | .oth => .none
def Th.dats : List Th → List PyData
  | [] => []
  | t :: r => t.dat :: Th.dats r
end
/-! what repr shows as the text says: no function, no list, no dict; good numbers and words; None too -/
mutual
def Th.showy : Th → Bool
  | .non => true
  | .bl _ => true
  | .int i => numB i
  | .str x => wordB x
  | .tup l => Th.showies l
  | .fn _ => false
  | .oth => false
def Th.showies : List Th → Bool
  | [] => true
  | t :: r => t.showy && Th.showies r
end
mutual
theorem showy_of : ∀ t : Th, t.worth false = true → t.showy = true
  | .non, w => by cases w
  | .fn _, w => by cases w
  | .oth, w => by cases w
  | .bl _, _ => rfl
  | .int _, w => w
  | .str _, w => w
  | .tup l, w => by
    rw [Th.showy]
    exact showies_of l (by simpa [Th.worth] using w)
theorem showies_of : ∀ l : List Th, Th.worths false l = true → Th.showies l = true
  | [], _ => rfl
  | t :: r, w => by
    rw [Th.worths, Bool.and_eq_true] at w
    rw [Th.showies, showy_of t w.1, showies_of r w.2]
    rfl
end
theorem wordB_signs {x : Str} (h : wordB x = true) : x.cps.toList.all isSign = true := by
  unfold wordB at h
  simp only [Bool.and_eq_true] at h
  exact h.2.2.2.2
theorem numB_abs {i : Int} (h : numB i = true) : i.natAbs ≤ 1000000000 := by
  unfold numB at h
  simp only [Bool.and_eq_true, decide_eq_true_eq] at h
  omega
theorem log2_num {n : Nat} (h : n ≤ 1000000000) : n.log2 ≤ 29 := by
  by_cases z : n = 0
  · subst z
    decide
  · have := (Nat.log2_lt z (k := 30)).mpr (by omega)
    omega
mutual
theorem dat_dp {K : PySem.W.Frag} {C : Addr} {H : Hp} : ∀ {v : V} {t : Th}, Is C H v t → t.showy = true → Dp K H v t.dat
  | _, _, .non, _ => by rw [Th.dat]; exact .non
  | _, _, .bl b, _ => by rw [Th.dat]; exact .bl b
  | _, _, .int i, _ => by rw [Th.dat]; exact .int i
  | _, _, .str x h, _ => by rw [Th.dat]; exact .str x
  | _, _, .tup h r, w => by rw [Th.dat]; exact .tup (SqT.of h) (dats_dp r (by simpa [Th.showy] using w))
  | _, _, .fn h _, w => by cases w
  | _, _, .lst h, w => by cases w
  | _, _, .dct h, w => by cases w
theorem dats_dp {K : PySem.W.Frag} {C : Addr} {H : Hp} : ∀ {xs : List V} {ts : List Th}, Iss C H xs ts → Th.showies ts = true → DpAll K H xs (Th.dats ts)
  | _, _, .nil, _ => by rw [Th.dats]; exact .nil
  | _, _, .cons h r, w => by
    rw [Th.showies, Bool.and_eq_true] at w
    rw [Th.dats]
    exact .cons (dat_dp h w.1) (dats_dp r w.2)
end
mutual
theorem dat_ok : ∀ t : Th, t.showy = true → t.dat.leavesShort 13 = true ∧ t.dat.showable = true ∧ t.dat.hasDict = false ∧ t.dat.weight + 1 ≤ 32 * t.nodes ∧ t.dat.depth ≤ t.depth
  | .non, _ => by
    rw [Th.dat, Th.nodes, Th.depth]
    exact ⟨rfl, rfl, rfl, by simp [PyData.weight], by simp [PyData.depth]⟩
  | .fn _, w => by cases w
  | .oth, w => by cases w
  | .bl b, _ => by
    rw [Th.dat, Th.nodes, Th.depth]
    exact ⟨rfl, rfl, rfl, by simp [PyData.weight], by simp [PyData.depth]⟩
  | .int i, w => by
    have z := numB_abs (show numB i = true from w)
    have lg := log2_num z
    rw [Th.dat, Th.nodes, Th.depth]
    refine ⟨?_, ?_, rfl, ?_, by simp [PyData.depth]⟩
    · simp only [PyData.leavesShort, decide_eq_true_eq]
      exact PyData.shown_int_le (by omega)
    · simp only [PyData.showable, decide_eq_true_eq]
      omega
    · simp only [PyData.weight]
      split <;> omega
  | .str x, w => by
    have z := wordB_len (show wordB x = true from w)
    have sg := wordB_signs (show wordB x = true from w)
    rw [Th.dat, Th.nodes, Th.depth]
    refine ⟨?_, rfl, rfl, ?_, by simp [PyData.depth]⟩
    · simp only [PyData.leavesShort, List.all_eq_true, decide_eq_true_eq]
      intro c hc
      have := List.all_eq_true.mp sg c hc
      unfold isSign at this
      simp only [Bool.and_eq_true, Nat.ble_eq] at this
      omega
    · have e : x.length = x.cps.size := rfl
      simp only [PyData.weight]
      omega
  | .tup l, w => by
    obtain ⟨h1, h2, h3, h4, h5⟩ := dats_ok l (by simpa [Th.showy] using w)
    rw [Th.dat, Th.nodes, Th.depth]
    refine ⟨by simpa only [PyData.leavesShort] using h1, by simpa only [PyData.showable] using h2, by simpa only [PyData.hasDict] using h3, ?_, ?_⟩
    · simp only [PyData.weight]
      omega
    · simp only [PyData.depth]
      omega
theorem dats_ok : ∀ l : List Th, Th.showies l = true → PyData.leavesShortAll 13 (Th.dats l) = true ∧ PyData.showableAll (Th.dats l) = true ∧ PyData.hasDictAll (Th.dats l) = false ∧ PyData.weightAll (Th.dats l) ≤ 32 * Th.nodesL l ∧ PyData.depthAll (Th.dats l) ≤ Th.depthL l
  | [], _ => by
    rw [Th.dats, Th.nodesL, Th.depthL]
    exact ⟨rfl, rfl, rfl, Nat.le_refl _, Nat.le_refl _⟩
  | t :: r, w => by
    rw [Th.showies, Bool.and_eq_true] at w
    obtain ⟨h1, h2, h3, h4, h5⟩ := dat_ok t w.1
    obtain ⟨g1, g2, g3, g4, g5⟩ := dats_ok r w.2
    rw [Th.dats, Th.nodesL, Th.depthL]
    refine ⟨?_, ?_, ?_, ?_, ?_⟩
    · simp only [PyData.leavesShortAll, h1, g1, Bool.and_self]
    · simp only [PyData.showableAll, h2, g2, Bool.and_self]
    · simp only [PyData.hasDictAll, h3, g3, Bool.or_self]
    · simp only [PyData.weightAll]
      omega
    · simp only [PyData.depthAll]
      omega
end
/-- repr of a plain worth -/
theorem repr_shw {K : PySem.W.Frag} {C : Addr} {H : Hp} {v : V} {t : Th} (h : Is C H v t) (w : t.showy = true) (hn : t.nodes ≤ 30000) (hd : t.depth ≤ 60) : Dp K H v t.dat ∧ t.dat.showable = true ∧ t.dat.hasDict = false ∧ t.dat.depth ≤ 60 ∧ t.dat.shown.length ≤ sizeLine := by
  obtain ⟨h1, h2, h3, h4, h5⟩ := dat_ok t w
  have e : (2 : Nat) ^ 20 = 1048576 := by decide
  exact ⟨dat_dp h w, h2, h3, by omega, PyData.shown_fits (by decide) (Nat.le_refl _) h1 (by omega)⟩
theorem repr_dat {K : PySem.W.Frag} {C : Addr} {H : Hp} {v : V} {t : Th} (h : Is C H v t) (w : t.worth false = true) (hn : t.nodes ≤ 30000) (hd : t.depth ≤ 60) : Dp K H v t.dat ∧ t.dat.showable = true ∧ t.dat.hasDict = false ∧ t.dat.depth ≤ 60 ∧ t.dat.shown.length ≤ sizeLine :=
  repr_shw h (showy_of t w) hn hd
/-! ### kinds stay -/
abbrev Ik (H H' : Hp) : Prop := Im H H'
theorem ik_same {H H' : Hp} (s : Same H H') : Im H H' := im_same s
theorem ik_fr {K : PySem.W.Frag} {d l a : Addr} {ns : List Int} {H H' : Hp} (r : Dr K d l a ns H) (r' : Dr K d l a ns H') (s : Fr d l H H') : Im H H' := im_fr r r' s
end Fl
/-! tuple * int, further than the layer's own rule -/
namespace Fl
open PySem PySem.Spec PyProof.Rows L2
def rMulT (K : PySem.W.Frag) : R2 := fun x y H Q => ∃ l k xs, x = .ref l ∧ y = .int k ∧ SqT K H l xs ∧ xs ≠ [] ∧ 2 ≤ k ∧ (xs.length : Int) * k ≤ 1000000 ∧ ∀ p, H p = none → Q (.ref p) (upd H p (.tup (List.replicate k.toNat xs).flatten))
section
variable {X : Cx}
theorem op_mulT : OpR X (binaryOp .Mult) (rMulT X.K) := by
  intro pins s σ H x y v u Q I rx ry h
  obtain ⟨l, k, xs, rfl, rfl, hT, hne, h1, hz, q⟩ := h
  cases rx
  obtain ⟨t, rfl⟩ := ry
  obtain ⟨its, r, ⟨⟨cls, dd, data, sl⟩, ho, hc, n, hd⟩, hs⟩ := I.tuple hT
  simp only at hc hd
  subst hc hd
  have hle : its.length = xs.length := r.length.symm
  have hn : its ≠ [] := fun e => hne (by
    rw [e] at hle
    exact List.eq_nil_of_length_eq_zero hle.symm)
  have hp : 1 ≤ xs.length := by
    rw [← hle]
    exact List.length_pos_iff.mpr hn
  have hi : its.toArray.isEmpty = false := by
    cases its with
    | nil => exact absurd rfl hn
    | cons a b => rfl
  have hsz0 : its.toArray.size = xs.length := by rw [List.size_toArray, hle]
  have h2 : k ≤ 1000000 := by
    have a1 : 1 * k ≤ (xs.length : Int) * k := Int.mul_le_mul_of_nonneg_right (by omega) (by omega)
    omega
  have hm : ((its.toArray.size : Nat) : Int) * k ≤ 1000000 := by
    rw [hsz0]
    exact hz
  have rl : k.toNat * xs.length ≤ 1000000 := by
    have e : ((k.toNat * xs.length : Nat) : Int) = (xs.length : Int) * k := by
      rw [Int.natCast_mul, Int.toNat_of_nonneg (by omega), Int.mul_comm]
    omega
  have flen : (List.replicate k.toNat its).flatten.length ≤ sizeLine := by
    rw [PyProof.Rows.lm_len_rep_flat, hle, sizeLine_eq]
    omega
  have c0 : (decide (k < -(2 ^ 63)) || decide (k ≥ 2 ^ 63)) = false := by
    rw [decide_eq_false (by omega), decide_eq_false (by omega)] <;> rfl
  have c1 : (its.toArray.isEmpty || k == 1) = false := by
    rw [hi, Bool.false_or]
    exact beq_eq_false_iff_ne.mpr (by omega)
  have c2 : (decide (k ≤ 0) || its.toArray.isEmpty) = false := by
    rw [hi, Bool.or_false]
    exact decide_eq_false (by omega)
  have c4 : Builtin.Tuple.tupleTooMany (((its.toArray.size : Nat) : Int) * k) = false := by
    unfold Builtin.Tuple.tupleTooMany
    rw [sizeLine_eq]
    exact decide_eq_false (by omega)
  refine wpAny_binaryOp_repeat_ref (T := "tuple") (U := "int") (by decide) ⟨_, ho, rfl⟩ (fun s' => typeIs_int s' k t) noFill_tuple_mul F.fills_int_mul F.slot_int_rmul repeat_tuple F.slot_int_index.lookup
    (call_meets F.slot_int_rmul (typeIs_int s k t) F.entry_int_rmul (F.args_int_rmul_2 _ _) (int_rmul_tuple k t l its.toArray n dd sl)
      ⟨ho, rfl, ⟨_, ho, rfl⟩, call_meets F.slot_tuple_mul ⟨_, ho, rfl⟩ F.entry_tuple_mul (F.args_tuple_mul_2 _ _) (tuple_mulW l its.toArray n dd sl k t c0 c1 c2 (by omega) c4 (by rw [size_rep, List.size_toArray]; exact flen)) ⟨ho, ?_⟩⟩)
  rw [size_rep]
  refine ⟨.ref s.heap.objs.size, _, I.laid (t' := s.toks) (o := .tup (List.replicate k.toNat xs).flatten) (fun b ob q => Heap.get?_push_of_some _ q) (Nat.le_refl _) ?_, rfl, q _ (I.hok.fresh (Nat.le_refl _))⟩
  exact ⟨by rw [PyProof.Rows.lm_len_rep_flat, sizeLine_eq]; omega, _, r.rep k.toNat, IsTup.new _ _⟩
end
end Fl
/-! what several laws want -/
namespace Fl
open PySem PySem.Spec PyProof.Rows L2
theorem Iss.get {C : Addr} {H : Hp} : ∀ {xs : List V} {ts : List Th} {i : Nat} {x : V}, Iss C H xs ts → xs[i]? = some x → ∃ t, ts[i]? = some t ∧ Is C H x t
  | _, _, 0, _, .cons h _, e => ⟨_, rfl, by cases e; exact h⟩
  | _, _, i + 1, _, .cons _ r, e => r.get (i := i) e
theorem Iss.take {C : Addr} {H : Hp} : ∀ {xs : List V} {ts : List Th} (i : Nat), Iss C H xs ts → Iss C H (xs.take i) (ts.take i)
  | _, _, 0, _ => .nil
  | _, _, _ + 1, .nil => .nil
  | _, _, i + 1, .cons h r => .cons h (r.take i)
theorem Iss.drop {C : Addr} {H : Hp} : ∀ {xs : List V} {ts : List Th} (i : Nat), Iss C H xs ts → Iss C H (xs.drop i) (ts.drop i)
  | _, _, 0, h => h
  | _, _, _ + 1, .nil => .nil
  | _, _, i + 1, .cons _ r => r.drop i
theorem depth_mem : ∀ {ts : List Th} {t : Th}, t ∈ ts → t.depth ≤ Th.depthL ts
  | _ :: _, _, .head _ => by rw [Th.depthL]; omega
  | _ :: _, _, .tail _ h => by have := depth_mem h; rw [Th.depthL]; omega
theorem nodes_mem : ∀ {ts : List Th} {t : Th}, t ∈ ts → t.nodes ≤ Th.nodesL ts
  | _ :: _, _, .head _ => by rw [Th.nodesL]; omega
  | _ :: _, _, .tail _ h => by have := nodes_mem h; rw [Th.nodesL]; omega
theorem worth_mem {f : Bool} : ∀ {ts : List Th} {t : Th}, t ∈ ts → Th.worths f ts = true → t.worth f = true
  | _ :: _, _, .head _, e => by rw [Th.worths, Bool.and_eq_true] at e; exact e.1
  | _ :: _, _, .tail _ h, e => by rw [Th.worths, Bool.and_eq_true] at e; exact worth_mem h e.2
theorem worth_down {t : Th} (h : t.worth true = false) : t.worth false = false := by
  cases e : t.worth false with
  | false => rfl
  | true => rw [worth_up e] at h; exact h
theorem hu1 {A : Around} {k : Nat} (hr : Room k A) : A.units + 1 < cLine := by
  have := hr.units
  omega
theorem join_seq {ta tb : TS} {D : Ends} {σ : L2.St} {H : Hp} (J : (L2.St → Hp → Prop) → Prop) (h1 : J (fun σ H => tb D σ H)) (h2 : ∀ D' : Ends, J D'.nx → ta D' σ H) : tSeq ta tb D σ H := h2 _ h1
theorem stepG {i : Nat} {x : V} {σ : L2.St} {H : Hp} {k : L2.St → Hp → Prop} (h : k (σ.set i (some x)) H) : gName i x σ H k := h
theorem stepN {D : Ends} {σ : L2.St} {H : Hp} (h : D.nx σ H) : tNext D σ H := h
theorem join_t {T : (Bool → Hp → Prop) → Prop} {k : Bool → Hp → Prop} (J : (Bool → Hp → Prop) → Prop) (h1 : J k) (h2 : ∀ k, J k → T k) : T k := h2 k h1
theorem flat_rep {α : Type} (v : α) : ∀ k : Nat, (List.replicate k [v]).flatten = List.replicate k v
  | 0 => rfl
  | k + 1 => by rw [List.replicate_succ, List.replicate_succ, List.flatten_cons, flat_rep v k]; rfl
theorem iss_rep {C : Addr} {H : Hp} {v : V} {t : Th} (h : Is C H v t) : ∀ k : Nat, Iss C H (List.replicate k v) (List.replicate k t)
  | 0 => .nil
  | k + 1 => .cons h (iss_rep h k)
theorem nodes_rep {t : Th} (h : t.nodes = 1) : ∀ k : Nat, Th.nodesL (List.replicate k t) = k
  | 0 => rfl
  | k + 1 => by rw [List.replicate_succ, Th.nodesL, h, nodes_rep h k]; omega
theorem worths_rep {f : Bool} {t : Th} (h : t.worth f = true) : ∀ k : Nat, Th.worths f (List.replicate k t) = true
  | 0 => rfl
  | k + 1 => by rw [List.replicate_succ, Th.worths, h, worths_rep h k]; rfl
theorem not_num {t : Th} (h : t.worth true = false) : t.num = false := by
  cases t <;> first | rfl | exact h
theorem not_wrd {t : Th} (h : t.worth true = false) : t.wrd = false := by
  cases t <;> first | rfl | exact h
theorem ite_no {c A B : Prop} [Decidable c] (h : ¬ c) (b : B) : if c then A else B := by
  rw [if_neg h]
  exact b
theorem str_self {k : Bool → Hp → Prop} {H : Hp} (x : Str) (h : k false H) : k (!decide (V.str x = V.str x)) H := by
  rw [decide_eq_true rfl]
  exact h
theorem shaped_bb (a b : Bool) : SeqAt.shaped (.tuple [.bool a, .bool b]) = true := by cases a <;> cases b <;> decide +kernel
theorem not_eqv (a b : Bool) : ¬ (!PyData.eqv (.tuple [.bool a, .bool b]) (.tuple [.bool a, .bool b])) = true := by
  simp [PyData.eqv, PyData.eqvAll]
theorem bl_not (b : Bool) : ¬ decide (V.bl b = V.bl (!b)) = true := by
  rw [dec_bl]
  cases b <;> decide
theorem bl_self (b : Bool) : ¬ (!decide (V.bl b = V.bl b)) = true := by
  rw [dec_bl]
  cases b <;> decide
end Fl
/-! texts.py: words_in -/
namespace Fl
open PySem PySem.Spec PyProof.Rows L2
open SX (S)
abbrev s_words_in : Stmt := top 31
theorem sc_words_in : FnScope ["text", "found", "at", "begin"] ["text"] (defScope s_words_in) := ⟨rfl, rfl, rfl, by decide +kernel, rfl, by decide +kernel, by decide +kernel⟩
def isBr (c : Nat) : Bool := c == 40 || c == 41
def isGap (c : Nat) : Bool := c == 32 || c == 10
def isSep (c : Nat) : Bool := isBr c || isGap c
def flush : List Nat → List (List Nat)
  | [] => []
  | u => [u]
/-- the brackets and words of a text; u: what of a word was read -/
def tok : List Nat → List Nat → List (List Nat)
  | u, [] => flush u
  | u, c :: r => if isSep c then flush u ++ ((if isBr c then [[c]] else []) ++ tok [] r) else tok (u ++ [c]) r
theorem in_br (c : Nat) : decide (c ∈ ("()" : Str).cps.toList) = isBr c := by
  rw [show (("()" : Str).cps.toList : List Nat) = [40, 41] by decide +kernel]
  unfold isBr
  by_cases h : c = 40
  · subst h; rfl
  by_cases h' : c = 41
  · subst h'; rfl
  rw [decide_eq_false (by simp [h, h']), beq_eq_false_iff_ne.mpr h, beq_eq_false_iff_ne.mpr h']
  rfl
theorem in_gap (c : Nat) : decide (c ∈ (" \n" : Str).cps.toList) = isGap c := by
  rw [show ((" \n" : Str).cps.toList : List Nat) = [32, 10] by decide +kernel]
  unfold isGap
  by_cases h : c = 32
  · subst h; rfl
  by_cases h' : c = 10
  · subst h'; rfl
  rw [decide_eq_false (by simp [h, h']), beq_eq_false_iff_ne.mpr h, beq_eq_false_iff_ne.mpr h']
  rfl
theorem in_sep (c : Nat) : decide (c ∈ ("() \n" : Str).cps.toList) = isSep c := by
  rw [show (("() \n" : Str).cps.toList : List Nat) = [40, 41] ++ [32, 10] by decide +kernel]
  unfold isSep
  rw [← in_br, ← in_gap, show (("()" : Str).cps.toList : List Nat) = [40, 41] by decide +kernel, show ((" \n" : Str).cps.toList : List Nat) = [32, 10] by decide +kernel, ← Bool.decide_or]
  exact decide_eq_decide.mpr List.mem_append
theorem tok_br {c : Nat} {r : List Nat} (h : isBr c = true) : tok [] (c :: r) = [c] :: tok [] r := by
  rw [tok, show isSep c = true by unfold isSep; rw [h]; rfl, if_pos rfl, h]
  rfl
theorem tok_gap {c : Nat} {r : List Nat} (h : isBr c = false) (g : isGap c = true) : tok [] (c :: r) = tok [] r := by
  rw [tok, show isSep c = true by unfold isSep; rw [g, Bool.or_true], if_pos rfl, h]
  rfl
theorem tok_sign {u : List Nat} {c : Nat} {r : List Nat} (h : isSep c = false) : tok u (c :: r) = tok (u ++ [c]) r := by
  rw [tok, if_neg (by rw [h]; decide)]
/-- a word ends -/
theorem tok_end {u r : List Nat} (hu : u ≠ []) (h : ∀ c s, r = c :: s → isSep c = true) : tok u r = u :: tok [] r := by
  have f : flush u = [u] := by
    cases u with
    | nil => exact absurd rfl hu
    | cons _ _ => rfl
  cases r with
  | nil =>
    rw [tok, tok, f]
    rfl
  | cons c s =>
    have hs := h c s rfl
    rw [tok, tok, if_pos hs, if_pos hs, f]
    rfl
theorem cut_S {cs : List Nat} {i j : Nat} (hij : i ≤ j) (hj : j ≤ cs.length) : cutS (S cs) (some (i : Int)) (some (j : Int)) = S ((cs.drop i).take (j - i)) := by
  unfold cutS
  rw [HT.sIx_nat, HT.sIx_nat, SX.S_len, Nat.min_eq_left (show i ≤ cs.length by omega), Nat.min_eq_left hj]
def spWordsIn (K : PySem.W.Frag) : Sp := sp1 fun v H Q _ => ∃ cs, v = .str (S cs) ∧ cs.length ≤ 100000 ∧ ∀ D H', Same H H' → H D = none → H' D = some (.lst ((tok [] cs).map fun w => V.str (S w))) → Q (.ref D) H'
structure Tz4 (mg : Str → Option Value) : Prop where
  z_len : mg "len" = none
section
variable {P : Program} {w : World} {K : PySem.W.Frag} {mg : Str → Option Value} {base : Heap}
theorem ok_words_in (F : FnP K mg "words_in" s_words_in) (T : Tz4 mg) : Cl P w K mg base 1 "words_in" ["text"] (spWordsIn K) := by
  refine cl_1 F sc_words_in (fun _ _ _ _ _ _ us hl => match us, hl with | [_], _ => rfl) fun cdv A outer s H v Q E hr h => ?_
  obtain ⟨cs, rfl, hn, q⟩ := h
  refine ⟨_, PSs.nox (pss_cons (ps_set (i := 1) sc_words_in.nd rfl (Or.inl rfl) (pe_lst pa_nil)) (pss_cons (ps_set (i := 2) sc_words_in.nd rfl (Or.inl rfl) pe_int) (pss_cons (ps_while PassesOwn.never (pt_cmpR op_lt (pv 2) (pe_callB call_len_str rfl T.z_len PySem.boot_len (pa_cons (pv 0) pa_nil)) (nomark _)) (pss_one (ps_if (pt_cmpR op_in_sign (pe_ix ix_str (pv 0) (pv 2) (fun _ _ => rfl)) pe_str rfl) (pss_cons (ps_expr (pe_bm PySem.F.plainAttrs_list PySem.F.slot_list_append PySem.F.type_list_append mt_append (pv 1) (pa_cons (pe_ix ix_str (pv 0) (pv 2) (fun _ _ => rfl)) pa_nil))) (pss_one (ps_aug (i := 2) sc_words_in.nd rfl (Or.inl rfl) pe_int ip_add))) (pss_one (ps_if (pt_cmpR op_in_sign (pe_ix ix_str (pv 0) (pv 2) (fun _ _ => rfl)) pe_str rfl) (pss_one (ps_aug (i := 2) sc_words_in.nd rfl (Or.inl rfl) pe_int ip_add)) (pss_cons (ps_set (i := 3) sc_words_in.nd rfl (Or.inl rfl) (pv 2)) (pss_cons (ps_while PassesOwn.never (PW.pt (pw_and (pt_cmpR op_lt (pv 2) (pe_callB call_len_str rfl T.z_len PySem.boot_len (pa_cons (pv 0) pa_nil)) (nomark _)) (pw_and1 (pt_cmpR op_notIn_sign (pe_ix ix_str (pv 0) (pv 2) (fun _ _ => rfl)) pe_str rfl)))) (pss_one (ps_aug (i := 2) sc_words_in.nd rfl (Or.inl rfl) pe_int ip_add))) (pss_one (ps_expr (pe_bm PySem.F.plainAttrs_list PySem.F.slot_list_append PySem.F.type_list_append mt_append (pv 1) (pa_cons (pe_slice sl_str (pv 0) (po_some (pv 3)) (po_some (pv 2))) pa_nil))))))))))) (pss_one (ps_ret (pv 1)))))), ?_⟩
  have hlen : (S cs).length ≤ sizeLine := by rw [SX.S_len, sizeLine_eq]; omega
  refine ⟨by show 0 ≤ sizeLine; decide, fun D nD => ?_⟩
  refine ⟨fun m σ H1 => ∃ (k : Nat) (fs : List (List Nat)) (o3 : Option V), σ = [some (.str (S cs)), some (.ref D), some (.int k), o3] ∧ Same H H1 ∧ H1 D = some (.lst (fs.map fun w => V.str (S w))) ∧ k ≤ cs.length ∧ m = cs.length - k ∧ fs ++ tok [] (cs.drop k) = tok [] cs ∧ fs.length ≤ k,
    ⟨_, 0, [], none, rfl, same_new nD _, upd_same, Nat.zero_le _, rfl, rfl, Nat.le_refl _⟩, ?_⟩
  rintro m σ H1 ⟨k, fs, o3, rfl, s1', hD, hk, rfl, ht, hf⟩
  refine ⟨_, rfl, _, rfl, _, rfl, hlen, _, _, rfl, rfl, _, rfl, ite2 (fun c => ?_) (fun c => ?_)⟩
  · have lt : k < cs.length := by
      have z := of_decide_eq_true c
      rw [SX.S_len] at z
      omega
    obtain ⟨x, hx⟩ : ∃ x, cs[k]? = some x := ⟨_, List.getElem?_eq_getElem lt⟩
    have ed : cs.drop k = x :: cs.drop (k + 1) := by
      rw [List.drop_eq_getElem_cons lt, ← (List.getElem?_eq_some_iff.mp hx).2]
    have ax : atI (S cs).cps.toList (k : Int) = some x := atI_nat hx
    refine ⟨_, fun σ' H' z => z, ?_⟩
    refine ⟨_, rfl, _, rfl, _, _, x, rfl, rfl, hlen, ax, _, _, rfl, rfl, _, rfl, ?_⟩
    rw [in_br]
    have lf : (fs.map fun w => V.str (S w)).length < sizeLine := by rw [List.length_map, sizeLine_eq]; omega
    have fin : ∀ (fs' : List (List Nat)) (k' : Nat) (o : Option V) (H2 : Hp), k < k' → k' ≤ cs.length → Same H H2 → H2 D = some (.lst (fs'.map fun w => V.str (S w))) → fs' ++ tok [] (cs.drop k') = tok [] cs → fs'.length ≤ k' →
        ∃ m', m' < cs.length - k ∧ ∃ (k : Nat) (fs : List (List Nat)) (o3 : Option V), [some (.str (S cs)), some (.ref D), some (.int k'), o] = [some (V.str (S cs)), some (.ref D), some (.int k), o3] ∧ Same H H2 ∧ H2 D = some (.lst (fs.map fun w => V.str (S w))) ∧ k ≤ cs.length ∧ m' = cs.length - k ∧ fs ++ tok [] (cs.drop k) = tok [] cs ∧ fs.length ≤ k :=
      fun fs' k' o H2 h1 h2 h3 h4 h5 h6 => ⟨_, by omega, k', fs', o, rfl, h3, h4, h2, rfl, h5, h6⟩
    have k1 : (k : Int) + 1 = ((k + 1 : Nat) : Int) := by omega
    cases e1 : isBr x with
    | true =>
      refine iteT ⟨_, rfl, .inl ⟨rfl, _, .inl (.inl hD)⟩, _, rfl, _, rfl, _, _, x, rfl, rfl, hlen, ax, D, _, _, rfl, rfl, hD, lf, ?_⟩
      refine ⟨_, rfl, _, _, rfl, rfl, ?_⟩
      dsimp only
      rw [k1]
      refine fin (fs ++ [[x]]) (k + 1) _ _ (by omega) (by omega) (same_mut s1' nD) ?_ ?_ ?_
      · rw [upd_same, List.map_append]
        rfl
      · rw [ed, tok_br e1] at ht
        rw [← ht, List.append_assoc]
        rfl
      · rw [List.length_append, List.length_singleton]
        omega
    | false =>
      refine iteF ⟨_, rfl, _, rfl, _, _, x, rfl, rfl, hlen, ax, _, _, rfl, rfl, _, rfl, ?_⟩
      rw [in_gap]
      cases e2 : isGap x with
      | true =>
        refine iteT ?_
        refine ⟨_, rfl, _, _, rfl, rfl, ?_⟩
        dsimp only
        rw [k1]
        refine fin fs (k + 1) _ _ (by omega) (by omega) s1' hD ?_ (by omega)
        rw [ed, tok_gap e1 e2] at ht
        exact ht
      | false =>
        have e3 : isSep x = false := by
          unfold isSep
          rw [e1, e2]
          rfl
        refine iteF ?_
        refine ⟨_, rfl, ?_⟩
        refine ⟨fun m σ H2 => ∃ j : Nat, σ = [some (.str (S cs)), some (.ref D), some (.int j), some (.int k)] ∧ H2 = H1 ∧ k ≤ j ∧ j ≤ cs.length ∧ m = cs.length - j ∧ (∀ i, k ≤ i → i < j → ∃ y, cs[i]? = some y ∧ isSep y = false), ⟨_, k, rfl, rfl, Nat.le_refl _, by omega, rfl, fun i a b => absurd b (by omega)⟩, ?_⟩
        rintro m σ H2 ⟨j, rfl, rfl, kj, jl, rfl, al⟩
        have stop : (∀ c s, cs.drop j = c :: s → isSep c = true) → k < j → fs ++ ([(cs.drop k).take (j - k)] ++ tok [] (cs.drop j)) = tok [] cs := fun hs kj' => by
          have run : ∀ m, k + m ≤ j → tok ((cs.drop k).take m) (cs.drop (k + m)) = tok [] (cs.drop k) := fun m => by
            induction m with
            | zero => intro _; rfl
            | succ m ih =>
              intro hm
              obtain ⟨y, hy, hyn⟩ := al (k + m) (by omega) (by omega)
              rw [← ih (by omega)]
              have lt2 : k + m < cs.length := by omega
              have ed2 : cs.drop (k + m) = y :: cs.drop (k + m + 1) := by
                rw [List.drop_eq_getElem_cons lt2, ← (List.getElem?_eq_some_iff.mp hy).2]
              rw [ed2, tok_sign hyn]
              have et : (cs.drop k).take (m + 1) = (cs.drop k).take m ++ [y] := take_snoc (by rw [List.getElem?_drop]; exact hy)
              rw [et]
              rfl
          have ne : (cs.drop k).take (j - k) ≠ [] := by
            intro z
            have := congrArg List.length z
            rw [List.length_take, List.length_drop] at this
            simp at this
            omega
          have z := run (j - k) (by omega)
          rw [show k + (j - k) = j by omega, tok_end ne hs] at z
          rw [← ht, ← z]
          rfl
        have j1 : (j : Int) + 1 = ((j + 1 : Nat) : Int) := by omega
        have k0 : ∃ y, cs[k]? = some y ∧ isSep y = false := ⟨x, hx, e3⟩
        refine ⟨_, rfl, _, rfl, _, rfl, hlen, _, _, rfl, rfl, _, rfl, ite2 (fun c => ?_) (fun c => ?_)⟩
        · have ltj : j < cs.length := by
            have z := of_decide_eq_true c
            rw [SX.S_len] at z
            omega
          obtain ⟨y, hy⟩ : ∃ y, cs[j]? = some y := ⟨_, List.getElem?_eq_getElem ltj⟩
          have ay : atI (S cs).cps.toList (j : Int) = some y := atI_nat hy
          refine ⟨_, rfl, _, rfl, _, _, y, rfl, rfl, hlen, ay, _, _, rfl, rfl, _, rfl, ?_⟩
          rw [in_sep]
          cases es : isSep y with
          | false =>
            refine iteT ⟨_, fun σ' H' z => z, ?_⟩
            refine ⟨_, rfl, _, _, rfl, rfl, ?_⟩
            dsimp only
            rw [j1]
            refine ⟨_, ?_, j + 1, rfl, rfl, by omega, by omega, rfl, fun i a b => ?_⟩
            · omega
            · by_cases ij : i = j
              · rw [ij]
                exact ⟨y, hy, es⟩
              · exact al i a (by omega)
          | true =>
            refine iteF ?_
            have kj' : k < j := by
              rcases Nat.lt_or_eq_of_le kj with z | z
              · exact z
              · rw [← z, hx] at hy
                cases hy
                rw [e3] at es
                cases es
            refine ⟨_, rfl, .inl ⟨rfl, _, .inl (.inl hD)⟩, _, rfl, _, rfl, _, rfl, _, rfl, _, rfl, S cs, rfl, hlen, D, _, _, rfl, rfl, hD, lf, ?_⟩
            rw [cut_S kj jl]
            have st := stop (fun c s e => by
              have lt2 : j < cs.length := ltj
              rw [List.drop_eq_getElem_cons lt2, (List.getElem?_eq_some_iff.mp hy).2] at e
              injection e with e1 e2
              rw [← e1]
              exact es) kj'
            refine fin (fs ++ [(cs.drop k).take (j - k)]) j _ _ kj' jl (same_mut s1' nD) ?_ ?_ ?_
            · rw [upd_same, List.map_append]
              rfl
            · rw [List.append_assoc]
              exact st
            · rw [List.length_append, List.length_singleton]
              omega
        · have je : j = cs.length := by
            have z : ¬ ((j : Int) < ((S cs).length : Int)) := fun z => c (decide_eq_true z)
            rw [SX.S_len] at z
            omega
          have kj' : k < j := by omega
          refine iteF ?_
          refine ⟨_, rfl, .inl ⟨rfl, _, .inl (.inl hD)⟩, _, rfl, _, rfl, _, rfl, _, rfl, _, rfl, S cs, rfl, hlen, D, _, _, rfl, rfl, hD, lf, ?_⟩
          rw [cut_S kj jl]
          have st := stop (fun c s e => by rw [je, List.drop_length] at e; cases e) kj'
          refine fin (fs ++ [(cs.drop k).take (j - k)]) j _ _ kj' jl (same_mut s1' nD) ?_ ?_ ?_
          · rw [upd_same, List.map_append]
            rfl
          · rw [List.append_assoc]
            exact st
          · rw [List.length_append, List.length_singleton]
            omega
  · have ke : k = cs.length := by
      have z : ¬ ((k : Int) < ((S cs).length : Int)) := fun z => c (decide_eq_true z)
      rw [SX.S_len] at z
      omega
    refine ⟨_, rfl, q D H1 s1' nD ?_⟩
    rw [ke, List.drop_length] at ht
    rw [hD, ← ht]
    show _ = some (HO.lst ((fs ++ flush []).map _))
    rw [show flush [] = [] from rfl, List.append_nil]
end
end Fl
/-! texts.py: need, number_in, leaf_in, leaf_text -/
namespace Fl
open PySem PySem.Spec PyProof.Rows L2
open SX (S)
open TL (tl numL)
abbrev s_need : Stmt := top 28
theorem sc_need : FnScope ["is_good"] ["is_good"] (defScope s_need) := ⟨rfl, rfl, rfl, by decide +kernel, rfl, by decide +kernel, by decide +kernel⟩
abbrev s_number_in : Stmt := top 29
theorem sc_number_in : FnScope ["word", "figures", "found", "sign"] ["word"] (defScope s_number_in) := ⟨rfl, rfl, rfl, by decide +kernel, rfl, by decide +kernel, by decide +kernel⟩
abbrev s_leaf_in : Stmt := top 30
theorem sc_leaf_in : FnScope ["word"] ["word"] (defScope s_leaf_in) := ⟨rfl, rfl, rfl, by decide +kernel, rfl, by decide +kernel, by decide +kernel⟩
structure Tx (K : PySem.W.Frag) (mg : Str → Option Value) : Prop where
  kf : Kf K (He.ga K "Function")
  z_len : mg "len" = none
  z_all : mg "all" = none
  z_int : mg "int" = none
  z_str : mg "str" = none
  z_bool : mg "bool" = none
  z_tuple : mg "tuple" = none
  z_range : mg "range" = none
  z_isinstance : mg "isinstance" = none
  g_NoText : mg "NoText" = some (.ref (He.ga K "NoText"))
  x_NoText : XcP K "NoText"
  c_MOST_FIGURES : ∃ u, mg "MOST_FIGURES" = some u ∧ RelV (.int 10) u
  c_MOST_TEXT : ∃ u, mg "MOST_TEXT" = some u ∧ RelV (.int 20000) u
  c_MOST_BRACKETS : ∃ u, mg "MOST_BRACKETS" = some u ∧ RelV (.int 100) u
  c_FIGURES : ∃ u, mg "FIGURES" = some u ∧ RelV (.str "0123456789") u
  c_SMALL : ∃ u, mg "SMALL" = some u ∧ RelV (.str "abcdefghijklmnopqrstuvwxyz") u
def isFig (c : Nat) : Bool := Nat.ble 48 c && Nat.ble c 57
/-- the figures of a number's word -/
def figs : List Nat → List Nat
  | 45 :: r => r
  | w => w
def sgn : List Nat → Bool
  | 45 :: _ => true
  | _ => false
def numP (w : List Nat) : Option Int :=
  if (decide (1 ≤ (figs w).length) && decide ((figs w).length ≤ 10) && (figs w).all isFig) && (!decide ((figs w).head? = some 48) || decide (w = [48])) then
    let i : Int := if sgn w then -((NumText.digitsVal (figs w) : Nat) : Int) else ((NumText.digitsVal (figs w) : Nat) : Int)
    if numB i then some i else none
  else none
def leafP (w : List Nat) : Option Th :=
  if S w = sTrue then some (.bl true) else if S w = sFalse then some (.bl false)
  else match w with
    | [] => none
    | c :: _ => if isSign c then (if wordB (S w) then some (.str (S w)) else none) else (numP w).map Th.int
theorem fig_mem (c : Nat) : decide (c ∈ ("0123456789" : Str).cps.toList) = isFig c := by
  have e : (("0123456789" : Str).cps.toList : List Nat) = List.range' 48 10 := by decide +kernel
  have z : (c ∈ List.range' 48 10) ↔ isFig c = true := by
    rw [List.mem_range'_1]
    unfold isFig
    rw [Bool.and_eq_true, Nat.ble_eq, Nat.ble_eq]
    omega
  cases h : isFig c with
  | true => exact decide_eq_true (by rw [e]; exact z.mpr h)
  | false => exact decide_eq_false (by rw [e]; intro m; rw [z.mp m] at h; cases h)
theorem cut_to1 (w : List Nat) : cutS (S w) none (some 1) = S (w.take 1) := by
  rw [C8.cutS_slice, SX.slice_to (by decide)]
  rfl
theorem cut_from1 (w : List Nat) : cutS (S w) (some 1) none = S (w.drop 1) := by
  rw [C8.cutS_slice, SX.slice_from (by decide)]
  rfl
theorem figs_neg {w : List Nat} (h : sgn w = true) : figs w = w.drop 1 ∧ w = 45 :: w.drop 1 := by
  cases w with
  | nil => cases h
  | cons c r =>
    unfold sgn at h
    split at h
    · rename_i e
      injection e with e1 e2
      subst e1
      exact ⟨rfl, rfl⟩
    · cases h
theorem figs_pos {w : List Nat} (h : sgn w = false) : figs w = w := by
  unfold figs
  split
  · rename_i r
    cases h
  · rfl
theorem sgn_eq (w : List Nat) : decide (V.str (S (w.take 1)) = V.str "-") = sgn w := by
  have e : (S (w.take 1) = ("-" : Str)) ↔ sgn w = true := by
    constructor
    · intro h
      have h2 : w.take 1 = [45] := by
        have := congrArg (fun x : Str => x.cps.toList) h
        exact this
      cases w with
      | nil => cases h2
      | cons c r =>
        injection h2 with h3 _
        subst h3
        rfl
    · intro h
      rw [(figs_neg h).2]
      rfl
  cases h : sgn w with
  | true => exact decide_eq_true (congrArg V.str (e.mpr h))
  | false => exact decide_eq_false fun z => by injection z with z; rw [e.mp z] at h; cases h
def spNeedB (K : PySem.W.Frag) : Sp := sp1 fun v H Q E => ∃ b, v = .bl b ∧ (b = true → Q .non H) ∧ (b = false → E (.ref (He.ga K "NoText")) none H)
def spNumIn (K : PySem.W.Frag) : Sp := sp1 fun v H Q E => ∃ w, v = .str (S w) ∧ w.length ≤ 100000 ∧ (∀ i H', numP w = some i → Same H H' → Q (.int i) H') ∧ (∀ H', numP w = none → Same H H' → E (.ref (He.ga K "NoText")) none H')
def spLeafIn (K : PySem.W.Frag) : Sp := sp1 fun v H Q E => ∃ w, v = .str (S w) ∧ w ≠ [] ∧ w.length ≤ 100000 ∧ (∀ t u H', leafP w = some t → Same H H' → Is (CF K) H' u t → Q u H') ∧ (∀ H', leafP w = none → Same H H' → E (.ref (He.ga K "NoText")) none H')
section
variable {P : Program} {w : World} {K : PySem.W.Frag} {mg : Str → Option Value} {base : Heap}
theorem ok_need (F : FnP K mg "need" s_need) (T : Tx K mg) : Cl P w K mg base 1 "need" ["is_good"] (spNeedB K) := by
  refine cl_1 F sc_need (fun _ _ _ _ _ _ us hl => match us, hl with | [_], _ => rfl) fun cdv A outer s H v Q E hr h => ?_
  obtain ⟨b, rfl, q, qe⟩ := h
  refine ⟨_, (pss_one (ps_if (pt_not (pt_val (pv 0))) (pss_one (ps_raise rfl (takes_of rfl rfl rfl rfl) (pmk_own PySem.F.excBase_ValueError T.x_NoText.1 T.g_NoText T.x_NoText.2.1 (raises_own T.x_NoText.2.2.1 T.x_NoText.2.2.2) rfl))) pss_nil)), ?_⟩
  refine ⟨_, rfl, b, rfl, ?_⟩
  cases b with
  | true => exact iteF (q rfl)
  | false => exact iteT (qe rfl)
theorem join_v {T : (V → Hp → Prop) → Prop} {k : V → Hp → Prop} (J : (V → Hp → Prop) → Prop) (h1 : J k) (h2 : ∀ k, J k → T k) : T k := h2 k h1
theorem ok_number_in (F : FnP K mg "number_in" s_number_in) (T : Tx K mg) (B_need : Cl P w K mg base 1 "need" ["is_good"] (spNeedB K)) (B_is_number : Cl P w K mg base 1 "is_number" ["thing"] (spNumber K)) : Cl P w K mg base 2 "number_in" ["word"] (spNumIn K) := by
  refine cl_1 F sc_number_in (fun _ _ _ _ _ _ us hl => match us, hl with | [_], _ => rfl) fun cdv A outer s H v Q E hr h => ?_
  obtain ⟨w, rfl, hn, q, qe⟩ := h
  refine ⟨_, (pss_cons (ps_set (i := 1) sc_number_in.nd rfl (Or.inl rfl) (pe_ifExp (pt_cmpR op_eq (pe_slice sl_str (pv 0) po_none (po_some pe_int)) pe_str (nomark _)) (pe_slice sl_str (pv 0) (po_some pe_int) po_none) (pv 0))) (pss_cons (ps_expr (pe_bS B_need hr (by omega) rfl (fun σ => passAt (takes_of rfl rfl rfl rfl) σ) (pa_cons (pe_and (pe_chain op_le op_le pe_int (pe_callB call_len_str rfl T.z_len PySem.boot_len (pa_cons (pv 1) pa_nil)) (pe_gk rfl T.c_MOST_FIGURES)) (pe_one (pe_callB (cr_all rfl) rfl T.z_all PyProof.Rows.boot_all (pa_cons (pe_lc (own := [("sign", 3)]) (g := gName 3) (tt := tYes) rfl sc_number_in.nd (pi_str (pv 1)) (blkOk_by (own := [("sign", 3)]) (N := ["word", "figures", "found", "sign"]) (sc := defScope s_number_in) (by decide +kernel)) (fun _ _ _ _ _ => (pg_name (i := 3) sc_number_in.nd rfl (Or.inl rfl))) (fun _ _ _ _ _ => pts_nil) (fun _ _ _ _ _ => (pe_cmpR op_in_sign (pv 3) (pe_gk rfl T.c_FIGURES) rfl))) pa_nil)))) pa_nil))) (pss_cons (ps_expr (pe_bS B_need hr (by omega) rfl (fun σ => passAt (takes_of rfl rfl rfl rfl) σ) (pa_cons (pe_or (pe_cmpR op_ne (pe_ix ix_str (pv 1) pe_int (fun _ _ => rfl)) pe_str (nomark _)) (pe_one (pe_cmpR op_eq (pv 0) pe_str (nomark _)))) pa_nil))) (pss_cons (ps_set (i := 2) sc_number_in.nd rfl (Or.inl rfl) (pe_callTy call_int_str rfl T.z_int PyProof.Rows.boot_int (pa_cons (pv 0) pa_nil))) (pss_cons (ps_expr (pe_bS B_need hr (by omega) rfl (fun σ => passAt (takes_of rfl rfl rfl rfl) σ) (pa_cons (pe_b B_is_number hr (by omega) rfl passL (pa_cons (pv 2) pa_nil)) pa_nil))) (pss_one (ps_ret (pv 2)))))))), ?_⟩
  have hlen : (S w).length ≤ sizeLine := by rw [SX.S_len, sizeLine_eq]; omega
  have fl : (figs w).length ≤ w.length := by
    cases e : sgn w with
    | true => rw [(figs_neg e).1, List.length_drop]; omega
    | false => rw [figs_pos e]; omega
  have hlenf : (S (figs w)).length ≤ sizeLine := by rw [SX.S_len, sizeLine_eq]; omega
  refine join_seq (fun k => k [some (.str (S w)), some (.str (S (figs w))), none, none] H) ?_ (fun D hk => ?_)
  case refine_2 =>
    refine ⟨_, rfl, _, rfl, S w, rfl, hlen, ?_⟩
    rw [cut_to1]
    refine ⟨rfl, _, rfl, ?_⟩
    rw [sgn_eq]
    cases e : sgn w with
    | true =>
      refine iteT ⟨_, rfl, _, rfl, ?_⟩
      unfold tNoPart
      show rSlS (.str (S w)) (some 1) none H _
      refine ⟨S w, rfl, hlen, ?_⟩
      rw [cut_from1]
      rw [(figs_neg e).1] at hk
      exact hk
    | false =>
      refine iteF ⟨_, rfl, ?_⟩
      rw [figs_pos e] at hk
      exact hk
  dsimp only
  refine join_v (T := tAndV _ _ _ _) (fun k => ∀ H', Same H H' → k (.bl (decide (1 ≤ (figs w).length) && decide ((figs w).length ≤ 10) && (figs w).all isFig)) H') (fun H1 s1' => ?_) (fun k hk => ?_)
  case refine_2 =>
    refine ⟨_, rfl, _, rfl, hlenf, _, _, rfl, rfl, _, rfl, ite2 (fun c1 => ?_) (fun c1 => ?_)⟩
    case refine_2 =>
      refine ⟨_, rfl, iteF ?_⟩
      have e : decide (1 ≤ (figs w).length) = false := decide_eq_false fun z => c1 (decide_eq_true (by rw [SX.S_len]; omega))
      rw [e] at hk
      exact hk H (.refl _)
    have e1 : decide (1 ≤ (figs w).length) = true := decide_eq_true (by
      have := of_decide_eq_true c1
      rw [SX.S_len] at this
      omega)
    refine ⟨_, _, rfl, rfl, _, rfl, ite2 (fun c2 => ?_) (fun c2 => ?_)⟩
    case refine_2 =>
      have e : decide ((figs w).length ≤ 10) = false := decide_eq_false fun z => c2 (decide_eq_true (by rw [SX.S_len]; omega))
      rw [e, Bool.and_false] at hk
      exact hk H (.refl _)
    have e2 : decide ((figs w).length ≤ 10) = true := decide_eq_true (by
      have := of_decide_eq_true c2
      rw [SX.S_len] at this
      omega)
    have l10 := of_decide_eq_true e2
    rw [e1, e2] at hk
    refine ⟨_, rfl, S (figs w), rfl, fun D nD => lc_it walk_str (fun i H' => Same H H' ∧ H' D = some (.lst ((((figs w).take i).map isFig).map V.bl)) ∧ H D = none) ⟨same_new nD _, upd_same, nD⟩ (fun _ _ _ _ => trivial) ?_ ?_⟩
    · rintro i y H1 H2 hi ⟨r1, r2, r3⟩ ⟨rfl, c, hc, rfl⟩
      refine ⟨rfl, _, rfl, c, _, rfl, rfl, _, r2, ?_, same_mut r1 r3, ?_, r3⟩
      · rw [List.length_map, List.length_map]
        have := List.length_take_le' i (figs w)
        exact small1000 (by omega)
      · have hc' : (figs w)[i]? = some c := by
          have z : (S (figs w)).cps.toList[i]? = some c := by
            rw [Array.getElem?_toList]
            exact hc
          exact z
        rw [upd_same, take_snoc hc', List.map_append, List.map_append]
        show some (HO.lst (_ ++ [V.bl (decide (c ∈ ("0123456789" : Str).cps.toList))])) = _
        rw [fig_mem c]
        rfl
    · rintro H1 ⟨r1, r2, r3⟩
      refine ⟨D, _, rfl, SqL.of r2, ?_⟩
      have e : (((figs w).take (S (figs w)).cps.size).map isFig).all id = (figs w).all isFig := by
        rw [show (S (figs w)).cps.size = (figs w).length by simp, List.take_length, List.all_map]
        rfl
      rw [e]
      exact hk H1 r1
  refine ⟨_, rfl, _, rfl, fun e1 => ?_, fun e1 => qe _ (by unfold numP; rw [e1]; rfl) s1'⟩
  have e1' := e1
  rw [Bool.and_eq_true, Bool.and_eq_true] at e1'
  obtain ⟨⟨g1, g2⟩, g3⟩ := e1'
  have g1 := of_decide_eq_true g1
  have g2 := of_decide_eq_true g2
  obtain ⟨c, r, ef⟩ : ∃ c r, figs w = c :: r := by
    cases ef : figs w with
    | nil => rw [ef] at g1; exact absurd g1 (by decide)
    | cons c r => exact ⟨c, r, rfl⟩
  have a0 : atI (S (figs w)).cps.toList 0 = some c := atI_nat (j := 0) (by rw [ef]; rfl)
  refine stepN ?_
  dsimp only
  refine join_v (T := tOrV _ _ _ _) (fun k => k (.bl (!decide ((figs w).head? = some 48) || decide (w = [48]))) H1) ?_ (fun k hk => ?_)
  case refine_2 =>
    refine ⟨_, rfl, _, _, c, rfl, rfl, hlenf, a0, rfl, _, rfl, ?_⟩
    have h0 : decide (V.str ⟨#[c]⟩ = V.str "0") = decide ((figs w).head? = some 48) := by
      rw [ef]
      refine decide_eq_decide.mpr ⟨fun z => ?_, fun z => ?_⟩
      · injection z with z
        have := congrArg (fun x : Str => x.cps.toList) z
        injection this with this _
        rw [List.head?_cons, this]
        rfl
      · rw [List.head?_cons] at z
        injection z with z
        rw [z]
        rfl
    rw [h0]
    cases e0 : decide ((figs w).head? = some 48) with
    | false =>
      rw [e0] at hk
      exact iteT hk
    | true =>
      rw [e0] at hk
      refine iteF ⟨_, rfl, rfl, ?_⟩
      have h1 : decide (V.str (S w) = V.str "0") = decide (w = [48]) := decide_eq_decide.mpr ⟨fun z => by injection z with z; exact congrArg (fun x : Str => x.cps.toList) z, fun z => by rw [z]; rfl⟩
      rw [h1]
      exact hk
  refine ⟨_, rfl, _, rfl, fun e2 => ?_, fun e2 => qe _ (by unfold numP; rw [e1, e2]; rfl) s1'⟩
  have al : NumText.AllDigits (figs w) := fun x hx => by
    have z := List.all_eq_true.mp g3 x hx
    unfold isFig at z
    rw [Bool.and_eq_true, Nat.ble_eq, Nat.ble_eq] at z
    exact z
  have ne : figs w ≠ [] := by rw [ef]; exact List.cons_ne_nil _ _
  have lw : w.length ≤ 11 := by
    cases e : sgn w with
    | true =>
      have z := congrArg List.length (figs_neg e).2
      rw [List.length_cons, ← (figs_neg e).1] at z
      omega
    | false =>
      rw [figs_pos e] at g2
      omega
  have it : PySem.intText? (S w) = some (if sgn w then -((NumText.digitsVal (figs w) : Nat) : Int) else ((NumText.digitsVal (figs w) : Nat) : Int)) := by
    cases e : sgn w with
    | true =>
      have z := figs_neg e
      rw [if_pos rfl]
      refine intText_neg (x := S w) (cs := figs w) ?_ al ne (by rw [SX.S_len]; omega)
      show w = _
      rw [z.1]
      exact z.2
    | false =>
      rw [if_neg (by decide)]
      have z := figs_pos e
      have d := intText_digits (x := S w) (by show NumText.AllDigits w; rw [← z]; exact al) (by show w ≠ []; rw [← z]; exact ne) (by rw [SX.S_len]; omega)
      rw [d, z]
  have np : numP w = if numB (if sgn w then -((NumText.digitsVal (figs w) : Nat) : Int) else ((NumText.digitsVal (figs w) : Nat) : Int)) then some (if sgn w then -((NumText.digitsVal (figs w) : Nat) : Int) else ((NumText.digitsVal (figs w) : Nat) : Int)) else none := by
    unfold numP
    rw [e1, e2]
    rfl
  refine stepN ?_
  dsimp only
  generalize (if sgn w then -((NumText.digitsVal (figs w) : Nat) : Int) else ((NumText.digitsVal (figs w) : Nat) : Int)) = i at it np
  refine ⟨_, rfl, S w, i, rfl, it, by rw [SX.S_len]; omega, ?_⟩
  refine stepG ?_
  dsimp only
  refine ⟨_, rfl, _, rfl, .int i, .int i, _, rfl, _, rfl, fun e3 => ?_, fun e3 => qe _ (by rw [np, show numB i = false from e3]; rfl) s1'⟩
  refine stepN ?_
  dsimp only
  exact ⟨_, rfl, q i H1 (by rw [np, show numB i = true from e3]; rfl) s1'⟩
theorem wordB_true : wordB sTrue = false := by decide +kernel
theorem ok_leaf_in (F : FnP K mg "leaf_in" s_leaf_in) (T : Tx K mg) (B_need : Cl P w K mg base 1 "need" ["is_good"] (spNeedB K)) (B_is_word : Cl P w K mg base 1 "is_word" ["thing"] (spWord K)) (B_number_in : Cl P w K mg base 2 "number_in" ["word"] (spNumIn K)) : Cl P w K mg base 3 "leaf_in" ["word"] (spLeafIn K) := by
  refine cl_1 F sc_leaf_in (fun _ _ _ _ _ _ us hl => match us, hl with | [_], _ => rfl) fun cdv A outer s H v Q E hr h => ?_
  obtain ⟨w, rfl, hw, hn, q, qe⟩ := h
  refine ⟨_, (pss_cons (ps_if (pt_cmpR op_in_seq (pv 0) (pe_tup (pa_cons pe_str (pa_cons pe_str pa_nil))) rfl) (pss_one (ps_ret (pe_cmpR op_eq (pv 0) pe_str (nomark _)))) pss_nil) (pss_cons (ps_if (pt_cmpR op_in_sign (pe_ix ix_str (pv 0) pe_int (fun _ _ => rfl)) (pe_gk rfl T.c_SMALL) rfl) (pss_cons (ps_expr (pe_bS B_need hr (by omega) rfl (fun σ => passAt (takes_of rfl rfl rfl rfl) σ) (pa_cons (pe_b B_is_word hr (by omega) rfl passL (pa_cons (pv 0) pa_nil)) pa_nil))) (pss_one (ps_ret (pv 0)))) pss_nil) (pss_one (ps_ret (pe_bS B_number_in hr (by omega) rfl (fun σ => passAt (takes_of rfl rfl rfl rfl) σ) (pa_cons (pv 0) pa_nil)))))), ?_⟩
  have hlen : (S w).length ≤ sizeLine := by rw [SX.S_len, sizeLine_eq]; omega
  obtain ⟨c, r, ef⟩ : ∃ c r, w = c :: r := by
    cases w with
    | nil => exact absurd rfl hw
    | cons c r => exact ⟨c, r, rfl⟩
  have a0 : atI (S w).cps.toList 0 = some c := atI_nat (j := 0) (by rw [ef]; rfl)
  refine ⟨_, rfl, s2, fun p np => ⟨p, _, rfl, .inr (SqT.of upd_same), rfl, rfl, _, rfl, ?_⟩⟩
  have s1' : Same H (upd H p (.tup [.str sTrue, .str sFalse])) := same_new np _
  show (if (if false = true then !inV (.str (S w)) [.str sTrue, .str sFalse] else inV (.str (S w)) [.str sTrue, .str sFalse]) = true then _ else _)
  rw [if_neg Bool.false_ne_true, inTF]
  by_cases t1 : S w = sTrue
  · rw [decide_eq_true t1, Bool.true_or]
    refine iteT ⟨_, rfl, rfl, ?_⟩
    rw [show decide (V.str (S w) = V.str "true") = true from decide_eq_true (congrArg V.str t1)]
    exact q (.bl true) _ _ (by unfold leafP; rw [if_pos t1]) s1' (.bl _)
  by_cases t2 : S w = sFalse
  · rw [decide_eq_true t2, Bool.or_true]
    refine iteT ⟨_, rfl, rfl, ?_⟩
    rw [show decide (V.str (S w) = V.str "true") = false from decide_eq_false (fun z => t1 (by injection z))]
    exact q (.bl false) _ _ (by unfold leafP; rw [if_neg t1, if_pos t2]) s1' (.bl _)
  rw [decide_eq_false t1, decide_eq_false t2]
  have lp : leafP w = if isSign c then (if wordB (S w) then some (.str (S w)) else none) else (numP w).map Th.int := by
    unfold leafP
    rw [if_neg t1, if_neg t2, ef]
  refine iteF (stepN ?_)
  dsimp only
  refine ⟨_, rfl, _, _, c, rfl, rfl, hlen, a0, _, _, rfl, rfl, _, rfl, ?_⟩
  rw [show decide (c ∈ ("abcdefghijklmnopqrstuvwxyz" : Str).cps.toList) = isSign c from sign_mem c]
  cases ec : isSign c with
  | true =>
    rw [ec, if_pos rfl] at lp
    refine iteT ⟨_, rfl, _, rfl, .str (S w), .str _ (by rw [SX.S_len]; omega), fun H2 s2' => ⟨_, rfl, _, rfl, fun e => ?_, fun e => qe _ (by rw [lp, show wordB (S w) = false from e]; rfl) (s1'.trans s2')⟩⟩
    refine stepN ?_
    dsimp only
    exact ⟨_, rfl, q (.str (S w)) _ _ (by rw [lp, show wordB (S w) = true from e]; rfl) (s1'.trans s2') (.str _ (by rw [SX.S_len]; omega))⟩
  | false =>
    rw [ec, if_neg (by decide)] at lp
    refine iteF (stepN ?_)
    dsimp only
    exact ⟨_, rfl, _, rfl, w, rfl, hn, fun i H2 e s2' => q (.int i) _ _ (by rw [lp, e]; rfl) (s1'.trans s2') (.int i), fun H2 e s2' => qe _ (by rw [lp, e]; rfl) (s1'.trans s2')⟩
end
end Fl
/-! texts.py: leaf_text, worth_text -/
namespace Fl
open PySem PySem.Spec PyProof.Rows L2
open SX (S)
open TL (tl numL tl_num tl_ofString)
abbrev s_leaf_text : Stmt := top 26
theorem sc_leaf_text : FnScope ["worth"] ["worth"] (defScope s_leaf_text) := ⟨rfl, rfl, rfl, by decide +kernel, rfl, by decide +kernel, by decide +kernel⟩
abbrev s_worth_text : Stmt := top 27
theorem sc_worth_text : FnScope ["worth", "found", "pile", "is_written", "one", "place"] ["worth"] (defScope s_worth_text) := ⟨rfl, rfl, rfl, by decide +kernel, rfl, by decide +kernel, by decide +kernel⟩
/-- the signs of a number -/
def intC : Int → List Nat
  | .ofNat n => numL n
  | .negSucc n => 45 :: numL (n + 1)
theorem int_text (i : Int) : Str.ofString (toString i) = S (intC i) := by
  refine TL.ext_tl ?_
  cases i with
  | ofNat n => exact tl_num n
  | negSucc n =>
    rw [tl_ofString, show toString (Int.negSucc n) = "-" ++ toString ((n + 1 : Nat) : Int) from rfl, String.toList_append, List.map_append, ← tl_ofString (toString ((n + 1 : Nat) : Int)), tl_num]
    rfl
def leafT : Th → List Nat
  | .bl true => [116, 114, 117, 101]
  | .bl false => [102, 97, 108, 115, 101]
  | .int i => intC i
  | .str x => x.cps.toList
  | _ => []
mutual
def textP : Th → List Nat
  | .tup l => 40 :: (textsP l ++ [41])
  | .bl b => leafT (.bl b)
  | .int i => leafT (.int i)
  | .str x => leafT (.str x)
  | .non => []
  | .fn _ => []
  | .oth => []
/-- with a blank between two -/
def textsP : List Th → List Nat
  | [] => []
  | t :: r => textP t ++ tailsP r
def tailsP : List Th → List Nat
  | [] => []
  | t :: r => 32 :: (textP t ++ tailsP r)
end
theorem text_leaf {t : Th} (h : t.isTup = false) : textP t = leafT t := by
  cases t <;> first | (cases h; done) | (rw [textP]; done) | (rw [textP]; rfl)
theorem tails_cons {l : List Th} (h : l ≠ []) : tailsP l = 32 :: textsP l := by
  cases l with
  | nil => exact absurd rfl h
  | cons t r => rw [tailsP, textsP]
theorem intC_len {i : Int} (h : numB i = true) : (intC i).length ≤ 11 := by
  unfold numB at h
  rw [Bool.and_eq_true, decide_eq_true_eq, decide_eq_true_eq] at h
  cases i with
  | ofNat n =>
    have := TL.numL_len (n := n) (k := 10) (by decide) (by simp only [Int.ofNat_eq_natCast] at h; omega)
    show (numL n).length ≤ 11
    omega
  | negSucc n =>
    have := TL.numL_len (n := n + 1) (k := 10) (by decide) (by omega)
    show (45 :: numL (n + 1)).length ≤ 11
    rw [List.length_cons]
    omega
theorem leafT_len {t : Th} (h : t.worth false = true) : (leafT t).length ≤ 11 := by
  cases t with
  | bl b => cases b <;> decide
  | int i => exact intC_len h
  | str x =>
    have := wordB_len (show wordB x = true from h)
    show x.cps.toList.length ≤ 11
    rw [Array.length_toList]
    exact Nat.le_trans this (by decide)
  | tup l => exact Nat.zero_le _
  | non => exact Nat.zero_le _
  | fn l => exact Nat.zero_le _
  | oth => exact Nat.zero_le _
mutual
theorem textP_len : ∀ t : Th, t.worth false = true → (textP t).length + 2 ≤ 13 * t.nodes
  | .tup l, h => by
    have := textsP_len l (by simpa [Th.worth] using h)
    rw [textP, List.length_cons, List.length_append, List.length_singleton, Th.nodes]
    omega
  | .bl b, h => by rw [textP]; have := leafT_len h; simp only [Th.nodes]; omega
  | .int i, h => by rw [textP]; have := leafT_len h; simp only [Th.nodes]; omega
  | .str x, h => by rw [textP]; have := leafT_len h; simp only [Th.nodes]; omega
  | .non, h => by cases h
  | .fn _, h => by cases h
  | .oth, h => by cases h
theorem textsP_len : ∀ l : List Th, Th.worths false l = true → (textsP l).length ≤ 13 * Th.nodesL l
  | [], _ => Nat.zero_le _
  | t :: r, h => by
    rw [Th.worths, Bool.and_eq_true] at h
    have a := textP_len t h.1
    have b := tailsP_len r h.2
    rw [textsP, List.length_append, Th.nodesL]
    omega
theorem tailsP_len : ∀ l : List Th, Th.worths false l = true → (tailsP l).length ≤ 13 * Th.nodesL l
  | [], _ => Nat.zero_le _
  | t :: r, h => by
    rw [Th.worths, Bool.and_eq_true] at h
    have a := textP_len t h.1
    have b := tailsP_len r h.2
    rw [tailsP, List.length_cons, List.length_append, Th.nodesL]
    omega
end
/-! ### what waits: texts, worths -/
abbrev WaitI : Type := Sum (List Nat) Th
inductive Its (C : Addr) (G H : Hp) : List V → List WaitI → Prop
  | nil : Its C G H [] []
  | txt {T : Addr} {u : List Nat} {vs : List V} {ps : List WaitI} : H T = some (.tup [.bl true, .str (S u)]) → Its C G H vs ps → Its C G H (.ref T :: vs) (.inl u :: ps)
  | wrt {T : Addr} {x : V} {t : Th} {vs : List V} {ps : List WaitI} : H T = some (.tup [.bl false, x]) → Is C G x t → t.worth false = true → Its C G H vs ps → Its C G H (.ref T :: vs) (.inr t :: ps)
section
variable {C : Addr} {G H H' : Hp}
theorem Its.same (s : Same H H') : ∀ {vs : List V} {ps : List WaitI}, Its C G H vs ps → Its C G H' vs ps
  | _, _, .nil => .nil
  | _, _, .txt h r => .txt (s _ _ h) (r.same s)
  | _, _, .wrt h a b r => .wrt (s _ _ h) a b (r.same s)
theorem Its.app : ∀ {vs ws : List V} {ps qs : List WaitI}, Its C G H vs ps → Its C G H ws qs → Its C G H (vs ++ ws) (ps ++ qs)
  | _, _, _, _, .nil, s => s
  | _, _, _, _, .txt h r, s => .txt h (r.app s)
  | _, _, _, _, .wrt h a b r, s => .wrt h a b (r.app s)
theorem Its.len : ∀ {vs : List V} {ps : List WaitI}, Its C G H vs ps → vs.length = ps.length
  | _, _, .nil => rfl
  | _, _, .txt _ r => congrArg Nat.succ r.len
  | _, _, .wrt _ _ _ r => congrArg Nat.succ r.len
theorem Its.mut {p : Addr} {xs ys : List V} (hp : H p = some (.lst xs)) : ∀ {vs : List V} {ps : List WaitI}, Its C G H vs ps → Its C G (upd H p (.lst ys)) vs ps
  | _, _, .nil => .nil
  | _, _, .txt h r => .txt (by rw [upd_ne (fun z => by rw [z, hp] at h; cases h)]; exact h) (r.mut hp)
  | _, _, .wrt h a b r => .wrt (by rw [upd_ne (fun z => by rw [z, hp] at h; cases h)]; exact h) a b (r.mut hp)
theorem Its.last : ∀ {vs : List V} {ps : List WaitI}, Its C G H vs ps → vs ≠ [] → ∃ ws T qs it, vs = ws ++ [.ref T] ∧ ps = qs ++ [it] ∧ Its C G H ws qs ∧ ((∃ u, it = .inl u ∧ H T = some (.tup [.bl true, .str (S u)])) ∨ ∃ x t, it = .inr t ∧ H T = some (.tup [.bl false, x]) ∧ Is C G x t ∧ t.worth false = true)
  | _, _, .nil, h => absurd rfl h
  | _, _, .txt (vs := []) h r, _ => by
    cases r
    exact ⟨[], _, [], _, rfl, rfl, .nil, .inl ⟨_, rfl, h⟩⟩
  | _, _, .wrt (vs := []) h a b r, _ => by
    cases r
    exact ⟨[], _, [], _, rfl, rfl, .nil, .inr ⟨_, _, rfl, h, a, b⟩⟩
  | _, _, .txt (vs := c :: d) h r, _ => by
    obtain ⟨ws, T, qs, it, e1, e2, e3, e4⟩ := r.last (List.cons_ne_nil _ _)
    exact ⟨_ :: ws, T, _ :: qs, it, by rw [e1]; rfl, by rw [e2]; rfl, .txt h e3, e4⟩
  | _, _, .wrt (vs := c :: d) h a b r, _ => by
    obtain ⟨ws, T, qs, it, e1, e2, e3, e4⟩ := r.last (List.cons_ne_nil _ _)
    exact ⟨_ :: ws, T, _ :: qs, it, by rw [e1]; rfl, by rw [e2]; rfl, .wrt h a b e3, e4⟩
end
def itT : WaitI → List Nat
  | .inl u => u
  | .inr t => textP t
/-- what is yet to be written, the last one first -/
def outP : List WaitI → List Nat
  | [] => []
  | it :: r => outP r ++ itT it
theorem outP_app : ∀ (ps : List WaitI) (qs : List WaitI), outP (ps ++ qs) = outP qs ++ outP ps
  | [], qs => by rw [List.nil_append, outP, List.append_nil]
  | it :: r, qs => by rw [List.cons_append, outP, outP, outP_app r qs, List.append_assoc]
theorem outP_one (it : WaitI) : outP [it] = itT it := by rw [outP, outP, List.nil_append]
def itW : WaitI → Nat
  | .inl _ => 1
  | .inr t => 3 * t.nodes - 1
def meaP : List WaitI → Nat
  | [] => 0
  | it :: r => itW it + meaP r
theorem meaP_app : ∀ (ps qs : List WaitI), meaP (ps ++ qs) = meaP ps + meaP qs
  | [], qs => by rw [List.nil_append, meaP, Nat.zero_add]
  | it :: r, qs => by rw [List.cons_append, meaP, meaP, meaP_app r qs, Nat.add_assoc]
theorem itW_pos (it : WaitI) : 1 ≤ itW it := by
  cases it with
  | inl u => exact Nat.le_refl _
  | inr t =>
    have := t.nodes_pos
    show 1 ≤ 3 * t.nodes - 1
    omega
theorem len_mea : ∀ ps : List WaitI, ps.length ≤ meaP ps
  | [] => Nat.le_refl _
  | it :: r => by
    have := len_mea r
    have := itW_pos it
    rw [List.length_cons, meaP]
    omega
theorem join_nil : ∀ ws : List (List Nat), TL.joinL [] ws = ws.flatten
  | [] => rfl
  | [p] => by rw [List.flatten_cons, List.flatten_nil, List.append_nil]; rfl
  | p :: a :: r => by
    have z := join_nil (a :: r)
    rw [List.flatten_cons, ← z]
    show p ++ ([] ++ TL.joinL [] (a :: r)) = _
    rw [List.nil_append]
def spLeafText (K : PySem.W.Frag) : Sp := sp1 fun v H Q _ => ∃ t, Is (CF K) H v t ∧ t.isTup = false ∧ t.worth false = true ∧ Q (.str (S (leafT t))) H
def spText (K : PySem.W.Frag) : Sp := sp1 fun v H Q E => ∃ t, Is (CF K) H v t ∧ t.nodes ≤ 1000000 ∧ (t.worth false = true → ∀ H', Same H H' → Q (.str (S (textP t))) H') ∧ (t.worth false = false → ∀ H', Same H H' → E (.ref (He.ga K "BadWorth")) none H')
section
variable {P : Program} {w : World} {K : PySem.W.Frag} {mg : Str → Option Value} {base : Heap}
theorem ok_leaf_text (F : FnP K mg "leaf_text" s_leaf_text) (T : Tx K mg) : Cl P w K mg base 1 "leaf_text" ["worth"] (spLeafText K) := by
  refine cl_1 F sc_leaf_text (fun _ _ _ _ _ _ us hl => match us, hl with | [_], _ => rfl) fun cdv A outer s H v Q E hr h => ?_
  obtain ⟨t, h, ht, wt, q⟩ := h
  refine ⟨_, PSs.nox (pss_cons (ps_if (pt_val (pe_callB call_isi rfl T.z_isinstance PyProof.Rows.boot_isinstance (pa_cons (pv 0) (pa_cons (pe_bltn (v := .ty "bool") rfl T.z_bool (by decide +kernel) rfl) pa_nil)))) (pss_one (ps_ret (pe_ifExp (pt_val (pv 0)) pe_str pe_str))) pss_nil) (pss_one (ps_ret (pe_callTy (call_str_int.or SkE.call_str_str) rfl T.z_str PyProof.Rows.boot_str (pa_cons (pv 0) pa_nil))))), ?_⟩
  obtain ⟨u1, y1, k1⟩ := is_bool T.kf h
  refine ⟨_, rfl, v, _, u1, _, _, rfl, .ty _, y1, k1, _, rfl, ?_⟩
  cases h with
  | bl b =>
    refine iteT ⟨_, rfl, b, rfl, ?_⟩
    cases b with
    | true => exact iteT q
    | false => exact iteF q
  | int i =>
    refine iteF ⟨_, rfl, .inl ⟨i, rfl, ?_, ?_⟩⟩
    · have := numB_abs wt
      exact Nat.lt_of_le_of_lt (log2_num this) (by decide)
    · have e := int_text i
      show Q (.str (Str.ofString (toString i))) H
      rw [e]
      exact q
  | str x hx =>
    refine iteF ⟨_, rfl, .inr ⟨x, rfl, ?_⟩⟩
    have e : S (leafT (.str x)) = x := SX.S_tl x
    rw [e] at q
    exact q
  | tup _ _ => cases ht
  | fn _ _ => cases wt
  | non => cases wt
  | lst _ => cases wt
  | dct _ => cases wt
theorem ok_worth_text (F : FnP K mg "worth_text" s_worth_text) (T : Tx K mg) (B_need_plain : Cl P w K mg base 4 "need_plain" ["thing"] (spNeed K false)) (B_leaf_text : Cl P w K mg base 1 "leaf_text" ["worth"] (spLeafText K)) : Cl P w K mg base 5 "worth_text" ["worth"] (spText K) := by
  refine cl_1 F sc_worth_text (fun _ _ _ _ _ _ us hl => match us, hl with | [_], _ => rfl) fun cdv A outer s H v Q E hr h => ?_
  obtain ⟨t, h, hn, q, qe⟩ := h
  refine ⟨_, (pss_cons (ps_expr (pe_bS B_need_plain hr (by omega) rfl (fun σ => passAt (takes_of rfl rfl rfl rfl) σ) (pa_cons (pv 0) pa_nil))) (pss_cons (ps_set (i := 1) sc_worth_text.nd rfl (Or.inl rfl) (pe_lst pa_nil)) (pss_cons (ps_set (i := 2) sc_worth_text.nd rfl (Or.inl rfl) (pe_lst (pa_cons (pe_tup (pa_cons pe_bl (pa_cons (pv 0) pa_nil))) pa_nil))) (pss_cons (ps_while (passes_of rfl) (pt_cmpR (op_neNil hr.units0) (pv 2) (pe_lst pa_nil) (nomark _)) (pss_cons (ps_asg (pe_bm0 PySem.F.plainAttrs_list PySem.F.slot_list_pop PySem.F.type_list_pop mt_pop (pv 2)) (pg_tup rfl (pgs_cons (pg_name (i := 3) sc_worth_text.nd rfl (Or.inl rfl)) (pgs_cons (pg_name (i := 4) sc_worth_text.nd rfl (Or.inl rfl)) pgs_nil)))) (pss_one (ps_if (pt_val (pv 3)) (pss_one (ps_expr (pe_bm PySem.F.plainAttrs_list PySem.F.slot_list_append PySem.F.type_list_append mt_append (pv 1) (pa_cons (pv 4) pa_nil)))) (pss_one (ps_if (pt_val (pe_callB call_isi rfl T.z_isinstance PyProof.Rows.boot_isinstance (pa_cons (pv 4) (pa_cons (pe_bltn (v := .ty "tuple") rfl T.z_tuple (by decide +kernel) rfl) pa_nil)))) (pss_cons (ps_expr (pe_bm PySem.F.plainAttrs_list PySem.F.slot_list_append PySem.F.type_list_append mt_append (pv 1) (pa_cons pe_str pa_nil))) (pss_cons (ps_expr (pe_bm PySem.F.plainAttrs_list PySem.F.slot_list_append PySem.F.type_list_append mt_append (pv 2) (pa_cons (pe_tup (pa_cons pe_bl (pa_cons pe_str pa_nil))) pa_nil))) (pss_one (ps_for (passes_of rfl) rfl (pi_range3 rfl T.z_range (pa_cons (pe_op op_sub (pe_callB call_len_seq rfl T.z_len PySem.boot_len (pa_cons (pv 4) pa_nil)) pe_int) (pa_cons (pe_un un_neg pe_int) (pa_cons (pe_un un_neg pe_int) pa_nil)))) (pg_name (i := 5) sc_worth_text.nd rfl (Or.inl rfl)) (pss_cons (ps_expr (pe_bm PySem.F.plainAttrs_list PySem.F.slot_list_append PySem.F.type_list_append mt_append (pv 2) (pa_cons (pe_tup (pa_cons pe_bl (pa_cons (pe_ix ix_tup (pv 4) (pv 5) (fun _ _ => rfl)) pa_nil))) pa_nil))) (pss_one (ps_if (pt_cmpR op_gt (pv 5) pe_int (nomark _)) (pss_one (ps_expr (pe_bm PySem.F.plainAttrs_list PySem.F.slot_list_append PySem.F.type_list_append mt_append (pv 2) (pa_cons (pe_tup (pa_cons pe_bl (pa_cons pe_str pa_nil))) pa_nil)))) pss_nil))))))) (pss_one (ps_expr (pe_bm PySem.F.plainAttrs_list PySem.F.slot_list_append PySem.F.type_list_append mt_append (pv 1) (pa_cons (pe_b B_leaf_text hr (by omega) rfl passL (pa_cons (pv 4) pa_nil)) pa_nil)))))))))) (pss_one (ps_ret (pe_join pe_str (pv 1)))))))), ?_⟩
  refine ⟨_, rfl, _, rfl, t, h, hn, fun wt H1 s1' => ?_, fun wt H1 s1' => qe wt _ s1'⟩
  refine stepN ?_
  dsimp only
  have tl := textP_len t wt
  refine ⟨by show 0 ≤ sizeLine; decide, fun D nD => ?_⟩
  refine ⟨_, rfl, s2, fun p0 np0 => ⟨Fl.s1, fun p np => ?_⟩⟩
  have sD := same_new nD (.lst [])
  have s0 := same_new np0 (.tup [.bl false, v])
  have sp := same_new np (.lst [.ref p0])
  have nD' : H D = none := s1'.free nD
  have np' : H p = none := (s1'.trans (sD.trans s0)).free np
  have Dp : D ≠ p := ne_of_none (s0 _ _ upd_same) np
  refine ⟨fun m σ H2 => ∃ (ws : List (List Nat)) (xs : List V) (ps : List WaitI) (o3 o4 o5 : Option V), σ = [some v, some (.ref D), some (.ref p), o3, o4, o5] ∧ Same H H2 ∧ H2 D = some (.lst (ws.map fun u => V.str (S u))) ∧ H2 p = some (.lst xs) ∧ Its (CF K) H H2 xs ps ∧ ws.flatten ++ outP ps = textP t ∧ m = meaP ps ∧ meaP ps + ws.length ≤ 3 * t.nodes,
    ⟨_, [], [.ref p0], [.inr t], none, none, none, rfl, s1'.trans (sD.trans (s0.trans sp)), (s0.trans sp) _ _ upd_same, upd_same, .wrt (sp _ _ upd_same) h wt .nil, by rw [outP_one]; rfl, rfl, ?_⟩, ?_⟩
  · show 3 * t.nodes - 1 + 0 + 0 ≤ _
    omega
  rintro m σ H2 ⟨ws, xs, ps, o3, o4, o5, rfl, s2', hD, hp, hi, ho, rfl, hm⟩
  refine ⟨_, rfl, (by show 0 ≤ sizeLine; decide), fun d nd => ⟨p, d, xs, rfl, rfl, SqL.of (by rw [upd_ne (ne_of_none hp nd)]; exact hp), SqL.of upd_same, _, rfl, ?_⟩⟩
  have sd := same_new nd (.lst [])
  have s3' := s2'.trans sd
  have hp3 := sd _ _ hp
  have hD3 := sd _ _ hD
  have hi3 := hi.same sd
  generalize upd H2 d (.lst []) = H3 at s3' hp3 hD3 hi3 ⊢
  by_cases hx : xs = []
  · subst hx
    cases hi
    refine iteF ?_
    have hf : ws.flatten = textP t := by
      rw [← ho]
      show _ = ws.flatten ++ []
      rw [List.append_nil]
    refine ⟨⟨_, rfl⟩, _, rfl, _, D, ws.map S, rfl, rfl, .inl ?_, ?_, ?_⟩
    · rw [List.map_map]
      exact SqL.of hD3
    · have e1 : ((ws.map S).map fun x => x.length).sum = ws.flatten.length := by
        rw [List.map_map, List.length_flatten]
        exact congrArg List.sum (List.map_congr_left fun u _ => SX.S_len u)
      rw [e1, hf]
      show _ + _ * 0 ≤ _
      omega
    · have e2 : Txt.join ("" : Str) (ws.map S) = S (textP t) := by
        have z := SX.join_S [] ws
        rw [join_nil, hf] at z
        exact z
      show Q (.str (Txt.join ("" : Str) (ws.map S))) H3
      rw [e2]
      exact q wt _ s3'
  obtain ⟨ys, Ta, qs, it, rfl, rfl, hq, hit⟩ := hi3.last hx
  have hne : (!(ys ++ [V.ref Ta]).isEmpty) = true := by cases ys <;> rfl
  show (if (!(ys ++ [V.ref Ta]).isEmpty) = true then _ else _)
  rw [hne]
  refine iteT ⟨_, fun σ' H' z => z, ?_⟩
  refine ⟨_, rfl, .inl ⟨rfl, _, .inl (.inl hp3)⟩, p, _, V.ref Ta, rfl, rfl, hp3, (by simp), ?_⟩
  rw [List.dropLast_concat]
  have hq4 := hq.mut (ys := ys) hp3
  have pD : D ≠ p := Dp
  have hD4 : upd H3 p (.lst ys) D = some (.lst (ws.map fun u => V.str (S u))) := by
    rw [upd_ne pD]
    exact hD3
  have hp4 : upd H3 p (.lst ys) p = some (.lst ys) := upd_same
  have s4' : Same H (upd H3 p (.lst ys)) := same_mut s3' np'
  have hT4 : ∀ o, H3 Ta = some o → (∀ l, o ≠ .lst l) → upd H3 p (.lst ys) Ta = some o := fun o e n => by
    rw [upd_ne (fun z => by rw [z, hp3] at e; injection e with e; exact n _ e.symm)]
    exact e
  generalize upd H3 p (.lst ys) = H4 at hq4 hD4 hp4 s4' hT4 ⊢
  rw [meaP_app] at hm
  have em : meaP [it] = itW it := by rw [meaP, meaP, Nat.add_zero]
  rw [em] at hm
  rw [outP_app, outP_one] at ho
  have yl : ys.length ≤ meaP qs := by rw [hq.len]; exact len_mea qs
  have wl : (ws.map fun u => V.str (S u)).length < sizeLine := by rw [List.length_map, sizeLine_eq]; omega
  have ip := itW_pos it
  have wr : ∀ (u : List Nat) (z3 z4 z5 : Option V), 1 ≤ itW it → (∀ r, ws.flatten ++ (itT it ++ r) = ws.flatten ++ (u ++ r)) → ∃ m', m' < meaP (qs ++ [it]) ∧ ∃ (ws' : List (List Nat)) (xs : List V) (ps : List WaitI) (o3 o4 o5 : Option V), [some v, some (.ref D), some (.ref p), z3, z4, z5] = [some v, some (.ref D), some (.ref p), o3, o4, o5] ∧ Same H (upd H4 D (.lst ((ws.map fun u => V.str (S u)) ++ [V.str (S u)]))) ∧ (upd H4 D (.lst ((ws.map fun u => V.str (S u)) ++ [V.str (S u)]))) D = some (.lst (ws'.map fun u => V.str (S u))) ∧ (upd H4 D (.lst ((ws.map fun u => V.str (S u)) ++ [V.str (S u)]))) p = some (.lst xs) ∧ Its (CF K) H (upd H4 D (.lst ((ws.map fun u => V.str (S u)) ++ [V.str (S u)]))) xs ps ∧ ws'.flatten ++ outP ps = textP t ∧ m' = meaP ps ∧ meaP ps + ws'.length ≤ 3 * t.nodes := fun u z3 z4 z5 h1 h2 =>
    ⟨_, by rw [meaP_app, em]; omega, ws ++ [u], ys, qs, z3, z4, z5, rfl, same_mut s4' nD', by rw [upd_same, List.map_append]; rfl, by rw [upd_ne pD.symm]; exact hp4, hq4.mut hD4, by
      rw [List.flatten_append, ← ho, List.append_assoc]
      have z := h2 (outP qs)
      rw [z]
      simp only [List.flatten_cons, List.flatten_nil, List.append_nil], rfl, by rw [List.length_append, List.length_singleton]; omega⟩
  rcases hit with ⟨u, rfl, hT⟩ | ⟨x, t1, rfl, hT, hx1, wt1⟩
  · have hT' := hT4 _ hT (fun l z => by cases z)
    refine ⟨Ta, _, rfl, SqT.of hT', rfl, _, _, rfl, _, _, rfl, rfl, ?_⟩
    refine ⟨_, rfl, true, rfl, iteT ?_⟩
    refine ⟨_, rfl, .inl ⟨rfl, _, .inl (.inl hD4)⟩, _, rfl, D, _, _, rfl, rfl, hD4, wl, ?_⟩
    exact wr u _ _ _ ip (fun r => rfl)
  · have hT' := hT4 _ hT (fun l z => by cases z)
    refine ⟨Ta, _, rfl, SqT.of hT', rfl, _, _, rfl, _, _, rfl, rfl, ?_⟩
    refine ⟨_, rfl, false, rfl, iteF ?_⟩
    obtain ⟨u1, y1, k1⟩ := is_tup T.kf (hx1.same s4')
    refine ⟨_, rfl, _, _, u1, _, _, rfl, .ty _, y1, k1, _, rfl, ?_⟩
    cases et : t1.isTup with
    | false =>
      refine iteF ⟨_, rfl, .inl ⟨rfl, _, .inl (.inl hD4)⟩, _, rfl, _, rfl, t1, hx1.same s4', et, wt1, D, _, _, rfl, rfl, hD4, wl, ?_⟩
      exact wr (leafT t1) _ _ _ ip (fun r => by show ws.flatten ++ (textP t1 ++ r) = _; rw [text_leaf et])
    | true =>
      cases hx1 with
      | tup e1 i1 =>
        rename_i a1 xs1 l
        have il := i1.len
        have ln := len_nodesL l
        have wl1 : Th.worths false l = true := by simpa [Th.worth] using wt1
        have ew : itW (.inr (.tup l)) = 3 * Th.nodesL l + 2 := by
          show 3 * (Th.tup l).nodes - 1 = _
          rw [Th.nodes]
          omega
        rw [ew] at hm
        refine iteT ⟨_, rfl, .inl ⟨rfl, _, .inl (.inl hD4)⟩, D, _, _, rfl, rfl, hD4, wl, ?_⟩
        refine stepN ?_
        dsimp only
        have s5' : Same H (upd H4 D (.lst ((ws.map fun u => V.str (S u)) ++ [V.str "("]))) := same_mut s4' nD'
        have hD5 : (upd H4 D (.lst ((ws.map fun u => V.str (S u)) ++ [V.str "("]))) D = some (.lst ((ws ++ [[40]]).map fun u => V.str (S u))) := by
          rw [upd_same, List.map_append]
          rfl
        have hp5 : (upd H4 D (.lst ((ws.map fun u => V.str (S u)) ++ [V.str "("]))) p = some (.lst ys) := by
          rw [upd_ne pD.symm]
          exact hp4
        have hq5 := hq4.mut (ys := (ws.map fun u => V.str (S u)) ++ [V.str "("]) hD4
        generalize upd H4 D (.lst ((ws.map fun u => V.str (S u)) ++ [V.str "("])) = H5 at s5' hD5 hp5 hq5 ⊢
        have grow : ∀ {H6 : Hp} {vs : List V} {items : List WaitI} {o : HO} {T : Addr} {it : WaitI}, Same H H6 → H6 D = some (.lst ((ws ++ [[40]]).map fun u => V.str (S u))) → H6 p = some (.lst vs) → Its (CF K) H H6 vs items → H6 T = none → Its (CF K) H (upd H6 T o) [.ref T] [it] →
            Same H (upd (upd H6 T o) p (.lst (vs ++ [.ref T]))) ∧ (upd (upd H6 T o) p (.lst (vs ++ [.ref T]))) D = some (.lst ((ws ++ [[40]]).map fun u => V.str (S u))) ∧ (upd (upd H6 T o) p (.lst (vs ++ [.ref T]))) p = some (.lst (vs ++ [.ref T])) ∧ Its (CF K) H (upd (upd H6 T o) p (.lst (vs ++ [.ref T]))) (vs ++ [.ref T]) (items ++ [it]) := fun {H6 vs items o T it} a1 a2 a3 a4 a5 a6 =>
          ⟨same_mut (a1.trans (same_new a5 o)) np', by rw [upd_ne pD]; exact (same_new a5 o) _ _ a2, upd_same, ((a4.same (same_new a5 o)).app a6).mut ((same_new a5 o) _ _ a3)⟩
        have ylen : ys.length < sizeLine := by rw [sizeLine_eq]; omega
        refine ⟨_, rfl, .inl ⟨rfl, _, .inl (.inl hp5)⟩, s2, fun q1 nq1 => ⟨p, _, _, rfl, rfl, (same_new nq1 _) _ _ hp5, ylen, ?_⟩⟩
        obtain ⟨b1, b2, b3, b4⟩ := grow (o := .tup [.bl true, .str ")"]) (it := .inl [41]) s5' hD5 hp5 hq5 nq1 (.txt upd_same .nil)
        refine stepN ?_
        dsimp only
        generalize upd (upd H5 q1 (.tup [.bl true, .str ")"])) p (.lst (ys ++ [.ref q1])) = H7 at b1 b2 b3 b4 ⊢
        refine ⟨_, rfl, a1, xs1, rfl, .inr (SqT.of (b1 _ _ e1)), _, _, rfl, rfl, _, rfl, _, rfl, _, _, _, _, rfl, RgC.neg (by omega) (by have := sizeLine_eq; omega) (by decide) (by decide), ?_⟩
        rw [show (((xs1.length : Nat) : Int) - 1 - -1).toNat = l.length by omega]
        have hil : xs1.length = l.length := il
        refine for_rangeC (fun k σ H' => ∃ (vs : List V) (items : List WaitI) (z5 : Option V), σ = [some v, some (.ref D), some (.ref p), some (.bl false), some (.ref a1), z5] ∧ Same H H' ∧ H' D = some (.lst ((ws ++ [[40]]).map fun u => V.str (S u))) ∧ H' p = some (.lst vs) ∧ Its (CF K) H H' vs items ∧ outP items = (if 0 < k ∧ k < l.length then [32] else []) ++ (textsP (l.drop (l.length - k)) ++ 41 :: outP qs) ∧ meaP items ≤ meaP qs + 1 + 3 * Th.nodesL (l.drop (l.length - k)))
          ⟨_, _, o5, rfl, b1, b2, b3, b4, ?_, ?_⟩ ?_ ?_
        · rw [outP_app, outP_one, if_neg (by omega), Nat.sub_zero, List.drop_length, textsP]
          rfl
        · rw [meaP_app]
          show meaP qs + (1 + 0) ≤ _
          omega
        · rintro k σ H8 hk ⟨vs, items, z5, rfl, c1, c2, c3, c4, c5, c6⟩
          have hpl : l.length - (k + 1) < l.length := by omega
          obtain ⟨x, hx⟩ : ∃ x, xs1[l.length - (k + 1)]? = some x := ⟨_, List.getElem?_eq_getElem (by omega)⟩
          obtain ⟨tp, htp, ip1⟩ := i1.get hx
          have me := List.mem_of_getElem? htp
          have wtp := worth_mem me wl1
          have ed : l.drop (l.length - (k + 1)) = tp :: l.drop (l.length - k) := by
            rw [List.drop_eq_getElem_cons hpl, (List.getElem?_eq_some_iff.mp htp).2, show l.length - (k + 1) + 1 = l.length - k by omega]
          have ev : ((xs1.length : Nat) : Int) - 1 + ((k : Nat) : Int) * -1 = ((l.length - (k + 1) : Nat) : Int) := by omega
          rw [ev]
          have vlen : vs.length < sizeLine := by
            have := c4.len
            have := len_mea items
            have dn : Th.nodesL (l.drop (l.length - k)) ≤ Th.nodesL l := by
              have z := nodesL_app (l.take (l.length - k)) (l.drop (l.length - k))
              rw [List.take_append_drop] at z
              omega
            rw [sizeLine_eq]
            omega
          have tpp := tp.nodes_pos
          refine ⟨_, rfl, .inl ⟨rfl, _, .inl (.inl c3)⟩, _, rfl, _, rfl, a1, _, _, x, rfl, rfl, SqT.of (c1 _ _ e1), atI_nat hx, s2, fun q2 nq2 => ⟨p, _, _, rfl, rfl, (same_new nq2 _) _ _ c3, vlen, ?_⟩⟩
          obtain ⟨d1, d2, d3, d4⟩ := grow (o := .tup [.bl false, x]) (it := .inr tp) c1 c2 c3 c4 nq2 (.wrt upd_same ip1 wtp .nil)
          refine stepN ?_
          dsimp only
          generalize upd (upd H8 q2 (.tup [.bl false, x])) p (.lst (vs ++ [.ref q2])) = H9 at d1 d2 d3 d4 ⊢
          have c5' : outP (items ++ [.inr tp]) = textsP (l.drop (l.length - (k + 1))) ++ 41 :: outP qs := by
            rw [outP_app, outP_one, c5, ed, textsP]
            show textP tp ++ _ = _
            by_cases k0 : k = 0
            · rw [if_neg (by omega), k0, Nat.sub_zero, List.drop_length, textsP, tailsP]
              simp
            · rw [if_pos ⟨by omega, hk⟩, tails_cons (by
                intro z
                have := congrArg List.length z
                rw [List.length_drop] at this
                simp at this
                omega)]
              simp
          have c6' : meaP (items ++ [.inr tp]) ≤ meaP qs + 3 * Th.nodesL (l.drop (l.length - (k + 1))) := by
            rw [meaP_app, ed, Th.nodesL]
            show _ + (3 * tp.nodes - 1 + 0) ≤ _
            omega
          refine ⟨_, rfl, _, _, rfl, rfl, _, rfl, ite2 (fun cc => ?_) (fun cc => ?_)⟩
          · have k1 : k + 1 < l.length := by
              have := of_decide_eq_true cc
              omega
            have v2 : (vs ++ [V.ref q2]).length < sizeLine := by
              have := c4.len
              have := len_mea items
              have dn : Th.nodesL (l.drop (l.length - k)) ≤ Th.nodesL l := by
                have z := nodesL_app (l.take (l.length - k)) (l.drop (l.length - k))
                rw [List.take_append_drop] at z
                omega
              rw [sizeLine_eq, List.length_append, List.length_singleton]
              omega
            refine ⟨_, rfl, .inl ⟨rfl, _, .inl (.inl d3)⟩, s2, fun q3 nq3 => ⟨p, _, _, rfl, rfl, (same_new nq3 _) _ _ d3, v2, ?_⟩⟩
            obtain ⟨f1, f2, f3, f4⟩ := grow (o := .tup [.bl true, .str " "]) (it := .inl [32]) d1 d2 d3 d4 nq3 (.txt upd_same .nil)
            refine ⟨_, _, _, rfl, f1, f2, f3, f4, ?_, ?_⟩
            · rw [outP_app, outP_one, c5', if_pos ⟨by omega, k1⟩]
              rfl
            · rw [meaP_app]
              show _ + (1 + 0) ≤ _
              omega
          · have k1 : ¬ k + 1 < l.length := fun z => cc (decide_eq_true (by omega))
            refine ⟨_, _, _, rfl, d1, d2, d3, d4, ?_, ?_⟩
            · rw [c5', if_neg (fun z => k1 z.2)]
              rfl
            · omega
        · rintro σ H8 ⟨vs, items, z5, rfl, c1, c2, c3, c4, c5, c6⟩
          rw [Nat.sub_self, List.drop_zero] at c5 c6
          refine ⟨_, ?_, ws ++ [[40]], vs, items, _, _, _, rfl, c1, c2, c3, c4, ?_, rfl, ?_⟩
          · rw [meaP_app, em, ew]
            omega
          · rw [c5, if_neg (fun z => Nat.lt_irrefl _ z.2), ← ho, List.flatten_append]
            show _ = ws.flatten ++ (textP (.tup l) ++ outP qs)
            rw [textP]
            simp
          · rw [List.length_append, List.length_singleton]
            omega
      | bl _ => cases et
      | int _ => cases et
      | str _ _ => cases et
      | fn _ _ => cases et
      | non => cases et
      | lst _ => cases et
      | dct _ => cases et
end
end Fl
/-! texts.py: read -/
namespace Fl
open PySem PySem.Spec PyProof.Rows L2
open SX (S)
abbrev s_read : Stmt := top 32
theorem sc_read : FnScope ["text", "rows", "word", "done"] ["text"] (defScope s_read) := ⟨rfl, rfl, rfl, by decide +kernel, rfl, by decide +kernel, by decide +kernel⟩
/-- the first row of all: rows with the latest one first -/
def lowRow : List (List Th) → List Th
  | [] => []
  | [r] => r
  | _ :: r :: s => lowRow (r :: s)
def putTop (t : Th) : List (List Th) → Option (List (List Th))
  | r :: s => some ((r ++ [t]) :: s)
  | [] => none
def closeP : List (List Th) → Option (List (List Th))
  | d :: s => putTop (.tup d) s
  | [] => none
def leafStep (rows : List (List Th)) : Option Th → Option (List (List Th))
  | some t => putTop t rows
  | none => none
def stepP (rows : List (List Th)) (w : List Nat) : Option (List (List Th)) :=
  if decide (1 < rows.length) || (lowRow rows).isEmpty then
    if w = [40] then (if rows.length + 1 ≤ 101 then some ([] :: rows) else none)
    else if w = [41] then (if 1 < rows.length then closeP rows else none)
    else leafStep rows (leafP w)
  else none
def stepsP : List (List Th) → List (List Nat) → Option (List (List Th))
  | rows, [] => some rows
  | rows, w :: r => match stepP rows w with
    | some rows' => stepsP rows' r
    | none => none
def oneP : Option (List (List Th)) → Option Th
  | some [[t]] => some t
  | _ => none
def readP (cs : List Nat) : Option Th := if cs.length ≤ 20000 then oneP (stepsP [[]] (tok [] cs)) else none
/-! ### the rows in the heap -/
inductive Rws (C : Addr) (G H : Hp) : List Addr → List (List Th) → Prop
  | nil : Rws C G H [] []
  | cons {D : Addr} {xs : List V} {ts : List Th} {Ds : List Addr} {rows : List (List Th)} : H D = some (.lst xs) → Iss C H xs ts → G D = none → D ∉ Ds → Rws C G H Ds rows → Rws C G H (D :: Ds) (ts :: rows)
section
variable {C : Addr} {G H H' : Hp}
theorem Rws.len : ∀ {Ds : List Addr} {rows : List (List Th)}, Rws C G H Ds rows → Ds.length = rows.length
  | _, _, .nil => rfl
  | _, _, .cons _ _ _ _ r => congrArg Nat.succ r.len
theorem Rws.keep (im : Im H H') : ∀ {Ds : List Addr} {rows : List (List Th)}, (∀ D ∈ Ds, ∀ o, H D = some o → H' D = some o) → Rws C G H Ds rows → Rws C G H' Ds rows
  | _, _, _, .nil => .nil
  | _, _, h, .cons a b c d r => .cons (h _ List.mem_cons_self _ a) (b.ik im) c d (r.keep im fun D m => h D (List.mem_cons_of_mem _ m))
theorem Rws.same (s : Same H H') {Ds : List Addr} {rows : List (List Th)} (r : Rws C G H Ds rows) : Rws C G H' Ds rows := r.keep (im_same s) fun _ _ _ e => s _ _ e
/-- another list is changed -/
theorem Rws.mut {p : Addr} {xs ys : List V} (hp : H p = some (.lst xs)) {Ds : List Addr} {rows : List (List Th)} (n : p ∉ Ds) (r : Rws C G H Ds rows) : Rws C G (upd H p (.lst ys)) Ds rows :=
  r.keep (im_lst hp) fun D m o e => by rw [upd_ne (fun z => n (by rw [← z]; exact m))]; exact e
theorem Rws.get : ∀ {Ds : List Addr} {rows : List (List Th)}, Rws C G H Ds rows → ∀ D ∈ Ds, ∃ xs, H D = some (.lst xs) ∧ G D = none
  | _, _, .cons a b c d r, D, m => by
    rcases List.mem_cons.mp m with rfl | m
    · exact ⟨_, a, c⟩
    · exact r.get D m
/-- the first row of all -/
theorem Rws.low : ∀ {Ds : List Addr} {rows : List (List Th)}, Rws C G H Ds rows → Ds ≠ [] → ∃ Es D xs, Ds = Es ++ [D] ∧ H D = some (.lst xs) ∧ Iss C H xs (lowRow rows)
  | _, _, .nil, h => absurd rfl h
  | _, _, .cons (Ds := []) a b c d r, _ => by
    cases r
    exact ⟨[], _, _, rfl, a, b⟩
  | _, _, .cons (Ds := e :: f) a b c d r, _ => by
    cases r with
    | cons a2 b2 c2 d2 r2 =>
      obtain ⟨Es, D, xs, e1, e2, e3⟩ := (Rws.cons a2 b2 c2 d2 r2).low (List.cons_ne_nil _ _)
      exact ⟨_ :: Es, D, xs, by rw [e1]; rfl, e2, e3⟩
end
theorem flush_len (u : List Nat) : (flush u).length ≤ u.length := by
  cases u with
  | nil => exact Nat.le_refl _
  | cons _ _ => exact Nat.succ_le_succ (Nat.zero_le _)
theorem tok_len : ∀ (cs u : List Nat), (tok u cs).length ≤ u.length + cs.length
  | [], u => by rw [tok]; exact flush_len u
  | c :: r, u => by
    rw [tok]
    split
    · have a := flush_len u
      have b := tok_len r []
      rw [List.length_append, List.length_append, List.length_cons]
      simp only [List.length_nil] at b
      split <;> simp only [List.length_cons, List.length_nil] <;> omega
    · have b := tok_len r (u ++ [c])
      rw [List.length_append, List.length_singleton] at b
      rw [List.length_cons]
      omega
theorem tok_ne : ∀ (cs u : List Nat), ∀ w ∈ tok u cs, w ≠ []
  | [], u, w, h => by
    rw [tok] at h
    cases u with
    | nil => cases h
    | cons a b =>
      rw [List.mem_singleton.mp h]
      exact List.cons_ne_nil _ _
  | c :: r, u, w, h => by
    rw [tok] at h
    split at h
    · rcases List.mem_append.mp h with h | h
      · cases u with
        | nil => cases h
        | cons a b =>
          rw [List.mem_singleton.mp h]
          exact List.cons_ne_nil _ _
      · rcases List.mem_append.mp h with h | h
        · split at h
          · rw [List.mem_singleton.mp h]
            exact List.cons_ne_nil _ _
          · cases h
        · exact tok_ne r [] w h
    · exact tok_ne r _ w h
theorem tok_sz : ∀ (cs u : List Nat), ∀ w ∈ tok u cs, w.length ≤ u.length + cs.length
  | [], u, w, h => by
    rw [tok] at h
    cases u with
    | nil => cases h
    | cons a b =>
      rw [List.mem_singleton.mp h]
      exact Nat.le_refl _
  | c :: r, u, w, h => by
    rw [tok] at h
    split at h
    · rcases List.mem_append.mp h with h | h
      · cases u with
        | nil => cases h
        | cons a b =>
          rw [List.mem_singleton.mp h]
          omega
      · rcases List.mem_append.mp h with h | h
        · split at h
          · rw [List.mem_singleton.mp h]
            simp only [List.length_cons, List.length_nil]
            omega
          · cases h
        · have := tok_sz r [] w h
          simp only [List.length_cons, List.length_nil] at this ⊢
          omega
    · have := tok_sz r _ w h
      rw [List.length_append, List.length_singleton] at this
      rw [List.length_cons]
      omega
theorem one_row {rows : List (List Th)} {d : List Th} (h : rows.length = 1) (hd : lowRow rows = d) : rows = [d] := by
  cases rows with
  | nil => cases h
  | cons r s =>
    cases s with
    | nil => rw [← hd]; rfl
    | cons _ _ => cases h
theorem rev_neg {α : Type} (x : α) (l : List α) : atI (x :: l).reverse (-1) = some x := by
  rw [List.reverse_cons]
  exact atI_last _ _
theorem rev_zero {α : Type} (x : α) (l : List α) : atI (l ++ [x]).reverse 0 = some x := atI_nat (j := 0) (by simp)
theorem str_one (w : List Nat) (c : Nat) (z : Str) (hz : z = S [c]) : decide (V.str (S w) = V.str z) = decide (w = [c]) := by
  subst hz
  exact decide_eq_decide.mpr ⟨fun h => by injection h with h; exact SX.S_inj h, fun h => by rw [h]⟩
def spRead (K : PySem.W.Frag) : Sp := sp1 fun v H Q E => ((∃ cs, v = .str (S cs) ∧ cs.length ≤ 100000 ∧ (∀ t u H', readP cs = some t → Same H H' → Is (CF K) H' u t → Q u H') ∧ (∀ H', readP cs = none → Same H H' → E (.ref (He.ga K "NoText")) none H')) ∨
  ∃ t, Is (CF K) H v t ∧ t.isStr = false ∧ ∀ H', Same H H' → E (.ref (He.ga K "NoText")) none H')
section
variable {P : Program} {w : World} {K : PySem.W.Frag} {mg : Str → Option Value} {base : Heap}
theorem ok_read (F : FnP K mg "read" s_read) (T : Tx K mg) (B_need : Cl P w K mg base 1 "need" ["is_good"] (spNeedB K)) (B_words_in : Cl P w K mg base 1 "words_in" ["text"] (spWordsIn K)) (B_leaf_in : Cl P w K mg base 3 "leaf_in" ["word"] (spLeafIn K)) : Cl P w K mg base 4 "read" ["text"] (spRead K) := by
  refine cl_1 F sc_read (fun _ _ _ _ _ _ us hl => match us, hl with | [_], _ => rfl) fun cdv A outer s H v Q E hr h => ?_
  refine ⟨_, (pss_cons (ps_expr (pe_bS B_need hr (by omega) rfl (fun σ => passAt (takes_of rfl rfl rfl rfl) σ) (pa_cons (pe_callB call_isi rfl T.z_isinstance PyProof.Rows.boot_isinstance (pa_cons (pv 0) (pa_cons (pe_bltn (v := .ty "str") rfl T.z_str (by decide +kernel) rfl) pa_nil))) pa_nil))) (pss_cons (ps_expr (pe_bS B_need hr (by omega) rfl (fun σ => passAt (takes_of rfl rfl rfl rfl) σ) (pa_cons (pe_cmpR op_le (pe_callB call_len_str rfl T.z_len PySem.boot_len (pa_cons (pv 0) pa_nil)) (pe_gk rfl T.c_MOST_TEXT) (nomark _)) pa_nil))) (pss_cons (ps_set (i := 1) sc_read.nd rfl (Or.inl rfl) (pe_lst (pa_cons (pe_lst pa_nil) pa_nil))) (pss_cons (ps_for (passes_of rfl) rfl (pi_list (pe_b B_words_in hr (by omega) rfl passL (pa_cons (pv 0) pa_nil))) (pg_name (i := 2) sc_read.nd rfl (Or.inl rfl)) (pss_cons (ps_expr (pe_bS B_need hr (by omega) rfl (fun σ => passAt (takes_of rfl rfl rfl rfl) σ) (pa_cons (pe_or (pe_cmpR op_gt (pe_callB call_len_seq rfl T.z_len PySem.boot_len (pa_cons (pv 1) pa_nil)) pe_int (nomark _)) (pe_one (pe_cmpR (op_eqNil hr.units0) (pe_ix ix_list (pv 1) pe_int (fun _ _ => rfl)) (pe_lst pa_nil) (nomark _)))) pa_nil))) (pss_one (ps_if (pt_cmpR op_eq (pv 2) pe_str (nomark _)) (pss_cons (ps_expr (pe_bm PySem.F.plainAttrs_list PySem.F.slot_list_append PySem.F.type_list_append mt_append (pv 1) (pa_cons (pe_lst pa_nil) pa_nil))) (pss_one (ps_expr (pe_bS B_need hr (by omega) rfl (fun σ => passAt (takes_of rfl rfl rfl rfl) σ) (pa_cons (pe_cmpR op_le (pe_callB call_len_seq rfl T.z_len PySem.boot_len (pa_cons (pv 1) pa_nil)) (pe_op op_add (pe_gk rfl T.c_MOST_BRACKETS) pe_int) (nomark _)) pa_nil))))) (pss_one (ps_if (pt_cmpR op_eq (pv 2) pe_str (nomark _)) (pss_cons (ps_expr (pe_bS B_need hr (by omega) rfl (fun σ => passAt (takes_of rfl rfl rfl rfl) σ) (pa_cons (pe_cmpR op_gt (pe_callB call_len_seq rfl T.z_len PySem.boot_len (pa_cons (pv 1) pa_nil)) pe_int (nomark _)) pa_nil))) (pss_cons (ps_set (i := 3) sc_read.nd rfl (Or.inl rfl) (pe_tupleOf rfl T.z_tuple (pe_bm0 PySem.F.plainAttrs_list PySem.F.slot_list_pop PySem.F.type_list_pop mt_pop (pv 1)))) (pss_one (ps_expr (pe_bm PySem.F.plainAttrs_list PySem.F.slot_list_append PySem.F.type_list_append mt_append (pe_ix ix_list (pv 1) (pe_un un_neg pe_int) (fun _ _ => rfl)) (pa_cons (pv 3) pa_nil)))))) (pss_one (ps_expr (pe_bm PySem.F.plainAttrs_list PySem.F.slot_list_append PySem.F.type_list_append mt_append (pe_ix ix_list (pv 1) (pe_un un_neg pe_int) (fun _ _ => rfl)) (pa_cons (pe_bS B_leaf_in hr (by omega) rfl (fun σ => passAt (takes_of rfl rfl rfl rfl) σ) (pa_cons (pv 2) pa_nil)) pa_nil)))))))))) (pss_cons (ps_expr (pe_bS B_need hr (by omega) rfl (fun σ => passAt (takes_of rfl rfl rfl rfl) σ) (pa_cons (pe_and (pe_cmpR op_eq (pe_callB call_len_seq rfl T.z_len PySem.boot_len (pa_cons (pv 1) pa_nil)) pe_int (nomark _)) (pe_one (pe_cmpR op_eq (pe_callB call_len_seq rfl T.z_len PySem.boot_len (pa_cons (pe_ix ix_list (pv 1) pe_int (fun _ _ => rfl)) pa_nil)) pe_int (nomark _)))) pa_nil))) (pss_one (ps_ret (pe_ix ix_list (pe_ix ix_list (pv 1) pe_int (fun _ _ => rfl)) pe_int (fun _ _ => rfl))))))))), ?_⟩
  rcases h with ⟨cs, rfl, hn, q, qe⟩ | ⟨t, it, ht, qe⟩
  case inr =>
    obtain ⟨u1, y1, k1⟩ := is_str T.kf it
    rw [ht] at k1
    exact ⟨_, rfl, _, _, u1, _, _, rfl, .ty _, y1, k1, _, rfl, _, rfl, fun z => (by cases z), fun _ => qe _ (.refl _)⟩
  have hlen : (S cs).length ≤ sizeLine := by rw [SX.S_len, sizeLine_eq]; omega
  refine ⟨_, rfl, _, _, _, _, _, rfl, .ty _, .base (.str _), kit_ty (r := true) (by decide +kernel), _, rfl, _, rfl, fun _ => ?_, fun z => (by cases z)⟩
  refine stepN ?_
  dsimp only
  refine ⟨_, rfl, S cs, rfl, hlen, _, _, rfl, rfl, _, rfl, _, rfl, fun e1 => ?_, fun e1 => ?_⟩
  case refine_2 =>
    refine qe H ?_ (.refl _)
    unfold readP
    rw [if_neg (fun z => by
      have := of_decide_eq_false e1
      rw [SX.S_len] at this
      omega)]
  have l2 : cs.length ≤ 20000 := by
    have := of_decide_eq_true e1
    rw [SX.S_len] at this
    omega
  have rp : readP cs = oneP (stepsP [[]] (tok [] cs)) := by
    unfold readP
    rw [if_pos l2]
  refine stepN ?_
  dsimp only
  refine ⟨by show 0 ≤ sizeLine; decide, fun D0 nD0 => ⟨Fl.s1, fun R nR => ?_⟩⟩
  have sD := same_new nD0 (.lst [])
  have sR := same_new nR (.lst [.ref D0])
  have nR' : H R = none := sD.free nR
  have R0 : Rws (CF K) H (upd (upd H D0 (.lst [])) R (.lst [.ref D0])) [D0] [[]] := .cons (sR _ _ upd_same) .nil nD0 List.not_mem_nil .nil
  have hR0 : (upd (upd H D0 (.lst [])) R (.lst [.ref D0])) R = some (.lst (([D0].map V.ref).reverse)) := upd_same
  have nRD : R ∉ [D0] := by
    intro z
    rw [List.mem_singleton] at z
    rw [z, upd_same] at nR
    cases nR
  refine stepG ?_
  dsimp only
  refine ⟨_, rfl, _, rfl, cs, rfl, hn, fun DW H1 s1' nDW hDW => ?_⟩
  have S1' : Same H H1 := sD.trans (sR.trans s1')
  have tl := tok_len cs []
  rw [List.length_nil, Nat.zero_add] at tl
  have tn := tok_ne cs []
  have R1 := R0.same s1'
  have hR1 := s1' _ _ hR0
  have DWR : DW ≠ R := fun z => by rw [z, hR0] at nDW; cases nDW
  have DWD : DW ∉ [D0] := fun z => by
    rw [List.mem_singleton] at z
    obtain ⟨xs, hx, _⟩ := R0.get D0 (List.mem_singleton.mpr rfl)
    rw [z, hx] at nDW
    cases nDW
  refine ⟨DW, rfl, ⟨_, SqL.of hDW⟩, ?_⟩
  refine for_it (walk_list (K := K) (a := DW) (xs := (tok [] cs).map fun w => V.str (S w))) (fun i σ H' => ∃ (Ds : List Addr) (rows : List (List Th)) (o2 o3 : Option V), σ = [some (.str (S cs)), some (.ref R), o2, o3] ∧ Same H H' ∧ H' DW = some (.lst ((tok [] cs).map fun w => V.str (S w))) ∧ H' R = some (.lst (Ds.map V.ref).reverse) ∧ Rws (CF K) H H' Ds rows ∧ R ∉ Ds ∧ DW ∉ Ds ∧ Ds ≠ [] ∧ rows.length ≤ 101 ∧ (∀ ts ∈ rows, ts.length ≤ i) ∧ stepsP [[]] (tok [] cs) = stepsP rows ((tok [] cs).drop i))
    ⟨[D0], [[]], none, none, rfl, S1', hDW, hR1, R1, nRD, DWD, List.cons_ne_nil _ _, by decide, fun ts m => by rw [List.mem_singleton.mp m]; exact Nat.le_refl _, rfl⟩ (fun _ _ _ _ z => by obtain ⟨_, _, _, _, _, _, z, _⟩ := z; exact SqL.of z) ?_ ?_
  · rintro i y σ HX H2 hi ⟨Ds, rows, o2, o3, rfl, c1, c2, c3, c4, c5, c6, c7, c8, c9, c10⟩ ⟨rfl, hy⟩
    obtain ⟨w, hw, rfl⟩ := map_at hy
    have il : i < (tok [] cs).length := (List.getElem?_eq_some_iff.mp hw).1
    have wn := tn w (List.mem_of_getElem? hw)
    have ed : (tok [] cs).drop i = w :: (tok [] cs).drop (i + 1) := by
      rw [List.drop_eq_getElem_cons il, (List.getElem?_eq_some_iff.mp hw).2]
    rw [ed, stepsP] at c10
    have dl := c4.len
    obtain ⟨Es, Db, xb, eE, hDb, ib⟩ := c4.low c7
    have refuse : stepP rows w = none → ∀ H', Same H H' → E (.ref (He.ga K "NoText")) none H' := fun z H' s' => qe H' (by rw [rp, c10, z]; rfl) s'
    refine join_v (T := tOrV _ _ _ _) (fun k => ∀ H', Same H2 H' → k (.bl (decide (1 < rows.length) || (lowRow rows).isEmpty)) H') (fun H3 s3' => ?_) (fun k hk => ?_)
    case refine_2 =>
      refine ⟨_, rfl, R, _, rfl, .inl (SqL.of c3), _, _, rfl, rfl, _, rfl, ?_⟩
      have e0 : decide (((((Ds.map V.ref).reverse).length : Nat) : Int) > 1) = decide (1 < rows.length) := by
        rw [List.length_reverse, List.length_map, dl]
        exact decide_eq_decide.mpr ⟨fun z => by omega, fun z => by omega⟩
      rw [show decide ((1 : Int) < ((((Ds.map V.ref).reverse).length : Nat) : Int)) = decide (1 < rows.length) from e0]
      cases e : decide (1 < rows.length) with
      | true =>
        rw [e] at hk
        exact iteT (hk H2 (.refl _))
      | false =>
        rw [e] at hk
        have ab : atI (Ds.map V.ref).reverse 0 = some (.ref Db) := by
          rw [eE, List.map_append]
          exact rev_zero _ _
        refine iteF ⟨_, rfl, R, _, _, _, rfl, rfl, SqL.of c3, ab, by show 0 ≤ sizeLine; decide, fun a0 m0 => ?_⟩
        · have s0 := same_new m0 (.lst [])
          refine ⟨Db, a0, xb, rfl, rfl, SqL.of (s0 _ _ hDb), SqL.of upd_same, ?_⟩
          have el : xb.isEmpty = (lowRow rows).isEmpty := by
            have := ib.len
            cases xb with
            | nil =>
              cases hl : lowRow rows with
              | nil => rfl
              | cons _ _ => rw [hl] at this; cases this
            | cons _ _ =>
              cases hl : lowRow rows with
              | nil => rw [hl] at this; cases this
              | cons _ _ => rfl
          show k (.bl (xb.isEmpty)) _
          rw [el]
          exact hk _ s0
    refine ⟨_, rfl, _, rfl, fun e1 => ?_, fun e1 => refuse (by unfold stepP; rw [if_neg (by rw [e1]; decide)]) _ (c1.trans s3')⟩
    have d1 := c1.trans s3'
    have d2 := s3' _ _ c2
    have d3 := s3' _ _ c3
    have d4 := c4.same s3'
    refine stepN ?_
    dsimp only
    have st : stepP rows w = if w = [40] then (if rows.length + 1 ≤ 101 then some ([] :: rows) else none)
        else if w = [41] then (if 1 < rows.length then closeP rows else none)
        else leafStep rows (leafP w) := by
      unfold stepP
      rw [if_pos e1]
    refine ⟨_, rfl, rfl, _, rfl, ?_⟩
    rw [str_one w 40 "(" rfl]
    have wsz : w.length ≤ 100000 := by
      have := tok_sz cs [] w (List.mem_of_getElem? hw)
      simp only [List.length_nil] at this
      omega
    have rl : ((Ds.map V.ref).reverse).length < sizeLine := by
      rw [List.length_reverse, List.length_map, dl, sizeLine_eq]
      omega
    have next : ∀ (rows' : List (List Th)) (Ds' : List Addr) (z2 z3 : Option V) (H4 : Hp), stepP rows w = some rows' → Same H H4 → H4 DW = some (.lst ((tok [] cs).map fun w => V.str (S w))) → H4 R = some (.lst (Ds'.map V.ref).reverse) → Rws (CF K) H H4 Ds' rows' → R ∉ Ds' → DW ∉ Ds' → Ds' ≠ [] → rows'.length ≤ 101 → (∀ ts ∈ rows', ts.length ≤ i + 1) →
        ∃ (Ds : List Addr) (rows : List (List Th)) (o2 o3 : Option V), [some (.str (S cs)), some (.ref R), z2, z3] = [some (V.str (S cs)), some (.ref R), o2, o3] ∧ Same H H4 ∧ H4 DW = some (.lst ((tok [] cs).map fun w => V.str (S w))) ∧ H4 R = some (.lst (Ds.map V.ref).reverse) ∧ Rws (CF K) H H4 Ds rows ∧ R ∉ Ds ∧ DW ∉ Ds ∧ Ds ≠ [] ∧ rows.length ≤ 101 ∧ (∀ ts ∈ rows, ts.length ≤ i + 1) ∧ stepsP [[]] (tok [] cs) = stepsP rows ((tok [] cs).drop (i + 1)) :=
      fun rows' Ds' z2 z3 H4 h1 h2 h3 h4 h5 h6 h7 h8 h9 h10 => ⟨Ds', rows', z2, z3, rfl, h2, h3, h4, h5, h6, h7, h8, h9, h10, by rw [c10, h1]⟩
    by_cases w1 : w = [40]
    · rw [decide_eq_true w1]
      rw [if_pos w1] at st
      refine iteT ⟨_, rfl, .inl ⟨rfl, _, .inl (.inl d3)⟩, by show 0 ≤ sizeLine; decide, fun Dn nDn => ⟨R, _, _, rfl, rfl, (same_new nDn _) _ _ d3, rl, ?_⟩⟩
      have sn := same_new nDn (.lst [])
      have RDn : R ≠ Dn := ne_of_none d3 nDn
      have DWn : DW ≠ Dn := ne_of_none d2 nDn
      have nDnD : Dn ∉ Ds := fun z => by
        obtain ⟨xs, hx, _⟩ := d4.get Dn z
        rw [hx] at nDn
        cases nDn
      have hn3 := sn _ _ d3
      have r4 : Rws (CF K) H (upd (upd H3 Dn (.lst [])) R (.lst ((Ds.map V.ref).reverse ++ [.ref Dn]))) (Dn :: Ds) ([] :: rows) :=
        .cons (by rw [upd_ne RDn.symm]; exact upd_same) .nil (d1.free nDn) nDnD ((d4.same sn).mut hn3 c5)
      have s4' : Same H (upd (upd H3 Dn (.lst [])) R (.lst ((Ds.map V.ref).reverse ++ [.ref Dn]))) := same_mut (d1.trans sn) nR'
      have h4 : (upd (upd H3 Dn (.lst [])) R (.lst ((Ds.map V.ref).reverse ++ [.ref Dn]))) R = some (.lst (((Dn :: Ds).map V.ref).reverse)) := by
        rw [upd_same, List.map_cons, List.reverse_cons]
      have h2 : (upd (upd H3 Dn (.lst [])) R (.lst ((Ds.map V.ref).reverse ++ [.ref Dn]))) DW = some (.lst ((tok [] cs).map fun w => V.str (S w))) := by
        rw [upd_ne DWR]
        exact sn _ _ d2
      generalize upd (upd H3 Dn (.lst [])) R (.lst ((Ds.map V.ref).reverse ++ [.ref Dn])) = H4 at r4 s4' h4 h2 ⊢
      refine stepN ?_
      dsimp only
      have e0 : decide ((((((Dn :: Ds).map V.ref).reverse).length : Nat) : Int) ≤ 100 + 1) = decide (rows.length + 1 ≤ 101) := by
        rw [List.length_reverse, List.length_map, List.length_cons, dl]
        exact decide_eq_decide.mpr ⟨fun z => by omega, fun z => by omega⟩
      refine ⟨_, rfl, R, _, rfl, .inl (SqL.of h4), _, _, rfl, rfl, _, _, rfl, rfl, _, rfl, _, rfl, fun e2 => ?_, fun e2 => refuse (by rw [st, if_neg (fun z => by rw [e0, decide_eq_true z] at e2; cases e2)]) _ s4'⟩
      have le : rows.length + 1 ≤ 101 := of_decide_eq_true (e0.symm.trans e2)
      exact next ([] :: rows) (Dn :: Ds) _ _ H4 (by rw [st, if_pos le]) s4' h2 h4 r4 (fun z => by rcases List.mem_cons.mp z with z | z; exact RDn z; exact c5 z) (fun z => by rcases List.mem_cons.mp z with z | z; exact DWn z; exact c6 z) (List.cons_ne_nil _ _) le
        (fun ts m => by rcases List.mem_cons.mp m with rfl | m; exact Nat.zero_le _; exact Nat.le_succ_of_le (c9 ts m))
    rw [decide_eq_false w1]
    rw [if_neg w1] at st
    refine iteF ⟨_, rfl, rfl, _, rfl, ?_⟩
    rw [str_one w 41 ")" rfl]
    by_cases w2 : w = [41]
    · rw [decide_eq_true w2]
      rw [if_pos w2] at st
      have e0 : decide (((((Ds.map V.ref).reverse).length : Nat) : Int) > 1) = decide (1 < rows.length) := by
        rw [List.length_reverse, List.length_map, dl]
        exact decide_eq_decide.mpr ⟨fun z => by omega, fun z => by omega⟩
      refine iteT ⟨_, rfl, R, _, rfl, .inl (SqL.of d3), _, _, rfl, rfl, _, rfl, _, rfl, fun e2 => ?_, fun e2 => refuse (by rw [st, if_neg (fun z => by
        have e3 : decide (((((Ds.map V.ref).reverse).length : Nat) : Int) > 1) = false := e2
        rw [e0, decide_eq_true z] at e3
        cases e3)]) _ d1⟩
      have lt : 1 < rows.length := of_decide_eq_true (e0.symm.trans e2)
      rw [if_pos lt] at st
      refine stepN ?_
      dsimp only
      cases d4 with
      | nil => exact absurd lt (by decide)
      | cons x1 x2 x3 x4 x5 =>
        rename_i Dt xt tt Dr rr
        cases x5 with
        | nil => exact absurd lt (Nat.lt_irrefl 1)
        | cons y1 y2 y3 y4 y5 =>
          rename_i Du xu tu Dq rq
          have er : (List.map V.ref (Dt :: Du :: Dq)).reverse = (List.map V.ref (Du :: Dq)).reverse ++ [V.ref Dt] := by
            rw [List.map_cons, List.reverse_cons]
          rw [er] at d3
          refine ⟨_, rfl, .inl ⟨rfl, _, .inl (.inl d3)⟩, R, _, V.ref Dt, rfl, rfl, d3, (by simp), ?_⟩
          rw [List.dropLast_concat]
          have RDt : R ≠ Dt := fun z => c5 (by rw [z]; exact List.mem_cons_self)
          have RDu : R ≠ Du := fun z => c5 (by rw [z]; exact List.mem_cons_of_mem _ List.mem_cons_self)
          have DWu : DW ≠ Du := fun z => c6 (by rw [z]; exact List.mem_cons_of_mem _ List.mem_cons_self)
          have cR : R ∉ Du :: Dq := fun z => c5 (List.mem_cons_of_mem _ z)
          have cW : DW ∉ Du :: Dq := fun z => c6 (List.mem_cons_of_mem _ z)
          have im4 := im_lst (ys := (List.map V.ref (Du :: Dq)).reverse) d3
          have r4 : Rws (CF K) H (upd H3 R (.lst (List.map V.ref (Du :: Dq)).reverse)) (Du :: Dq) (tu :: rq) := (Rws.cons y1 y2 y3 y4 y5).mut d3 cR
          have i4 := x2.ik im4
          have s4' : Same H (upd H3 R (.lst (List.map V.ref (Du :: Dq)).reverse)) := same_mut d1 nR'
          have h4 : (upd H3 R (.lst (List.map V.ref (Du :: Dq)).reverse)) R = some (.lst (List.map V.ref (Du :: Dq)).reverse) := upd_same
          have h2 : (upd H3 R (.lst (List.map V.ref (Du :: Dq)).reverse)) DW = some (.lst ((tok [] cs).map fun w => V.str (S w))) := by
            rw [upd_ne DWR]
            exact d2
          have ht : (upd H3 R (.lst (List.map V.ref (Du :: Dq)).reverse)) Dt = some (.lst xt) := by
            rw [upd_ne RDt.symm]
            exact x1
          generalize upd H3 R (.lst (List.map V.ref (Du :: Dq)).reverse) = H4 at r4 i4 s4' h4 h2 ht ⊢
          refine .inl ⟨Dt, xt, rfl, SqL.of ht, fun P nP => ?_⟩
          have sP := same_new nP (.tup xt)
          refine stepG ?_
          dsimp only
          have hR5 := sP _ _ h4
          have hW5 := sP _ _ h2
          have r5 := r4.same sP
          have s5' := s4'.trans sP
          have iP : Is (CF K) (upd H4 P (.tup xt)) (.ref P) (.tup tt) := .tup upd_same (i4.same sP)
          generalize upd H4 P (.tup xt) = H5 at hR5 hW5 r5 s5' iP ⊢
          cases r5 with
          | cons z1 z2 z3 z4 z5 =>
            rename_i xu2
            have ll := z2.len
            have ts1 := c9 tu (List.mem_cons_of_mem _ List.mem_cons_self)
            refine ⟨_, rfl, _, rfl, R, _, _, _, rfl, rfl, SqL.of hR5, rev_neg _ _, .inl ⟨rfl, _, .inl (.inl z1)⟩, _, rfl, Du, _, _, rfl, rfl, z1, by rw [ll, sizeLine_eq]; omega, ?_⟩
            refine next ((tu ++ [.tup tt]) :: rq) (Du :: Dq) _ _ _ (by rw [st]; rfl) (same_mut s5' z3) (by rw [upd_ne DWu]; exact hW5) (by rw [upd_ne RDu]; exact hR5) ?_ cR cW (List.cons_ne_nil _ _) (by simp only [List.length_cons] at c8 ⊢; omega) ?_
            · exact .cons upd_same ((z2.app (.one iP)).ik (im_lst z1)) z3 z4 (z5.mut z1 z4)
            · intro ts m
              rcases List.mem_cons.mp m with rfl | m
              · rw [List.length_append, List.length_singleton]
                omega
              · exact Nat.le_succ_of_le (c9 ts (List.mem_cons_of_mem _ (List.mem_cons_of_mem _ m)))
    rw [decide_eq_false w2]
    rw [if_neg w2] at st
    refine iteF ?_
    cases d4 with
    | nil => exact absurd rfl c7
    | cons x1 x2 x3 x4 x5 =>
      rename_i Dt xt tt Dr rr
      have RDt : R ≠ Dt := fun z => c5 (by rw [z]; exact List.mem_cons_self)
      have DWt : DW ≠ Dt := fun z => c6 (by rw [z]; exact List.mem_cons_self)
      have ll := x2.len
      have ts1 := c9 tt List.mem_cons_self
      refine ⟨_, rfl, _, rfl, R, _, _, _, rfl, rfl, SqL.of d3, rev_neg _ _, .inl ⟨rfl, _, .inl (.inl x1)⟩, _, rfl, _, rfl, w, rfl, wn, wsz, fun t u H4 e s4' iu => ⟨Dt, _, _, rfl, rfl, s4' _ _ x1, by rw [ll, sizeLine_eq]; omega, ?_⟩, fun H4 e s4' => refuse (by rw [st, e]; rfl) _ (d1.trans s4')⟩
      have y1 := s4' _ _ x1
      refine next ((tt ++ [t]) :: rr) (Dt :: Dr) _ _ _ (by rw [st, e]; rfl) (same_mut (d1.trans s4') x3) (by rw [upd_ne DWt]; exact s4' _ _ d2) (by rw [upd_ne RDt]; exact s4' _ _ d3) ?_ c5 c6 (List.cons_ne_nil _ _) c8 ?_
      · exact .cons upd_same (((x2.same s4').app (.one iu)).ik (im_lst y1)) x3 x4 ((x5.same s4').mut y1 x4)
      · intro ts m
        rcases List.mem_cons.mp m with rfl | m
        · rw [List.length_append, List.length_singleton]
          omega
        · exact Nat.le_succ_of_le (c9 ts (List.mem_cons_of_mem _ m))
  · rintro σ H2 ⟨Ds, rows, o2, o3, rfl, c1, c2, c3, c4, c5, c6, c7, c8, c9, c10⟩
    rw [List.length_map, List.drop_length, stepsP] at c10
    have dl := c4.len
    obtain ⟨Es, Db, xb, eE, hDb, ib⟩ := c4.low c7
    have il := ib.len
    have ab : atI (Ds.map V.ref).reverse 0 = some (.ref Db) := by
      rw [eE, List.map_append]
      exact rev_zero _ _
    have e0 : decide (V.int ((((Ds.map V.ref).reverse).length : Nat) : Int) = V.int 1) = decide (rows.length = 1) := by
      rw [List.length_reverse, List.length_map, dl]
      exact decide_eq_decide.mpr ⟨fun z => by injection z with z; omega, fun z => by rw [z]; rfl⟩
    have e9 : decide (V.int ((xb.length : Nat) : Int) = V.int 1) = decide ((lowRow rows).length = 1) := by
      rw [il]
      exact decide_eq_decide.mpr ⟨fun z => by injection z with z; omega, fun z => by rw [z]; rfl⟩
    have bad : (decide (rows.length = 1) && decide ((lowRow rows).length = 1)) = false → readP cs = none := fun z => by
      rw [rp, c10]
      unfold oneP
      split
      · rename_i t e
        injection e with e
        subst e
        cases z
      · rfl
    dsimp only
    refine join_v (T := tAndV _ _ _ _) (fun k => k (.bl (decide (rows.length = 1) && decide ((lowRow rows).length = 1))) H2) ?_ (fun k hk => ?_)
    case refine_2 =>
      refine ⟨_, rfl, R, _, rfl, .inl (SqL.of c3), rfl, _, rfl, ?_⟩
      rw [e0]
      cases e : decide (rows.length = 1) with
      | false =>
        rw [e] at hk
        exact iteF hk
      | true =>
        rw [e] at hk
        refine iteT ⟨_, rfl, R, _, _, _, rfl, rfl, SqL.of c3, ab, Db, _, rfl, .inl (SqL.of hDb), rfl, ?_⟩
        rw [e9]
        exact hk
    refine ⟨_, rfl, _, rfl, fun e1 => ?_, fun e1 => qe H2 (bad e1) c1⟩
    rw [Bool.and_eq_true] at e1
    have g1 := of_decide_eq_true e1.1
    have g2 := of_decide_eq_true e1.2
    refine stepN ?_
    dsimp only
    cases hl : lowRow rows with
    | nil => rw [hl] at g2; cases g2
    | cons t l =>
      cases l with
      | cons _ _ => rw [hl] at g2; cases g2
      | nil =>
        rw [hl] at ib
        have er := one_row g1 hl
        cases ib with
        | cons b1 b2 =>
          cases b2
          refine ⟨_, rfl, R, _, _, _, rfl, rfl, SqL.of c3, ab, Db, _, _, _, rfl, rfl, SqL.of hDb, rfl, ?_⟩
          exact q t _ H2 (by rw [rp, c10, er]; rfl) c1 b1
end
end Fl
/-! texts of worths are read as the worths -/
namespace Fl
open PySem PySem.Spec PyProof.Rows L2
open SX (S)
open TL (tl numL)
/-- what of a word is left behind a text -/
def pend : List Nat → List Nat → List Nat
  | u, [] => u
  | u, c :: r => if isSep c then pend [] r else pend (u ++ [c]) r
/-- the words of it that are whole -/
def emit : List Nat → List Nat → List (List Nat)
  | _, [] => []
  | u, c :: r => if isSep c then flush u ++ ((if isBr c then [[c]] else []) ++ emit [] r) else emit (u ++ [c]) r
theorem tok_emit : ∀ (a u : List Nat), tok u a = emit u a ++ flush (pend u a)
  | [], u => by rw [tok, emit, pend]; rfl
  | c :: r, u => by
    rw [tok, emit, pend]
    split
    · rw [tok_emit r []]
      simp only [List.append_assoc]
    · exact tok_emit r _
theorem tok_cat : ∀ (a b u : List Nat), tok u (a ++ b) = emit u a ++ tok (pend u a) b
  | [], b, u => by rw [List.nil_append, emit, pend]; rfl
  | c :: r, b, u => by
    rw [List.cons_append, tok, emit, pend]
    split
    · rw [tok_cat r b []]
      simp only [List.append_assoc]
    · exact tok_cat r b _
theorem pend_cat : ∀ (a b u : List Nat), pend u (a ++ b) = pend (pend u a) b
  | [], b, u => rfl
  | c :: r, b, u => by
    rw [List.cons_append, pend, pend]
    split
    · exact pend_cat r b []
    · exact pend_cat r b _
def sepHead (b : List Nat) : Prop := ∀ c r, b = c :: r → isSep c = true
theorem tok_pend {b : List Nat} (h : sepHead b) : ∀ u, tok u b = flush u ++ tok [] b
  | [] => rfl
  | c :: u => by
    rw [tok_end (List.cons_ne_nil _ _) h]
    rfl
/-- one behind the other -/
theorem tok_two {a b : List Nat} (h : pend [] a = [] ∨ sepHead b) : tok [] (a ++ b) = tok [] a ++ tok [] b := by
  rw [tok_cat, tok_emit a []]
  rcases h with h | h
  · rw [h]
    show emit [] a ++ tok [] b = emit [] a ++ [] ++ tok [] b
    rw [List.append_nil]
  · rw [tok_pend h, List.append_assoc]
theorem pend_two {a b : List Nat} (h : pend [] b = []) (hb : sepHead b) (ne : b ≠ []) : pend [] (a ++ b) = [] := by
  rw [pend_cat]
  cases b with
  | nil => exact absurd rfl ne
  | cons c r =>
    have e := hb c r rfl
    rw [pend, if_pos e] at h ⊢
    exact h
/-- a word alone -/
theorem tok_word : ∀ (a u : List Nat), (∀ c ∈ a, isSep c = false) → u ++ a ≠ [] → tok u a = [u ++ a]
  | [], u, _, ne => by
    rw [List.append_nil] at ne ⊢
    rw [tok]
    cases u with
    | nil => exact absurd rfl ne
    | cons _ _ => rfl
  | c :: r, u, h, ne => by
    rw [tok_sign (h c List.mem_cons_self), tok_word r (u ++ [c]) (fun x m => h x (List.mem_cons_of_mem _ m)) (by simp), List.append_assoc]
    rfl
/-! ### gaps -/
def gapOk (g : List Nat) : Prop := ∀ c ∈ g, isGap c = true
theorem gap_sep {c : Nat} (h : isGap c = true) : isSep c = true ∧ isBr c = false := by
  unfold isGap at h
  rw [Bool.or_eq_true, beq_iff_eq, beq_iff_eq] at h
  rcases h with rfl | rfl <;> exact ⟨rfl, rfl⟩
theorem gap_head {g : List Nat} (h : gapOk g) : sepHead g := fun c r e => (gap_sep (h c (by rw [e]; exact List.mem_cons_self))).1
theorem tok_gaps : ∀ g : List Nat, gapOk g → tok [] g = []
  | [], _ => rfl
  | c :: r, h => by
    have z := gap_sep (h c List.mem_cons_self)
    rw [tok, if_pos z.1, z.2, tok_gaps r fun x m => h x (List.mem_cons_of_mem _ m)]
    rfl
theorem pend_gaps : ∀ g : List Nat, gapOk g → pend [] g = []
  | [], _ => rfl
  | c :: r, h => by
    have z := gap_sep (h c List.mem_cons_self)
    rw [pend, if_pos z.1]
    exact pend_gaps r fun x m => h x (List.mem_cons_of_mem _ m)
theorem pend_gap {g : List Nat} (h : gapOk g) (ne : g ≠ []) (a : List Nat) : pend [] (a ++ g) = [] := pend_two (pend_gaps g h) (gap_head h) ne
/-! ### leaves -/
theorem fig_not {c : Nat} (h : isFig c = true) : isSep c = false := by
  unfold isFig at h
  rw [Bool.and_eq_true, Nat.ble_eq, Nat.ble_eq] at h
  unfold isSep isBr isGap
  rw [beq_eq_false_iff_ne.mpr (by omega), beq_eq_false_iff_ne.mpr (by omega), beq_eq_false_iff_ne.mpr (by omega), beq_eq_false_iff_ne.mpr (by omega)]
  rfl
theorem sign_not {c : Nat} (h : isSign c = true) : isSep c = false := by
  unfold isSign at h
  rw [Bool.and_eq_true, Nat.ble_eq, Nat.ble_eq] at h
  unfold isSep isBr isGap
  rw [beq_eq_false_iff_ne.mpr (by omega), beq_eq_false_iff_ne.mpr (by omega), beq_eq_false_iff_ne.mpr (by omega), beq_eq_false_iff_ne.mpr (by omega)]
  rfl
theorem numL_figs (n : Nat) : ∀ c ∈ numL n, isFig c = true := fun c m => by
  have z := TL.numL_digits n c m
  unfold isFig
  rw [Bool.and_eq_true, Nat.ble_eq, Nat.ble_eq]
  exact z
theorem wordB_all {x : Str} (h : wordB x = true) : ∀ c ∈ x.cps.toList, isSign c = true := by
  unfold wordB at h
  rw [Bool.and_eq_true, Bool.and_eq_true, Bool.and_eq_true, Bool.and_eq_true] at h
  exact List.all_eq_true.mp h.2.2.2.2
theorem leafT_not {t : Th} (h : t.worth false = true) : ∀ c ∈ leafT t, isSep c = false := by
  cases t with
  | bl b => cases b <;> decide
  | int i =>
    cases i with
    | ofNat n => exact fun c m => fig_not (numL_figs n c m)
    | negSucc n =>
      intro c m
      rcases List.mem_cons.mp m with rfl | m
      · rfl
      · exact fig_not (numL_figs _ c m)
  | str x => exact fun c m => sign_not (wordB_all h c m)
  | tup l => exact fun c m => by cases m
  | non => cases h
  | fn l => cases h
  | oth => cases h
theorem leafT_ne {t : Th} (h : t.worth false = true) (ht : t.isTup = false) : leafT t ≠ [] := by
  cases t with
  | bl b => cases b <;> decide
  | int i =>
    cases i with
    | ofNat n => exact TL.numL_ne n
    | negSucc n => exact List.cons_ne_nil _ _
  | str x =>
    intro e
    have e2 : x.cps.toList = [] := e
    have z : 1 ≤ x.length := by
      have h2 : wordB x = true := h
      unfold wordB at h2
      rw [Bool.and_eq_true, decide_eq_true_eq] at h2
      exact h2.1
    rw [TL.len_tl, show tl x = [] from e2] at z
    exact absurd z (by decide)
  | tup l => cases ht
  | non => cases h
  | fn l => cases h
  | oth => cases h
theorem tok_leaf {t : Th} (h : t.worth false = true) (ht : t.isTup = false) : tok [] (leafT t) = [leafT t] := tok_word _ [] (leafT_not h) (by rw [List.nil_append]; exact leafT_ne h ht)
theorem numL_head : ∀ n : Nat, 0 < n → (numL n).head? ≠ some 48 := fun n => by
  induction n using Nat.strongRecOn with
  | _ n ih =>
    intro h
    by_cases l : n < 10
    · rw [TL.numL_lt l]
      intro z
      injection z with z
      omega
    · rw [TL.numL_step (by omega)]
      have z := ih (n / 10) (by omega) (by omega)
      cases e : numL (n / 10) with
      | nil => exact absurd e (TL.numL_ne _)
      | cons c r =>
        rw [e] at z
        exact z
theorem numL_no45 (n : Nat) : sgn (numL n) = false := by
  cases e : numL n with
  | nil => rfl
  | cons c r =>
    have z := TL.numL_digits n c (by rw [e]; exact List.mem_cons_self)
    unfold sgn
    split
    · rename_i e2
      injection e2 with e3 _
      omega
    · rfl
theorem figs_all (n : Nat) : (numL n).all isFig = true := List.all_eq_true.mpr (numL_figs n)
theorem numP_int {i : Int} (h : numB i = true) : numP (intC i) = some i := by
  have h0 := h
  unfold numB at h
  rw [Bool.and_eq_true, decide_eq_true_eq, decide_eq_true_eq] at h
  cases i with
  | ofNat n =>
    have hn : n ≤ 1000000000 := by simp only [Int.ofNat_eq_natCast] at h; omega
    have l := TL.numL_len (n := n) (k := 10) (by decide) (by omega)
    have ne := TL.numL_ne n
    have l1 : 1 ≤ (numL n).length := by
      cases e : numL n with
      | nil => exact absurd e ne
      | cons _ _ => exact Nat.succ_le_succ (Nat.zero_le _)
    have sg := numL_no45 n
    have fg := figs_pos sg
    have g2 : (!decide ((numL n).head? = some 48) || decide (numL n = [48])) = true := by
      by_cases z : n = 0
      · subst z
        rw [TL.numL_lt (by decide)]
        rfl
      · rw [decide_eq_false (numL_head n (by omega))]
        rfl
    show numP (numL n) = some (Int.ofNat n)
    unfold numP
    rw [fg, sg, decide_eq_true l1, decide_eq_true l, figs_all, g2, if_pos (show (true && true && true && true) = true from rfl), TL.numL_val]
    show (if numB (Int.ofNat n) = true then some (Int.ofNat n) else none) = _
    rw [if_pos h0]
  | negSucc n =>
    have hn : n + 1 ≤ 1000000000 := by omega
    have l := TL.numL_len (n := n + 1) (k := 10) (by decide) (by omega)
    have ne := TL.numL_ne (n + 1)
    have l1 : 1 ≤ (numL (n + 1)).length := by
      cases e : numL (n + 1) with
      | nil => exact absurd e ne
      | cons _ _ => exact Nat.succ_le_succ (Nat.zero_le _)
    show numP (45 :: numL (n + 1)) = some (Int.negSucc n)
    unfold numP
    rw [show figs (45 :: numL (n + 1)) = numL (n + 1) from rfl, show sgn (45 :: numL (n + 1)) = true from rfl, decide_eq_true l1, decide_eq_true l, figs_all, decide_eq_false (numL_head (n + 1) (by omega)), if_pos (show (true && true && true && (!false || decide (45 :: numL (n + 1) = [48]))) = true from rfl), TL.numL_val]
    have en : -((n + 1 : Nat) : Int) = Int.negSucc n := by omega
    show (if numB (-((n + 1 : Nat) : Int)) = true then some (-((n + 1 : Nat) : Int)) else none) = _
    rw [en, if_pos h0]
theorem leafP_leaf {t : Th} (h : t.worth false = true) (ht : t.isTup = false) : leafP (leafT t) = some t := by
  have e1 : sTrue = S [116, 114, 117, 101] := by decide +kernel
  have e2 : sFalse = S [102, 97, 108, 115, 101] := by decide +kernel
  cases t with
  | bl b =>
    cases b with
    | true =>
      unfold leafP
      rw [e1]
      rfl
    | false =>
      unfold leafP
      rw [e1, e2, if_neg (fun z => absurd (SX.S_inj z) (by decide))]
      rfl
  | int i =>
    have n1 : ∀ (w : List Nat) (c : Nat) (r : List Nat), w = c :: r → (c = 45 ∨ isFig c = true) → leafP w = (numP w).map Th.int := fun w c r e hc => by
      have hs : isSign c = false := by
        unfold isSign
        rcases hc with rfl | hc
        · rfl
        · unfold isFig at hc
          rw [Bool.and_eq_true, Nat.ble_eq, Nat.ble_eq] at hc
          have : Nat.ble 97 c = false := by
            cases q : Nat.ble 97 c with
            | false => rfl
            | true => rw [Nat.ble_eq] at q; omega
          rw [this]
          rfl
      have f1 : S w ≠ sTrue := fun z => by
        rw [e1] at z
        have z := SX.S_inj z
        rw [e] at z
        injection z with z _
        rw [z] at hs
        cases hs
      have f2 : S w ≠ sFalse := fun z => by
        rw [e2] at z
        have z := SX.S_inj z
        rw [e] at z
        injection z with z _
        rw [z] at hs
        cases hs
      unfold leafP
      rw [if_neg f1, if_neg f2, e]
      show (if isSign c = true then _ else _) = _
      rw [if_neg (by rw [hs]; decide)]
    have hd : ∃ c r, intC i = c :: r ∧ (c = 45 ∨ isFig c = true) := by
      cases i with
      | ofNat n =>
        cases e : numL n with
        | nil => exact absurd e (TL.numL_ne n)
        | cons c r => exact ⟨c, r, e, .inr (numL_figs n c (by rw [e]; exact List.mem_cons_self))⟩
      | negSucc n => exact ⟨45, _, rfl, .inl rfl⟩
    obtain ⟨c, r, e, hc⟩ := hd
    show leafP (intC i) = _
    rw [n1 _ c r e hc, numP_int h]
    rfl
  | str x =>
    have hx : wordB x = true := h
    have ex : S (x.cps.toList) = x := SX.S_tl x
    have h2 := hx
    unfold wordB at h2
    rw [Bool.and_eq_true, Bool.and_eq_true, Bool.and_eq_true, Bool.and_eq_true, Bool.not_eq_true', Bool.not_eq_true', decide_eq_false_iff_not, decide_eq_false_iff_not] at h2
    show leafP x.cps.toList = _
    unfold leafP
    rw [ex, if_neg h2.2.2.1, if_neg h2.2.2.2.1]
    cases e : x.cps.toList with
    | nil => exact absurd e (leafT_ne (t := .str x) h rfl)
    | cons c r =>
      show (if isSign c = true then _ else _) = _
      rw [if_pos (wordB_all hx c (by rw [e]; exact List.mem_cons_self)), if_pos hx]
  | tup l => cases ht
  | non => cases h
  | fn l => cases h
  | oth => cases h
/-! ### rows -/
mutual
def toksP : Th → List (List Nat)
  | .tup l => [40] :: (toksL l ++ [[41]])
  | .bl b => [leafT (.bl b)]
  | .int i => [leafT (.int i)]
  | .str x => [leafT (.str x)]
  | .non => []
  | .fn _ => []
  | .oth => []
def toksL : List Th → List (List Nat)
  | [] => []
  | t :: r => toksP t ++ toksL r
end
theorem toks_leaf {t : Th} (h : t.worth false = true) (ht : t.isTup = false) : toksP t = [leafT t] := by
  cases t <;> first | (cases ht; done) | (cases h; done) | rw [toksP]
theorem toksL_app : ∀ a b : List Th, toksL (a ++ b) = toksL a ++ toksL b
  | [], b => by rw [toksL]; rfl
  | t :: r, b => by rw [List.cons_append, toksL, toksL, toksL_app r b, List.append_assoc]
theorem leafT_br {t : Th} (h : t.worth false = true) : leafT t ≠ [40] ∧ leafT t ≠ [41] := by
  constructor
  · intro e
    have z := leafT_not h 40 (by rw [e]; exact List.mem_cons_self)
    cases z
  · intro e
    have z := leafT_not h 41 (by rw [e]; exact List.mem_cons_self)
    cases z
theorem low_ok {r : List Th} {s : List (List Th)} (h : s ≠ [] ∨ r = []) : (decide (1 < (r :: s).length) || (lowRow (r :: s)).isEmpty) = true := by
  rcases h with h | h
  · cases s with
    | nil => exact absurd rfl h
    | cons a b =>
      rw [decide_eq_true (by simp only [List.length_cons]; omega)]
      rfl
  · subst h
    cases s with
    | nil => rfl
    | cons a b =>
      rw [decide_eq_true (by simp only [List.length_cons]; omega)]
      rfl
mutual
theorem steps_one : ∀ (t : Th) (r : List Th) (s : List (List Th)) (rest : List (List Nat)), t.worth false = true → (r :: s).length + t.depth ≤ 101 → (s ≠ [] ∨ r = []) → stepsP (r :: s) (toksP t ++ rest) = stepsP ((r ++ [t]) :: s) rest
  | .tup l, r, s, rest, h, hd, hs => by
    rw [Th.depth] at hd
    have hw : Th.worths false l = true := by simpa [Th.worth] using h
    have st1 : stepP (r :: s) [40] = some ([] :: r :: s) := by
      unfold stepP
      rw [if_pos (low_ok hs), if_pos rfl, if_pos (by omega)]
    have st2 : stepP (([] ++ l) :: r :: s) [41] = some ((r ++ [.tup l]) :: s) := by
      unfold stepP
      rw [if_pos (low_ok (.inl (List.cons_ne_nil _ _))), if_neg (by decide), if_pos rfl, if_pos (by simp only [List.length_cons]; omega), List.nil_append]
      rfl
    rw [toksP, List.cons_append, stepsP, st1]
    show stepsP ([] :: r :: s) (toksL l ++ [[41]] ++ rest) = _
    rw [List.append_assoc, steps_all l [] (r :: s) _ hw (by simp only [List.length_cons] at hd ⊢; omega) (List.cons_ne_nil _ _)]
    show stepsP (([] ++ l) :: r :: s) ([41] :: rest) = _
    rw [stepsP, st2]
  | .bl b, r, s, rest, h, hd, hs => steps_leaf (.bl b) r s rest h rfl hs
  | .int i, r, s, rest, h, hd, hs => steps_leaf (.int i) r s rest h rfl hs
  | .str x, r, s, rest, h, hd, hs => steps_leaf (.str x) r s rest h rfl hs
  | .non, _, _, _, h, _, _ => by cases h
  | .fn _, _, _, _, h, _, _ => by cases h
  | .oth, _, _, _, h, _, _ => by cases h
theorem steps_leaf : ∀ (t : Th) (r : List Th) (s : List (List Th)) (rest : List (List Nat)), t.worth false = true → t.isTup = false → (s ≠ [] ∨ r = []) → stepsP (r :: s) (toksP t ++ rest) = stepsP ((r ++ [t]) :: s) rest := fun t r s rest h ht hs => by
  have br := leafT_br h
  have st : stepP (r :: s) (leafT t) = some ((r ++ [t]) :: s) := by
    unfold stepP
    rw [if_pos (low_ok hs), if_neg br.1, if_neg br.2, leafP_leaf h ht]
    rfl
  rw [toks_leaf h ht, List.cons_append, stepsP, st]
  rfl
theorem steps_all : ∀ (l r : List Th) (s : List (List Th)) (rest : List (List Nat)), Th.worths false l = true → (r :: s).length + Th.depthL l ≤ 101 → s ≠ [] → stepsP (r :: s) (toksL l ++ rest) = stepsP ((r ++ l) :: s) rest
  | [], r, s, rest, _, _, _ => by rw [toksL, List.append_nil]; rfl
  | t :: l, r, s, rest, h, hd, hs => by
    rw [Th.worths, Bool.and_eq_true] at h
    rw [Th.depthL] at hd
    rw [toksL, List.append_assoc, steps_one t r s _ h.1 (by omega) (.inl hs), steps_all l (r ++ [t]) s rest h.2 (by simp only [List.length_cons] at hd ⊢; omega) hs, List.append_assoc]
    rfl
end
/-- what has the words of a worth is read as it -/
theorem read_toks {cs : List Nat} {t : Th} (h : t.worth false = true) (hd : t.depth ≤ 100) (hl : cs.length ≤ 20000) (ht : tok [] cs = toksP t) : readP cs = some t := by
  unfold readP
  rw [if_pos hl, ht]
  have z := steps_one t [] [] [] h (by show 1 + _ ≤ _; omega) (.inr rfl)
  rw [List.append_nil] at z
  rw [z]
  rfl
mutual
theorem tok_text : ∀ t : Th, t.worth false = true → tok [] (textP t) = toksP t ∧ (t.isTup = true → pend [] (textP t) = [])
  | .tup l, h => by
    have hw : Th.worths false l = true := by simpa [Th.worth] using h
    have z := tok_texts l hw
    rw [textP, toksP]
    have sh : sepHead [41] := fun c r e => by injection e with e _; rw [← e]; rfl
    have e1 : tok [] (40 :: (textsP l ++ [41])) = [40] :: tok [] (textsP l ++ [41]) := tok_br rfl
    refine ⟨?_, fun _ => ?_⟩
    · rw [e1, tok_two (.inr sh), z]
      rfl
    · show pend [] ((40 :: textsP l) ++ [41]) = []
      exact pend_two rfl sh (List.cons_ne_nil _ _)
  | .bl b, h => ⟨by rw [text_leaf rfl, tok_leaf h rfl, toks_leaf h rfl], fun z => by cases z⟩
  | .int i, h => ⟨by rw [text_leaf rfl, tok_leaf h rfl, toks_leaf h rfl], fun z => by cases z⟩
  | .str x, h => ⟨by rw [text_leaf rfl, tok_leaf h rfl, toks_leaf h rfl], fun z => by cases z⟩
  | .non, h => by cases h
  | .fn _, h => by cases h
  | .oth, h => by cases h
theorem tok_texts : ∀ l : List Th, Th.worths false l = true → tok [] (textsP l) = toksL l
  | [], _ => by rw [textsP, toksL]; rfl
  | t :: r, h => by
    rw [Th.worths, Bool.and_eq_true] at h
    have sh : sepHead (tailsP r) := fun c s e => by
      cases r with
      | nil => rw [tailsP] at e; cases e
      | cons a b =>
        rw [tailsP] at e
        injection e with e _
        rw [← e]
        rfl
    rw [textsP, toksL, tok_two (.inr sh), (tok_text t h.1).1, tok_tails r h.2]
theorem tok_tails : ∀ l : List Th, Th.worths false l = true → tok [] (tailsP l) = toksL l
  | [], _ => by rw [tailsP, toksL]; rfl
  | t :: r, h => by
    rw [Th.worths, Bool.and_eq_true] at h
    have sh : sepHead (tailsP r) := fun c s e => by
      cases r with
      | nil => rw [tailsP] at e; cases e
      | cons a b =>
        rw [tailsP] at e
        injection e with e _
        rw [← e]
        rfl
    rw [tailsP, toksL, tok_gap rfl rfl, tok_two (.inr sh), (tok_text t h.1).1, tok_tails r h.2]
end
theorem read_text {t : Th} (h : t.worth false = true) (hd : t.depth ≤ 100) (hl : (textP t).length ≤ 20000) : readP (textP t) = some t := read_toks h hd hl (tok_text t h).1
end Fl
namespace Fl
open PySem PySem.Spec PyProof.Rows L2
open SX (S)
/-! ### how long texts get -/
mutual
def Th.lmax : Th → Nat
  | .tup l => 6 + Th.lmaxL l
  | .bl _ => 11
  | .int _ => 11
  | .str _ => 11
  | .non => 11
  | .fn _ => 11
  | .oth => 11
def Th.lmaxL : List Th → Nat
  | [] => 0
  | t :: r => t.lmax + 2 + Th.lmaxL r
end
mutual
def Th.tmax : Th → Nat
  | .tup l => 2 + Th.tmaxL l
  | .bl _ => 11
  | .int _ => 11
  | .str _ => 11
  | .non => 11
  | .fn _ => 11
  | .oth => 11
def Th.tmaxL : List Th → Nat
  | [] => 0
  | t :: r => t.tmax + 1 + Th.tmaxL r
end
theorem lmaxL_app : ∀ a b : List Th, Th.lmaxL (a ++ b) = Th.lmaxL a + Th.lmaxL b
  | [], b => by rw [Th.lmaxL, Nat.zero_add]; rfl
  | t :: r, b => by rw [List.cons_append, Th.lmaxL, Th.lmaxL, lmaxL_app r b]; omega
theorem tmaxL_app : ∀ a b : List Th, Th.tmaxL (a ++ b) = Th.tmaxL a + Th.tmaxL b
  | [], b => by rw [Th.tmaxL, Nat.zero_add]; rfl
  | t :: r, b => by rw [List.cons_append, Th.tmaxL, Th.tmaxL, tmaxL_app r b]; omega
theorem lmax_mem {t : Th} : ∀ {l : List Th}, t ∈ l → t.lmax + 2 ≤ Th.lmaxL l
  | u :: r, h => by
    rw [Th.lmaxL]
    rcases List.mem_cons.mp h with rfl | h
    · omega
    · have := lmax_mem h
      omega
mutual
theorem textP_max : ∀ t : Th, t.worth false = true → (textP t).length ≤ t.tmax
  | .tup l, h => by
    have := textsP_max l (by simpa [Th.worth] using h)
    rw [textP, List.length_cons, List.length_append, List.length_singleton, Th.tmax]
    omega
  | .bl b, h => by rw [textP]; have := leafT_len h; simp only [Th.tmax]; omega
  | .int i, h => by rw [textP]; have := leafT_len h; simp only [Th.tmax]; omega
  | .str x, h => by rw [textP]; have := leafT_len h; simp only [Th.tmax]; omega
  | .non, h => by cases h
  | .fn _, h => by cases h
  | .oth, h => by cases h
theorem textsP_max : ∀ l : List Th, Th.worths false l = true → (textsP l).length ≤ Th.tmaxL l
  | [], _ => Nat.zero_le _
  | t :: r, h => by
    rw [Th.worths, Bool.and_eq_true] at h
    have a := textP_max t h.1
    have b := tailsP_max r h.2
    rw [textsP, List.length_append, Th.tmaxL]
    omega
theorem tailsP_max : ∀ l : List Th, Th.worths false l = true → (tailsP l).length ≤ Th.tmaxL l
  | [], _ => Nat.zero_le _
  | t :: r, h => by
    rw [Th.worths, Bool.and_eq_true] at h
    have a := textP_max t h.1
    have b := tailsP_max r h.2
    rw [tailsP, List.length_cons, List.length_append, Th.tmaxL]
    omega
end
def TB : Nat → Nat
  | 0 => 11
  | 1 => 11
  | m + 2 => 2 + 4 * (TB (m + 1) + 1)
def LB : Nat → Nat
  | 0 => 11
  | 1 => 11
  | m + 2 => 6 + 4 * (LB (m + 1) + 2)
theorem TB_ge : ∀ m, 11 ≤ TB m
  | 0 => Nat.le_refl _
  | 1 => Nat.le_refl _
  | m + 2 => by
    have := TB_ge (m + 1)
    rw [TB]
    omega
theorem LB_ge : ∀ m, 11 ≤ LB m
  | 0 => Nat.le_refl _
  | 1 => Nat.le_refl _
  | m + 2 => by
    have := LB_ge (m + 1)
    rw [LB]
    omega
theorem Leaf.tmax {u : V} {t : Th} (h : Leaf u t) : t.tmax = 11 ∧ t.lmax = 11 := by
  cases h <;> exact ⟨by simp only [Th.tmax], by simp only [Th.lmax]⟩
def Th.nest : Nat → Th → Th
  | 0, t => t
  | n + 1, t => .tup [Th.nest n t]
/-- at most m deep (m from one on) -/
def spWorthT (K : PySem.W.Frag) (m : Nat) : Sp := sp3 fun v dp pl H Q _ => ∃ d l a ns k, v = .ref d ∧ dp = .int k ∧ pl = .bl true ∧ Dr K d l a ns H ∧ ns.length ≤ 63 ∧ k ≤ m ∧ 1 ≤ m ∧ m ≤ 6 ∧
  ∀ (u : V) (t : Th) H', Dr K d l a ns H' → Fr d l H H' → Is (CF K) H' u t → t.worth false = true → t.nodes ≤ 5 ^ m → t.depth ≤ m → t.tmax ≤ TB m → t.lmax ≤ LB m → Q u H'
section
variable {P : Program} {w : World} {K : PySem.W.Frag} {mg : Str → Option Value} {base : Heap}
theorem ok_law_worthT_none (F : FnP K mg "_law_worth" s_law_worth) : Cl P w K mg base 4 "_law_worth" ["_law_state", "_law_deep", "_law_is_plain_one"] (spWorthT K 0) := by
  refine cl_3 F sc_law_worth (fun _ _ _ _ _ _ us hl => match us, hl with | [_, _, _], _ => rfl) fun cdv A outer s H v b c Q E hr h => ?_
  obtain ⟨_, _, _, _, _, _, _, _, _, _, _, h, _⟩ := h
  omega
theorem ok_law_worthT {m : Nat} (F : FnP K mg "_law_worth" s_law_worth) (T : Tr mg) (B_law_next : Cl P w K mg base 2 "_law_next" ["_law_state"] (spNext K)) (B_law_leaf : Cl P w K mg base 3 "_law_leaf" ["_law_state"] (spLeaf K))
    (B_Function : Nw P w K mg base 1 "Function" (CF K) ["self", "names", "body", "scope", "own"] (spInit K)) (B_law_worth : Cl P w K mg base (4 + m) "_law_worth" ["_law_state", "_law_deep", "_law_is_plain_one"] (spWorthT K m)) :
    Cl P w K mg base (4 + m + 1) "_law_worth" ["_law_state", "_law_deep", "_law_is_plain_one"] (spWorthT K (m + 1)) := by
  refine cl_3 F sc_law_worth (fun _ _ _ _ _ _ us hl => match us, hl with | [_, _, _], _ => rfl) fun cdv A outer s H v b c Q E hr h => ?_
  obtain ⟨d, l, a, ns, k, rfl, rfl, rfl, h1, hn, hk, hm1, hm, q⟩ := h
  have tb := TB_ge (m + 1)
  have lb := LB_ge (m + 1)
  refine ⟨_, PSs.nox (pss_cons (ps_set (i := 3) sc_law_worth.nd rfl (Or.inl rfl) (pe_b B_law_next hr (by omega) rfl passL (pa_cons (pv 0) pa_nil))) (pss_cons (ps_if (PW.pt (pw_or (pt_cmpR op_lt (pv 1) pe_int (nomark _)) (pw_or1 (pt_cmpR op_lt (pe_op op_mod (pv 3) pe_int) pe_int (nomark _))))) (pss_cons (ps_if (PW.pt (pw_and (pt_not (pt_val (pv 2))) (pw_and1 (pt_cmpR op_eq (pe_op op_mod (pe_op op_fdiv (pv 3) pe_int) pe_int) pe_int (nomark _))))) (pss_cons (ps_set (i := 4) sc_law_worth.nd rfl (Or.inl rfl) (pe_tup (pa_cons (pe_tup (pa_cons pe_str (pa_cons (pe_b B_law_leaf hr (by omega) rfl passL (pa_cons (pv 0) pa_nil)) pa_nil))) (pa_cons (pe_tup (pa_cons pe_str (pa_cons (pe_tup (pa_cons pe_int (pa_cons pe_str pa_nil))) pa_nil))) pa_nil)))) (pss_one (ps_ret (pe_new B_Function hr (by omega) rfl passL (pa_cons (pe_tup (pa_cons pe_str (pa_cons pe_str pa_nil))) (pa_cons (pe_tup (pa_cons pe_str (pa_cons pe_str (pa_cons (pe_op op_mod (pe_op op_fdiv (pv 3) pe_int) pe_int) pa_nil)))) (pa_cons (pv 4) (pa_cons (pe_ix ix_list (pe_lst (pa_cons pe_non (pa_cons pe_str pa_nil))) (pe_op op_mod (pe_op op_fdiv (pv 3) pe_int) pe_int) (fun _ _ => rfl)) pa_nil)))))))) pss_nil) (pss_one (ps_ret (pe_b B_law_leaf hr (by omega) rfl passL (pa_cons (pv 0) pa_nil))))) pss_nil) (pss_one (ps_ret (pe_tupleOf rfl T.z_tuple (pe_lc (own := [("_law_k", 5)]) (g := gName 5) (tt := tYes) rfl sc_law_worth.nd (pi_range1 rfl T.z_range (pa_cons (pe_op op_mod (pe_op op_fdiv (pv 3) pe_int) pe_int) pa_nil)) (blkOk_by (own := [("_law_k", 5)]) (N := ["_law_state", "_law_deep", "_law_is_plain_one", "_law_number", "_law_scope", "_law_k"]) (sc := defScope s_law_worth) (by decide +kernel)) (fun _ _ _ _ _ => (pg_name (i := 5) sc_law_worth.nd rfl (Or.inl rfl))) (fun _ _ _ _ _ => pts_nil) (fun _ _ _ _ _ => (pe_b B_law_worth hr (Nat.le_refl _) rfl passL (pa_cons (pv 0) (pa_cons (pe_op op_sub (pv 1) pe_int) (pa_cons (pv 2) pa_nil))))))))))), ?_⟩
  refine ⟨_, rfl, _, rfl, d, l, a, ns, rfl, h1, hn, fun n H1 h2 f1 n0 n1 => ?_⟩
  have p5m : 1 ≤ 5 ^ (m + 1) := Nat.one_le_pow _ _ (by decide)
  have leafQ : ∀ (u : V) (t : Th) H', Dr K d l a ns H' → Fr d l H1 H' → Leaf u t → Q u H' := fun u t H' r f g => q u t H' r (f1.trans f) (g.is _ _) g.ok (by rw [g.nodes]; exact p5m) (by rw [g.depth]; exact Nat.zero_le _) (by rw [g.tmax.1]; exact tb) (by rw [g.tmax.2]; exact lb)
  refine ⟨_, rfl, _, _, rfl, rfl, _, rfl, ite2 (fun c => ?small1) (fun c => ⟨_, rfl, _, _, rfl, rfl, p5, _, _, rfl, rfl, _, rfl, ite2 (fun c2 => ?small2) (fun c2 => ?big)⟩)⟩
  case small1 | small2 =>
    refine ⟨_, rfl, true, rfl, ?_⟩
    exact iteF (iteF ⟨_, rfl, _, rfl, d, l, a, ns, rfl, h2, hn, leafQ⟩)
  case big =>
    have hk2 : 2 ≤ k := by
      have : ¬ k < 2 := fun z => c (decide_eq_true z)
      omega
    obtain ⟨m', rfl⟩ : ∃ m', m = m' + 1 := ⟨m - 1, by omega⟩
    refine ⟨_, rfl, _, _, rfl, rfl, d5, _, _, rfl, rfl, p5, _, rfl, ?_, ?_, fun D nD => ?_⟩
    · have := Int.emod_nonneg (n / 5) (show (5 : Int) ≠ 0 by decide)
      show -(2 ^ 62) ≤ n / 5 % 5
      omega
    · have := Int.emod_lt_of_pos (n / 5) p5
      show n / 5 % 5 < 2 ^ 62
      omega
    refine lc_it walk_range (fun i H' => ∃ xs ts, Dr K d l a ns H' ∧ Fr d l H1 H' ∧ H' D = some (.lst xs) ∧ Iss (CF K) H' xs ts ∧ Th.worths false ts = true ∧ Th.nodesL ts ≤ i * 5 ^ (m' + 1) ∧ xs.length = i ∧ Th.depthL ts ≤ m' + 1 ∧ Th.tmaxL ts ≤ i * (TB (m' + 1) + 1) ∧ Th.lmaxL ts ≤ i * (LB (m' + 1) + 2))
      ⟨[], [], h2.same (same_new nD _), fr_same (same_new nD _), upd_same, .nil, rfl, Nat.zero_le _, rfl, Nat.zero_le _, Nat.zero_le _, Nat.zero_le _⟩ (fun _ _ _ _ => trivial) ?_ ?_
    · rintro i y H2 H3 hi ⟨xs, ts, r1, r2, r3, r4, r5, r7, r8, r9, r10, r11⟩ ⟨rfl, rfl⟩
      refine ⟨rfl, _, rfl, _, rfl, _, _, rfl, rfl, _, rfl, _, _, _, rfl, d, l, a, ns, k - 1, rfl, rfl, rfl, r1, hn, by omega, by omega, by omega, fun u t H4 g1 g2 g3 g5 g6 g7 g8 g9 => ?_⟩
      have eD : H4 D = some (.lst xs) := by
        obtain ⟨_, _, z1, _, z3, _⟩ := h2
        exact g2 _ _ (ne_of_none z1 nD).symm (ne_of_none z3 nD).symm r3
      have hi4 : i < 5 := by
        have := Int.emod_lt_of_pos (n / 5) p5
        omega
      refine ⟨xs, eD, by rw [r8]; exact small1000 (by omega), xs ++ [u], ts ++ [t], ?_, ?_, upd_same, ?_, ?_, ?_, ?_, ?_, ?_, ?_⟩
      · obtain ⟨ls, c9, z1, z2, z3, z4, z5, z6⟩ := g1
        refine ⟨ls, c9, ?_, ?_, ?_, z4, z5, z6⟩
        · rw [upd_ne (ne_of z1 eD (by intro z; cases z))]
          exact z1
        · rcases z2 with ⟨o, z⟩ | z
          · exact .inl ⟨o, by rw [upd_ne (ne_of z eD (by intro z; cases z))]; exact z⟩
          · exact .inr z
        · obtain ⟨_, _, _, _, y3, _⟩ := h2
          rw [upd_ne (ne_of_none y3 nD)]
          exact z3
      · intro b o e1 e2 e
        rw [upd_ne (ne_of_none e nD)]
        exact g2 b o e1 e2 (r2 b o e1 e2 e)
      · exact ((r4.ik (im_fr r1 g1 g2)).app (.one g3)).ik (im_lst eD)
      · rw [worths_app, r5, Th.worths, g5]
        rfl
      · rw [nodesL_app, Th.nodesL, Th.nodesL, Nat.add_mul, Nat.one_mul]
        omega
      · rw [List.length_append, r8]
        rfl
      · rw [depthL_app, Th.depthL, Th.depthL]
        omega
      · rw [tmaxL_app, Th.tmaxL, Th.tmaxL, Nat.add_mul, Nat.one_mul]
        omega
      · rw [lmaxL_app, Th.lmaxL, Th.lmaxL, Nat.add_mul, Nat.one_mul]
        omega
    · rintro H2 ⟨xs, ts, r1, r2, r3, r4, r5, r7, r8, r9, r10, r11⟩
      refine .inl ⟨D, xs, rfl, SqL.of r3, fun P1 nP => ?_⟩
      have sm := same_new nP (.tup xs)
      have hi4 : (n / 5 % 5).toNat ≤ 4 := by
        have := Int.emod_lt_of_pos (n / 5) p5
        omega
      refine q _ (.tup ts) _ (r1.same sm) (f1.trans (r2.trans (fr_same sm))) (.tup upd_same (r4.same sm)) (by simpa [Th.worth] using r5) ?_ (by rw [Th.depth]; omega) ?_ ?_
      · have e1 : (n / 5 % 5).toNat * 5 ^ (m' + 1) ≤ 4 * 5 ^ (m' + 1) := Nat.mul_le_mul_right _ hi4
        have e2 : 1 ≤ 5 ^ (m' + 1) := Nat.one_le_pow _ _ (by decide)
        rw [Th.nodes, Nat.pow_succ]
        omega
      · have e1 : (n / 5 % 5).toNat * (TB (m' + 1) + 1) ≤ 4 * (TB (m' + 1) + 1) := Nat.mul_le_mul_right _ hi4
        rw [Th.tmax, TB]
        omega
      · have e1 : (n / 5 % 5).toNat * (LB (m' + 1) + 2) ≤ 4 * (LB (m' + 1) + 2) := Nat.mul_le_mul_right _ hi4
        rw [Th.lmax, LB]
        omega
end
end Fl
/-! the language, plain: what a part comes to, with no program in sight -/
namespace Fl
open PySem PySem.Spec PyProof.Rows L2
/-! what of the language is spoken of: calls, same, how many names -/
def callsOn : Bool := true
def sameOn : Bool := true
def namesMost : Nat := 4000
def formList : List (Str × Nat) := [("quote", 1), ("if", 3), ("fn", 2), ("rec", 3), ("let", 3), ("run", 2), ("add", 2), ("less", 2), ("times", 2), ("below", 2), ("same", 2), ("join", 2), ("first", 1), ("rest", 1), ("kind", 1), ("row", 1)]
def formCount (x : Str) : Option Nat := formList.lookup x
def isForm (x : Str) : Bool := (formCount x).isSome
/-- a row's parts -/
def Th.row : Th → List Th
  | .tup l => l
  | _ => []
mutual
/-- alike: plain worths that are equal and of one kind throughout -/
def Th.same : Th → Th → Bool
  | .bl a, .bl b => a == b
  | .int a, .int b => a == b
  | .str a, .str b => decide (a = b)
  | .tup a, .tup b => Th.sames a b
  | _, _ => false
def Th.sames : List Th → List Th → Bool
  | [], [] => true
  | t :: r, u :: s => t.same u && Th.sames r s
  | _, _ => false
end
def Th.kind : Th → Str
  | .bl _ => "truth"
  | .int _ => "number"
  | .str _ => "word"
  | .tup _ => "row"
  | _ => "function"
/-- a name: a word that is no form's -/
def isName : Th → Bool
  | .str x => !isForm x
  | _ => false
def strOf : Th → Option Str
  | .str x => some x
  | _ => none
def areNames : Th → Bool
  | .tup l => l.all isName && decide ((l.filterMap strOf).Nodup)
  | _ => false
/-- the worths of a name in a scope of pairs, in order -/
def hasName (x : Str) : Th → Option Th
  | .tup [.str y, v] => if y = x then some v else none
  | _ => none
def looks (x : Str) (sc : List Th) : List Th := sc.filterMap (hasName x)
/-- whether a row at whose head a form's word stands is told so -/
def isFormed (w : Str) (rest : List Th) : Bool :=
  decide (formCount w = some rest.length) && ((!(w == "let" || w == "rec") || isName (rest.getD 0 .non)) && (!(w == "fn" || w == "rec") || areNames (rest.getD (rest.length - 2) .non)))
/-- what is asked of names here -/
def namesG (w : Str) (rest : List Th) : Bool := !(w == "fn" || w == "rec") || Nat.ble (rest.getD (rest.length - 2) .non).row.length namesMost
/-- what comes of a part, or of a form's parts: a worth, or an end's word -/
inductive Out where
  | val (t : Th)
  | stop (e : Str)
def ofNums (w : Str) : Th → Th → Out
  | .int a, .int b => if w == "below" then .val (.bl (decide (a < b))) else
      let c := if w == "add" then a + b else if w == "less" then a - b else a * b
      if numB c then .val (.int c) else .stop "far"
  | _, _ => .stop "kind"
def isNumW (w : Str) : Bool := w == "add" || (w == "less" || (w == "times" || w == "below"))
def isNilT : Th → Bool
  | .tup [] => true
  | _ => false
def joinT (one : Th) : Th → Out
  | .tup l => .val (.tup (one :: l))
  | _ => .stop "kind"
def partT (w : Str) : Th → Out
  | .tup (a :: r) => .val (if w == "first" then a else .tup r)
  | _ => .stop "kind"
def doneBy (w : Str) (ws : List Th) : Out :=
  let one := ws.getD 0 .non
  let two := ws.getD 1 .non
  if isNumW w then ofNums w one two
  else if w == "same" then (if one.worth false && two.worth false then .val (.bl (one.same two)) else .stop "kind")
  else if w == "join" then joinT one two
  else if w == "kind" then .val (.str one.kind)
  else if w == "row" then .val (.bl (isNilT one))
  else partT w one
def small (t : Th) : Bool := Nat.ble t.nodes 30000 && Nat.ble t.depth 40
/-- what is asked of worths here -/
def doneG (w : Str) (ws : List Th) : Bool := (!(w == "same") || (sameOn && (small (ws.getD 0 .non) && small (ws.getD 1 .non)))) && (!(w == "join") || Nat.ble (ws.getD 1 .non).row.length 100000)
inductive Res where
  | val (t : Th) (n : Int)
  | stop (e : Str) (n : Int)
/-- of worths that came, from the left -/
inductive Ress where
  | vals (l : List Th) (n : Int)
  | stop (e : Str) (n : Int)
def Out.at (n : Int) : Out → Res
  | .val t => .val t n
  | .stop e => .stop e n
def Res.then (r : Option Res) (k : Th → Int → Option Res) : Option Res := match r with
  | some (.val t n) => k t n
  | some (.stop e n) => some (.stop e n)
  | none => none
def Ress.then (r : Option Ress) (k : List Th → Int → Option Res) : Option Res := match r with
  | some (.vals l n) => k l n
  | some (.stop e n) => some (.stop e n)
  | none => none
def Res.told (n0 : Int) (r : Option Res) : Option Res := match r with
  | some (.val t n) => some (.val (.tup [.str "over", t, .int (n - n0)]) n)
  | some (.stop e n) => some (.val (.tup [.str e, .tup [], .int (n - n0)]) n)
  | none => none
def bindAll : List Th → List Th → List Th → List Th
  | x :: xs, v :: vs, sc => bindAll xs vs (.tup [x, v] :: sc)
  | _, _, sc => sc
def ownTh (f o : Th) (sc : List Th) : List Th := match o with
  | .non => sc
  | o => .tup [o, f] :: sc
def scG (sc : List Th) : Bool := Nat.ble sc.length 100000
mutual
/-- what a part comes to; n: the steps so far, lim: at how many the floor ends; fuel: how deep the reckoning may go -/
def ev : Nat → Th → List Th → Int → Int → Option Res
  | 0, _, _, _, _ => none
  | f + 1, p, sc, lim, n => if n = lim then some (.stop "steps" n) else
    match p with
    | .str x => some (if isForm x then .stop "form" (n + 1) else match looks x sc with
      | v :: _ => .val v (n + 1)
      | [] => .stop "name" (n + 1))
    | .tup (h :: r) => if !scG r then none else match strOf h with
      | some w => if isForm w then evForm f w r sc lim (n + 1) else Ress.then (evs f (h :: r) sc lim (n + 1)) fun ws m => evCall f ws lim m
      | none => Ress.then (evs f (h :: r) sc lim (n + 1)) fun ws m => evCall f ws lim m
    | t => some (.val t (n + 1))
def evForm : Nat → Str → List Th → List Th → Int → Int → Option Res
  | f, w, r, sc, lim, n =>
    if !namesG w r then none
    else if !isFormed w r then some (.stop "form" n)
    else evGood f w r sc lim n
def evGood : Nat → Str → List Th → List Th → Int → Int → Option Res
  | f, w, r, sc, lim, n =>
    if w == "quote" then some (.val (r.getD 0 .non) n)
    else if w == "fn" then some (.val (.fn [r.getD 0 .non, r.getD 1 .non, .tup sc, .non]) n)
    else if w == "rec" then some (.val (.fn [r.getD 1 .non, r.getD 2 .non, .tup sc, r.getD 0 .non]) n)
    else if w == "let" then Res.then (ev f (r.getD 1 .non) sc lim n) fun v m => if scG sc then ev f (r.getD 2 .non) (.tup [r.getD 0 .non, v] :: sc) lim m else none
    else if w == "if" then Res.then (ev f (r.getD 0 .non) sc lim n) fun v m => match v with
      | .bl b => ev f (if b then r.getD 1 .non else r.getD 2 .non) sc lim m
      | _ => some (.stop "kind" m)
    else Ress.then (evs f r sc lim n) fun ws m => if w == "run" then (match ws.getD 1 .non with
        | .int k => if 0 ≤ k ∧ k ≤ 100000 then Res.told m (ev f (ws.getD 0 .non) [] (min (m + k) lim) m) else some (.stop "kind" m)
        | _ => some (.stop "kind" m))
      else if doneG w ws then some ((doneBy w ws).at m) else none
def evs : Nat → List Th → List Th → Int → Int → Option Ress
  | _, [], _, _, n => some (.vals [] n)
  | f, p :: ps, sc, lim, n => match ev f p sc lim n with
    | some (.val t m) => (match evs f ps sc lim m with
      | some (.vals l m') => some (.vals (t :: l) m')
      | some (.stop e m') => some (.stop e m')
      | none => none)
    | some (.stop e m) => some (.stop e m)
    | none => none
def evCall : Nat → List Th → Int → Int → Option Res
  | f, t :: vs, lim, n => match t with
    | .fn [ns, body, .tup sc, own] => if !callsOn then none else if ns.row.length = vs.length then
      (if scG sc && scG ns.row then ev f body (bindAll ns.row vs (ownTh (.fn [ns, body, .tup sc, own]) own sc)) lim n else none) else some (.stop "count" n)
    | .fn _ => none
    | _ => some (.stop "kind" n)
  | _, [], _, n => some (.stop "kind" n)
end
end Fl
/-! an error that was caught and is kept as a value -/
namespace Fl
open PySem PySem.Spec PyProof.Rows L2
/-- an exception of the class cls that was caught, at a -/
def CauO (cls : Value) (a : Addr) : HO := .ext fun h => ∃ (oe : Obj) (vs : Array Value), h.get? a = some oe ∧ Zc cls none oe ∧ oe.data = .fields vs
theorem cauO_ok {P : Program} {w : World} {H : Hp} {h : Heap} {a : Addr} {cls : Value} {oe : Obj} {vs : Array Value} (e : h.get? a = some oe) (z : Zc cls none oe) (d : oe.data = .fields vs) : ObjOk P w H h a (CauO cls a) :=
  ⟨⟨oe, vs, e, z, d⟩, ⟨oe, e⟩, fun _ _ ⟨o, v, q, r⟩ k => ⟨o, v, k o q, r⟩⟩
section
variable {X : Cx} {pins : List (Addr × Obj)} {σ : L2.St} {H : Hp} {s : Shared}
/-- an object that stands already, new since the entry, is tracked from here on -/
theorem inv_track {a : Addr} {o : HO} {oe : Obj} {vs : Array Value} (I : Inv X pins σ H s) (n0 : X.s_0.heap.get? a = none) (ha : s.heap.get? a = some oe) (hd : oe.data = .fields vs) (na : H a = none) (nL : a ≠ X.env.locals)
    (np : ∀ p ∈ X.pn ++ pins, p.1 ≠ a) (new : ObjOk X.prog X.w (upd H a o) s.heap a o) : Inv X pins σ (upd H a o) s := by
  have old : ∀ b u, X.s_0.heap.get? b = some u → b ≠ a := fun b u e z => by
    rw [z, n0] at e
    cases e
  have trk : ∀ b u, H b = some u → b ≠ a := fun b u e z => by
    rw [z, na] at e
    cases e
  have cel : ∀ x c, X.env.cells.lookup x = some c → c ≠ a := fun x c e z => by
    obtain ⟨v, u, hu, hc⟩ := I.cell x c e
    rw [z, ha] at hu
    cases hu
    rw [hd] at hc
    cases hc
  exact {
    ok := I.ok
    os := I.os
    bare := I.bare
    base := {
      keep := I.base.keep
      slot := I.base.slot
      free := fun b u e n hx => by rw [upd_ne (old b u e)]; exact I.base.free b u e n hx
      there := I.base.there
      tups := fun b xs e => by
        have z := I.base.tups b xs e
        rw [upd_ne (trk _ _ z)]
        exact z
      frzs := fun b u xs e => by
        have z := I.base.frzs b u xs e
        rw [upd_ne (trk _ _ z)]
        exact z
      tbls := fun b ps e => by
        obtain ⟨m, z⟩ := I.base.tbls b ps e
        exact ⟨m, by rw [upd_ne (trk _ _ z)]; exact z⟩ }
    loc := I.loc
    cell := I.cell
    free := by rw [upd_ne nL.symm]; exact I.free
    freeC := fun x c e => by rw [upd_ne (cel x c e)]; exact I.freeC x c e
    pin := fun p hp => by
      obtain ⟨p1, p2, p3, p4, p5⟩ := I.pin p hp
      exact ⟨p1, by rw [upd_ne (np p hp)]; exact p2, p3, p4, p5⟩
    hok := fun b u e => by
      by_cases hb : b = a
      · subst hb
        rw [upd_same] at e
        cases e
        exact new
      · rw [upd_ne hb] at e
        exact (I.hok b u e).stay (fun _ _ _ q => q) (fun c q => by rw [upd_ne (trk _ _ q)]; exact q) fun c xs q => by rw [upd_ne (trk _ _ q)]; exact q
    len := I.len }
end
/-- what «except x as n: suite» wishes, where the caught error is kept: slot i is n's -/
def wKeep (K : PySem.W.Frag) (c : Value) (i : Nat) (ts : Addr → TS) (Wout : WX) (D : Ends) : WX := fun cls d σ H =>
  ∃ b, PySem.W.exmOne K cls c = some b ∧
    (b = true → d = none ∧ ∀ a, H a = none → ts a { nx := fun σ' H' => H' a = none → D.nx (σ'.set i none) (upd H' a (CauO cls a)), rt := fun _ _ => False, bk := fun _ _ => False, ct := fun _ _ => False } (σ.set i (some (.ref a))) H) ∧
    (b = false → Wout cls d σ H)
section
variable {X : Cx} {x n : Str} {c : Value} {i : Nat} {body suite : List Stmt} {b0 : Stmt} {np pos pos' : Pos} {tb : WX → TS} {ts : Addr → TS} {Wout : WX}
theorem ps_try_keep (hs : X.stack = X.env :: X.outer) (hf : X.env.frame = some X.env.locals) (hx : X.ex = []) (hN : X.N.Nodup) (hi : X.N[i]? = some n) (hln : X.env.kindOf n = some .local) (hc : Names X x c) (tk : Takes X Wout)
    (hb : ∀ (W : WX) (pn : List (Addr × Obj)) (xe : Value → Shared → Prop), Takes (X.tr pn xe) W → PassesOwn (model X.prog X.w) X.A X.env xe → PSs (X.tr pn xe) body (tb W))
    (hsu : ∀ (a : Addr) (pn : List (Addr × Obj)), PSs (X.suite a pn) (b0 :: suite) (ts a)) :
    PS X (.Try body [.ExceptHandler (some (.Name x np)) (some n) (b0 :: suite) pos'] [] [] pos) (fun D σ H => tb (wKeep X.K c i ts Wout D) D σ H) := by
  constructor
  intro pins s σ H D I h
  have K0 := I.ok
  have fr : X.A.frames = some (X.env :: X.outer) := hs ▸ K0.frames
  have run := (hb (wKeep X.K c i ts Wout D) (X.pn ++ pins)
    (fun e z1 => wpAny (model X.prog X.w) X.A (noteFrame e X.env)
      (fun _ z2 => wpAny (model X.prog X.w) X.A (setFlight e none)
        (fun _ z3 => wpAny (model X.prog X.w) X.A (handleBy e X.env [.ExceptHandler (some (.Name x np)) (some n) (b0 :: suite) pos']) (SP X pins D) X.xe z3) X.xe z2) X.xe z1)
    ?caught PassesOwn.looking).run [] s σ H D (I.toTry _) h
  case caught =>
    rintro u s' ⟨a, B, sI, pins', σ', H', cls, d, rfl, J', nb, up, sky, na, os, ag, b, hb1, yes, no⟩
    have J : Inv X pins σ' H' sI := J'.ofTry K0
    have sk : Sky B (X.env :: X.outer) a (Zc cls d) X.env.locals s'.heap := hs ▸ sky
    show wpAny (model X.prog X.w) X.A (noteFrame (.ref a) X.env) _ _ _
    apply Sky.land Zc.steady fr hf sk
    intro g3 f3 u3
    have J3 : Inv X pins σ' H' { s' with heap := g3 } := J.landed nb f3.1 (up.trans u3) os ag
    obtain ⟨o3, v3, e3, z3, d3⟩ := f3.there
    have off : ∀ E ∈ (X.env :: X.outer), E.frame ≠ some a := fun E hE q => by
      obtain ⟨_, o', h1, h2⟩ := f3.2.2.1.mem (List.mem_filterMap.mpr ⟨E, hE, q⟩)
      rw [e3] at h1
      cases h1
      exact h2 _ d3
    have aL : a ≠ X.env.locals := fun q => off X.env (List.mem_cons_self ..) (by rw [hf, q])
    have aF : a ∉ X.fs := fun m => by
      obtain ⟨E, h1, h2⟩ := List.mem_filterMap.mp m
      exact off E (List.mem_cons_of_mem _ h1) h2
    have aI : sI.heap.get? a = none := by
      cases q : sI.heap.get? a with
      | none => rfl
      | some o =>
        have q2 := nb a o q (fun m => by
          rw [hs] at m
          obtain ⟨E, h1, h2⟩ := List.mem_filterMap.mp m
          exact off E h1 h2)
        rw [f3.2.1] at q2
        cases q2
    have a0 : X.s_0.heap.get? a = none := by
      cases q : X.s_0.heap.get? a with
      | none => rfl
      | some o =>
        obtain ⟨o', q2⟩ := J.base.there a o q (by rw [hx]; exact fun m => nomatch m)
        rw [aI] at q2
        cases q2
    have aP : ∀ p ∈ X.pn ++ pins, p.1 ≠ a := fun p hp q => by
      have q2 := (J.pin p hp).1
      rw [q, aI] at q2
      cases q2
    have S3 := J3.suite e3 d3 na aL aF
    apply wpAny_handleBy_cons
    · apply codeAny_handlers_test
      have tyc : PySem.W.Looks (model X.prog X.w) g3 (typeOf (.ref a)) cls := fun A' Q' E' s0 k q => wpAny_typeOf_ref (k _ _ e3) (by rw [z3.1]; exact q)
      have look := PySem.W.exm_one (M := model X.prog X.w) J3.kIn tyc hb1
      have nm : ∀ {Q' : Value → Shared → Prop} {E' : Value → Shared → Prop}, Q' c { s' with heap := g3 } → wpAny (model X.prog X.w) (X.A.mark (some (.ref a))) (eval (.Name x np) X.env) Q' E' { s' with heap := g3 } := by
        intro Q' E' q
        obtain ⟨y1, y2, y3 | ⟨y3, y4, y5⟩⟩ := hc
        · exact ld_glob (X := X.suite a ((a, o3) :: (X.pn ++ pins))) S3 y1 y3 q y2
        · exact ld_blt (X := X.suite a ((a, o3) :: (X.pn ++ pins))) S3 y1 y3 y4 q y5 y2
      apply nm
      apply look.here
      cases b with
      | true =>
        obtain ⟨dn, go⟩ := yes rfl
        subst dn
        apply codeAny_handlers_suite_as
        apply HandSPX.lands_againZ f3
        intro g4 f4 u4
        have J4 : Inv X pins σ' H' { s' with heap := g4 } := J.landed nb f4.1 ((up.trans u3).trans u4) os ag
        obtain ⟨o4, v4, e4, z4, d4⟩ := f4.there
        have S4 := J4.suite e4 d4 na aL aF
        apply store_ok (X := X.suite a ((a, o4) :: (X.pn ++ pins))) (v := .ref a) S4 hN hi (.inl hln) rfl ?_ (.inr hln)
        intro s5 S5
        apply wpAny_mono ((hsu a _).run [] s5 _ H' _ S5 (go a na)) ?_ (fun _ _ z => False.elim z)
        intro f s6 q6
        cases f with
        | next =>
          obtain ⟨σ6, H6, S6, k6⟩ := q6
          obtain ⟨p1, p2, _⟩ := S6.pin (a, o4) (List.mem_append_left _ (List.mem_cons_self ..))
          have T6 := inv_track (o := CauO cls a) (S6.unsuite K0) a0 p1 d4 p2 aL aP (cauO_ok p1 z4 d4)
          exact gone_ok T6 hN hi hln fun s7 J7 => ⟨_, _, J7, k6 p2⟩
        | brk =>
          obtain ⟨_, _, _, k6⟩ := q6
          exact k6.elim
        | cont =>
          obtain ⟨_, _, _, k6⟩ := q6
          exact k6.elim
        | ret u =>
          obtain ⟨_, _, _, _, _, k6⟩ := q6
          exact k6.elim
      | false =>
        show wpAny _ X.A (handleBy (.ref a) X.env []) _ _ _
        apply wpAny_handleBy_nil
        obtain ⟨_, _, _, oe, ve, T, oT, vT, y1, y2, y3, y4, _⟩ := id f3
        have fin : wpAny (model X.prog X.w) X.A (setFlight (.ref a) X.env.frame) (fun _ t4 => wpAny (model X.prog X.w) X.A (throw (.ref a) : Sem Flow) (SP X pins D) X.xe t4) X.xe { s' with heap := g3 } := by
          rw [hf]
          apply HandSPX.setFlight_upZ f3
          intro g4 hh4 u4
          apply wpAny_throw
          exact tk _ _ ⟨a, B, sI, pins, σ', H', cls, d, rfl, J, nb, (up.trans u3).trans u4, .inr (.inr (by rw [hs]; exact hh4)), na, os, ag, no rfl⟩
        unfold PySem.passOn
        apply wpAny_bind
        apply wpAny_field y1 y3 y4
        rw [if_neg (show ¬ ((Value.ref T == Value.none) = true) from by simp)]
        first
          | exact wpAny_bind (wpAny_pure (wpAny_bind fin))
          | exact wpAny_bind fin
    · intro q
      cases q
  apply wpAny_Try_except
  apply wpAny_mono run ?_ (fun e s1 he => he)
  intro f s1 q
  cases f with
  | next =>
    obtain ⟨σ', H', J', k⟩ := q
    exact wpAny_execs_nil ⟨σ', H', J'.ofTry K0, k⟩
  | brk =>
    obtain ⟨σ', H', J', k⟩ := q
    exact ⟨σ', H', J'.ofTry K0, k⟩
  | cont =>
    obtain ⟨σ', H', J', k⟩ := q
    exact ⟨σ', H', J'.ofTry K0, k⟩
  | ret u =>
    obtain ⟨v, σ', H', J', r, k⟩ := q
    exact ⟨v, σ', H', J'.ofTry K0, r, k⟩
end
/-! ### isinstance of a kept error -/
/-- an error of the class named D that is kept, or None -/
def rIsX (K : PySem.W.Frag) : List V → Hp → VK → Prop := fun xs H Q => ∃ (a D : Addr) (c : V) (u : Value) (b : Bool), xs = [.ref a, c] ∧ ClsV c u ∧ H a = some (CauO (.ref D) a) ∧ ExcC K D ∧ PySem.W.kitOne K (.ref D) u = some b ∧ Q (.bl b) H
def rIsXT (K : PySem.W.Frag) : List V → Hp → VK → Prop := fun xs H Q => ∃ (a D tp : Addr) (cs : List V) (us : List Value) (b : Bool), xs = [.ref a, .ref tp] ∧ H tp = some (.tup cs) ∧ Paired ClsV cs us ∧ H a = some (CauO (.ref D) a) ∧ ExcC K D ∧ PySem.W.kitAny K (.ref D) us = some b ∧ Q (.bl b) H
section
variable {X : Cx} {pins : List (Addr × Obj)} {σ : L2.St} {H : Hp} {s : Shared}
theorem cau_at {a D : Addr} (I : Inv X pins σ H s) (h : H a = some (CauO (.ref D) a)) : ∃ oe, PySem.W.InstAt s.heap a oe D none := by
  obtain ⟨⟨oe, vs, e, z, d⟩, _, _⟩ := I.hok a _ h
  obtain ⟨oc, od, oda, osl⟩ := oe
  obtain ⟨z1, z2⟩ := z
  dsimp only at z1 z2 d
  subst z1 z2 d
  exact ⟨_, e, rfl, rfl, trivial⟩
theorem call_isX : CallR X (.builtin "isinstance") (rIsX X.K) := by
  intro pins s σ H xs us Q I r h
  obtain ⟨a, D, c, u, b, rfl, k, ha, C, e, q⟩ := h
  obtain ⟨u1, u2, rfl, r1, r2⟩ := vals2 r
  cases (show u1 = Value.ref a from r1)
  have e2 := k.eq r2
  subst e2
  obtain ⟨oe, J⟩ := cau_at I ha
  exact PySem.W.kia_one (PySem.W.handS_kitx_exc C.hg C.hk C.hs C.hd C.ha C.hn C.ht C.hm) I.kIn J e (fun z => nomatch z) fun tk => ⟨.bl b, H, I.tok tk, rfl, q⟩
theorem call_isXT : CallR X (.builtin "isinstance") (rIsXT X.K) := by
  intro pins s σ H xs us Q I r h
  obtain ⟨a, D, tp, cs, ws, b, rfl, hT, k, ha, C, e, q⟩ := h
  obtain ⟨u1, u2, rfl, r1, r2⟩ := vals2 r
  cases (show u1 = Value.ref a from r1)
  cases (show u2 = Value.ref tp from r2)
  obtain ⟨oe, J⟩ := cau_at I ha
  obtain ⟨_, its, rv, o, h1, h2, n, h3⟩ := (show ObjOk X.prog X.w H s.heap tp (.tup cs) from I.hok tp _ hT)
  have e3 := ClsV.all k rv
  subst e3
  obtain ⟨oc, od, dt, sl⟩ := o
  simp only at h2 h3
  subst h2 h3
  exact PySem.W.kia_tup (PySem.W.handS_kitx_exc C.hg C.hk C.hs C.hd C.ha C.hn C.ht C.hm) I.kIn J h1 e (fun z => nomatch z) fun tk => ⟨.bl b, H, I.tok tk, rfl, q⟩
end
end Fl
/-! list(zip(t, u)) of two tuples of one length -/
namespace Fl
open PySem PySem.Spec PyProof.Rows L2
theorem zip_no_len : typeLookup (.type "zip") "__len__" = pure none := by rw [typeLookup_type, builtinLookup_eq_fast]; kernel_rfl
theorem zip_no_hint : typeLookup (.type "zip") "__length_hint__" = pure none := by rw [typeLookup_type, builtinLookup_eq_fast]; kernel_rfl
section
variable {prog : Program} {w : World} {A : Around} {E : Value → Shared → Prop} {s : Shared} {z TI TO T p q l m : Addr} {f : Bool} {oT : Obj} {i j : Nat} {xs ys : Array Value} {x y : Value}
/-- the next pair, as one is out still -/
theorem heldT_item {Q : Option Value → Shared → Prop} (D : ZipApart z TI TO p q l m) (hz : IsZipHeld s.heap z TI TO T f) (hT : s.heap.get? T = some oT) (hI : IsPair s.heap TI (.ref p) (.ref q)) (hp : s.heap.IsTupleIter p l i) (hq : s.heap.IsTupleIter q m j)
    (hl : s.heap.IsTuple l xs) (hm : s.heap.IsTuple m ys) (hx : xs[i]? = some x) (hy : ys[j]? = some y)
    (hQ : ∀ h', IsZipHeld h' z TI TO T true → h'.IsTupleIter p l (i + 1) → h'.IsTupleIter q m (j + 1) → IsPair h' s.heap.objs.size x y → h'.objs.size = s.heap.objs.size + 1 → (∀ c o, c ≠ z → c ≠ p → c ≠ q → s.heap.get? c = some o → h'.get? c = some o) →
      Q (some (.ref s.heap.objs.size)) { s with heap := h' }) : wpAny (model prog w) A (pyNext (.ref z)) Q E s := by
  have ty : s.TypeIs (.ref z) "zip" := ⟨_, hz, rfl⟩
  unfold pyNext
  refine wpAny_bind (wpAny_attempt (wpAny_callSpecial?_slot (name := Str.ofString "__next__") ty F.slot_zip_next (wpAny_call_entry F.slot_zip_next ty F.entry_zip_next ?_ (F.args_zip_next_1 _))))
  show wpAny _ A.in1 (field (.ref z) 2 >>= _) _ _ s; refine wpAny_bind (wpAny_field (x := .bool false) hz rfl rfl ?_)
  show wpAny _ A.in1 (field (.ref z) 3 >>= _) _ _ s; refine wpAny_bind (wpAny_field (x := .ref TI) hz rfl rfl (wpAny_bind (wpAny_seqItems hI rfl ?_)))
  show wpAny _ A.in1 (Builtin.SmallTypes.ownedTupleIsFree (.ref z) >>= _) _ _ s; refine wpAny_bind (wpAny_tupleHeld_zip hz hT fun g1 z1 k1 => ?_)
  simp only [Bool.false_eq_true, if_false]; refine wpAny_bind ?_; rw [← Array.forIn_toList]; simp only [List.forIn_cons, List.forIn_nil]; refine wpAny_bind (wpAny_bind (wpAny_holding ?_))
  show wpAny _ A.in1 (Builtin.SmallTypes.nextOf (.ref p) >>= _) _ _ _; refine wpAny_bind (RZ.nextOf_tuple_item (s := { s with heap := g1 }) (hp.extBut k1.extBut D.i1z) (hl.extBut k1.extBut D.l1z) hx fun g2 p2 k2 => wpAny_pure (wpAny_pure ?_))
  refine wpAny_bind (wpAny_bind (wpAny_holding ?_)); show wpAny _ A.in1 (Builtin.SmallTypes.nextOf (.ref q) >>= _) _ _ _
  refine wpAny_bind (RZ.nextOf_tuple_item (s := { s with heap := g2 }) ((hq.extBut k1.extBut D.i2z).extBut k2.extBut D.i12.symm) ((hm.extBut k1.extBut D.l2z).extBut k2.extBut D.l2i1) hy fun g3 q3 k3 => wpAny_pure (wpAny_pure (wpAny_pure ?_)))
  show wpAny _ A.in1 (newTuple [x, y] >>= _) _ _ _; refine wpAny_bind (wpAny_newTuple (wpAny_pure ⟨_, rfl, wpAny_pure ?_⟩))
  have n3 : g3.objs.size = s.heap.objs.size := by rw [k3.1, k2.1, k1.1]
  have z3 : IsZipHeld g3 z TI TO T true := k3.extBut _ _ D.i2z.symm (k2.extBut _ _ D.i1z.symm z1)
  have kk : ∀ c o, c ≠ z → c ≠ p → c ≠ q → s.heap.get? c = some o → g3.get? c = some o := fun c o e1 e2 e3 e => k3.extBut _ _ e3 (k2.extBut _ _ e2 (k1.extBut _ _ e1 e))
  have p3 : g3.IsTupleIter p l (i + 1) := p2.extBut k3.extBut D.i12
  have nw : IsPair (g3.push { cls := .type "tuple", data := .seq #[x, y] }) g3.objs.size x y := Heap.get?_push_size _ rfl
  have n4 : (g3.push { cls := .type "tuple", data := .seq #[x, y] }).objs.size = g3.objs.size + 1 := Heap.size_push ..
  show Q (some (.ref g3.objs.size)) _
  rw [n3] at nw n4 ⊢
  exact hQ _ (Heap.get?_push_of_some _ z3) (p3.at fun o e => Heap.get?_push_of_some _ e) (q3.at fun o e => Heap.get?_push_of_some _ e) nw n4 fun c o e1 e2 e3 e => Heap.get?_push_of_some _ (kk c o e1 e2 e3 e)
theorem heldT_end {Q : Option Value → Shared → Prop} (hh : A.handled = none) (D : ZipApart z TI TO p q l m) (hz : IsZipHeld s.heap z TI TO T f) (hT : s.heap.get? T = some oT) (hI : IsPair s.heap TI (.ref p) (.ref q)) (hp : s.heap.IsTupleIter p l i) (hl : s.heap.IsTuple l xs)
    (hx : xs[i]? = none) (hQ : ∀ h', (∀ c o, c ≠ z → c ≠ p → s.heap.get? c = some o → h'.get? c = some o) → Q none { s with heap := h' }) : wpAny (model prog w) A (pyNext (.ref z)) Q E s := by
  have ty : s.TypeIs (.ref z) "zip" := ⟨_, hz, rfl⟩
  unfold pyNext
  refine wpAny_bind (wpAny_attempt (wpAny_callSpecial?_slot (name := Str.ofString "__next__") ty F.slot_zip_next (wpAny_call_entry F.slot_zip_next ty F.entry_zip_next ?_ (F.args_zip_next_1 _))))
  show wpAny _ A.in1 (field (.ref z) 2 >>= _) _ _ s; refine wpAny_bind (wpAny_field (x := .bool false) hz rfl rfl ?_)
  show wpAny _ A.in1 (field (.ref z) 3 >>= _) _ _ s; refine wpAny_bind (wpAny_field (x := .ref TI) hz rfl rfl (wpAny_bind (wpAny_seqItems hI rfl ?_)))
  show wpAny _ A.in1 (Builtin.SmallTypes.ownedTupleIsFree (.ref z) >>= _) _ _ s; refine wpAny_bind (wpAny_tupleHeld_zip hz hT fun g1 z1 k1 => ?_)
  simp only [Bool.false_eq_true, if_false]; refine wpAny_bind ?_; rw [← Array.forIn_toList]; simp only [List.forIn_cons, List.forIn_nil]; refine wpAny_bind (wpAny_bind (wpAny_holding ?_))
  show wpAny _ A.in1 (Builtin.SmallTypes.nextOf (.ref p) >>= _) _ _ _; refine wpAny_bind (RZ.nextOf_tuple_end (s := { s with heap := g1 }) hh (hp.extBut k1.extBut D.i1z) (hl.extBut k1.extBut D.l1z) hx fun g2 e k2 he => ?_)
  obtain ⟨o, ho, hc⟩ := he
  exact wpAny_bind (wpAny_isInstance (T := "StopIteration") (b := true) ⟨o, ho, hc⟩ isSubtype_stop (wpAny_pure (hQ _ fun c o e1 e2 e => k2 _ _ e2 (k1.extBut _ _ e1 e))))
end
theorem sqT_same {K : PySem.W.Frag} {H H' : Hp} {a : Addr} {vs : List V} (e : Same H H') (h : SqT K H a vs) : SqT K H' a vs := by
  rcases h with (h | ⟨o, h⟩) | h
  · exact .inl (.inl (e _ _ h))
  · exact .inl (.inr ⟨o, e _ _ h⟩)
  · exact .inr h
/-! ### the loop -/
/-- a zip of the tuples at l, m, i items out; S: the list that they are put in -/
def ZSt (z TI TO p q l m S : Addr) (i : Nat) (h : Heap) : Prop :=
  IsPair h TI (.ref p) (.ref q) ∧ h.IsTupleIter p l i ∧ h.IsTupleIter q m i ∧ (∃ o, h.get? TO = some o) ∧ ((IsZip h z TI TO .none ∧ ∃ x y, IsPair h TO x y) ∨ ∃ T f oT, IsZipHeld h z TI TO T f ∧ h.get? T = some oT ∧ T ≠ z ∧ T ≠ p ∧ T ≠ q ∧ T ≠ S)
section
variable {prog : Program} {w : World} {A : Around} {E : Value → Shared → Prop} {s : Shared} {z TI TO p q l m S : Addr} {i : Nat} {xs ys : Array Value} {x y : Value}
theorem zst_item {Q : Option Value → Shared → Prop} (D : ZipApart z TI TO p q l m) (st : ZSt z TI TO p q l m S i s.heap) (hS : S < s.heap.objs.size) (hl : s.heap.IsTuple l xs) (hm : s.heap.IsTuple m ys) (hx : xs[i]? = some x) (hy : ys[i]? = some y)
    (hQ : ∀ h', ZSt z TI TO p q l m S (i + 1) h' → IsPair h' s.heap.objs.size x y → h'.objs.size = s.heap.objs.size + 1 → (∀ c o, c ∉ [z, TI, TO, p, q] → s.heap.get? c = some o → h'.get? c = some o) → Q (some (.ref s.heap.objs.size)) { s with heap := h' }) :
    wpAny (model prog w) A (pyNext (.ref z)) Q E s := by
  obtain ⟨hI, hp, hq, ⟨oO, hO⟩, st⟩ := st
  have lp : p < s.heap.objs.size := by obtain ⟨_, e, _⟩ := hp; exact Heap.lt_size e
  have lq : q < s.heap.objs.size := by obtain ⟨_, e, _⟩ := hq; exact Heap.lt_size e
  rcases st with ⟨hz, x0, y0, hTO⟩ | ⟨T, f, oT, hz, hT, t1, t2, t3, t4⟩
  · have lz : z < s.heap.objs.size := Heap.lt_size hz
    refine RZ.pyNext_zipT_item D hz hI hTO hp hq hl hm hx hy fun h' z' TO' p' q' hT hsz hk => hQ h' ⟨hk _ _ D.TIz D.TITO D.TIi1 D.TIi2 hI, p', q', ⟨_, TO'⟩, .inr ⟨_, false, _, z', hT, Nat.ne_of_gt lz, Nat.ne_of_gt lp, Nat.ne_of_gt lq, Nat.ne_of_gt hS⟩⟩ hT hsz fun c o n e => hk c o ?_ ?_ ?_ ?_ e
    all_goals
      intro z1
      exact n (by simp [z1])
  · have lz : z < s.heap.objs.size := Heap.lt_size hz
    refine heldT_item D hz hT hI hp hq hl hm hx hy fun h' z' p' q' nT hsz hk => hQ h' ⟨hk _ _ D.TIz D.TIi1 D.TIi2 hI, p', q', ⟨_, hk _ _ D.TOz D.TOi1 D.TOi2 hO⟩, .inr ⟨T, true, oT, z', hk _ _ t1 t2 t3 hT, t1, t2, t3, t4⟩⟩ nT hsz fun c o n e => hk c o ?_ ?_ ?_ e
    all_goals
      intro z1
      exact n (by simp [z1])
theorem zst_end {Q : Option Value → Shared → Prop} (hh : A.handled = none) (D : ZipApart z TI TO p q l m) (st : ZSt z TI TO p q l m S i s.heap) (hl : s.heap.IsTuple l xs) (hm : s.heap.IsTuple m ys) (hx : xs[i]? = none)
    (hQ : ∀ h', (∀ c o, c ∉ [z, TI, TO, p, q] → s.heap.get? c = some o → h'.get? c = some o) → Q none { s with heap := h' }) : wpAny (model prog w) A (pyNext (.ref z)) Q E s := by
  obtain ⟨hI, hp, hq, ⟨oO, hO⟩, st⟩ := st
  rcases st with ⟨hz, x0, y0, hTO⟩ | ⟨T, f, oT, hz, hT, t1, t2, t3, t4⟩
  · refine RZ.pyNext_zipT_end hh D hz hI hTO hp hq hl hm (.inl hx) fun h' hk => hQ h' fun c o n e => hk c o ?_ ?_ ?_ ?_ e
    all_goals
      intro z1
      exact n (by simp [z1])
  · refine heldT_end hh D hz hT hI hp hl hx fun h' hk => hQ h' fun c o n e => hk c o ?_ ?_ e
    all_goals
      intro z1
      exact n (by simp [z1])
theorem ZSt.keep {h h' : Heap} (D : ZipApart z TI TO p q l m) (st : ZSt z TI TO p q l m S i h) (hn : ∀ c ∈ [z, TI, TO, p, q], c ≠ S) (k : ∀ c o, c ≠ S → h.get? c = some o → h'.get? c = some o) : ZSt z TI TO p q l m S i h' := by
  obtain ⟨hI, hp, hq, ⟨oO, hO⟩, st⟩ := st
  refine ⟨k _ _ (hn _ (by simp)) hI, hp.at fun o e => k _ _ (hn _ (by simp)) e, hq.at fun o e => k _ _ (hn _ (by simp)) e, ⟨_, k _ _ (hn _ (by simp)) hO⟩, ?_⟩
  rcases st with ⟨hz, x0, y0, hTO⟩ | ⟨T, f, oT, hz, hT, t1, t2, t3, t4⟩
  · exact .inl ⟨k _ _ (hn _ (by simp)) hz, x0, y0, k _ _ (hn _ (by simp)) hTO⟩
  · exact .inr ⟨T, f, oT, k _ _ (hn _ (by simp)) hz, k _ _ t4 hT, t1, t2, t3, t4⟩
end
/-- what the list holds: pairs, new tuples -/
def Prs (H : Hp) (xs ys : List V) (i : Nat) (Ts : List Addr) : Prop := Ts.length = i ∧ ∀ (k : Nat) (T : Addr), Ts[k]? = some T → ∃ x y, xs[k]? = some x ∧ ys[k]? = some y ∧ H T = some (.tup [x, y])
section
variable {X : Cx} {pins : List (Addr × Obj)} {σ : L2.St} {H H0 : Hp} {s : Shared} {z TI TO p q l m S : Addr}
theorem drainZ {R : Result → Shared → Prop} {A : Around} {xs ys : List V} (hh : A.handled = none) (D : ZipApart z TI TO p q l m) (hl : xs.length = ys.length) (hn : ∀ c ∈ [z, TI, TO, p, q], c ≠ S)
    (hend : ∀ s' H' acc c Ts, Inv X pins σ H' s' → (∀ c ∈ [z, TI, TO, p, q, S], FpOk X pins H' c) → Same H0 H' → s'.heap.get? S = some (lstObj acc c) → Vals (Ts.map V.ref) acc.toList → Prs H' xs ys xs.length Ts → R (.ok (.ret .none)) s') :
    ∀ (n i : Nat) (s : Shared) (H : Hp) (acc : Array Value) (c : Nat) (Ts : List Addr), i + n = xs.length → Inv X pins σ H s → (∀ c ∈ [z, TI, TO, p, q, S], FpOk X pins H c) → Same H0 H → SqT X.K H l xs → SqT X.K H m ys → ZSt z TI TO p q l m S i s.heap → s.heap.get? S = some (lstObj acc c) →
      Vals (Ts.map V.ref) acc.toList → Prs H xs ys i Ts → codeAny (model X.prog X.w) A (.builtin "list.extend.loop" ⟨[.ref S, .ref z, .none], []⟩) R s := by
  intro n
  induction n with
  | zero =>
    intro i s H acc c Ts hi I hf sm hx hy st hS rv pr
    have ei : i = xs.length := by omega
    subst ei
    obtain ⟨its, r1, p1, _⟩ := I.tuple hx
    obtain ⟨its2, r2, p2, _⟩ := I.tuple hy
    refine codeAny_builtin F.entry_extend_loop ?_
    rw [Around.under_plainId F.plain_extend_loop _]
    show wpAny _ A.in1 (pyNext (.ref z) >>= fun _ => _) _ _ s
    refine wpAny_bind (zst_end (A := A.in1) hh D st p1 p2 ?_ fun h' hk => ?_)
    · rw [List.getElem?_toArray]
      exact List.getElem?_eq_none (by rw [r1.length]; exact Nat.le_refl _)
    · have I2 : Inv X pins σ H { s with heap := h' } := I.turnedL (t' := s.toks) (ch := [z, TI, TO, p, q]) hk fun c hc => hf c (by
        simp only [List.mem_cons, List.not_mem_nil, or_false] at hc ⊢
        rcases hc with e | e | e | e | e <;> simp [e])
      refine wpAny_pure (hend _ H acc c Ts I2 hf sm (hk _ _ ?_ hS) rv pr)
      intro hc
      exact hn S hc rfl
  | succ n ih =>
    intro i s H acc c Ts hi I hf sm hx hy st hS rv pr
    obtain ⟨its, r1, p1, z1⟩ := I.tuple hx
    obtain ⟨its2, r2, p2, _⟩ := I.tuple hy
    have hi1 : i < xs.length := by omega
    have ex : xs[i]? = some xs[i] := List.getElem?_eq_getElem hi1
    have ey : ys[i]? = some (ys[i]'(by omega)) := List.getElem?_eq_getElem (by omega)
    obtain ⟨u, hu, ru⟩ := r1.get ex
    obtain ⟨u2, hu2, ru2⟩ := r2.get ey
    have lS : S < s.heap.objs.size := Heap.lt_size hS
    have sz : acc.size = i := by
      have z2 := rv.length
      rw [List.length_map, pr.1, Array.length_toList] at z2
      exact z2.symm
    have hxl : xs.length ≤ sizeLine := z1
    refine codeAny_builtin F.entry_extend_loop ?_
    rw [Around.under_plainId F.plain_extend_loop _]
    show wpAny _ A.in1 (pyNext (.ref z) >>= fun _ => _) _ _ s
    refine wpAny_bind (zst_item (A := A.in1) (x := u) (y := u2) D st lS p1 p2 (by simpa using hu) (by simpa using hu2) fun h' st' nT hsz hk => ?_)
    have hf5 : ∀ c ∈ [z, TI, TO, p, q], FpOk X pins H c := fun c hc => hf c (by
      simp only [List.mem_cons, List.not_mem_nil, or_false] at hc ⊢
      rcases hc with e | e | e | e | e <;> simp [e])
    have nH : H s.heap.objs.size = none := I.hok.fresh (Nat.le_refl _)
    have I1 : Inv X pins σ (upd H s.heap.objs.size (.tup [xs[i], ys[i]'(by omega)])) { s with heap := h' } :=
      I.turnedNew (t' := s.toks) (ch := [z, TI, TO, p, q]) hk hf5 (Nat.le_refl _) ⟨by show 2 ≤ sizeLine; decide, [u, u2], .cons ru (.cons ru2 .nil), ⟨_, nT, rfl, _, rfl⟩⟩
    have hS' : h'.get? S = some (lstObj acc c) := hk _ _ (fun hc => hn S hc rfl) hS
    have hf' : ∀ c ∈ [z, TI, TO, p, q, S], FpOk X pins (upd H s.heap.objs.size (.tup [xs[i], ys[i]'(by omega)])) c := fun c hc => by
      obtain ⟨g1, g2⟩ := hf c hc
      refine ⟨?_, g2⟩
      have lc : c < s.heap.objs.size := by
        obtain ⟨hI, ⟨_, e1, _⟩, ⟨_, e2, _⟩, ⟨_, e3⟩, st⟩ := st
        have lz : z < s.heap.objs.size := by
          rcases st with ⟨hz, _⟩ | ⟨_, _, _, hz, _⟩ <;> exact Heap.lt_size hz
        simp only [List.mem_cons, List.not_mem_nil, or_false] at hc
        rcases hc with e | e | e | e | e | e
        · rw [e]; exact lz
        · rw [e]; exact Heap.lt_size hI
        · rw [e]; exact Heap.lt_size e3
        · rw [e]; exact Heap.lt_size e1
        · rw [e]; exact Heap.lt_size e2
        · rw [e]; exact lS
      rw [upd_ne (Nat.ne_of_lt lc)]
      exact g1
    show wpAny _ A.in1 (updateSeq S (·.push (.ref s.heap.objs.size)) >>= fun _ => _) _ _ _
    refine wpAny_bind (wpAny_updateSeq hS' rfl (wpAny_pure ⟨plainId_quiet F.plain_extend_loop _, ?_⟩) (by omega) (by show (acc.push _).size ≤ sizeLine + 1; rw [Array.size_push]; omega))
    have up : ∀ c o, c ≠ S → h'.get? c = some o → (h'.update S (Obj.mapSeq (·.push (.ref s.heap.objs.size)))).get? c = some o := fun c o hc e => (Heap.get?_update_other _ _ (Ne.symm hc)).trans e
    obtain ⟨g0, g1, g2, g3, g4, g5⟩ := hf' S (by simp)
    have I2 : Inv X pins σ (upd H s.heap.objs.size (.tup [xs[i], ys[i]'(by omega)])) { s with heap := h'.update S (Obj.mapSeq (·.push (.ref s.heap.objs.size))) } := I1.turned (t' := s.toks) (fun b o hb e => up b o hb e) g0 g1 g3 g4 g5
    have sq1 : ∀ {b : Addr} {vs : List V}, SqT X.K H b vs → SqT X.K (upd H s.heap.objs.size (.tup [xs[i], ys[i]'(by omega)])) b vs := fun e => sqT_same (same_new nH _) e
    have sm1 : Same H (upd H s.heap.objs.size (.tup [xs[i], ys[i]'(by omega)])) := same_new nH _
    obtain ⟨c', eS⟩ : ∃ c', (h'.update S (Obj.mapSeq (·.push (.ref s.heap.objs.size)))).get? S = some (lstObj (acc.push (.ref s.heap.objs.size)) c') := ⟨_, Heap.get?_update_self _ hS' rfl⟩
    refine ih (i + 1) _ _ (acc.push (.ref s.heap.objs.size)) c' (Ts ++ [s.heap.objs.size]) (by omega) I2 hf' (sm.trans sm1) ?_ ?_ (st'.keep D hn up) ?_ ?_ ?_
    · exact sq1 hx
    · exact sq1 hy
    · exact eS
    · rw [List.map_append, Array.toList_push]
      exact rv.append (.cons rfl .nil)
    · refine ⟨by rw [List.length_append, pr.1]; rfl, fun k T e => ?_⟩
      by_cases hk1 : k < Ts.length
      · rw [List.getElem?_append_left hk1] at e
        obtain ⟨x, y, e1, e2, e3⟩ := pr.2 k T e
        exact ⟨x, y, e1, e2, sm1 _ _ e3⟩
      · rw [List.getElem?_append_right (by omega)] at e
        have hk2 : k = Ts.length := by
          have := (List.getElem?_eq_some_iff.mp e).1
          simp at this
          omega
        rw [hk2, Nat.sub_self] at e
        cases e
        refine ⟨_, _, ?_, ?_, upd_same⟩
        · rw [hk2, pr.1]
          exact ex
        · rw [hk2, pr.1]
          exact ey
/-- the list's object, laid since the entry, is tracked from here on -/
theorem inv_trackL {a : Addr} {o : HO} {oe : Obj} (I : Inv X pins σ H s) (ha : s.heap.get? a = some oe) (hd : ∀ v, oe.data ≠ .cell v) (f : FpOk X pins H a) (n0 : X.s_0.heap.get? a = none)
    (new : ObjOk X.prog X.w (upd H a o) s.heap a o) : Inv X pins σ (upd H a o) s := by
  obtain ⟨na, nL, _, _, _, np⟩ := f
  have old : ∀ b u, X.s_0.heap.get? b = some u → b ≠ a := fun b u e z => by
    rw [z, n0] at e
    cases e
  have trk : ∀ b u, H b = some u → b ≠ a := fun b u e z => by
    rw [z, na] at e
    cases e
  have cel : ∀ x c, X.env.cells.lookup x = some c → c ≠ a := fun x c e z => by
    obtain ⟨v, u, hu, hc⟩ := I.cell x c e
    rw [z, ha] at hu
    cases hu
    exact hd _ hc
  exact {
    ok := I.ok
    os := I.os
    bare := I.bare
    base := {
      keep := I.base.keep
      slot := I.base.slot
      free := fun b u e n hx => by rw [upd_ne (old b u e)]; exact I.base.free b u e n hx
      there := I.base.there
      tups := fun b xs e => by
        have z := I.base.tups b xs e
        rw [upd_ne (trk _ _ z)]
        exact z
      frzs := fun b u xs e => by
        have z := I.base.frzs b u xs e
        rw [upd_ne (trk _ _ z)]
        exact z
      tbls := fun b ps e => by
        obtain ⟨m, z⟩ := I.base.tbls b ps e
        exact ⟨m, by rw [upd_ne (trk _ _ z)]; exact z⟩ }
    loc := I.loc
    cell := I.cell
    free := by rw [upd_ne nL.symm]; exact I.free
    freeC := fun x c e => by rw [upd_ne (cel x c e)]; exact I.freeC x c e
    pin := fun p hp => by
      obtain ⟨p1, p2, p3, p4, p5⟩ := I.pin p hp
      exact ⟨p1, by rw [upd_ne (np p hp)]; exact p2, p3, p4, p5⟩
    hok := fun b u e => by
      by_cases hb : b = a
      · subst hb
        rw [upd_same] at e
        cases e
        exact new
      · rw [upd_ne hb] at e
        exact (I.hok b u e).stay (fun _ _ _ q => q) (fun c q => by rw [upd_ne (trk _ _ q)]; exact q) fun c xs q => by rw [upd_ne (trk _ _ q)]; exact q
    len := I.len }
end
/-! ### the expression -/
def tListZip (K : PySem.W.Frag) (ta : TA) : TE := fun σ H Q => ta σ H fun vs H1 => ∃ a b xs ys, vs = [.ref a, .ref b] ∧ SqT K H1 a xs ∧ SqT K H1 b ys ∧ xs.length = ys.length ∧ ∀ S Ts H', Same H1 H' → H' S = none → Prs H' xs ys xs.length Ts → Q (.ref S) (upd H' S (.lst (Ts.map V.ref)))
section
variable {X : Cx}
theorem call_listZip {pins : List (Addr × Obj)} {σ : L2.St} {H : Hp} {s : Shared} {z TI TO p q l m : Addr} {xs ys : List V} {Q : VK} (hc : X.calm = true) (I : Inv X pins σ H s) (D : ZipApart z TI TO p q l m) (hx : SqT X.K H l xs) (hy : SqT X.K H m ys) (hl : xs.length = ys.length)
    (hz : IsZip s.heap z TI TO .none) (hI : IsPair s.heap TI (.ref p) (.ref q)) (hTO : IsPair s.heap TO .none .none) (hp : s.heap.IsTupleIter p l 0) (hq : s.heap.IsTupleIter q m 0) (hf : ∀ c ∈ [z, TI, TO, p, q], FpOk X pins H c)
    (h : ∀ S Ts H', Same H H' → H' S = none → Prs H' xs ys xs.length Ts → Q (.ref S) (upd H' S (.lst (Ts.map V.ref)))) : wpAny (model X.prog X.w) X.A (call (.type "list") [.ref z]) (EP X pins σ Q) X.xe s := by
  have lz : z < s.heap.objs.size := Heap.lt_size hz
  have hsub : ∀ c ∈ [z, TI, TO, p, q], c ≠ s.heap.objs.size := fun c hc' => by
    obtain ⟨_, e1, _⟩ := id hp
    obtain ⟨_, e2, _⟩ := id hq
    have l1 := Heap.lt_size hI
    have l2 := Heap.lt_size hTO
    have l3 := Heap.lt_size e1
    have l4 := Heap.lt_size e2
    simp only [List.mem_cons, List.not_mem_nil, or_false] at hc'
    rcases hc' with e | e | e | e | e <;> rw [e] <;> exact Nat.ne_of_lt (by assumption)
  refine callType_codes (Q₁ := fun obj z1 => obj = .ref s.heap.objs.size ∧ z1 = { s with heap := s.heap.push { cls := .type "list", data := .seq #[] } }) F.called_list (F.typeCall_list_1 _) F.entry_list_init (code_list_new _ ⟨rfl, rfl⟩) fun obj z1 hz1 => ?_
  obtain ⟨rfl, rfl⟩ := hz1
  have hS : (s.heap.push { cls := .type "list", data := .seq #[] }).get? s.heap.objs.size = some { cls := .type "list", data := .seq #[] } := Heap.get?_push_size _ rfl
  refine ⟨⟨_, hS, rfl⟩, F.args_list_init_2 _ _, ?_⟩
  show wpAny _ X.A.in1.in1 (do let old ← Builtin.List.listItems (.ref s.heap.objs.size); (do Builtin.List.listUpdate (.ref s.heap.objs.size) (fun _ => #[]); letGo old.toList.reverse; Builtin.List.listExtendWith (.ref s.heap.objs.size) (.ref z) .none)) _ _ _
  refine wpAny_bind ?_
  unfold Builtin.List.listItems
  refine wpAny_bind (wpAny_seqItems hS rfl (wpAny_pure ?_))
  show wpAny _ X.A.in1.in1 (updateSeq s.heap.objs.size (fun _ => #[]) >>= fun _ => (letGo (#[] : Array Value).toList.reverse >>= fun _ => Builtin.List.listExtendWith (.ref s.heap.objs.size) (.ref z) .none)) _ _ _
  refine wpAny_bind (wpAny_updateSeq hS rfl ?_)
  have hS2 := Heap.get?_update_self (Obj.mapSeq (fun _ => (#[] : Array Value))) hS rfl
  refine wpAny_bind (wpAny_letGo ?_)
  unfold Builtin.List.listExtendWith
  have up : ∀ (g : Heap) (f : Obj → Obj), (∀ b o, s.heap.get? b = some o → g.get? b = some o) → ∀ b o, s.heap.get? b = some o → (g.update s.heap.objs.size f).get? b = some o := fun g f k b o e => (Heap.get?_update_other _ _ (Nat.ne_of_gt (Heap.lt_size e))).trans (k b o e)
  have k2 := up (s.heap.push { cls := .type "list", data := .seq #[] }) (Obj.mapSeq (fun _ => (#[] : Array Value))) fun b o e => Heap.get?_push_of_some _ e
  have zt : ∀ {g : Heap}, (∀ b o, s.heap.get? b = some o → g.get? b = some o) → Shared.TypeIs { s with heap := g } (.ref z) "zip" := fun k => ⟨_, k _ _ hz, rfl⟩
  refine wpAny_bind (wpAny_typeOf (zt k2) ?_)
  have b1 : Builtin.List.listSameRef (.ref s.heap.objs.size) (.ref z) = false := by simp [Builtin.List.listSameRef, Nat.ne_of_gt lz]
  have b2 : (Value.type "zip" == Value.type "list") = false := by decide
  have b3 : (Value.type "zip" == Value.type "tuple") = false := by decide
  simp only [b1, b2, b3, Bool.or_false, Bool.false_eq_true, if_false]
  refine wpAny_bind (wpAny_pyIter_zip (s := { s with heap := _ }) (k2 _ _ hz) ?_)
  refine wpAny_bind (wpAny_holding ?_)
  unfold Builtin.List.listLengthHint
  refine wpAny_bind (wpAny_specialOf (zt k2) zip_no_len ?_)
  show wpAny _ X.A.in1.in1 (specialOf (Value.ref z) (Str.ofString "__length_hint__") >>= fun _ => _) _ _ _
  refine wpAny_bind (wpAny_specialOf (zt k2) zip_no_hint (wpAny_pure ?_))
  show wpAny _ X.A.in1.in1 (rule "list.extend.makes-room" >>= fun _ => (Builtin.List.listTouch (.ref s.heap.objs.size) >>= fun _ => again (.builtin "list.extend.loop" ⟨[.ref s.heap.objs.size, .ref z, .none], []⟩))) _ _ _
  refine wpAny_bind (wpAny_rule (wpAny_bind ?_))
  show wpAny _ X.A.in1.in1 (updateSeq s.heap.objs.size (·.push .none) >>= fun _ => updateSeq s.heap.objs.size (·.pop)) _ _ _
  refine wpAny_bind (wpAny_updateSeq hS2 rfl ?_)
  have hS3 := Heap.get?_update_self (Obj.mapSeq (·.push Value.none)) hS2 rfl
  refine wpAny_updateSeq (hz := by seq_fits) hS3 rfl ?_
  have hS4 := Heap.get?_update_self (Obj.mapSeq (·.pop)) hS3 rfl
  have k4 := up _ (Obj.mapSeq (·.pop)) (up _ (Obj.mapSeq (·.push Value.none)) k2)
  refine wpAny_pure ⟨plainId_quiet F.plain_extend_loop _, ?_⟩
  have fS : FpOk X pins H s.heap.objs.size := I.fpOk (Nat.le_refl _) (I.hok.fresh (Nat.le_refl _))
  have n0 : X.s_0.heap.get? s.heap.objs.size = none := by
    cases e : X.s_0.heap.get? s.heap.objs.size with
    | none => rfl
    | some o =>
      exact absurd (Nat.lt_of_lt_of_le (Heap.lt_size e) I.sz) (Nat.lt_irrefl _)
  refine drainZ (X := X) (A := X.A.in1) (pins := pins) (σ := σ) (H0 := H) (S := s.heap.objs.size) (I.ok.hd hc) D hl hsub (fun s' H' acc c Ts I' f' sm e rv pr => ?_) xs.length 0 _ H #[] _ [] (by omega) (I.kept (t' := s.toks) k4) ?_ (.refl _) hx hy ?_ hS4 .nil ⟨rfl, fun k T e => nomatch e⟩
  · have tr := inv_trackL (o := .lst (Ts.map V.ref)) I' e (fun v z => by cases z) (f' _ (by simp)) n0 ⟨?_, acc.toList, c, rv, by rw [e]⟩
    · exact ⟨rfl, .ref s.heap.objs.size, _, tr, rfl, h _ Ts H' sm (f' _ (by simp)).1 pr⟩
    · obtain ⟨its, r1, _, z1⟩ := I.tuple hx
      rw [List.length_map, pr.1]
      exact z1
  · intro c hc'
    by_cases ec : c = s.heap.objs.size
    · rw [ec]
      exact fS
    · refine hf c ?_
      simp only [List.mem_cons, List.not_mem_nil, or_false] at hc' ⊢
      rcases hc' with e | e | e | e | e | e
      · simp [e]
      · simp [e]
      · simp [e]
      · simp [e]
      · simp [e]
      · exact absurd e ec
  · exact ⟨k4 _ _ hI, hp.at fun o e => k4 _ o e, hq.at fun o e => k4 _ o e, ⟨_, k4 _ _ hTO⟩, .inl ⟨k4 _ _ hz, _, _, k4 _ _ hTO⟩⟩
theorem pe_listZip {e1 e2 : Expr} {ta : TA} {p p2 pos pos2 : Pos} (hg : Gl X "list") (hm : X.mg "list" = none) (hg2 : Gl X "zip") (hm2 : X.mg "zip" = none) (ha : PA X [e1, e2] ta) (hc : X.calm = true := by rfl)
    (hs : starEach [.Call (.Name "zip" p2) [e1, e2] [] pos2] X.env = [(false, eval (.Call (.Name "zip" p2) [e1, e2] [] pos2) X.env)] := by rfl) (hs2 : starEach [e1, e2] X.env = (false, eval e1 X.env) :: starEach [e2] X.env := by rfl) (hpl : (backTo pos2 (starEach [e2] X.env)).any (·.1) = false := by rfl) :
    PE X (.Call (.Name "list" p) [.Call (.Name "zip" p2) [e1, e2] [] pos2] [] pos) (tListZip X.K ta) := by
  refine ⟨fun pins s σ H Q I h => Call_ (ld_blt I hg hm PyProof.Rows.boot_list (PyProof.Rows.callWith_type1 ?_ hs rfl))⟩
  rw [hs]
  show wpAny _ _ (spliced [(false, eval (.Call (.Name "zip" p2) [e1, e2] [] pos2) X.env)]) _ _ s
  refine Calls.spliced_cons (Call_ (ld_blt I hg2 hm2 PyProof.Rows.boot_zip (PyProof.Rows.callWith_type1 (thn (ha.run pos2 pins s σ H _ I h) fun us s1 ⟨vs, H1, I1, r1, q1⟩ => ?_) hs2 hpl)))
  obtain ⟨a, b, xs, ys, ex, hx, hy, hl, q⟩ := q1
  subst ex
  obtain ⟨u1, u2, rfl, r2, r3⟩ := vals2 r1
  cases (show u1 = Value.ref a from r2)
  cases (show u2 = Value.ref b from r3)
  obtain ⟨its, rv, p1, _⟩ := I1.tuple hx
  obtain ⟨its2, rv2, p3, _⟩ := I1.tuple hy
  obtain ⟨o1, ho1, _⟩ := id p1
  obtain ⟨o2, ho2, _⟩ := id p3
  refine RZ.call_zipT (show s1.heap.IsTuple a its.toArray from p1) (show s1.heap.IsTuple b its2.toArray from p3) fun h' hz hTI hTO h1 h2 hsz hk => Calls.spliced_nil ?_
  have I2 : Inv X pins σ H1 { s1 with heap := h' } := I1.kept (t' := s1.toks) hk
  refine call_listZip (s := { s1 with heap := h' }) hc I2 (PySem.W.ktu_apart s1.heap.objs.size a b (Heap.lt_size ho1) (Heap.lt_size ho2)) hx hy hl hz hTI hTO h1 h2 (fun c hcm => ?_) q
  have hle : s1.heap.objs.size ≤ c := by
    simp only [List.mem_cons, List.not_mem_nil, or_false] at hcm
    rcases hcm with e | e | e | e | e <;> rw [e]
    · exact Nat.le_add_right _ _
    · exact Nat.le_add_right _ _
    · exact Nat.le_add_right _ _
    · exact Nat.le_refl _
    · exact Nat.le_add_right _ _
  exact I1.fpOk hle (I1.hok.fresh hle)
end
end Fl
/-! worths.py: sort_of, kind_of, are_same, are_alike -/
namespace Fl
open PySem PySem.Spec PyProof.Rows L2
abbrev s_sort_of : Stmt := top 17
theorem sc_sort_of : FnScope ["worth"] ["worth"] (defScope s_sort_of) := ⟨rfl, rfl, rfl, by decide +kernel, rfl, by decide +kernel, by decide +kernel⟩
abbrev s_kind_of : Stmt := top 18
theorem sc_kind_of : FnScope ["worth"] ["worth"] (defScope s_kind_of) := ⟨rfl, rfl, rfl, by decide +kernel, rfl, by decide +kernel, by decide +kernel⟩
abbrev s_are_same : Stmt := top 19
theorem sc_are_same : FnScope ["one", "other", "pile", "mine", "yours"] ["one", "other"] (defScope s_are_same) := ⟨rfl, rfl, rfl, by decide +kernel, rfl, by decide +kernel, by decide +kernel⟩
abbrev s_are_alike : Stmt := top 20
theorem sc_are_alike : FnScope ["one", "other"] ["one", "other"] (defScope s_are_alike) := ⟨rfl, rfl, rfl, by decide +kernel, rfl, by decide +kernel, by decide +kernel⟩
structure Ts (K : PySem.W.Frag) (mg : Str → Option Value) : Prop where
  kf : Kf K (He.ga K "Function")
  z_isinstance : mg "isinstance" = none
  z_int : mg "int" = none
  z_bool : mg "bool" = none
  z_str : mg "str" = none
  z_tuple : mg "tuple" = none
  z_len : mg "len" = none
  z_zip : mg "zip" = none
  z_list : mg "list" = none
/-- pairs that wait, as tuples -/
inductive Pa (C : Addr) (G H : Hp) : List V → List (Th × Th) → Prop
  | nil : Pa C G H [] []
  | cons {T : Addr} {x y : V} {t u : Th} {vs : List V} {ps : List (Th × Th)} : H T = some (.tup [x, y]) → Is C G x t → Is C G y u → Pa C G H vs ps → Pa C G H (.ref T :: vs) ((t, u) :: ps)
section
variable {C : Addr} {G H H' : Hp}
theorem Pa.same (s : Same H H') : ∀ {vs : List V} {ps : List (Th × Th)}, Pa C G H vs ps → Pa C G H' vs ps
  | _, _, .nil => .nil
  | _, _, .cons h a b r => .cons (s _ _ h) a b (r.same s)
theorem Pa.app : ∀ {vs ws : List V} {ps qs : List (Th × Th)}, Pa C G H vs ps → Pa C G H ws qs → Pa C G H (vs ++ ws) (ps ++ qs)
  | _, _, _, _, .nil, s => s
  | _, _, _, _, .cons h a b r, s => .cons h a b (r.app s)
theorem Pa.len : ∀ {vs : List V} {ps : List (Th × Th)}, Pa C G H vs ps → vs.length = ps.length
  | _, _, .nil => rfl
  | _, _, .cons _ _ _ r => congrArg Nat.succ r.len
theorem Pa.last : ∀ {vs : List V} {ps : List (Th × Th)}, Pa C G H vs ps → vs ≠ [] → ∃ ws T x y t u qs, vs = ws ++ [.ref T] ∧ ps = qs ++ [(t, u)] ∧ H T = some (.tup [x, y]) ∧ Is C G x t ∧ Is C G y u ∧ Pa C G H ws qs
  | _, _, .nil, h => absurd rfl h
  | _, _, .cons (vs := []) h a b r, _ => by
    cases r
    exact ⟨[], _, _, _, _, _, [], rfl, rfl, h, a, b, .nil⟩
  | _, _, .cons (vs := c :: d) h a b r, _ => by
    obtain ⟨ws, T, x, y, t, u, qs, e1, e2, e3, e4, e5, e6⟩ := r.last (List.cons_ne_nil _ _)
    exact ⟨_ :: ws, T, x, y, t, u, _ :: qs, by rw [e1]; rfl, by rw [e2]; rfl, e3, e4, e5, .cons h a b e6⟩
theorem Pa.mut {p : Addr} {xs ys : List V} (hp : H p = some (.lst xs)) : ∀ {vs : List V} {ps : List (Th × Th)}, Pa C G H vs ps → Pa C G (upd H p (.lst ys)) vs ps
  | _, _, .nil => .nil
  | _, _, .cons h a b r => .cons (by rw [upd_ne (fun z => by rw [z, hp] at h; cases h)]; exact h) a b (r.mut hp)
/-- the pairs of a zip -/
theorem Pa.zip : ∀ {xs ys : List V} {l m : List Th} {Ts : List Addr}, Iss C G xs l → Iss C G ys m → Ts.length = xs.length → xs.length = ys.length → (∀ (k : Nat) (T : Addr), Ts[k]? = some T → ∃ x y, xs[k]? = some x ∧ ys[k]? = some y ∧ H T = some (.tup [x, y])) → Pa C G H (Ts.map V.ref) (l.zip m)
  | [], [], _, _, [], .nil, .nil, _, _, _ => .nil
  | x :: xs, y :: ys, _, _, T :: Ts, .cons hx rx, .cons hy ry, h1, h2, h => by
    obtain ⟨a, b, e1, e2, e3⟩ := h 0 T rfl
    cases e1
    cases e2
    exact .cons e3 hx hy (Pa.zip rx ry (by simpa using h1) (by simpa using h2) fun k T' e => h (k + 1) T' e)
end
def psN (ps : List (Th × Th)) : Nat := Th.nodesL (ps.map fun p => p.1)
def psS (ps : List (Th × Th)) : Bool := ps.all fun p => p.1.same p.2
def psP (ps : List (Th × Th)) : Bool := ps.all fun p => p.1.worth false && p.2.worth false
theorem sames_zip : ∀ (l m : List Th), Th.sames l m = (decide (l.length = m.length) && psS (l.zip m))
  | [], [] => by rw [Th.sames]; rfl
  | [], _ :: _ => by rw [Th.sames] <;> first | rfl | (intros; simp_all)
  | _ :: _, [] => by rw [Th.sames] <;> first | rfl | (intros; simp_all)
  | t :: l, u :: m => by
    rw [Th.sames, sames_zip l m, List.zip_cons_cons]
    unfold psS
    rw [List.all_cons, List.length_cons, List.length_cons]
    have e : decide (l.length + 1 = m.length + 1) = decide (l.length = m.length) := decide_eq_decide.mpr ⟨fun h => by omega, fun h => by omega⟩
    rw [e]
    cases t.same u <;> cases decide (l.length = m.length) <;> rfl
theorem zip_plain : ∀ (l m : List Th), Th.worths false l = true → Th.worths false m = true → psP (l.zip m) = true
  | [], _, _, _ => by rw [List.zip_nil_left]; rfl
  | _ :: _, [], _, _ => by rw [List.zip_nil_right]; rfl
  | t :: l, u :: m, hl, hm => by
    rw [Th.worths, Bool.and_eq_true] at hl hm
    rw [List.zip_cons_cons]
    unfold psP
    rw [List.all_cons, hl.1, hm.1]
    exact zip_plain l m hl.2 hm.2
theorem zip_nodes : ∀ (l m : List Th), psN (l.zip m) ≤ Th.nodesL l
  | [], _ => by rw [List.zip_nil_left]; exact Nat.le_refl _
  | _ :: _, [] => by rw [List.zip_nil_right]; exact Nat.zero_le _
  | t :: l, u :: m => by
    have := zip_nodes l m
    unfold psN at this ⊢
    rw [List.zip_cons_cons, List.map_cons, Th.nodesL, Th.nodesL]
    show t.nodes + _ ≤ _
    omega
theorem same_kind {t u : Th} (h : t.kind ≠ u.kind) : t.same u = false := by
  cases e : t.same u with
  | false => rfl
  | true =>
    refine absurd ?_ h
    cases t <;> cases u <;> first | rfl | (exfalso; simp [Th.same] at e)
theorem leaf_same {C : Addr} {G : Hp} {x y : V} {t u : Th} (h1 : Is C G x t) (h2 : Is C G y u) (hk : t.kind = u.kind) (ht : t.isTup = false) (p1 : t.worth false = true) (p2 : u.worth false = true) : scal x y = true ∧ decide (x = y) = t.same u := by
  cases h1 with
  | tup _ _ => cases ht
  | fn _ _ => cases p1
  | non => cases p1
  | lst _ => cases p1
  | dct _ => cases p1
  | bl a =>
    cases h2 with
    | bl b => exact ⟨rfl, by rw [Th.same, dec_bl]⟩
    | int _ => exact absurd hk (show ¬ (("truth" : Str) = "number") by decide)
    | str _ => exact absurd hk (show ¬ (("truth" : Str) = "word") by decide)
    | tup _ _ => exact absurd hk (show ¬ (("truth" : Str) = "row") by decide)
    | fn _ _ => cases p2
    | non => cases p2
    | lst _ => cases p2
    | dct _ => cases p2
  | int a =>
    cases h2 with
    | int b => exact ⟨rfl, by rw [Th.same, dec_int]⟩
    | bl _ => exact absurd hk (show ¬ (("number" : Str) = "truth") by decide)
    | str _ => exact absurd hk (show ¬ (("number" : Str) = "word") by decide)
    | tup _ _ => exact absurd hk (show ¬ (("number" : Str) = "row") by decide)
    | fn _ _ => cases p2
    | non => cases p2
    | lst _ => cases p2
    | dct _ => cases p2
  | str a =>
    cases h2 with
    | str b => exact ⟨rfl, by rw [Th.same]; exact decide_eq_decide.mpr ⟨fun z => by injection z, fun z => by rw [z]⟩⟩
    | bl _ => exact absurd hk (show ¬ (("word" : Str) = "truth") by decide)
    | int _ => exact absurd hk (show ¬ (("word" : Str) = "number") by decide)
    | tup _ _ => exact absurd hk (show ¬ (("word" : Str) = "row") by decide)
    | fn _ _ => cases p2
    | non => cases p2
    | lst _ => cases p2
    | dct _ => cases p2
theorem row_two {C : Addr} {G : Hp} {x y : V} {t u : Th} (h1 : Is C G x t) (h2 : Is C G y u) (hk : t.kind = u.kind) (ht : t.isTup = true) (p2 : u.worth false = true) :
    ∃ a b xs ys l m, x = .ref a ∧ y = .ref b ∧ G a = some (.tup xs) ∧ G b = some (.tup ys) ∧ t = .tup l ∧ u = .tup m ∧ Iss C G xs l ∧ Iss C G ys m := by
  cases h1 with
  | tup e1 r1 =>
    cases h2 with
    | tup e2 r2 => exact ⟨_, _, _, _, _, _, rfl, rfl, e1, e2, rfl, rfl, r1, r2⟩
    | bl _ => exact absurd hk (show ¬ (("row" : Str) = "truth") by decide)
    | int _ => exact absurd hk (show ¬ (("row" : Str) = "number") by decide)
    | str _ => exact absurd hk (show ¬ (("row" : Str) = "word") by decide)
    | fn _ _ => cases p2
    | non => cases p2
    | lst _ => cases p2
    | dct _ => cases p2
  | bl _ => cases ht
  | int _ => cases ht
  | str _ => cases ht
  | fn _ _ => cases ht
  | non => cases ht
  | lst _ => cases ht
  | dct _ => cases ht
def SameW (C : Addr) (H : Hp) (a b : V) (p : Addr) (r : Bool) (m : Nat) (σ : L2.St) (H' : Hp) : Prop := ∃ xs ps o3 o4, σ = [some a, some b, some (.ref p), o3, o4] ∧ Same H H' ∧ H' p = some (.lst xs) ∧ Pa C H H' xs ps ∧ m = psN ps ∧ psN ps ≤ 1000000 ∧ psP ps = true ∧ r = psS ps
def spSort (K : PySem.W.Frag) : Sp := sp1 fun v H Q _ => ∃ t, Is (CF K) H v t ∧ t.worth true = true ∧ Q (.str t.kind) H
def spSame (K : PySem.W.Frag) : Sp := sp2 fun a b H Q _ => ∃ t u, Is (CF K) H a t ∧ Is (CF K) H b u ∧ t.worth false = true ∧ u.worth false = true ∧ t.nodes ≤ 1000000 ∧ ∀ H', Same H H' → Q (.bl (t.same u)) H'
def spKindOf (K : PySem.W.Frag) : Sp := sp1 fun v H Q E => ∃ t, Is (CF K) H v t ∧ t.nodes ≤ 1000000 ∧ (t.worth true = true → ∀ H', Same H H' → Q (.str t.kind) H') ∧ (t.worth true = false → ∀ H', Same H H' → E (.ref (He.ga K "BadWorth")) none H')
def spAlike (K : PySem.W.Frag) : Sp := sp2 fun a b H Q E => ∃ t u, Is (CF K) H a t ∧ Is (CF K) H b u ∧ t.nodes ≤ 1000000 ∧ u.nodes ≤ 1000000 ∧ ((t.worth false && u.worth false) = true → ∀ H', Same H H' → Q (.bl (t.same u)) H') ∧ ((t.worth false && u.worth false) = false → ∀ H', Same H H' → E (.ref (He.ga K "BadWorth")) none H')
section
variable {P : Program} {w : World} {K : PySem.W.Frag} {mg : Str → Option Value} {base : Heap}
theorem ok_sort_of (F : FnP K mg "sort_of" s_sort_of) (T : Ts K mg) : Cl P w K mg base 1 "sort_of" ["worth"] (spSort K) := by
  refine cl_1 F sc_sort_of (fun _ _ _ _ _ _ us hl => match us, hl with | [_], _ => rfl) fun cdv A outer s H v Q E hr h => ?_
  obtain ⟨t, h, ht, q⟩ := h
  refine ⟨_, PSs.nox (pss_cons (ps_if (pt_val (pe_callB call_isi rfl T.z_isinstance PyProof.Rows.boot_isinstance (pa_cons (pv 0) (pa_cons (pe_bltn (v := .ty "bool") rfl T.z_bool (by decide +kernel) rfl) pa_nil)))) (pss_one (ps_ret pe_str)) pss_nil) (pss_cons (ps_if (pt_val (pe_callB call_isi rfl T.z_isinstance PyProof.Rows.boot_isinstance (pa_cons (pv 0) (pa_cons (pe_bltn (v := .ty "int") rfl T.z_int (by decide +kernel) rfl) pa_nil)))) (pss_one (ps_ret pe_str)) pss_nil) (pss_cons (ps_if (pt_val (pe_callB call_isi rfl T.z_isinstance PyProof.Rows.boot_isinstance (pa_cons (pv 0) (pa_cons (pe_bltn (v := .ty "str") rfl T.z_str (by decide +kernel) rfl) pa_nil)))) (pss_one (ps_ret pe_str)) pss_nil) (pss_one (ps_ret (pe_ifExp (pt_val (pe_callB call_isi rfl T.z_isinstance PyProof.Rows.boot_isinstance (pa_cons (pv 0) (pa_cons (pe_bltn (v := .ty "tuple") rfl T.z_tuple (by decide +kernel) rfl) pa_nil)))) pe_str pe_str)))))), ?_⟩
  obtain ⟨u1, y1, k1⟩ := is_bool T.kf h
  obtain ⟨u2, y2, k2⟩ := is_int T.kf h
  obtain ⟨u3, y3, k3⟩ := is_str T.kf h
  obtain ⟨u4, y4, k4⟩ := is_tup T.kf h
  refine ⟨_, rfl, v, _, u1, _, _, rfl, .ty _, y1, k1, _, rfl, ?_⟩
  cases h with
  | bl b => exact iteT q
  | int i => exact iteF ⟨_, rfl, _, _, u2, _, _, rfl, .ty _, y2, k2, _, rfl, iteT q⟩
  | str x hx => exact iteF ⟨_, rfl, _, _, u2, _, _, rfl, .ty _, y2, k2, _, rfl, iteF ⟨_, rfl, _, _, u3, _, _, rfl, .ty _, y3, k3, _, rfl, iteT q⟩⟩
  | tup _ _ => exact iteF ⟨_, rfl, _, _, u2, _, _, rfl, .ty _, y2, k2, _, rfl, iteF ⟨_, rfl, _, _, u3, _, _, rfl, .ty _, y3, k3, _, rfl, iteF ⟨_, rfl, _, _, u4, _, _, rfl, .ty _, y4, k4, _, rfl, iteT q⟩⟩⟩
  | fn _ _ => exact iteF ⟨_, rfl, _, _, u2, _, _, rfl, .ty _, y2, k2, _, rfl, iteF ⟨_, rfl, _, _, u3, _, _, rfl, .ty _, y3, k3, _, rfl, iteF ⟨_, rfl, _, _, u4, _, _, rfl, .ty _, y4, k4, _, rfl, iteF q⟩⟩⟩
  | non => cases ht
  | lst _ => cases ht
  | dct _ => cases ht
theorem ok_are_same (F : FnP K mg "are_same" s_are_same) (T : Ts K mg) (B_sort_of : Cl P w K mg base 1 "sort_of" ["worth"] (spSort K)) : Cl P w K mg base 2 "are_same" ["one", "other"] (spSame K) := by
  refine cl_2 F sc_are_same (fun _ _ _ _ _ _ us hl => match us, hl with | [_, _], _ => rfl) fun cdv A outer s H a b Q E hr h => ?_
  obtain ⟨t, u, ha, hb, pt, pu, hn, q⟩ := h
  refine ⟨_, PSs.nox (pss_cons (ps_set (i := 2) sc_are_same.nd rfl (Or.inl rfl) (pe_lst (pa_cons (pe_tup (pa_cons (pv 0) (pa_cons (pv 1) pa_nil))) pa_nil))) (pss_cons (ps_while PassesOwn.never (pt_cmpR (op_neNil hr.units0) (pv 2) (pe_lst pa_nil) (nomark _)) (pss_cons (ps_asg (pe_bm0 PySem.F.plainAttrs_list PySem.F.slot_list_pop PySem.F.type_list_pop mt_pop (pv 2)) (pg_tup rfl (pgs_cons (pg_name (i := 3) sc_are_same.nd rfl (Or.inl rfl)) (pgs_cons (pg_name (i := 4) sc_are_same.nd rfl (Or.inl rfl)) pgs_nil)))) (pss_cons (ps_if (pt_cmpR op_ne (pe_b B_sort_of hr (by omega) rfl passL (pa_cons (pv 3) pa_nil)) (pe_b B_sort_of hr (by omega) rfl passL (pa_cons (pv 4) pa_nil)) (nomark _)) (pss_one (ps_ret pe_bl)) pss_nil) (pss_one (ps_if (pt_val (pe_callB call_isi rfl T.z_isinstance PyProof.Rows.boot_isinstance (pa_cons (pv 3) (pa_cons (pe_bltn (v := .ty "tuple") rfl T.z_tuple (by decide +kernel) rfl) pa_nil)))) (pss_cons (ps_if (pt_cmpR op_ne (pe_callB call_len_seq rfl T.z_len PySem.boot_len (pa_cons (pv 3) pa_nil)) (pe_callB call_len_seq rfl T.z_len PySem.boot_len (pa_cons (pv 4) pa_nil)) (nomark _)) (pss_one (ps_ret pe_bl)) pss_nil) (pss_one (ps_expr (pe_bm PySem.F.plainAttrs_list PySem.F.slot_list_extend PySem.F.type_list_extend (mt_extend) (pv 2) (pa_cons (pe_listZip rfl T.z_list rfl T.z_zip (pa_cons (pv 3) (pa_cons (pv 4) pa_nil))) pa_nil))))) (pss_one (ps_if (pt_cmpR op_ne (pv 3) (pv 4) (nomark _)) (pss_one (ps_ret pe_bl)) pss_nil))))))) (pss_one (ps_ret pe_bl)))), ?_⟩
  refine ⟨_, rfl, _, rfl, s2, fun p0 np0 => ⟨(by show 1 ≤ sizeLine; decide), fun p np => ?_⟩⟩
  have sH0 := (same_new np0 (.tup [a, b])).trans (same_new np (.lst [.ref p0]))
  have np' : H p = none := (same_new np0 (.tup [a, b])).free np
  refine ⟨SameW (CF K) H a b p (t.same u), ⟨_, [.ref p0], [(t, u)], none, none, rfl, sH0, upd_same, .cons ((same_new np _) _ _ upd_same) ha hb .nil, rfl, by simpa [psN, Th.nodesL] using hn, by simp [psP, pt, pu], by simp [psS]⟩, ?_⟩
  rintro m σ H1 ⟨xs, ps, o3, o4, rfl, s1, hp, hi, rfl, hm, hpl, hrs⟩
  refine ⟨_, rfl, (by show 0 ≤ sizeLine; decide), fun d nd => ⟨p, d, xs, rfl, rfl, SqL.of (by rw [upd_ne (ne_of_none hp nd)]; exact hp), SqL.of upd_same, _, rfl, ?_⟩⟩
  have s2' : Same H (upd H1 d (.lst [])) := s1.trans (same_new nd _)
  have hp2 : upd H1 d (.lst []) p = some (.lst xs) := by
    rw [upd_ne (ne_of_none hp nd)]
    exact hp
  by_cases hx : xs = []
  · subst hx
    cases hi
    refine iteF ?_
    have e : t.same u = true := hrs
    rw [e] at q
    exact q _ s2'
  obtain ⟨ys, Ta, x, y, t1, u1, qs, rfl, rfl, hT, w1, w2, hi2⟩ := hi.last hx
  have hne : (!(ys ++ [V.ref Ta]).isEmpty) = true := by cases ys <;> rfl
  show (if (!(ys ++ [V.ref Ta]).isEmpty) = true then _ else _)
  rw [hne]
  refine iteT ?_
  have eN : psN (qs ++ [(t1, u1)]) = psN qs + t1.nodes := by
    unfold psN
    rw [List.map_append, nodesL_app]
    show Th.nodesL _ + Th.nodesL [t1] = _
    rw [Th.nodesL, Th.nodesL]
    omega
  have eS : psS (qs ++ [(t1, u1)]) = (psS qs && t1.same u1) := by
    unfold psS
    rw [List.all_append, List.all_cons, List.all_nil, Bool.and_true]
  have eP : psP (qs ++ [(t1, u1)]) = (psP qs && (t1.worth false && u1.worth false)) := by
    unfold psP
    rw [List.all_append, List.all_cons, List.all_nil, Bool.and_true]
  rw [eN] at hm
  rw [eS] at hrs
  rw [eP, Bool.and_eq_true, Bool.and_eq_true] at hpl
  obtain ⟨pq, p1, p2⟩ := hpl
  have tp := t1.nodes_pos
  have hyl : ys.length ≤ psN qs := by
    rw [hi2.len]
    have := len_nodesL (qs.map fun p => p.1)
    rw [List.length_map] at this
    exact this
  refine ⟨_, fun σ' H' z => z, ?_⟩
  have hpT : Ta ≠ p := fun z => by rw [z, hp] at hT; cases hT
  have dT : Ta ≠ d := ne_of_none hT nd
  refine ⟨_, rfl, .inl ⟨rfl, _, .inl (.inl hp2)⟩, p, _, V.ref Ta, rfl, rfl, hp2, (by simp), ?_⟩
  rw [List.dropLast_concat]
  have s3 : Same H (upd (upd H1 d (.lst [])) p (.lst ys)) := same_mut s2' np'
  have hp3 : upd (upd H1 d (.lst [])) p (.lst ys) p = some (.lst ys) := upd_same
  have hT3 : upd (upd H1 d (.lst [])) p (.lst ys) Ta = some (.tup [x, y]) := by
    rw [upd_ne hpT, upd_ne dT]
    exact hT
  have hi3 : Pa (CF K) H (upd (upd H1 d (.lst [])) p (.lst ys)) ys qs := (hi2.same (same_new nd _)).mut hp2
  generalize upd (upd H1 d (.lst [])) p (.lst ys) = H3 at s3 hp3 hT3 hi3 ⊢
  refine ⟨Ta, _, rfl, SqT.of hT3, rfl, _, _, rfl, _, _, rfl, rfl, ?_⟩
  have bad : t1.same u1 = false → Q (.bl false) H3 := fun e => by
    have e2 : t.same u = false := by rw [hrs, e, Bool.and_false]
    rw [e2] at q
    exact q _ s3
  refine ⟨_, rfl, _, rfl, t1, w1.same s3, worth_up p1, _, rfl, _, rfl, u1, w2.same s3, worth_up p2, rfl, _, rfl, ?_⟩
  by_cases kk : t1.kind = u1.kind
  · rw [kk, decide_eq_true rfl]
    refine iteF (stepN ?_)
    dsimp only
    obtain ⟨k1, y1, z1⟩ := is_tup (K := K) T.kf (w1.same s3)
    refine ⟨_, rfl, _, _, k1, _, _, rfl, .ty _, y1, z1, _, rfl, ?_⟩
    have fin : ∀ H4, Same H H4 → H4 p = some (.lst ys) → Pa (CF K) H H4 ys qs → t1.same u1 = true → ∃ m', m' < psN (qs ++ [(t1, u1)]) ∧ SameW (CF K) H a b p (t.same u) m' [some a, some b, some (.ref p), some x, some y] H4 := fun H4 s4 hp4 hi4 e =>
      ⟨psN qs, by rw [eN]; omega, ys, qs, _, _, rfl, s4, hp4, hi4, rfl, by omega, pq, by rw [hrs, e, Bool.and_true]⟩
    cases it : t1.isTup with
    | false =>
      obtain ⟨l1, l2⟩ := leaf_same w1 w2 kk it p1 p2
      refine iteF ⟨_, rfl, _, rfl, l1, _, rfl, ?_⟩
      rw [l2]
      cases e : t1.same u1 with
      | true => exact iteF (fin H3 s3 hp3 hi3 e)
      | false => exact iteT (bad e)
    | true =>
      obtain ⟨a1, b1, xs1, ys1, l, m, rfl, rfl, e1, e2, rfl, rfl, v1, v2⟩ := row_two w1 w2 kk it p2
      have l1 := v1.len
      have l2 := v2.len
      have pl : Th.worths false l = true := by simpa [Th.worth] using p1
      have pm : Th.worths false m = true := by simpa [Th.worth] using p2
      have sz : Th.same (.tup l) (.tup m) = (decide (l.length = m.length) && psS (l.zip m)) := by rw [Th.same, sames_zip]
      refine iteT ⟨_, rfl, a1, _, rfl, .inr (SqT.of (s3 _ _ e1)), _, rfl, b1, _, rfl, .inr (SqT.of (s3 _ _ e2)), rfl, _, rfl, ?_⟩
      by_cases ll : l.length = m.length
      · rw [show xs1.length = ys1.length by omega, decide_eq_true rfl]
        refine iteF (stepN ?_)
        dsimp only
        have zn := zip_nodes l m
        have zl : (l.zip m).length = l.length := by rw [List.length_zip]; omega
        simp only [Th.nodes] at eN hm
        have ln := len_nodesL l
        refine ⟨_, rfl, .inl ⟨rfl, _, .inl (.inl hp3)⟩, _, rfl, _, rfl, a1, b1, xs1, ys1, rfl, SqT.of (s3 _ _ e1), SqT.of (s3 _ _ e2), by omega, fun S Ts H4 s4 nS prs => ?_⟩
        have hS : p ≠ S := ne_of_none (s4 _ _ hp3) nS
        have s5 := s4.trans (same_new nS (.lst (Ts.map V.ref)))
        refine ⟨p, S, ys, Ts.map V.ref, rfl, rfl, s5 _ _ hp3, upd_same, by rw [List.length_map, prs.1, sizeLine_eq]; omega, ?_⟩
        have pz : Pa (CF K) H H4 (Ts.map V.ref) (l.zip m) := Pa.zip v1 v2 prs.1 (by omega) prs.2
        refine ⟨psN (qs ++ l.zip m), ?_, ys ++ Ts.map V.ref, qs ++ l.zip m, _, _, rfl, same_mut (s3.trans s5) np', upd_same, ((hi3.same s5).app (pz.same (same_new nS _))).mut (s5 _ _ hp3), rfl, ?_, ?_, ?_⟩
        · rw [eN]
          unfold psN at zn ⊢
          rw [List.map_append, nodesL_app]
          omega
        · unfold psN at zn hm ⊢
          rw [List.map_append, nodesL_app]
          omega
        · unfold psP at pq ⊢
          rw [List.all_append, pq]
          exact zip_plain l m pl pm
        · rw [hrs, sz, decide_eq_true ll, Bool.true_and]
          unfold psS
          rw [List.all_append]
      · have e : (!decide (V.int ((xs1.length : Nat) : Int) = V.int ((ys1.length : Nat) : Int))) = true := by
          rw [decide_eq_false (fun z => by injection z with z; omega)]
          rfl
        rw [e]
        exact iteT (bad (by rw [sz, decide_eq_false ll]; rfl))
  · have e : (!decide (V.str t1.kind = V.str u1.kind)) = true := by
      rw [decide_eq_false fun z => kk (by injection z)]
      rfl
    rw [e]
    exact iteT (bad (same_kind kk))
theorem ok_kind_of (F : FnP K mg "kind_of" s_kind_of) (T : Ts K mg) (B_need_worth : Cl P w K mg base 4 "need_worth" ["thing"] (spNeed K true)) (B_sort_of : Cl P w K mg base 1 "sort_of" ["worth"] (spSort K)) : Cl P w K mg base 5 "kind_of" ["worth"] (spKindOf K) := by
  refine cl_1 F sc_kind_of (fun _ _ _ _ _ _ us hl => match us, hl with | [_], _ => rfl) fun cdv A outer s H v Q E hr h => ?_
  obtain ⟨t, h, hn, q, qe⟩ := h
  refine ⟨_, (pss_one (ps_ret (pe_b B_sort_of hr (by omega) rfl passL (pa_cons (pe_bS B_need_worth hr (by omega) rfl (fun σ => passAt (takes_of rfl rfl rfl rfl) σ) (pa_cons (pv 0) pa_nil)) pa_nil)))), ?_⟩
  exact ⟨_, rfl, _, rfl, t, h, hn, fun e H' s1 => ⟨_, rfl, t, h.same s1, e, q e _ s1⟩, fun e H' s1 => qe e _ s1⟩
theorem ok_are_alike (F : FnP K mg "are_alike" s_are_alike) (T : Ts K mg) (B_need_plain : Cl P w K mg base 4 "need_plain" ["thing"] (spNeed K false)) (B_are_same : Cl P w K mg base 2 "are_same" ["one", "other"] (spSame K)) : Cl P w K mg base 5 "are_alike" ["one", "other"] (spAlike K) := by
  refine cl_2 F sc_are_alike (fun _ _ _ _ _ _ us hl => match us, hl with | [_, _], _ => rfl) fun cdv A outer s H v b Q E hr h => ?_
  obtain ⟨t, u, h, hu, hn, un, q, qe⟩ := h
  refine ⟨_, (pss_one (ps_ret (pe_b B_are_same hr (by omega) rfl passL (pa_cons (pe_bS B_need_plain hr (by omega) rfl (fun σ => passAt (takes_of rfl rfl rfl rfl) σ) (pa_cons (pv 0) pa_nil)) (pa_cons (pe_bS B_need_plain hr (by omega) rfl (fun σ => passAt (takes_of rfl rfl rfl rfl) σ) (pa_cons (pv 1) pa_nil)) pa_nil))))), ?_⟩
  refine ⟨_, rfl, _, rfl, t, h, hn, fun e1 H1 s1 => ⟨_, rfl, _, rfl, u, hu.same s1, un, fun e2 H2 s2' => ⟨_, _, rfl, t, u, h.same (s1.trans s2'), hu.same (s1.trans s2'), e1, e2, hn, fun H3 s3' => q (by rw [e1, e2]; rfl) _ (s1.trans (s2'.trans s3'))⟩, fun e2 H2 s2' => qe (by rw [e1, e2]; rfl) _ (s1.trans s2')⟩, fun e1 H1 s1 => qe (by rw [e1]; rfl) _ s1⟩
end
end Fl
namespace Fl
open PySem PySem.Spec PyProof.Rows L2
open SX (S)
abbrev s_law_otherwise : Stmt := top 40
theorem sc_law_otherwise : FnScope ["_law_worth_here", "_law_state", "_law_number", "_law_at"] ["_law_worth_here", "_law_state"] (defScope s_law_otherwise) := ⟨rfl, rfl, rfl, by decide +kernel, rfl, by decide +kernel, by decide +kernel⟩
abbrev s_law_kinds : Stmt := top 41
theorem sc_law_kinds : FnScope ["_law_worth_here", "_law_part"] ["_law_worth_here"] (defScope s_law_kinds) := ⟨rfl, rfl, rfl, by decide +kernel, rfl, by decide +kernel, by decide +kernel⟩
abbrev s_Function_names : Stmt := inClass (top 9) 1
theorem sc_Function_names : FnScope ["self"] ["self"] (defScope s_Function_names) := ⟨rfl, rfl, rfl, by decide +kernel, rfl, by decide +kernel, by decide +kernel⟩
/-- x in (0, 1), x a plain worth -/
def in01 : Th → Bool
  | .int i => decide (i = 0) || decide (i = 1)
  | .bl _ => true
  | _ => false
def rIn01 (K : PySem.W.Frag) : L2.R2 := fun x y H Q => ∃ p C t, y = .ref p ∧ SqT K H p [.int 0, .int 1] ∧ Is C H x t ∧ t.worth false = true ∧ Q (.bl (in01 t)) H
section
variable {X : Cx}
theorem op_in01 (hu : X.A.units + 1 < cLine) : OpR X (compareOp .In) (rIn01 X.K) := by
  intro pins s σ H x y v u Q I rx ry h
  obtain ⟨p, C, t, rfl, hp, it, wt, q⟩ := h
  cases it with
  | non => cases wt
  | fn _ _ => cases wt
  | lst _ => cases wt
  | dct _ => cases wt
  | bl b =>
    refine op_in_seq pins s σ H _ _ v u Q I rx ry ⟨p, _, rfl, .inr hp, rfl, rfl, ?_⟩
    cases b <;> exact q
  | int i =>
    refine op_in_seq pins s σ H _ _ v u Q I rx ry ⟨p, _, rfl, .inr hp, rfl, rfl, ?_⟩
    have e : inV (.int i) [.int 0, .int 1] = in01 (.int i) := by
      show ((0 : Int) == i || ((1 : Int) == i || false)) = (decide (i = 0) || decide (i = 1))
      rw [Bool.or_false]
      congr 1
      · by_cases h : i = 0
        · rw [h]; rfl
        · rw [decide_eq_false h]; exact beq_eq_false_iff_ne.mpr fun e => h e.symm
      · by_cases h : i = 1
        · rw [h]; rfl
        · rw [decide_eq_false h]; exact beq_eq_false_iff_ne.mpr fun e => h e.symm
    show Q (.bl (inV (.int i) [.int 0, .int 1])) H
    rw [e]
    exact q
  | str x hx =>
    refine op_in_seq pins s σ H _ _ v u Q I rx ry ⟨p, _, rfl, .inr hp, rfl, rfl, ?_⟩
    exact q
  | tup ht hts =>
    cases rx
    cases ry
    obtain ⟨its, r, pl, hz⟩ := I.tuple hp
    obtain ⟨its2, r2, pl2, hz2⟩ := I.tuple (SqT.of ht)
    have all : ∀ w ∈ its.toArray, SeqAt.EqAt X.A.in1 s w (.ref _) false := fun w hw => by
      cases r with
      | cons a1 r =>
        cases r with
        | cons a2 r =>
          cases r
          obtain ⟨t1, rfl⟩ := a1
          obtain ⟨t2, rfl⟩ := a2
          have z : w = .int 0 t1 ∨ w = .int 1 t2 := by simpa using hw
          rcases z with rfl | rfl
          · exact SeqAt.EqAt.int_tuple _ _ pl2 hu
          · exact SeqAt.EqAt.int_tuple _ _ pl2 hu
    refine SeqAt.in_tupleAt (fun _ => false) pl all ⟨.bl _, H, I, rfl, ?_⟩
    have e : its.toArray.any (fun _ => false) = false := by simp
    rw [e]
    exact q
end
/-! ### kinds throughout -/
mutual
def Th.kd : Th → PyData
  | .tup l => .list (.str "row" :: Th.kds l)
  | .bl _ => .list [.str "truth"]
  | .int _ => .list [.str "number"]
  | .str _ => .list [.str "word"]
  | .non => .list [.str "function"]
  | .fn _ => .list [.str "function"]
  | .oth => .list [.str "function"]
def Th.kds : List Th → List PyData
  | [] => []
  | t :: r => t.kd :: Th.kds r
end
theorem kds_app : ∀ a b : List Th, Th.kds (a ++ b) = Th.kds a ++ Th.kds b
  | [], b => by rw [Th.kds]; rfl
  | t :: r, b => by rw [List.cons_append, Th.kds, Th.kds, kds_app r b]; rfl
theorem row_ok : PyData.canLay0 (.str "row") = true := by decide +kernel
theorem leaf_kd {t : Th} (h : t.isTup = false) : t.kd = .list [.str t.kind] := by
  cases t <;> first | (cases h; done) | (rw [Th.kd]; rfl)
theorem kind_row {t : Th} (h : t.isTup = false) : t.kind ≠ "row" := by
  cases t with
  | tup _ => cases h
  | bl _ => exact (by decide +kernel : ("truth" : Str) ≠ "row")
  | int _ => exact (by decide +kernel : ("number" : Str) ≠ "row")
  | str _ => exact (by decide +kernel : ("word" : Str) ≠ "row")
  | non => exact (by decide +kernel : ("function" : Str) ≠ "row")
  | fn _ => exact (by decide +kernel : ("function" : Str) ≠ "row")
  | oth => exact (by decide +kernel : ("function" : Str) ≠ "row")
mutual
theorem kd_ok : ∀ t : Th, t.kd.canLay0 = true ∧ t.kd.depth ≤ t.depth + 1 ∧ PyData.eqv t.kd t.kd = true
  | .tup l => by
    obtain ⟨a, b, c⟩ := kds_ok l
    rw [Th.kd]
    refine ⟨?_, ?_, ?_⟩
    · simp only [PyData.canLay0, PyData.canLayAll0]
      rw [a]
      decide +kernel
    · simp only [PyData.depth, PyData.depthAll, Th.depth]
      omega
    · simp only [PyData.eqv, PyData.eqvAll]
      rw [c]
      decide +kernel
  | .bl _ => by rw [Th.kd]; exact ⟨by decide +kernel, by simp only [PyData.depth, PyData.depthAll]; omega, by decide +kernel⟩
  | .int _ => by rw [Th.kd]; exact ⟨by decide +kernel, by simp only [PyData.depth, PyData.depthAll]; omega, by decide +kernel⟩
  | .str _ => by rw [Th.kd]; exact ⟨by decide +kernel, by simp only [PyData.depth, PyData.depthAll]; omega, by decide +kernel⟩
  | .non => by rw [Th.kd]; exact ⟨by decide +kernel, by decide +kernel, by decide +kernel⟩
  | .fn _ => by rw [Th.kd]; exact ⟨by decide +kernel, by simp only [PyData.depth, PyData.depthAll]; omega, by decide +kernel⟩
  | .oth => by rw [Th.kd]; exact ⟨by decide +kernel, by decide +kernel, by decide +kernel⟩
theorem kds_ok : ∀ l : List Th, PyData.canLayAll0 (Th.kds l) = true ∧ PyData.depthAll (Th.kds l) ≤ Th.depthL l + 1 ∧ PyData.eqvAll (Th.kds l) (Th.kds l) = true
  | [] => by rw [Th.kds]; exact ⟨by decide +kernel, by decide +kernel, by decide +kernel⟩
  | t :: r => by
    obtain ⟨a, b, c⟩ := kd_ok t
    obtain ⟨a', b', c'⟩ := kds_ok r
    rw [Th.kds]
    refine ⟨?_, ?_, ?_⟩
    · simp only [PyData.canLayAll0]
      rw [a, a']
      rfl
    · simp only [PyData.depthAll, Th.depthL]
      omega
    · simp only [PyData.eqvAll]
      rw [c, c']
      rfl
end
theorem kd_shaped {t : Th} (h : t.depth ≤ 60) : SeqAt.shaped t.kd = true := by
  obtain ⟨a, b, _⟩ := kd_ok t
  unfold SeqAt.shaped
  rw [a, decide_eq_true (by omega)]
  rfl
/-! ### data in what is new -/
theorem sqt_ext {K : PySem.W.Frag} {H H' : Hp} {a : Addr} {xs : List V} (h : SqT K H a xs) (e : Same H H') : SqT K H' a xs :=
  h.elim (fun h => .inl (h.elim (fun h => .inl (e _ _ h)) fun ⟨o, h⟩ => .inr ⟨o, e _ _ h⟩)) fun h => .inr h
theorem sql_ext {K : PySem.W.Frag} {H H' : Hp} {a : Addr} {xs : List V} (h : SqL K H a xs) (e : Same H H') : SqL K H' a xs :=
  h.elim (fun h => .inl (h.elim (fun h => .inl (e _ _ h)) fun ⟨o, h⟩ => .inr ⟨o, e _ _ h⟩)) fun h => .inr h
mutual
theorem dp_same {K : PySem.W.Frag} {H H' : Hp} (s : Same H H') : ∀ {v : V} {d : PyData}, Dp K H v d → Dp K H' v d
  | _, _, .non => .non
  | _, _, .bl b => .bl b
  | _, _, .int i => .int i
  | _, _, .str x => .str x
  | _, _, .lst h r => .lst (sql_ext h s) (dps_same s r)
  | _, _, .tup h r => .tup (sqt_ext h s) (dps_same s r)
theorem dps_same {K : PySem.W.Frag} {H H' : Hp} (s : Same H H') : ∀ {vs : List V} {ds : List PyData}, DpAll K H vs ds → DpAll K H' vs ds
  | _, _, .nil => .nil
  | _, _, .cons h r => .cons (dp_same s h) (dps_same s r)
end
theorem dps_app {K : PySem.W.Frag} {H : Hp} : ∀ {vs ws : List V} {ds es : List PyData}, DpAll K H vs ds → DpAll K H ws es → DpAll K H (vs ++ ws) (ds ++ es)
  | _, _, _, _, .nil, s => s
  | _, _, _, _, .cons h r, s => .cons h (dps_app r s)
theorem dps_len {K : PySem.W.Frag} {H : Hp} : ∀ {vs : List V} {ds : List PyData}, DpAll K H vs ds → vs.length = ds.length
  | _, _, .nil => rfl
  | _, _, .cons h r => congrArg Nat.succ (dps_len r)
theorem kds_len : ∀ l : List Th, (Th.kds l).length = l.length
  | [] => rfl
  | t :: r => by rw [Th.kds, List.length_cons, List.length_cons, kds_len r]
/-- what of H' is not in H -/
def newp (H H' : Hp) : Hp := fun b => match H b with
  | none => H' b
  | some _ => none
theorem newp_none {H H' : Hp} {b : Addr} (h : H b = none) : newp H H' b = H' b := by
  unfold newp
  rw [h]
theorem newp_some {H H' : Hp} {b : Addr} {o : HO} (h : newp H H' b = some o) : H b = none ∧ H' b = some o := by
  unfold newp at h
  split at h
  · rename_i e
    exact ⟨e, h⟩
  · cases h
theorem newp_sub {H H' : Hp} : Same (newp H H') H' := fun b o e => (newp_some e).2
def spKinds (K : PySem.W.Frag) (m : Nat) : Sp := sp1 fun v H Q _ => ∃ t, Is (CF K) H v t ∧ t.worth false = true ∧ t.depth < m ∧ t.nodes ≤ 100000 ∧ ∀ u H', Same H H' → Dp K (newp H H') u t.kd → Q u H'
def spOtherD (K : PySem.W.Frag) (m : Nat) : Sp := sp2 fun v st H Q _ => ∃ t d l a ns, st = .ref d ∧ Is (CF K) H v t ∧ t.worth false = true ∧ t.depth < m ∧ t.nodes ≤ 100000 ∧ Dr K d l a ns H ∧ ns.length ≤ 63 ∧
  ∀ (u : V) (t' : Th) H', Dr K d l a ns H' → Fr d l H H' → Is (CF K) H' u t' → t'.worth false = true → t'.nodes ≤ t.nodes + 1 → t'.depth ≤ t.depth + 1 → t'.tmax ≤ t.tmax + 11 → Q u H'
section
variable {P : Program} {w : World} {K : PySem.W.Frag} {mg : Str → Option Value} {base : Heap}
theorem ok_law_kinds_none (F : FnP K mg "_law_kinds" s_law_kinds) : Cl P w K mg base 6 "_law_kinds" ["_law_worth_here"] (spKinds K 0) := by
  refine cl_1 F sc_law_kinds (fun _ _ _ _ _ _ us hl => match us, hl with | [_], _ => rfl) fun cdv A outer s H v Q E hr h => ?_
  obtain ⟨_, _, _, h, _⟩ := h
  omega
theorem ok_law_kinds {m : Nat} (F : FnP K mg "_law_kinds" s_law_kinds) (B_kind_of : Cl P w K mg base 5 "kind_of" ["worth"] (spKindOf K)) (B_law_kinds : Cl P w K mg base (6 + m) "_law_kinds" ["_law_worth_here"] (spKinds K m)) :
    Cl P w K mg base (6 + m + 1) "_law_kinds" ["_law_worth_here"] (spKinds K (m + 1)) := by
  refine cl_1 F sc_law_kinds (fun _ _ _ _ _ _ us hl => match us, hl with | [_], _ => rfl) fun cdv A outer s H v Q E hr h => ?_
  obtain ⟨t, h, wt, hd, hn, q⟩ := h
  refine ⟨_, PSs.nox (pss_cons (ps_if (pt_cmpR op_eq (pe_b B_kind_of hr (by omega) rfl passL (pa_cons (pv 0) pa_nil)) pe_str (nomark _)) (pss_one (ps_ret (pe_op op_cat (pe_lst (pa_cons pe_str pa_nil)) (pe_lc (own := [("_law_part", 1)]) (g := gName 1) (tt := tYes) rfl sc_law_kinds.nd (pi_tup (pv 0)) (blkOk_by (own := [("_law_part", 1)]) (N := ["_law_worth_here", "_law_part"]) (sc := defScope s_law_kinds) (by decide +kernel)) (fun _ _ _ _ _ => (pg_name (i := 1) sc_law_kinds.nd rfl (Or.inl rfl))) (fun _ _ _ _ _ => pts_nil) (fun _ _ _ _ _ => (pe_b B_law_kinds hr (Nat.le_refl _) rfl passL (pa_cons (pv 1) pa_nil))))))) pss_nil) (pss_one (ps_ret (pe_lst (pa_cons (pe_b B_kind_of hr (by omega) rfl passL (pa_cons (pv 0) pa_nil)) pa_nil))))), ?_⟩
  have wu := worth_up wt
  refine ⟨_, rfl, _, rfl, t, h, by omega, fun _ H1 s1' => ⟨rfl, _, rfl, ?_⟩, fun z => by rw [wu] at z; cases z⟩
  have h1 := h.same s1'
  cases it : t.isTup with
  | false =>
    have e : decide (V.str t.kind = V.str "row") = false := decide_eq_false fun z => by
      injection z with z
      exact kind_row it z
    rw [e]
    refine iteF (stepN ?_)
    refine ⟨_, rfl, _, rfl, t, h1, by omega, fun _ H2 s2' => ⟨Fl.s1, fun p np => ?_⟩, fun z => by rw [wu] at z; cases z⟩
    have S2 := s1'.trans s2'
    refine q _ _ (S2.trans (same_new np _)) ?_
    rw [leaf_kd it]
    refine .lst (SqL.of ?_) (.cons (.str _) .nil)
    rw [newp_none (S2.free np)]
    exact upd_same
  | true =>
    cases h1 with
    | tup ht hts =>
      rename_i p zs l wu'
      have e : decide (V.str (Th.tup l).kind = V.str "row") = true := decide_eq_true rfl
      rw [e]
      simp only [Th.depth] at hd
      simp only [Th.nodes] at hn
      have hw' : Th.worths false l = true := by simpa [Th.worth] using wt
      have hln := len_nodesL l
      have hll := hts.len
      refine iteT ⟨Fl.s1, fun R nR => ⟨_, rfl, p, rfl, ⟨_, SqT.of ((same_new nR _) _ _ ht)⟩, fun D nD => ?_⟩⟩
      have sR := same_new nR (.lst [.str "row"])
      have htR := sR _ _ ht
      have hR : (upd H1 R (.lst [.str "row"])) R = some (.lst [.str "row"]) := upd_same
      have itR := hts.same sR
      have sHR := s1'.trans sR
      have nRH := s1'.free nR
      generalize upd H1 R (.lst [.str "row"]) = HR at nD htR hR itR sHR ⊢
      refine lc_it (walk_tup (K := K) (a := p) (xs := zs)) (fun i H' => ∃ xs, Same HR H' ∧ H' D = some (.lst xs) ∧ DpAll K (newp (upd HR D (.lst [])) H') xs (Th.kds (l.take i))) ⟨[], same_new nD _, upd_same, .nil⟩ (fun _ _ _ z => by obtain ⟨_, z, _⟩ := z; exact SqT.of (z _ _ htR)) ?_ ?_
      · rintro i y H2 H3 hi ⟨xs, r1, r2, r3⟩ ⟨rfl, hy⟩
        obtain ⟨t1, e1, g1⟩ := itR.get hy
        have me := List.mem_of_getElem? e1
        have dm := depth_mem me
        have nm := nodes_mem me
        have w1 := worth_mem me hw'
        refine ⟨rfl, _, rfl, _, rfl, t1, g1.same r1, w1, by omega, by omega, fun u H4 s4 k4 => ⟨xs, s4 _ _ r2, ?_, xs ++ [u], same_mut (r1.trans s4) nD, upd_same, ?_⟩⟩
        · have z := dps_len r3
          rw [kds_len, List.length_take] at z
          rw [sizeLine_eq]
          omega
        · rw [take_snoc e1, kds_app]
          refine dps_app (dps_same (fun b o z => ?_) r3) (.cons (dp_same (fun b o z => ?_) k4) .nil)
          · obtain ⟨z1, z2⟩ := newp_some z
            have bD : b ≠ D := fun y => by rw [y, upd_same] at z1; cases z1
            rw [newp_none z1, upd_ne bD]
            exact s4 _ _ z2
          · obtain ⟨z1, z2⟩ := newp_some z
            have bD : b ≠ D := fun y => by rw [y, r2] at z1; cases z1
            rw [newp_none, upd_ne bD]
            · exact z2
            · rw [upd_ne bD]
              exact r1.free z1
      · rintro H2 ⟨xs, r1, r2, r3⟩
        rw [hll, List.take_length] at r3
        have z := dps_len r3
        rw [kds_len] at z
        refine ⟨R, D, _, _, rfl, rfl, r1 _ _ hR, r2, ?_, fun P1 nP => ?_⟩
        · show 1 + _ ≤ _
          rw [sizeLine_eq]
          omega
        have S2 := sHR.trans r1
        refine q _ _ (S2.trans (same_new nP _)) ?_
        rw [Th.kd]
        refine .lst (SqL.of (xs := .str "row" :: xs) ?_) (.cons (.str _) (dps_same (fun b o y => ?_) r3))
        · rw [newp_none (S2.free nP)]
          exact upd_same
        · obtain ⟨z1, z2⟩ := newp_some y
          have bD : b ≠ D := fun y => by rw [y, upd_same] at z1; cases z1
          rw [upd_ne bD] at z1
          rw [newp_none (sHR.free z1), upd_ne (ne_of_none z2 nP)]
          exact z2
    | bl _ => cases it
    | int _ => cases it
    | str _ _ => cases it
    | fn _ _ => cases wt
    | non => cases wt
    | lst _ => cases wt
    | dct _ => cases wt
theorem d4k {n : Int} : CDiv n 4 := ⟨by decide, by decide⟩
theorem tmax_pos (t : Th) : 2 ≤ t.tmax := by cases t <;> simp only [Th.tmax] <;> omega
theorem tmax_mem {t : Th} : ∀ {l : List Th}, t ∈ l → t.tmax + 1 ≤ Th.tmaxL l
  | u :: r, h => by
    rw [Th.tmaxL]
    rcases List.mem_cons.mp h with rfl | h
    · omega
    · have := tmax_mem h
      omega
theorem ok_law_otherwise_none (F : FnP K mg "_law_otherwise" s_law_otherwise) : Cl P w K mg base 3 "_law_otherwise" ["_law_worth_here", "_law_state"] (spOtherD K 0) := by
  refine cl_2 F sc_law_otherwise (fun _ _ _ _ _ _ us hl => match us, hl with | [_, _], _ => rfl) fun cdv A outer s H v b Q E hr h => ?_
  obtain ⟨_, _, _, _, _, _, _, _, h, _⟩ := h
  omega
theorem ok_law_otherwise {m : Nat} (F : FnP K mg "_law_otherwise" s_law_otherwise) (T : Ts K mg) (B_law_next : Cl P w K mg base 2 "_law_next" ["_law_state"] (spNext K)) (B_law_otherwise : Cl P w K mg base (3 + m) "_law_otherwise" ["_law_worth_here", "_law_state"] (spOtherD K m)) :
    Cl P w K mg base (3 + m + 1) "_law_otherwise" ["_law_worth_here", "_law_state"] (spOtherD K (m + 1)) := by
  refine cl_2 F sc_law_otherwise (fun _ _ _ _ _ _ us hl => match us, hl with | [_, _], _ => rfl) fun cdv A outer s H v b Q E hr h => ?_
  obtain ⟨t, d, l0, a, ns, rfl, h0, wt, hd, hn, r0, hns, q0⟩ := h
  refine ⟨_, PSs.nox (pss_cons (ps_set (i := 2) sc_law_otherwise.nd rfl (Or.inl rfl) (pe_b B_law_next hr (by omega) rfl passL (pa_cons (pv 1) pa_nil))) (pss_cons (ps_if (PW.pt (pw_or (pt_not (pt_val (pe_callB call_isi rfl T.z_isinstance PyProof.Rows.boot_isinstance (pa_cons (pv 0) (pa_cons (pe_bltn (v := .ty "tuple") rfl T.z_tuple (by decide +kernel) rfl) pa_nil))))) (pw_or (pt_cmpR (op_eqTN hr.units0) (pv 0) (pe_tup pa_nil) (nomark _)) (pw_or1 (pt_cmpR op_eq (pe_op op_mod (pv 2) pe_int) pe_int (nomark _)))))) (pss_cons (ps_if (pt_val (pe_callB call_isi rfl T.z_isinstance PyProof.Rows.boot_isinstance (pa_cons (pv 0) (pa_cons (pe_bltn (v := .ty "bool") rfl T.z_bool (by decide +kernel) rfl) pa_nil)))) (pss_one (ps_ret (pe_callTy call_int1 rfl T.z_int PyProof.Rows.boot_int (pa_cons (pv 0) pa_nil)))) pss_nil) (pss_cons (ps_if (pt_cmpR (op_in01 (hu1 hr)) (pv 0) (pe_tup (pa_cons pe_int (pa_cons pe_int pa_nil))) rfl) (pss_one (ps_ret (pe_cmpR op_eq (pv 0) pe_int (nomark _)))) pss_nil) (pss_one (ps_ret (pe_ix ix_list (pe_lst (pa_cons (pe_tup (pa_cons (pv 0) pa_nil)) (pa_cons (pe_tup pa_nil) (pa_cons pe_str (pa_cons pe_int pa_nil))))) (pe_op op_mod (pe_op op_fdiv (pv 2) pe_int) pe_int) (fun _ _ => rfl)))))) pss_nil) (pss_cons (ps_set (i := 3) sc_law_otherwise.nd rfl (Or.inl rfl) (pe_op op_mod (pe_op op_fdiv (pv 2) pe_int) (pe_callB call_len_seq rfl T.z_len PySem.boot_len (pa_cons (pv 0) pa_nil)))) (pss_cons (ps_if (pt_cmpR op_eq (pe_op op_mod (pv 2) pe_int) pe_int (nomark _)) (pss_one (ps_ret (pe_op op_catA (pe_slice sl_tupA (pv 0) po_none (po_some (pv 3))) (pe_tup (pa_cons (pe_slice sl_tupA (pv 0) (po_some (pv 3)) po_none) pa_nil))))) pss_nil) (pss_one (ps_ret (pe_op op_catA (pe_op op_catA (pe_slice sl_tupA (pv 0) po_none (po_some (pv 3))) (pe_tup (pa_cons (pe_b B_law_otherwise hr (Nat.le_refl _) rfl passL (pa_cons (pe_ix ix_tup (pv 0) (pv 3) (fun _ _ => rfl)) (pa_cons (pv 1) pa_nil))) pa_nil))) (pe_slice sl_tupA (pv 0) (po_some (pe_op op_add (pv 3) pe_int)) po_none)))))))), ?_⟩
  refine ⟨_, rfl, _, rfl, d, l0, a, ns, rfl, r0, hns, fun n H0 r f0 n0 n1 => ?_⟩
  have h := h0.ik (im_fr r0 r f0)
  refine stepG ?_
  dsimp only
  have tn := t.nodes_pos
  have tp := tmax_pos t
  have q : ∀ (u : V) (t' : Th) H', Dr K d l0 a ns H' → Fr d l0 H0 H' → Is (CF K) H' u t' → t'.worth false = true → t'.nodes ≤ t.nodes + 1 → t'.depth ≤ t.depth + 1 → t'.tmax ≤ t.tmax + 11 → Q u H' := fun u t' H' g1 g2 => q0 u t' H' g1 (f0.trans g2)
  clear q0 r0 h0 f0
  have qs : ∀ (u : V) (t' : Th) H', Same H0 H' → Is (CF K) H' u t' → t'.worth false = true → t'.nodes ≤ t.nodes + 1 → t'.depth ≤ t.depth + 1 → t'.tmax ≤ t.tmax + 11 → Q u H' := fun u t' H' s => q u t' H' (r.same s) (fr_same s)
  refine join_t (T := tOr _ _ _ _) (fun k => (∀ H1, Same H0 H1 → k true H1) ∧ (∀ H1 p zs l, Same H0 H1 → v = .ref p → t = .tup l → H0 p = some (.tup zs) → Iss (CF K) H0 zs l → zs ≠ [] → k false H1)) ⟨fun H1 s1' => ?_, fun H1 p zs l s1' ev et ht hts ne => ?_⟩ (fun k hk => ?_)
  · refine iteT ?_
    have h2 := h.same s1'
    obtain ⟨u2, y2, k2⟩ := is_bool T.kf h2
    refine ⟨_, rfl, _, _, u2, _, _, rfl, .ty _, y2, k2, _, rfl, ?_⟩
    cases ib : t.isBl with
    | true =>
      cases h2 with
      | bl b =>
        refine iteT ⟨_, rfl, .inr ⟨_, rfl, qs _ (.int _) _ s1' (.int _) ?_ (by simp only [Th.nodes]; omega) (by simp only [Th.depth]; omega) (by simp only [Th.tmax]; omega)⟩⟩
        cases b <;> decide +kernel
      | int _ => cases ib
      | str _ _ => cases ib
      | tup _ _ => cases ib
      | fn _ _ => cases ib
      | non => cases ib
      | lst _ => cases ib
      | dct _ => cases ib
    | false =>
      refine iteF (stepN ?_)
      refine ⟨_, rfl, s2, fun p2' np2 => ⟨p2', CF K, t, rfl, SqT.of upd_same, h2.same (same_new np2 _), wt, _, rfl, ?_⟩⟩
      have S2' := s1'.trans (same_new np2 (.tup [.int 0, .int 1]))
      generalize upd H1 p2' (.tup [.int 0, .int 1]) = H2 at S2' ⊢
      have h3 := h.same S2'
      cases e01 : in01 t with
      | true =>
        cases h3 with
        | int i => exact iteT ⟨_, rfl, rfl, qs _ (.bl _) _ S2' (.bl _) rfl (by simp only [Th.nodes]; omega) (by simp only [Th.depth]; omega) (by simp only [Th.tmax]; omega)⟩
        | bl _ => cases ib
        | str _ _ => cases e01
        | tup _ _ => cases e01
        | fn _ _ => cases wt
        | non => cases wt
        | lst _ => cases wt
        | dct _ => cases wt
      | false =>
        refine iteF (stepN ?_)
        refine ⟨_, rfl, Fl.s1, fun a1 m1 => ⟨(by show 0 ≤ sizeLine; decide), fun a2 m2 => ⟨(by show 4 ≤ sizeLine; decide), fun a3 m3 => ?_⟩⟩⟩
        refine ⟨_, rfl, _, _, rfl, rfl, d4k, _, _, rfl, rfl, p4, ?_⟩
        have i0 := Int.emod_nonneg (n / 4) (show (4 : Int) ≠ 0 by decide)
        have i1 := Int.emod_lt_of_pos (n / 4) p4
        obtain ⟨j, ej⟩ : ∃ j : Nat, n / 4 % 4 = (j : Int) := ⟨(n / 4 % 4).toNat, by omega⟩
        have k3 := same_new m3 (.lst [.ref a1, .ref a2, .str "x", .int 1])
        have k2 := (same_new m2 (.tup [])).trans k3
        have ks := (same_new m1 (.tup [v])).trans k2
        have S3 := S2'.trans ks
        have e1 := k2 _ _ (upd_same (H := H2) (a := a1) (o := .tup [v]))
        have e2 := k3 _ _ (upd_same (a := a2) (o := .tup []))
        have e3 := upd_same (H := upd (upd H2 a1 (.tup [v])) a2 (.tup [])) (a := a3) (o := .lst [.ref a1, .ref a2, .str "x", .int 1])
        rcases (by omega : j = 0 ∨ j = 1 ∨ j = 2 ∨ j = 3) with rfl | rfl | rfl | rfl
        · exact ⟨a3, _, _, _, rfl, rfl, SqL.of e3, (by rw [ej]; rfl), qs _ (.tup [t]) _ S3 (.tup e1 (.one (h3.same ks))) (by rw [Th.worth, Th.worths, wt]; rfl) (by simp only [Th.nodes, Th.nodesL]; omega) (by simp only [Th.depth, Th.depthL]; omega) (by simp only [Th.tmax, Th.tmaxL]; omega)⟩
        · exact ⟨a3, _, _, _, rfl, rfl, SqL.of e3, (by rw [ej]; rfl), qs _ (.tup []) _ S3 (.tup e2 .nil) (by decide) (by simp only [Th.nodes, Th.nodesL]; omega) (by simp only [Th.depth, Th.depthL]; omega) (by simp only [Th.tmax, Th.tmaxL]; omega)⟩
        · exact ⟨a3, _, _, _, rfl, rfl, SqL.of e3, (by rw [ej]; rfl), qs _ (.str "x") _ S3 (.str _ (by decide)) (by decide +kernel) (by simp only [Th.nodes]; omega) (by simp only [Th.depth]; omega) (by simp only [Th.tmax]; omega)⟩
        · exact ⟨a3, _, _, _, rfl, rfl, SqL.of e3, (by rw [ej]; rfl), qs _ (.int 1) _ S3 (.int _) (by decide +kernel) (by simp only [Th.nodes]; omega) (by simp only [Th.depth]; omega) (by simp only [Th.tmax]; omega)⟩
  · subst ev
    subst et
    refine iteF (stepN ?_)
    dsimp only
    have hz : 0 < zs.length := by
      cases zs with
      | nil => exact absurd rfl ne
      | cons _ _ => exact Nat.zero_lt_succ _
    have hll := hts.len
    have hl := len_nodesL l
    have hp := s1' _ _ ht
    have pl : (0 : Int) < ((zs.length : Nat) : Int) := by omega
    have wl : Th.worths false l = true := by simpa [Th.worth] using wt
    simp only [Th.depth] at hd
    simp only [Th.nodes, Th.depth, Th.tmax] at hn q qs
    have wpart : ∀ i, Th.worths false (l.take i) = true ∧ Th.worths false (l.drop i) = true := fun i => by
      have z := List.take_append_drop i l
      rw [← z, worths_app, Bool.and_eq_true] at wl
      exact wl
    have npart : ∀ i, Th.nodesL (l.take i) + Th.nodesL (l.drop i) = Th.nodesL l := fun i => by
      rw [← nodesL_app, List.take_append_drop]
    have tpart : ∀ i, Th.tmaxL (l.take i) + Th.tmaxL (l.drop i) = Th.tmaxL l := fun i => by
      rw [← tmaxL_app, List.take_append_drop]
    have dpart : ∀ i, max (Th.depthL (l.take i)) (Th.depthL (l.drop i)) = Th.depthL l := fun i => by
      rw [← depthL_app, List.take_append_drop]
    refine ⟨_, rfl, _, _, rfl, rfl, d4k, _, rfl, p, _, rfl, .inr (SqT.of hp), _, _, rfl, rfl, pl, ?_⟩
    refine stepG ?_
    dsimp only
    have i0 : 0 ≤ n / 4 % (zs.length : Nat) := Int.emod_nonneg _ (by omega)
    have i1 : n / 4 % (zs.length : Nat) < (zs.length : Nat) := Int.emod_lt_of_pos _ pl
    obtain ⟨j, ej⟩ : ∃ j : Nat, n / 4 % (zs.length : Nat) = (j : Int) := ⟨(n / 4 % (zs.length : Nat)).toNat, by omega⟩
    have ej0 : (n / 4 % (zs.length : Nat)).toNat = j := by omega
    have ej1 : (n / 4 % (zs.length : Nat) + 1).toNat = j + 1 := by omega
    have hj : j < zs.length := by omega
    refine ⟨_, rfl, _, _, rfl, rfl, p4, rfl, _, rfl, ite2 (fun c => ?_) (fun c => ?_)⟩
    · -- parted
      refine ⟨_, rfl, _, rfl, _, rfl, rd_take hp i0 fun q1 H2 t1s e1 => ?_⟩
      rw [ej0] at e1
      refine ⟨_, rfl, _, rfl, _, rfl, ?_⟩
      unfold tNoPart
      show rSlA K (.ref p) (some (n / 4 % (zs.length : Nat))) none H2 _
      refine rd_drop (t1s _ _ hp) i0 fun q2 H3 t2s e2 => ⟨Fl.s1, fun q3 n3 => ?_⟩
      rw [ej0] at e2
      have s3 := same_new n3 (.tup [.ref q2])
      have zl : (zs.take j).length ≤ zs.length := List.length_take_le' _ _
      refine rd_cat ((t2s.trans s3) _ _ e1) upd_same (by rw [List.length_singleton, sizeLine_eq]; omega) fun q4 H5 s5 e5 => ?_
      have S5 := s1'.trans (t1s.trans (t2s.trans (s3.trans s5)))
      have np := npart j
      have tp' := tpart j
      have dp := dpart j
      refine qs _ (.tup (l.take j ++ [.tup (l.drop j)])) _ S5 (.tup e5 (((hts.take j).same S5).app (.one (.tup ((s3.trans s5) _ _ e2) ((hts.drop j).same S5))))) ?_ ?_ ?_ ?_
      · rw [Th.worth, worths_app, Th.worths, Th.worths, Th.worth, (wpart j).1, (wpart j).2]
        rfl
      · rw [Th.nodes, nodesL_app, Th.nodesL, Th.nodesL, Th.nodes]
        omega
      · rw [Th.depth, depthL_app, Th.depthL, Th.depthL, Th.depth]
        omega
      · rw [Th.tmax, tmaxL_app, Th.tmaxL, Th.tmaxL, Th.tmax]
        omega
    · obtain ⟨x, hx⟩ : ∃ x, zs[j]? = some x := ⟨_, List.getElem?_eq_getElem hj⟩
      obtain ⟨t1, ht1, hx1⟩ := hts.get hx
      have me := List.mem_of_getElem? ht1
      have dm := depth_mem me
      have nm := nodes_mem me
      have ax : atI zs (n / 4 % (zs.length : Nat)) = some x := by
        rw [ej]
        exact atI_nat hx
      refine ⟨_, rfl, _, rfl, _, rfl, rd_take hp i0 fun q1 H2 t1s e1 => ?_⟩
      rw [ej0] at e1
      have hp1 := t1s _ _ hp
      have st1 := s1'.trans t1s
      have r2 := r.same st1
      refine ⟨_, rfl, _, rfl, p, zs, _, _, rfl, rfl, SqT.of hp1, ax, _, rfl, _, _, rfl, t1, d, l0, a, ns, rfl, hx1.same st1, worth_mem me wl, by omega, by omega, r2, hns, fun u t2 H3 g1 g2 g3 g4 g5 g6 g7 => ⟨Fl.s1, fun q2 n2 => ?_⟩⟩
      have im := im_fr r2 g1 g2
      have s3 := same_new n2 (.tup [u])
      have zl : (zs.take j).length ≤ zs.length := List.length_take_le' _ _
      refine rd_cat (s3 _ _ (im.1 _ _ e1)) upd_same (by rw [List.length_singleton, sizeLine_eq]; omega) fun q3 H4 s4' e3 => ?_
      refine ⟨_, rfl, _, rfl, _, _, rfl, rfl, _, rfl, ?_⟩
      unfold tNoPart
      show rSlA K (.ref p) (some (n / 4 % (zs.length : Nat) + 1)) none H4 _
      have s34 := s3.trans s4'
      refine rd_drop (s34 _ _ (im.1 _ _ hp1)) (Int.add_nonneg i0 (by decide)) fun q4 H5 s5' e4 => ?_
      rw [ej1] at e4
      refine rd_cat (s5' _ _ e3) e4 ?_ fun q5 H6 s6' e5 => ?_
      · have := List.length_drop (i := j + 1) (l := zs)
        rw [List.length_append, List.length_singleton, this, sizeLine_eq]
        omega
      have s36 := s34.trans (s5'.trans s6')
      have parts : l = (l.take j ++ [t1]) ++ l.drop (j + 1) := by
        rw [← take_snoc ht1, List.take_append_drop]
      have nn : Th.nodesL l = Th.nodesL (l.take j) + t1.nodes + Th.nodesL (l.drop (j + 1)) := by
        conv => lhs; rw [parts]
        rw [nodesL_app, nodesL_app, Th.nodesL, Th.nodesL]
        omega
      have tt : Th.tmaxL l = Th.tmaxL (l.take j) + (t1.tmax + 1) + Th.tmaxL (l.drop (j + 1)) := by
        conv => lhs; rw [parts]
        rw [tmaxL_app, tmaxL_app, Th.tmaxL, Th.tmaxL]
        try omega
      have dd : Th.depthL l = max (max (Th.depthL (l.take j)) t1.depth) (Th.depthL (l.drop (j + 1))) := by
        conv => lhs; rw [parts]
        rw [depthL_app, depthL_app, Th.depthL, Th.depthL]
        try omega
      have it1 := ((hts.take j).same st1).ik im
      have it2 := ((hts.drop (j + 1)).same st1).ik im
      refine q _ (.tup ((l.take j ++ [t2]) ++ l.drop (j + 1))) _ (g1.same s36) (((fr_same st1).trans g2).trans (fr_same s36)) (.tup e5 (((it1.same s36).app (.one (g3.same s36))).app (it2.same s36))) ?_ ?_ ?_ ?_
      · rw [Th.worth, worths_app, worths_app, Th.worths, Th.worths, g4, (wpart j).1, (wpart (j + 1)).2]
        rfl
      · rw [Th.nodes, nodesL_app, nodesL_app, Th.nodesL, Th.nodesL]
        omega
      · rw [Th.depth, depthL_app, depthL_app, Th.depthL, Th.depthL]
        omega
      · rw [Th.tmax, tmaxL_app, tmaxL_app, Th.tmaxL, Th.tmaxL]
        omega
  · obtain ⟨hk1, hk2⟩ := hk
    obtain ⟨u1, y1, k1⟩ := is_tup T.kf h
    refine ⟨_, rfl, _, _, u1, _, _, rfl, .ty _, y1, k1, _, rfl, ?_⟩
    cases h with
    | tup ht hts =>
      refine iteF ⟨_, rfl, (by show 0 ≤ sizeLine; decide), fun a0 m0 => ⟨_, a0, _, rfl, rfl, (same_new m0 _) _ _ ht, upd_same, _, rfl, ?_⟩⟩
      refine ite2 (fun c1 => hk1 _ (same_new m0 _)) (fun c1 => ⟨_, rfl, _, _, rfl, rfl, p4, rfl, _, rfl, ?_⟩)
      cases (decide (V.int (n % 4) = V.int 0)) with
      | true => exact hk1 _ (same_new m0 _)
      | false => exact hk2 _ _ _ _ (same_new m0 _) rfl rfl ht hts (fun z => c1 (by rw [z]; rfl))
    | bl _ => exact iteT (hk1 _ (.refl _))
    | int _ => exact iteT (hk1 _ (.refl _))
    | str _ _ => exact iteT (hk1 _ (.refl _))
    | fn _ _ => cases wt
    | non => cases wt
    | lst _ => cases wt
    | dct _ => cases wt
end
end Fl
/-! methods by name -/
namespace Fl
open PySem PySem.Spec PyProof.Rows L2
structure Mt (P : Program) (w : World) (K : PySem.W.Frag) (mg : Str → Option Value) (base : Heap) (k : Nat) (C : Addr) (m : Str) (ps : List Str) (sp : Sp) : Prop where
  ex : ∃ f fd, Cls K C ∧ Meth K C m f ∧ FnOk P w K mg base (L2.CX P w) k f fd ps sp ∧ Binds K fd ps []
section
variable {X : Cx} {k j : Nat} {C : Addr} {m : Str} {ps : List Str} {sp : Sp} {E : XK} {p pos apos : Pos} {e o : Expr} {es : List Expr} {ta : TE} {t : TA}
theorem pe_mb0 {pl : Sem Bool} (c : Mt X.prog X.w X.K X.mg X.base k C m ps sp) (hr : Room j X.A) (hk : k ≤ j) (hx : Passes (L2.CX X.prog X.w) X E) (he : PE X o ta)
    (ht : eval (.Call (.Attribute o m apos) [] [] pos) X.env = (do
      let ov ← eval o X.env; standAt apos.atName
      let (f, first) ← holding [ov] (getMethod ov m pl); callWith pos f first (backTo pos (starEach [] X.env)) (backToKw pos (keywordEach [] X.env))) := by rfl) : PE X (.Call (.Attribute o m apos) [] [] pos) (tMeth C m sp [] E ta tNil) := by
  obtain ⟨f, fd, cl, M, F, b⟩ := c.ex
  exact pe_meth0 he cl M F (hr.mono hk) b .nil hx ht
theorem pe_mb {pl : Sem Bool} (c : Mt X.prog X.w X.K X.mg X.base k C m ps sp) (hr : Room j X.A) (hk : k ≤ j) (hx : Passes (L2.CX X.prog X.w) X E) (he : PE X o ta) (ha : PA X (e :: es) t)
    (hst : starEach (e :: es) X.env = (false, eval e X.env) :: starEach es X.env := by rfl) (hpl : (backTo pos (starEach es X.env)).any (·.1) = false := by rfl)
    (ht : eval (.Call (.Attribute o m apos) (e :: es) [] pos) X.env = (do
      let ov ← eval o X.env; standAt apos.atName
      let (f, first) ← holding [ov] (getMethod ov m pl); callWith pos f first (backTo pos (starEach (e :: es) X.env)) (backToKw pos (keywordEach [] X.env))) := by rfl) : PE X (.Call (.Attribute o m apos) (e :: es) [] pos) (tMeth C m sp [] E ta t) := by
  obtain ⟨f, fd, cl, M, F, b⟩ := c.ex
  exact pe_meth he cl M F (hr.mono hk) b .nil hx ha hst hpl ht
end
theorem meth_ok {K : PySem.W.Frag} {x m : Str} (c : (He.Fa.meth x m).ok K = true) : Meth K (He.ga K x) m (He.ma K (He.ga K x) m) := by
  obtain ⟨h1, h2⟩ := He.ba c
  obtain ⟨h2, h3⟩ := He.ba h2
  exact ⟨He.eqO_ok h1, h2, h3⟩
end Fl
namespace Fl
open PySem PySem.Spec PyProof.Rows L2
open SX (S)
abbrev s_law : Stmt := top 42
theorem sc_law : FnScope ["_law_script", "_law_state", "_law_words", "_law_turn", "_law_one", "_law_other", "_law_third", "_law_some", "_law_mine", "_law_yours", "_law_word"] ["_law_script"] (defScope s_law) := ⟨rfl, rfl, rfl, by decide +kernel, rfl, by decide +kernel, by decide +kernel⟩
mutual
theorem same_eq : ∀ t u : Th, t.worth false = true → (t.same u = true ↔ t = u)
  | .non, u, w => by cases w
  | .fn _, u, w => by cases w
  | .oth, u, w => by cases w
  | .bl a, u, _ => by
    cases u with
    | bl b => rw [Th.same, beq_iff_eq]; exact ⟨fun h => by rw [h], fun h => by injection h⟩
    | _ => exact ⟨fun h => (by cases h), fun h => (by cases h)⟩
  | .int a, u, _ => by
    cases u with
    | int b => rw [Th.same, beq_iff_eq]; exact ⟨fun h => by rw [h], fun h => by injection h⟩
    | _ => exact ⟨fun h => (by cases h), fun h => (by cases h)⟩
  | .str a, u, _ => by
    cases u with
    | str b => rw [Th.same, decide_eq_true_iff]; exact ⟨fun h => by rw [h], fun h => by injection h⟩
    | _ => exact ⟨fun h => (by cases h), fun h => (by cases h)⟩
  | .tup a, u, w => by
    cases u with
    | tup b =>
      rw [Th.same, sames_eq a b (by simpa [Th.worth] using w)]
      exact ⟨fun h => by rw [h], fun h => by injection h⟩
    | _ => exact ⟨fun h => (by cases h), fun h => (by cases h)⟩
theorem sames_eq : ∀ l m : List Th, Th.worths false l = true → (Th.sames l m = true ↔ l = m)
  | [], [], _ => by rw [Th.sames]; exact ⟨fun _ => rfl, fun _ => rfl⟩
  | [], u :: m, _ => ⟨fun h => (by cases h), fun h => (by cases h)⟩
  | t :: l, [], _ => ⟨fun h => (by cases h), fun h => (by cases h)⟩
  | t :: l, u :: m, w => by
    rw [Th.worths, Bool.and_eq_true] at w
    rw [Th.sames, Bool.and_eq_true, same_eq t u w.1, sames_eq l m w.2]
    exact ⟨fun h => by rw [h.1, h.2], fun h => by injection h with h1 h2; exact ⟨h1, h2⟩⟩
end
def words16 : List Str := ["quote", "if", "fn", "rec", "let", "run", "add", "less", "times", "below", "same", "join", "first", "rest", "kind", "row"]
theorem split16 : Txt.split ("quote if fn rec let run add less times below same join first rest kind row" : Str) (" " : Str) = words16 := by decide +kernel
theorem words16_ok : words16.all wordB = true := by decide +kernel
theorem data16 : (SeqAt.shaped (.list (words16.map PyData.str)) && SeqAt.shaped (.tuple (words16.map PyData.str)) && PyData.eqv (.list (words16.map PyData.str)) (.list (words16.map PyData.str)) && PyData.eqv (.tuple (words16.map PyData.str)) (.tuple (words16.map PyData.str))) = true := by decide +kernel
theorem dp_strs {K : PySem.W.Frag} {H : Hp} : ∀ ws : List Str, DpAll K H (ws.map V.str) (ws.map PyData.str)
  | [] => .nil
  | x :: r => .cons (.str x) (dp_strs r)
structure Tw6 (K : PySem.W.Frag) (mg : Str → Option Value) : Prop where
  z_tuple : mg "tuple" = none
  z_range : mg "range" = none
  z_min : mg "min" = none
  z_len : mg "len" = none
  g_WORDS : mg "WORDS" = some (.ref (He.ga K "WORDS"))
  wds : ∃ o its n, K.lookup (He.ga K "WORDS") = some o ∧ o.cls = .type "tuple" ∧ o.data = .seq its n ∧ its.size ≤ sizeLine ∧ Vals (words16.map V.str) its.toList
structure Go6 (t : Th) : Prop where
  w : t.worth false = true
  n : t.nodes ≤ 20000
  d : t.depth ≤ 8
  l : (textP t).length ≤ 20000
theorem d2v {n : Int} : CDiv n 2 := ⟨by decide, by decide⟩
theorem text_same {t u : Th} (ht : Go6 t) (hu : Go6 u) : decide (V.str (S (textP t)) = V.str (S (textP u))) = t.same u := by
  have e := same_eq t u ht.w
  by_cases h : t = u
  · subst h
    rw [e.mpr rfl]
    exact decide_eq_true rfl
  · have f : t.same u = false := by
      cases z : t.same u with
      | false => rfl
      | true => exact absurd (e.mp z) h
    rw [f]
    refine decide_eq_false fun z => h ?_
    injection z with z
    have z := SX.S_inj z
    have a := read_text ht.w (Nat.le_trans ht.d (by decide)) ht.l
    have b := read_text hu.w (Nat.le_trans hu.d (by decide)) hu.l
    rw [z, b] at a
    injection a with a
    exact a.symm
def spFldF (K : PySem.W.Frag) (g : V → V → V → V → V) : Sp := fun vs H Q _ => ∃ (x dx : Addr) (n b s o : V), vs = [.ref x] ∧ H x = some (.ins (CF K) dx (fnF n b s o)) ∧ Q (g n b s o) H
def spLaw (K : PySem.W.Frag) : Sp := sp1 fun v H Q _ => ∃ (a : Addr) (ns : List Int), v = .ref a ∧ Scr K H a (ns.map V.int) ∧ ns.length ≤ 63 ∧ ∀ H', Q (.bl true) H'
section
variable {P : Program} {w : World} {K : PySem.W.Frag} {mg : Str → Option Value} {base : Heap}
theorem mt_names (F : MtP K (CF K) "names" "Function.names" s_Function_names) (T : Tc K) (M : Meth K (CF K) "names" (He.ma K (CF K) "names")) : Mt P w K mg base 1 (CF K) "names" ["self"] (spFldF K fun n _ _ _ => n) := by
  obtain ⟨fd, h1, h2⟩ := mt_mk (P := P) (w := w) (mg := mg) (base := base) (k := 0) (sp := spFldF K fun n _ _ _ => n) F sc_Function_names (fun _ _ _ _ _ _ us hl => match us, hl with | [_], _ => rfl) (fun vs H Q E h => by obtain ⟨_, _, _, _, _, _, rfl, _⟩ := h; rfl) fun cdv A outer s H vs Q E hr h => by
    obtain ⟨x, dx, n, b, sc, o, rfl, hx, q⟩ := h
    exact ⟨_, PSs.nox (pss_one (ps_ret (pe_fld (pv 0) rfl))), _, rfl, x, _, dx, _, n, rfl, hx, T.kf.cl, T.n1, rfl, q⟩
  exact ⟨_, fd, T.kf.cl, M, h1, h2⟩
theorem ok_law (F : FnP K mg "law" s_law) (T : Tw6 K mg)
    (B_law_begun : Cl P w K mg base 1 "_law_begun" ["_law_script"] (spBegun K)) (B_law_next : Cl P w K mg base 2 "_law_next" ["_law_state"] (spNext K))
    (B_law_worth : Cl P w K mg base 9 "_law_worth" ["_law_state", "_law_deep", "_law_is_plain_one"] (spWorthT K 5))
    (B_law_otherwise : Cl P w K mg base 9 "_law_otherwise" ["_law_worth_here", "_law_state"] (spOtherD K 6)) (B_law_kinds : Cl P w K mg base 15 "_law_kinds" ["_law_worth_here"] (spKinds K 9))
    (B_worth_text : Cl P w K mg base 5 "worth_text" ["worth"] (spText K)) (B_read : Cl P w K mg base 4 "read" ["text"] (spRead K)) (B_are_alike : Cl P w K mg base 5 "are_alike" ["one", "other"] (spAlike K))
    (M_names : Mt P w K mg base 1 (CF K) "names" ["self"] (spFldF K fun n _ _ _ => n))
    (B_Function : Nw P w K mg base 1 "Function" (CF K) ["self", "names", "body", "scope", "own"] (spInit K)) : Cg P w K mg base 16 "law" ["_law_script"] (spLaw K) := by
  refine cg_mk F sc_law (fun _ _ _ _ _ _ us hl => match us, hl with | [_], _ => rfl) (fun vs H Q E h => by obtain ⟨a, rfl, _⟩ := h; rfl) fun cdv A outer s H vs Q E hr hg h => ?_
  obtain ⟨_, rfl, a, ns, rfl, hS, hn, q⟩ := h
  refine ⟨_, PSs.nox (pss_cons (ps_set (i := 1) sc_law.nd rfl (Or.inl rfl) (pe_b B_law_begun hr (by omega) rfl passL (pa_cons (pv 0) pa_nil))) (pss_cons (ps_set (i := 2) sc_law.nd rfl (Or.inl rfl) (pe_split pe_str pe_str)) (pss_cons (ps_if (PW.pt (pw_or (pt_cmpR (op_neD (hu64 hr)) (pe_glob (v := .ref (He.ga K "WORDS")) rfl T.g_WORDS rfl) (pe_tupleOf rfl T.z_tuple (pv 2)) (nomark _)) (pw_or1 (pt_cmpR (op_neD (hu64 hr)) (pe_lc (own := [("_law_word", 10)]) (g := gName 10) (tt := tYes) rfl sc_law.nd (pi_tup (pe_glob (v := .ref (He.ga K "WORDS")) rfl T.g_WORDS rfl)) (blkOk_by (own := [("_law_word", 10)]) (N := ["_law_script", "_law_state", "_law_words", "_law_turn", "_law_one", "_law_other", "_law_third", "_law_some", "_law_mine", "_law_yours", "_law_word"]) (sc := defScope s_law) (by decide +kernel)) (fun _ _ _ _ _ => (pg_name (i := 10) sc_law.nd rfl (Or.inl rfl))) (fun _ _ _ _ _ => pts_nil) (fun _ _ _ _ _ => (pe_b B_read hr (by omega) rfl passL (pa_cons (pv 10) pa_nil)))) (pv 2) (nomark _))))) (pss_one (ps_ret pe_bl)) pss_nil) (pss_cons (ps_for PassesOwn.never rfl (pi_range1 rfl T.z_range (pa_cons (pe_op op_add pe_int (pe_callB (call_min2 rfl) rfl T.z_min PyProof.Rows.boot_min (pa_cons pe_int (pa_cons (pe_op op_fdiv (pe_callB call_len_seq rfl T.z_len PySem.boot_len (pa_cons (pv 0) pa_nil)) pe_int) pa_nil)))) pa_nil)) (pg_name (i := 3) sc_law.nd rfl (Or.inl rfl)) (pss_cons (ps_set (i := 4) sc_law.nd rfl (Or.inl rfl) (pe_b B_law_worth hr (by omega) rfl passL (pa_cons (pv 1) (pa_cons pe_int (pa_cons pe_bl pa_nil))))) (pss_cons (ps_par (i := 5) (j := 6) rfl sc_law.nd rfl rfl (by decide) rfl rfl (pa_cons (pe_b B_law_otherwise hr (by omega) rfl passL (pa_cons (pv 4) (pa_cons (pv 1) pa_nil))) (pa_cons (pe_b B_law_worth hr (by omega) rfl passL (pa_cons (pv 1) (pa_cons pe_int (pa_cons pe_bl pa_nil)))) pa_nil)) (by rfl)) (pss_cons (ps_set (i := 7) sc_law.nd rfl (Or.inl rfl) (pe_lst (pa_cons (pv 4) (pa_cons (pv 5) (pa_cons (pv 6) (pa_cons (pe_tup (pa_cons (pv 4) pa_nil)) (pa_cons (pe_tup (pa_cons (pv 4) (pa_cons (pv 5) pa_nil))) (pa_cons (pe_tup (pa_cons (pe_tup (pa_cons (pv 4) pa_nil)) (pa_cons (pv 5) pa_nil))) (pa_cons (pe_b B_read hr (by omega) rfl passL (pa_cons (pe_b B_worth_text hr (by omega) rfl passL (pa_cons (pv 4) pa_nil)) pa_nil)) pa_nil))))))))) (pss_one (ps_for PassesOwn.never rfl (pi_list (pv 7)) (pg_name (i := 8) sc_law.nd rfl (Or.inl rfl)) (pss_cons (ps_for PassesOwn.never rfl (pi_list (pv 7)) (pg_name (i := 9) sc_law.nd rfl (Or.inl rfl)) (pss_one (ps_if (pt_cmpR op_ne (pe_cmpR op_eq (pe_b B_worth_text hr (by omega) rfl passL (pa_cons (pv 8) pa_nil)) (pe_b B_worth_text hr (by omega) rfl passL (pa_cons (pv 9) pa_nil)) (nomark _)) (pe_b B_are_alike hr (by omega) rfl passL (pa_cons (pv 8) (pa_cons (pv 9) pa_nil))) (nomark _)) (pss_one (ps_ret pe_bl)) pss_nil))) (pss_cons (ps_if (pt_cmpR op_ne (pe_b B_worth_text hr (by omega) rfl passL (pa_cons (pe_b B_read hr (by omega) rfl passL (pa_cons (pe_b B_worth_text hr (by omega) rfl passL (pa_cons (pv 8) pa_nil)) pa_nil)) pa_nil)) (pe_b B_worth_text hr (by omega) rfl passL (pa_cons (pv 8) pa_nil)) (nomark _)) (pss_one (ps_ret pe_bl)) pss_nil) (pss_one (ps_if (pt_cmpR (op_neD (hu64 hr)) (pe_b B_law_kinds hr (by omega) rfl passL (pa_cons (pe_b B_read hr (by omega) rfl passL (pa_cons (pe_b B_worth_text hr (by omega) rfl passL (pa_cons (pv 8) pa_nil)) pa_nil)) pa_nil)) (pe_b B_law_kinds hr (by omega) rfl passL (pa_cons (pv 8) pa_nil)) (nomark _)) (pss_one (ps_ret pe_bl)) pss_nil)))))))))) (pss_one (ps_ret (pe_cmpR (op_eqTN hr.units0) (pe_mb0 M_names hr (by omega) passL (pe_new B_Function hr (by omega) rfl passL (pa_cons (pe_tup pa_nil) (pa_cons pe_int (pa_cons (pe_tup pa_nil) (pa_cons pe_non pa_nil)))))) (pe_tup pa_nil) (nomark _)))))))), ?_⟩
  refine ⟨_, rfl, _, rfl, a, ns, rfl, hS, hn, fun d l H1 h1 s1' nd nl => ?_⟩
  refine stepG ?_
  dsimp only
  have d16 := data16
  rw [Bool.and_eq_true, Bool.and_eq_true, Bool.and_eq_true] at d16
  obtain ⟨⟨⟨sh1, sh2⟩, ev1⟩, ev2⟩ := d16
  have hW : ∀ H', SqT K H' (He.ga K "WORDS") (words16.map V.str) := fun H' => .inr T.wds
  refine ⟨⟨_, rfl⟩, _, _, rfl, rfl, (by decide +kernel), (by decide +kernel), ?_⟩
  show rNewStrs (Txt.split ("quote if fn rec let run add less times below same join first rest kind row" : Str) (" " : Str)) H1 _
  rw [split16]
  intro pw nw
  have sw := same_new nw (.lst (words16.map V.str))
  have hpw : (upd H1 pw (.lst (words16.map V.str))) pw = some (.lst (words16.map V.str)) := upd_same
  have r1 := h1.same sw
  have hS1 := hS.same (s1'.trans sw)
  generalize upd H1 pw (.lst (words16.map V.str)) = H2 at hpw r1 hS1 ⊢
  refine stepG ?_
  dsimp only
  -- the sixteen words
  refine join_t (T := tOr _ _ _ _) (fun k => ∀ H', Same H2 H' → k false H') (fun H3 s3 => iteF (stepN ?_)) (fun k hk => ?_)
  case refine_2 =>
    refine ⟨_, rfl, .inl ⟨pw, _, rfl, SqL.of hpw, fun pt nt => ⟨.tuple (words16.map PyData.str), .tuple (words16.map PyData.str), .tup (hW _) (dp_strs _), .tup (SqT.of upd_same) (dp_strs _), sh2, sh2, ?_⟩⟩⟩
    rw [ev2]
    refine ⟨_, rfl, iteF ?_⟩
    have st := same_new nt (.tup (words16.map V.str))
    generalize upd H2 pt (.tup (words16.map V.str)) = H3 at st ⊢
    refine ⟨He.ga K "WORDS", rfl, ⟨_, hW _⟩, fun D nD => ?_⟩
    refine lc_it (walk_tup (K := K) (a := He.ga K "WORDS") (xs := words16.map V.str)) (fun i H' => Same H3 H' ∧ H' D = some (.lst ((words16.take i).map V.str))) ⟨same_new nD _, upd_same⟩ (fun _ _ _ _ => hW _) ?_ ?_
    · rintro i y H4 H5 hi ⟨g1, g2⟩ ⟨rfl, hy⟩
      rw [List.getElem?_map] at hy
      obtain ⟨x, hx, rfl⟩ := Option.map_eq_some_iff.mp hy
      have wx := List.all_eq_true.mp words16_ok x (List.mem_of_getElem? hx)
      have wt : (Th.str x).worth false = true := wx
      have lx := wordB_len wx
      have tx : textP (.str x) = x.cps.toList := by rw [text_leaf rfl]; rfl
      have lx2 : (textP (.str x)).length ≤ 20000 := by
        rw [tx, Array.length_toList]
        exact Nat.le_trans lx (by decide)
      have rt := read_text wt (Nat.zero_le _) lx2
      rw [tx] at rt lx2
      refine ⟨rfl, _, rfl, _, rfl, .inl ⟨x.cps.toList, (by rw [SX.S_tl]), by omega, fun t u H6 e s6 iu => ?_, fun H6 e => by rw [rt] at e; cases e⟩⟩
      rw [rt] at e
      injection e with e
      subst e
      cases iu
      refine ⟨_, s6 _ _ g2, ?_, same_mut (g1.trans s6) nD, ?_⟩
      · rw [List.length_map, List.length_take, sizeLine_eq]
        show min _ 16 < _
        omega
      · rw [upd_same, take_snoc hx, List.map_append]
        rfl
    · rintro H4 ⟨g1, g2⟩
      refine ⟨_, rfl, .list (words16.map PyData.str), .list (words16.map PyData.str), .lst (SqL.of g2) (dp_strs _), .lst (SqL.of ((st.trans g1) _ _ hpw)) (dp_strs _), sh1, sh1, ?_⟩
      rw [ev1]
      exact ⟨_, rfl, hk _ (st.trans g1)⟩
  dsimp only
  have r3 := r1.same s3
  have hS3 := hS1.same s3
  clear r1 hS1 hpw
  refine ⟨_, rfl, a, _, rfl, .inl hS3.sq, _, _, rfl, rfl, d2v, _, _, rfl, _, _, rfl, rfl, _, rfl, ?_, ?_, ?_⟩
  · show -(2 ^ 62) ≤ 1 + (if (((ns.map V.int).length : Nat) : Int) / 2 < 19 then (((ns.map V.int).length : Nat) : Int) / 2 else 19)
    split <;> omega
  · show 1 + (if (((ns.map V.int).length : Nat) : Int) / 2 < 19 then (((ns.map V.int).length : Nat) : Int) / 2 else 19) < 2 ^ 62
    split <;> omega
  refine for_it walk_range (fun i σ H' => ∃ o2 o3 o4 o5 o6 o7 o8 o9 o10, σ = [some (.ref a), some (.ref d), o2, o3, o4, o5, o6, o7, o8, o9, o10] ∧ Dr K d l a ns H') ⟨_, _, _, _, _, _, _, _, _, rfl, r3⟩ (fun _ _ _ _ _ => trivial) ?_ ?_
  · rintro i y σ H4 H5 hi ⟨o2, o3, o4, o5, o6, o7, o8, o9, o10, rfl, r4⟩ ⟨rfl, rfl⟩
    refine ⟨_, rfl, _, _, _, rfl, d, l, a, ns, 5, rfl, rfl, rfl, r4, hn, by decide, by decide, by decide, fun u t H6 r6 f6 i6 pt nd5 dp5 tb5 _ => ?_⟩
    have n5 : t.nodes ≤ 3125 := nd5
    have tb : t.tmax ≤ 3326 := tb5
    refine stepG ?_
    dsimp only
    refine ⟨_, rfl, _, rfl, _, _, rfl, t, d, l, a, ns, rfl, i6, pt, by omega, by omega, r6, hn, fun u6 t6 H7 r7 f7 i7 w7 n7 d7 x7 => ?_⟩
    have k7 := i6.ik (im_fr r6 r7 f7)
    refine ⟨_, rfl, _, _, _, rfl, d, l, a, ns, 5, rfl, rfl, rfl, r7, hn, by decide, by decide, by decide, fun u8 t8 H8 r8 f8 i8 p8' nd8 dp8 tb8 _ => ⟨_, _, rfl, ?_⟩⟩
    have n8 : t8.nodes ≤ 3125 := nd8
    have tb8' : t8.tmax ≤ 3326 := tb8
    have im8 := im_fr r7 r8 f8
    have a8 := k7.ik im8
    have b8 := i7.ik im8
    clear i6 k7 i7 r7 r6 r4
    dsimp only
    refine ⟨_, rfl, _, rfl, _, rfl, _, rfl, Fl.s1, fun b1 m1 => ⟨_, rfl, _, rfl, s2, fun b2 m2 => ⟨_, rfl, Fl.s1, fun b3 m3 => ⟨_, rfl, s2, fun b4 m4 => ?_⟩⟩⟩⟩
    have v1 := same_new m1 (.tup [u])
    have v2 := same_new m2 (.tup [u, u6])
    have v3 := same_new m3 (.tup [u])
    have v4 := same_new m4 (.tup [.ref b3, u6])
    have w34 := v3.trans v4
    have w24 := v2.trans w34
    have w4 := v1.trans w24
    have c1 : Is (CF K) _ (.ref b1) (.tup [t]) := .tup (w24 _ _ upd_same) (.one (a8.same w4))
    have c2 : Is (CF K) _ (.ref b2) (.tup [t, t6]) := .tup (w34 _ _ upd_same) (.cons (a8.same w4) (.one (b8.same w4)))
    have c3 : Is (CF K) _ (.ref b4) (.tup [.tup [t], t6]) := .tup upd_same (.cons (.tup (v4 _ _ upd_same) (.one (a8.same w4))) (.one (b8.same w4)))
    have c4 := i8.same w4
    have c5 := a8.same w4
    have c6 := b8.same w4
    have r9 := r8.same w4
    generalize upd (upd (upd (upd H8 b1 (.tup [u])) b2 (.tup [u, u6])) b3 (.tup [u])) b4 (.tup [.ref b3, u6]) = H9 at c1 c2 c3 c4 c5 c6 r9 ⊢
    clear v1 v2 v3 v4 w34 w24 w4 m1 m2 m3 m4
    have tx := textP_max t pt
    have rt := read_text pt (by omega) (show (textP t).length ≤ 20000 by omega)
    refine ⟨_, rfl, _, rfl, t, c5, by omega, fun _ H10 s10 => ⟨_, rfl, .inl ⟨textP t, rfl, by omega, fun tr ur H11 e s11 iu => ?_, fun H11 e => by rw [rt] at e; cases e⟩⟩, fun z => by rw [pt] at z; cases z⟩
    rw [rt] at e
    injection e with e
    subst e
    refine ⟨(by show 7 ≤ sizeLine; decide), fun b5 m5 => ?_⟩
    have S11 := s10.trans s11
    have v5 := same_new m5 (.lst [u, u6, u8, .ref b1, .ref b2, .ref b4, ur])
    have W := S11.trans v5
    have hb5 : (upd H11 b5 (.lst [u, u6, u8, .ref b1, .ref b2, .ref b4, ur])) b5 = some (.lst [u, u6, u8, .ref b1, .ref b2, .ref b4, ur]) := upd_same
    have all7 : Iss (CF K) (upd H11 b5 (.lst [u, u6, u8, .ref b1, .ref b2, .ref b4, ur])) [u, u6, u8, .ref b1, .ref b2, .ref b4, ur] [t, t6, t8, .tup [t], .tup [t, t6], .tup [.tup [t], t6], t] :=
      .cons (c5.same W) <| .cons (c6.same W) <| .cons (c4.same W) <| .cons (c1.same W) <| .cons (c2.same W) <| .cons (c3.same W) <| .one (iu.same v5)
    have r12 := r9.same W
    have go : ∀ x ∈ [t, t6, t8, .tup [t], .tup [t, t6], .tup [.tup [t], t6], t], Go6 x := by
      have g1 : Go6 t := ⟨pt, by omega, by omega, by omega⟩
      have t6x := textP_max t6 w7
      have t8x := textP_max t8 p8'
      have g2 : Go6 t6 := ⟨w7, by omega, by omega, by omega⟩
      have g3 : Go6 t8 := ⟨p8', by omega, by omega, by omega⟩
      have g4 : Go6 (.tup [t]) := by
        have w : (Th.tup [t]).worth false = true := by rw [Th.worth, Th.worths, pt]; rfl
        have z := textP_max _ w
        simp only [Th.tmax, Th.tmaxL] at z
        exact ⟨w, by simp only [Th.nodes, Th.nodesL]; omega, by simp only [Th.depth, Th.depthL]; omega, by omega⟩
      have g5 : Go6 (.tup [t, t6]) := by
        have w : (Th.tup [t, t6]).worth false = true := by rw [Th.worth, Th.worths, Th.worths, pt, w7]; rfl
        have z := textP_max _ w
        simp only [Th.tmax, Th.tmaxL] at z
        exact ⟨w, by simp only [Th.nodes, Th.nodesL]; omega, by simp only [Th.depth, Th.depthL]; omega, by omega⟩
      have g6 : Go6 (.tup [.tup [t], t6]) := by
        have w : (Th.tup [.tup [t], t6]).worth false = true := by simp only [Th.worth, Th.worths, pt, w7, Bool.and_self]
        have z := textP_max _ w
        simp only [Th.tmax, Th.tmaxL] at z
        exact ⟨w, by simp only [Th.nodes, Th.nodesL]; omega, by simp only [Th.depth, Th.depthL]; omega, by omega⟩
      intro x hx
      simp only [List.mem_cons, List.not_mem_nil, or_false] at hx
      rcases hx with rfl | rfl | rfl | rfl | rfl | rfl | rfl <;> assumption
    generalize upd H11 b5 (.lst [u, u6, u8, .ref b1, .ref b2, .ref b4, ur]) = H12 at hb5 all7 r12 ⊢
    generalize [t, t6, t8, .tup [t], .tup [t, t6], .tup [.tup [t], t6], t] = ts at all7 go
    generalize [u, u6, u8, .ref b1, .ref b2, .ref b4, ur] = us at hb5 all7
    refine stepG ?_
    dsimp only
    refine ⟨_, rfl, b5, rfl, ⟨_, SqL.of hb5⟩, ?_⟩
    refine for_it (walk_list (K := K) (a := b5) (xs := us)) (fun i2 σ H' => ∃ o8 o9 o10, σ = [some (.ref a), some (.ref d), o2, some (.int (0 + (i : Int))), some u, some u6, some u8, some (.ref b5), o8, o9, o10] ∧ Same H12 H') ⟨_, _, _, rfl, .refl _⟩ (fun _ _ _ _ z => by obtain ⟨_, _, _, _, z⟩ := z; exact SqL.of (z _ _ hb5)) ?_ ?_
    · rintro i2 x σ H13 H14 hi2 ⟨o8, o9, o10, rfl, s13⟩ ⟨rfl, hx⟩
      obtain ⟨tx, htx, ix⟩ := all7.get hx
      have gx := go tx (List.mem_of_getElem? htx)
      have gn := gx.n
      have gl := gx.l
      have gd := gx.d
      refine stepG ?_
      dsimp only
      have ix13 := ix.same s13
      have hb13 := s13 _ _ hb5
      refine ⟨_, rfl, b5, rfl, ⟨_, SqL.of hb13⟩, ?_⟩
      refine for_it (walk_list (K := K) (a := b5) (xs := us)) (fun i3 σ H' => ∃ o9 o10, σ = [some (.ref a), some (.ref d), o2, some (.int (0 + (i : Int))), some u, some u6, some u8, some (.ref b5), some x, o9, o10] ∧ Same H14 H') ⟨_, _, rfl, .refl _⟩ (fun _ _ _ _ z => by obtain ⟨_, _, _, z⟩ := z; exact SqL.of (z _ _ hb13)) ?_ ?_
      · rintro i3 y σ H15 H16 hi3 ⟨o9, o10, rfl, s15⟩ ⟨rfl, hy⟩
        obtain ⟨ty, hty, iy⟩ := all7.get hy
        have gy := go ty (List.mem_of_getElem? hty)
        have gny := gy.n
        refine stepG ?_
        dsimp only
        have s1315 := s13.trans s15
        have jx := ix.same s1315
        have jy := iy.same s1315
        refine ⟨_, rfl, _, rfl, tx, jx, by omega, fun _ H17 s17 => ⟨_, rfl, _, rfl, ty, jy.same s17, by omega, fun _ H18 s18 => ⟨rfl, ?_⟩, fun z => by rw [gy.w] at z; cases z⟩, fun z => by rw [gx.w] at z; cases z⟩
        have s178 := s17.trans s18
        refine ⟨_, rfl, _, rfl, _, _, rfl, tx, ty, jx.same s178, jy.same s178, by omega, by omega, fun _ H19 s19 => ⟨rfl, _, rfl, ?_⟩, fun z => by rw [gx.w, gy.w] at z; cases z⟩
        rw [text_same gx gy, decide_eq_true rfl]
        exact iteF (stepN ⟨_, _, rfl, s15.trans (s178.trans s19)⟩)
      · rintro σ H15 ⟨o9, o10, rfl, s15⟩
        have s1315 := s13.trans s15
        have jx := ix.same s1315
        have rtx := read_text gx.w (by omega) gl
        refine ⟨_, rfl, _, rfl, tx, jx, by omega, fun _ H17 s17 => ⟨_, rfl, .inl ⟨textP tx, rfl, by omega, fun tr vr H18 e s18 iv => ?_, fun H18 e => by rw [rtx] at e; cases e⟩⟩, fun z => by rw [gx.w] at z; cases z⟩
        rw [rtx] at e
        injection e with e
        subst e
        refine ⟨_, rfl, tx, iv, by omega, fun _ H19 s19 => ?_, fun z => by rw [gx.w] at z; cases z⟩
        have t19 := s17.trans (s18.trans s19)
        refine ⟨_, rfl, _, rfl, tx, jx.same t19, by omega, fun _ H20 s20 => ⟨rfl, _, rfl, ?_⟩, fun z => by rw [gx.w] at z; cases z⟩
        rw [decide_eq_true rfl]
        refine iteF (stepN ?_)
        have t20 := t19.trans s20
        have kx := jx.same t20
        refine ⟨_, rfl, _, rfl, tx, kx, by omega, fun _ H21 s21 => ⟨_, rfl, .inl ⟨textP tx, rfl, by omega, fun tr vr2 H22 e s22 iv2 => ?_, fun H22 e => by rw [rtx] at e; cases e⟩⟩, fun z => by rw [gx.w] at z; cases z⟩
        rw [rtx] at e
        injection e with e
        subst e
        refine ⟨_, rfl, tx, iv2, gx.w, by omega, by omega, fun w1 H23 s23 k1 => ?_⟩
        have t23 := s21.trans (s22.trans s23)
        refine ⟨_, rfl, _, rfl, tx, kx.same t23, gx.w, by omega, by omega, fun w2 H24 s24 k2 => ?_⟩
        refine ⟨tx.kd, tx.kd, dp_same (fun b o z => s24 _ _ (newp_sub _ _ z)) k1, dp_same newp_sub k2, kd_shaped (by omega), kd_shaped (by omega), ?_⟩
        rw [(kd_ok tx).2.2]
        refine ⟨_, rfl, iteF (stepN ?_)⟩
        exact ⟨_, _, _, rfl, s1315.trans (t20.trans (t23.trans s24))⟩
    · rintro σ H13 ⟨o8, o9, o10, rfl, s13⟩
      exact ⟨_, _, _, _, _, _, _, _, _, rfl, r12.same s13⟩
  · rintro σ H4 ⟨o2, o3, o4, o5, o6, o7, o8, o9, o10, rfl, r4⟩
    refine ⟨(by show 0 ≤ sizeLine; decide), fun b3 m3 => ⟨(by show 0 ≤ sizeLine; decide), fun b4 m4 => ?_⟩⟩
    intro x dx nx ndx nex
    refine ⟨x, dx, _, _, _, _, rfl, upd_same, rfl, ?_⟩
    have smx := same_made (K := K) (o := .ins (CF K) dx (fnF (.ref b3) (.int 1) (.ref b4) .non)) nx ndx
    have e3 := smx _ _ ((same_new m4 (.tup [])) _ _ (upd_same (H := H4) (a := b3) (o := .tup [])))
    refine ⟨x, dx, _, rfl, upd_same, rfl, x, dx, _, _, _, _, rfl, upd_same, ?_⟩
    refine ⟨(by show 0 ≤ sizeLine; decide), fun b5 m5 => ?_⟩
    exact ⟨b3, b5, [], rfl, rfl, (same_new m5 (.tup [])) _ _ e3, upd_same, q _⟩
end
end Fl
/-! a thing beside itself -/
namespace Fl
open PySem PySem.Spec PyProof.Rows L2
/-- instances of the class at C are equal just where they are one -/
def cmpIn (K : PySem.W.Frag) (C : Addr) : Bool := match K.lookup C with
  | some ⟨.type "type", _, .cls cd, sl⟩ => (match cd.mro, sl.toList with
    | [.ref C', .type "object"], [_, _, _, _, some (.builtin _), _] => C' == C && (!cd.hasDel && (PySem.W.nsOkIn K cd.ns && (decide (PySem.W.nsIn K cd.ns "__eq__" = some none) && decide (PySem.W.nsIn K cd.ns "__ne__" = some none))))
    | _, _ => false)
  | _ => false
theorem cmp_of {K : PySem.W.Frag} {h : Heap} {C x dx : Addr} (X : K.In h) (q : cmpIn K C = true) (hx : h.get? x = some (PySem.W.instObj C dx)) : h.CmpInst x C [.type "object"] := by
  unfold cmpIn at q
  split at q
  · rename_i dd cd sl ho
    split at q
    · rename_i C' k0 k1 k2 k3 n k5 hm hs
      simp only [Bool.and_eq_true, beq_iff_eq, Bool.not_eq_true', decide_eq_true_eq] at q
      obtain ⟨e1, e2, e3, e4, e5⟩ := q
      subst e1
      obtain ⟨nm, bs, mro, ns, qn, hd, sn, sub, ab, col, del⟩ := cd
      dsimp only at hm e2 e3 e4 e5
      subst hm e2
      obtain ⟨sll⟩ := sl
      dsimp only at hs
      subst hs
      exact ⟨_, nm, qn, ns, bs, hd, sn, sub, ab, col, dd, k0, k1, k2, k3, k5, n, _, hx, rfl, X _ _ ho, .of_isNs (PySem.W.isNs_of_in X e3), PySem.W.nsMap_none_of_in X e3 e4, PySem.W.nsMap_none_of_in X e3 e5⟩
    · cases q
  · cases q
theorem eqAt_self (A : Around) (s : Shared) (v : Value) : SeqAt.EqAt A s v v true := fun prog w E Q hq => by
  unfold eqBool
  refine wpAny_holding ?_
  rw [if_pos (beq_self_eq_true v)]
  exact wpAny_bind (wpAny_rule (wpAny_pure hq))
section
variable {X : Cx}
/-- x != x -/
def rNeSelf (K : PySem.W.Frag) (C : Addr) : R2 := fun x y H Q => x = y ∧ (∃ t, Is C H x t ∧ t.worth true = true) ∧ Q (.bl false) H
theorem op_neSelf {C : Addr} (q : cmpIn X.K C = true) (hu : X.A.units + 1 < cLine) : OpR X (compareOp .NotEq) (rNeSelf X.K C) := by
  intro pins s σ H x y v u Q I rx ry h
  obtain ⟨rfl, ⟨t, hi, hw⟩, k⟩ := h
  have fin : EP X pins σ Q (.bool false) s := ⟨.bl false, H, I, rfl, k⟩
  cases hi with
  | non => simp [Th.worth] at hw
  | bl b =>
    cases rx
    cases ry
    exact SeqAt.RcNeAt.bool_bool b b X.prog X.w X.xe _ (by rw [beq_self_eq_true]; exact fin)
  | int i =>
    obtain ⟨t1, rfl⟩ := rx
    obtain ⟨t2, rfl⟩ := ry
    exact SeqAt.RcNeAt.int_int i t1 i t2 X.prog X.w X.xe _ (by rw [beq_self_eq_true]; exact fin)
  | str z _ =>
    obtain ⟨t1, rfl⟩ := rx
    obtain ⟨t2, rfl⟩ := ry
    exact SeqAt.RcNeAt.str_str z t1 z t2 X.prog X.w X.xe _ (by rw [beq_self_eq_true]; exact fin)
  | tup e _ =>
    cases rx
    cases ry
    obtain ⟨its, r, p1, _⟩ := I.tuple (SqT.of (K := X.K) e)
    refine SeqAt.RcNeAt.tuples (e := fun _ => true) p1 p1 (Nat.lt_of_succ_lt hu) (fun j _ _ => eqAt_self _ _ _) X.prog X.w X.xe _ ?_
    have e2 : (!((List.range (min its.toArray.size its.toArray.size)).all (fun _ => true) && its.toArray.size == its.toArray.size)) = false := by simp
    rw [e2]
    exact fin
  | fn e =>
    cases rx
    cases ry
    obtain ⟨_, _, _, e2, _⟩ := I.hok _ _ e
    obtain ⟨hp, g, d, tk, os⟩ := s
    exact richCompare_ne_same F.cmp_object (cmp_of I.kIn q e2) hu fin
  | lst _ => simp [Th.worth] at hw
  | dct _ => simp [Th.worth] at hw
end
end Fl
/-! the head's Hook with further checks of the written part -/
namespace Fl
open PySem PySem.Spec PyProof.Rows L2
abbrev Ck : Type := PySem.W.Frag → Bool
abbrev AlK : Type := Bool × He.AlD
def obsK (ck : List Ck) (fa : List He.Fa) (fn : List He.DefD) (K : PySem.W.Frag) : AlK := (ck.all fun f => f K, He.obsD fa fn K)
def valK (fn : List He.DefD) : AlK := (true, He.valD fn)
def SaysK (ck : List Ck) (fa : List He.Fa) (fn : List He.DefD) (K : PySem.W.Frag) : Prop := obsK ck fa fn K = valK fn
def obsKG (n : Nat) (ck : List Ck) (fa : List He.Fa) (fn : List He.DefD) (g : Addr → Option Obj) : AlK := obsK ck fa fn (He.frG g (He.asD g n))
def hookK (n : Nat) (ck : List Ck) (fa : List He.Fa) (fn : List He.DefD) : PySem.W.Hook where
  α := AlK
  obs := fun s => obsKG n ck fa fn s.heap.get?
  val := fun _ => valK fn
  says := fun _ h => ∃ K : PySem.W.Frag, K.In h ∧ SaysK ck fa fn K
  of := fun _ _ e => ⟨_, He.frG_in, e⟩
  keeps := fun _ _ _ ⟨K, hK, c⟩ k => ⟨K, PySem.W.Frag.In.keeps hK k, c⟩
theorem obsKG_eq {n : Nat} {ck : List Ck} {fa : List He.Fa} {fn : List He.DefD} {g : Addr → Option Obj} {s : Shared} (h : ∀ a, g a = s.heap.get? a) : obsKG n ck fa fn g = (hookK n ck fa fn).obs s := by
  have e : g = s.heap.get? := funext h
  rw [e] <;> rfl
section
variable {ck : List Ck} {fa : List He.Fa} {fn : List He.DefD} {K : PySem.W.Frag}
theorem SaysK.d (c : SaysK ck fa fn K) : He.SaysD fa fn K := congrArg (fun z : AlK => z.2) c
theorem SaysK.chk (c : SaysK ck fa fn K) (i : Nat) {f : Ck} (h : ck[i]? = some f := by rfl) : f K = true :=
  List.all_eq_true.mp (congrArg (fun z : AlK => z.1) c) f (List.mem_of_getElem? h)
end
def dA (x q : Str) (st : Stmt) : He.DefD := ⟨(x, none), q, q, defArgs st, defBody st, defScope st, [], []⟩
def dS (x : Str) (st : Stmt) : He.DefD := dA x x st
def dM (C x qn : Str) (st : Stmt) : He.DefD := ⟨(C, some x), x, qn, defArgs st, defBody st, defScope st, [], []⟩
section
variable {ck : List Ck} {fa : List He.Fa} {fn : List He.DefD} {K : PySem.W.Frag} {h : Heap} {mg : Str → Option Value} {x q C qn : Str} {st : Stmt}
theorem fnp_ok (X : K.In h) (G : h.Ns mainGlobals mg) (c : SaysK ck fa fn K) (i j : Nat) (h1 : fn[i]? = some (dA x q st) := by rfl) (h2 : fa[j]? = some (.glo x) := by rfl) : FnP K mg x st q := ⟨c.d.def_ i h1, He.glo_ok X G (c.d.fact j h2)⟩
theorem mtp_ok (c : SaysK ck fa fn K) (i : Nat) (h1 : fn[i]? = some (dM C x qn st) := by rfl) : MtP K (He.ga K C) x qn st := ⟨c.d.def_ i h1⟩
theorem ki_ok (X : K.In h) (G : h.Ns mainGlobals mg) {i : Int} (c : (He.Fa.int x i).ok K = true) : ∃ u, mg x = some u ∧ RelV (.int i) u := by
  obtain ⟨t, e⟩ := He.int_ok X G c
  exact ⟨_, e, t, rfl⟩
theorem ks_ok (X : K.In h) (G : h.Ns mainGlobals mg) {z : Str} (c : (He.Fa.str x z).ok K = true) : ∃ u, mg x = some u ∧ RelV (.str z) u := by
  obtain ⟨t, e⟩ := He.str_ok X G c
  exact ⟨_, e, t, rfl⟩
theorem cls_ok (c : (He.Fa.cls x).ok K = true) : Cls K (He.ga K x) := by
  obtain ⟨h1, h2⟩ := He.ba c
  obtain ⟨h2, h3⟩ := He.ba h2
  obtain ⟨h3, h4⟩ := He.ba h3
  exact ⟨h1, h2, h3, He.eqO_ok h4⟩
theorem mkr_ok (c : (He.Fa.mkr x).ok K = true) : Mk K (He.ga K x) (He.ma K (He.ga K x) "__init__") := by
  obtain ⟨h1, h2⟩ := He.ba c
  obtain ⟨h2, h3⟩ := He.ba h2
  obtain ⟨h3, h4⟩ := He.ba h3
  exact ⟨h1, He.eqO_ok h2, h3, h4⟩
theorem noat_ok {f : Str} (c : (He.Fa.noat x f).ok K = true) : NoAttr K (He.ga K x) f := He.eqO_ok c
abbrev XcO (K : PySem.W.Frag) (x : Str) : Prop := PySem.W.excIn K (He.ga K x) He.veBase "ValueError.__new__" = true ∧ PySem.W.keepIn K (.ref (He.ga K x)) = true ∧
  PySem.W.subIn K (.ref (He.ga K x)) (.type "BaseException") = some true ∧ PySem.W.typeIn K (.ref (He.ga K x)) = some (.type "type")
theorem exc_ok (c : (He.Fa.exc x).ok K = true) : XcO K x := by
  obtain ⟨h1, h2⟩ := He.ba c
  obtain ⟨h2, h3⟩ := He.ba h2
  obtain ⟨h3, h4⟩ := He.ba h3
  exact ⟨h1, h2, of_decide_eq_true h3, of_decide_eq_true h4⟩
theorem exm_ok {y : Str} {b : Bool} (c : (He.Fa.exm x y b).ok K = true) : PySem.W.exmOne K (.ref (He.ga K x)) (.ref (He.ga K y)) = some b := of_decide_eq_true c
end
/-! ### the checks -/
def eqB (a : Option Bool) (b : Bool) : Bool := decide (a = some b)
theorem eqB_ok {a : Option Bool} {b : Bool} (h : eqB a b = true) : a = some b := of_decide_eq_true h
def clsB (K : PySem.W.Frag) (C : Addr) : Bool := He.eqO (PySem.W.findIn K (.ref C) "__class__") (some (some (.builtin "object.__class__"))) && (He.eqO (PySem.W.specialIn K (.builtin "object.__class__") "__get__") (some (some (.builtin "getset_descriptor.__get__"))) &&
  (eqB (PySem.W.takesIn K (.builtin "object.__class__")) true && eqB (PySem.W.mroIn K C (.type "object")) true))
def kfB (x : Str) (K : PySem.W.Frag) : Bool := (He.Fa.cls x).ok K && (clsB K (He.ga K x) && ((["int", "bool", "str", "tuple"].all fun n => eqB (PySem.W.kitOne K (.ref (He.ga K x)) (.type n)) false) && (eqB (PySem.W.kitOne K (.ref (He.ga K x)) (.ref (He.ga K x))) true &&
  (["NoneType", "bool", "int", "str", "tuple", "list", "dict"].all fun n => eqB (PySem.W.kitOne K (.type n) (.ref (He.ga K x))) false))))
theorem kf_ok {x : Str} {K : PySem.W.Frag} (h : kfB x K = true) : Kf K (He.ga K x) := by
  obtain ⟨h1, h2⟩ := He.ba h
  obtain ⟨h2, h3⟩ := He.ba h2
  obtain ⟨h3, h4⟩ := He.ba h3
  obtain ⟨h4, h5⟩ := He.ba h4
  obtain ⟨g1, g2⟩ := He.ba h2
  obtain ⟨g2, g3⟩ := He.ba g2
  obtain ⟨g3, g4⟩ := He.ba g3
  have a := fun n m => eqB_ok (List.all_eq_true.mp h3 n m)
  have b := fun n m => eqB_ok (List.all_eq_true.mp h5 n m)
  exact ⟨cls_ok h1, He.eqO_ok g1, He.eqO_ok g2, eqB_ok g3, eqB_ok g4, a "int" (by simp), a "bool" (by simp), a "str" (by simp), a "tuple" (by simp), eqB_ok h4,
    b "NoneType" (by simp), b "bool" (by simp), b "int" (by simp), b "str" (by simp), b "tuple" (by simp), b "list" (by simp), b "dict" (by simp)⟩
def excB (x : Str) (K : PySem.W.Frag) : Bool := He.eqO (PySem.W.findIn K (.ref (He.ga K x)) "__getattribute__") (some (some (.builtin "BaseException.__getattribute__"))) && (He.eqO (PySem.W.findIn K (.ref (He.ga K x)) "__getattr__") (some none) &&
  (eqB (PySem.W.subIn K (.ref (He.ga K x)) (.type "BaseException")) true && (PySem.W.hasDictIn K (He.ga K x) && clsB K (He.ga K x))))
theorem excC_ok {x : Str} {K : PySem.W.Frag} (h : excB x K = true) : ExcC K (He.ga K x) := by
  obtain ⟨h1, h2⟩ := He.ba h
  obtain ⟨h2, h3⟩ := He.ba h2
  obtain ⟨h3, h4⟩ := He.ba h3
  obtain ⟨h4, h5⟩ := He.ba h4
  obtain ⟨g1, g2⟩ := He.ba h5
  obtain ⟨g2, g3⟩ := He.ba g2
  obtain ⟨g3, g4⟩ := He.ba g3
  exact ⟨He.eqO_ok h1, He.eqO_ok h2, eqB_ok h3, h4, He.eqO_ok g1, He.eqO_ok g2, eqB_ok g3, eqB_ok g4⟩
end Fl
/-! the head's Hook with checks, its part of the heap by names alone -/
namespace Fl
open PySem PySem.Spec PyProof.Rows L2
def codeA (g : Addr → Option Obj) (a : Addr) : List Addr := match g a with
  | some ⟨_, _, .func fd, _⟩ => a :: (match fd.code with
    | .ref c => [c]
    | _ => [])
  | _ => [a]
def nameA (g : Addr → Option Obj) (a : Addr) : List Addr := match g a with
  | some ⟨_, _, .func fd, _⟩ => a :: (match fd.code with
    | .ref c => [c]
    | _ => [])
  | some ⟨_, _, .cls cd, _⟩ => a :: cd.ns :: (match g cd.ns with
    | some ⟨_, _, .dict es _, _⟩ => es.toList.flatMap fun e => match e.val with
      | .ref f => codeA g f
      | _ => []
    | _ => [])
  | _ => [a]
def asN (g : Addr → Option Obj) : List Addr := mainGlobals :: (match g mainGlobals with
  | some ⟨_, _, .dict es _, _⟩ => es.toList.flatMap fun e => match e.val with
    | .ref a => nameA g a
    | _ => []
  | _ => [])
def obsNK (ck : List Ck) (fa : List He.Fa) (fn : List He.DefD) (g : Addr → Option Obj) : AlK := obsK ck fa fn (He.frG g (asN g))
def hookNK (ck : List Ck) (fa : List He.Fa) (fn : List He.DefD) : PySem.W.Hook where
  α := AlK
  obs := fun s => obsNK ck fa fn s.heap.get?
  val := fun _ => valK fn
  says := fun _ h => ∃ K : PySem.W.Frag, K.In h ∧ SaysK ck fa fn K
  of := fun _ _ e => ⟨_, He.frG_in, e⟩
  keeps := fun _ _ _ ⟨K, hK, c⟩ k => ⟨K, PySem.W.Frag.In.keeps hK k, c⟩
theorem obsNK_eq {ck : List Ck} {fa : List He.Fa} {fn : List He.DefD} {g : Addr → Option Obj} {s : Shared} (h : ∀ a, g a = s.heap.get? a) : obsNK ck fa fn g = (hookNK ck fa fn).obs s := by
  have e : g = s.heap.get? := funext h
  rw [e] <;> rfl
end Fl
namespace Fl
open PySem PySem.Spec PyProof.Rows L2
def strV : Value → Option Str
  | .str x _ => some x
  | _ => none
theorem vals_of : ∀ (its : List Value) (ws : List Str), its.map strV = ws.map some → Vals (ws.map V.str) its
  | [], [], _ => .nil
  | [], _ :: _, h => by cases h
  | _ :: _, [], h => by cases h
  | v :: r, x :: ws, h => by
    rw [List.map_cons, List.map_cons] at h
    injection h with h1 h2
    cases v <;> first | (cases h1; done) | skip
    rename_i y t
    injection h1 with h1
    subst h1
    exact .cons ⟨t, rfl⟩ (vals_of r ws h2)
def wdsB (K : PySem.W.Frag) : Bool := match K.lookup (He.ga K "WORDS") with
  | some ⟨.type c, _, .seq its _, _⟩ => decide (c = "tuple") && decide (its.toList.map strV = words16.map some)
  | _ => false
theorem wds_ok {K : PySem.W.Frag} (h : wdsB K = true) : ∃ o its n, K.lookup (He.ga K "WORDS") = some o ∧ o.cls = .type "tuple" ∧ o.data = .seq its n ∧ its.size ≤ sizeLine ∧ Vals (words16.map V.str) its.toList := by
  unfold wdsB at h
  split at h
  · rename_i c od its n sl hl
    rw [Bool.and_eq_true] at h
    have h1 := of_decide_eq_true h.1
    have h2 := of_decide_eq_true h.2
    subst h1
    refine ⟨_, its, n, hl, rfl, rfl, ?_, vals_of _ _ h2⟩
    have z := congrArg List.length h2
    rw [List.length_map, List.length_map, Array.length_toList] at z
    rw [z]
    show 16 ≤ sizeLine
    decide
  · cases h
noncomputable def fn : List He.DefD := ([dS "is_number" s_is_number, dS "is_word" s_is_word, dS "is_made_of" s_is_made_of, dS "is_worth" s_is_worth, dS "is_plain" s_is_plain, dS "need_worth" s_need_worth, dS "need_plain" s_need_plain, dS "sort_of" s_sort_of, dS "kind_of" s_kind_of, dS "are_same" s_are_same, dS "are_alike" s_are_alike, dS "leaf_text" s_leaf_text, dS "worth_text" s_worth_text, dS "need" s_need, dS "number_in" s_number_in, dS "leaf_in" s_leaf_in] : List He.DefD) ++ ([dS "words_in" s_words_in, dS "read" s_read, dS "_law_mixed" s_law_mixed, dS "_law_begun" s_law_begun, dS "_law_next" s_law_next, dS "_law_leaf" s_law_leaf, dS "_law_worth" s_law_worth, dS "_law_otherwise" s_law_otherwise, dS "_law_kinds" s_law_kinds, dS "law" s_law, dM "Function" "__init__" "Function.__init__" s_Function___init__, dM "Function" "names" "Function.names" s_Function_names] : List He.DefD)
noncomputable def fa : List He.Fa := ([.glo "is_number", .glo "is_word", .glo "is_made_of", .glo "is_worth", .glo "is_plain", .glo "need_worth", .glo "need_plain", .glo "sort_of", .glo "kind_of", .glo "are_same", .glo "are_alike", .glo "leaf_text", .glo "worth_text", .glo "need", .glo "number_in", .glo "leaf_in"] : List He.Fa) ++ ([.glo "words_in", .glo "read", .glo "_law_mixed", .glo "_law_begun", .glo "_law_next", .glo "_law_leaf", .glo "_law_worth", .glo "_law_otherwise", .glo "_law_kinds", .glo "law", .glo "Function", .glo "BadWorth", .glo "NoText", .glo "WORDS", .free "isinstance", .free "int"] : List He.Fa) ++ ([.free "bool", .free "str", .free "tuple", .free "abs", .free "all", .free "len", .free "range", .free "min", .free "zip", .free "list", .int "MOST_NUMBER" 1000000000, .int "MOST_SIGNS" 8, .int "MOST_FIGURES" 10, .int "MOST_TEXT" 20000, .int "MOST_BRACKETS" 100, .str "SMALL" "abcdefghijklmnopqrstuvwxyz"] : List He.Fa) ++ ([.str "FIGURES" "0123456789", .exc "BadWorth", .exc "NoText", .mkr "Function", .noat "Function" "params", .noat "Function" "part", .noat "Function" "known", .noat "Function" "mine", .meth "Function" "names"] : List He.Fa)
noncomputable def ck : List Ck := [kfB "Function", wdsB]
abbrev R : PySem.W.OpenRow := PySem.W.OpenLaw.row PySem.Challenge.rw_floorhall_k06_whole_one_text_a_worth
noncomputable abbrev hk : PySem.W.Hook := hookNK ck fa fn
noncomputable def ob (s : PySem.W.SharedT) : AlK := obsNK ck fa fn (HandSHeadRun.getT s)
theorem ob_eq (s : PySem.W.SharedT) : ob s = hk.obs s.abs := obsNK_eq (HandSHeadRun.getT_eq s)
abbrev nms : List Str := (["__name__", "FloorError", "BadWorth", "NoText", "WORDS", "MOST_NUMBER", "MOST_SIGNS", "SMALL", "Function", "is_number", "is_word", "is_made_of", "is_worth", "is_plain", "need_worth", "need_plain"] : List PySem.Str) ++ (["sort_of", "kind_of", "are_same", "are_alike", "FIGURES", "MOST_TEXT", "MOST_BRACKETS", "MOST_FIGURES", "leaf_text", "worth_text", "need", "number_in", "leaf_in", "words_in", "read", "_law_mixed"] : List PySem.Str) ++ (["_law_begun", "_law_next", "_law_leaf", "_law_worth", "_law_nested", "_law_otherwise", "_law_kinds"] : List PySem.Str)
theorem run (w : World) : HandSHeadRun.RunEq R (PySem.W.view R.prog [42]) hk ob 4000 nms w := by
  intro os
  kernel_rfl
theorem facts {P : Program} {w : World} {K : PySem.W.Frag} {h : Heap} {mg : Str → Option Value} (X : K.In h) (G : h.Ns mainGlobals mg) (c : SaysK ck fa fn K) (base : Heap) : Cg P w K mg base 16 "law" ["_law_script"] (spLaw K) := by
  have F_is_number := fnp_ok (x := "is_number") (q := "is_number") (st := s_is_number) X G c 0 0
  have F_is_word := fnp_ok (x := "is_word") (q := "is_word") (st := s_is_word) X G c 1 1
  have F_is_made_of := fnp_ok (x := "is_made_of") (q := "is_made_of") (st := s_is_made_of) X G c 2 2
  have F_is_worth := fnp_ok (x := "is_worth") (q := "is_worth") (st := s_is_worth) X G c 3 3
  have F_is_plain := fnp_ok (x := "is_plain") (q := "is_plain") (st := s_is_plain) X G c 4 4
  have F_need_worth := fnp_ok (x := "need_worth") (q := "need_worth") (st := s_need_worth) X G c 5 5
  have F_need_plain := fnp_ok (x := "need_plain") (q := "need_plain") (st := s_need_plain) X G c 6 6
  have F_sort_of := fnp_ok (x := "sort_of") (q := "sort_of") (st := s_sort_of) X G c 7 7
  have F_kind_of := fnp_ok (x := "kind_of") (q := "kind_of") (st := s_kind_of) X G c 8 8
  have F_are_same := fnp_ok (x := "are_same") (q := "are_same") (st := s_are_same) X G c 9 9
  have F_are_alike := fnp_ok (x := "are_alike") (q := "are_alike") (st := s_are_alike) X G c 10 10
  have F_leaf_text := fnp_ok (x := "leaf_text") (q := "leaf_text") (st := s_leaf_text) X G c 11 11
  have F_worth_text := fnp_ok (x := "worth_text") (q := "worth_text") (st := s_worth_text) X G c 12 12
  have F_need := fnp_ok (x := "need") (q := "need") (st := s_need) X G c 13 13
  have F_number_in := fnp_ok (x := "number_in") (q := "number_in") (st := s_number_in) X G c 14 14
  have F_leaf_in := fnp_ok (x := "leaf_in") (q := "leaf_in") (st := s_leaf_in) X G c 15 15
  have F_words_in := fnp_ok (x := "words_in") (q := "words_in") (st := s_words_in) X G c 16 16
  have F_read := fnp_ok (x := "read") (q := "read") (st := s_read) X G c 17 17
  have F__law_mixed := fnp_ok (x := "_law_mixed") (q := "_law_mixed") (st := s_law_mixed) X G c 18 18
  have F__law_begun := fnp_ok (x := "_law_begun") (q := "_law_begun") (st := s_law_begun) X G c 19 19
  have F__law_next := fnp_ok (x := "_law_next") (q := "_law_next") (st := s_law_next) X G c 20 20
  have F__law_leaf := fnp_ok (x := "_law_leaf") (q := "_law_leaf") (st := s_law_leaf) X G c 21 21
  have F__law_worth := fnp_ok (x := "_law_worth") (q := "_law_worth") (st := s_law_worth) X G c 22 22
  have F__law_otherwise := fnp_ok (x := "_law_otherwise") (q := "_law_otherwise") (st := s_law_otherwise) X G c 23 23
  have F__law_kinds := fnp_ok (x := "_law_kinds") (q := "_law_kinds") (st := s_law_kinds) X G c 24 24
  have F_law := fnp_ok (x := "law") (q := "law") (st := s_law) X G c 25 25
  have F_Function___init__ := mtp_ok (C := "Function") (x := "__init__") (qn := "Function.__init__") (st := s_Function___init__) c 26
  have F_Function_names := mtp_ok (C := "Function") (x := "names") (qn := "Function.names") (st := s_Function_names) c 27
  have g_Function := He.glo_ok X G (c.d.fact 26 (f := .glo "Function") rfl)
  have g_BadWorth := He.glo_ok X G (c.d.fact 27 (f := .glo "BadWorth") rfl)
  have g_NoText := He.glo_ok X G (c.d.fact 28 (f := .glo "NoText") rfl)
  have g_WORDS := He.glo_ok X G (c.d.fact 29 (f := .glo "WORDS") rfl)
  have z_isinstance := He.free_ok X G (c.d.fact 30 (f := .free "isinstance") rfl)
  have z_int := He.free_ok X G (c.d.fact 31 (f := .free "int") rfl)
  have z_bool := He.free_ok X G (c.d.fact 32 (f := .free "bool") rfl)
  have z_str := He.free_ok X G (c.d.fact 33 (f := .free "str") rfl)
  have z_tuple := He.free_ok X G (c.d.fact 34 (f := .free "tuple") rfl)
  have z_abs := He.free_ok X G (c.d.fact 35 (f := .free "abs") rfl)
  have z_all := He.free_ok X G (c.d.fact 36 (f := .free "all") rfl)
  have z_len := He.free_ok X G (c.d.fact 37 (f := .free "len") rfl)
  have z_range := He.free_ok X G (c.d.fact 38 (f := .free "range") rfl)
  have z_min := He.free_ok X G (c.d.fact 39 (f := .free "min") rfl)
  have z_zip := He.free_ok X G (c.d.fact 40 (f := .free "zip") rfl)
  have z_list := He.free_ok X G (c.d.fact 41 (f := .free "list") rfl)
  have c_MOST_NUMBER := ki_ok X G (c.d.fact 42 (f := .int "MOST_NUMBER" 1000000000) rfl)
  have c_MOST_SIGNS := ki_ok X G (c.d.fact 43 (f := .int "MOST_SIGNS" 8) rfl)
  have c_MOST_FIGURES := ki_ok X G (c.d.fact 44 (f := .int "MOST_FIGURES" 10) rfl)
  have c_MOST_TEXT := ki_ok X G (c.d.fact 45 (f := .int "MOST_TEXT" 20000) rfl)
  have c_MOST_BRACKETS := ki_ok X G (c.d.fact 46 (f := .int "MOST_BRACKETS" 100) rfl)
  have c_SMALL := ks_ok X G (c.d.fact 47 (f := .str "SMALL" "abcdefghijklmnopqrstuvwxyz") rfl)
  have c_FIGURES := ks_ok X G (c.d.fact 48 (f := .str "FIGURES" "0123456789") rfl)
  have x_BadWorth := exc_ok (c.d.fact 49 (f := .exc "BadWorth") rfl)
  have x_NoText := exc_ok (c.d.fact 50 (f := .exc "NoText") rfl)
  have mk_Function := mkr_ok (c.d.fact 51 (f := .mkr "Function") rfl)
  have na_Function_params := noat_ok (c.d.fact 52 (f := .noat "Function" "params") rfl)
  have na_Function_part := noat_ok (c.d.fact 53 (f := .noat "Function" "part") rfl)
  have na_Function_known := noat_ok (c.d.fact 54 (f := .noat "Function" "known") rfl)
  have na_Function_mine := noat_ok (c.d.fact 55 (f := .noat "Function" "mine") rfl)
  have me_Function_names := meth_ok (c.d.fact 56 (f := .meth "Function" "names") rfl)
  have kf := kf_ok (c.chk 0 (f := kfB "Function") rfl)
  have wds := wds_ok (c.chk 1 (f := wdsB) rfl)
  have tw : Tw K mg := ⟨kf, g_Function, z_isinstance, z_int, z_bool, z_str, z_tuple, z_abs, z_all, z_len, g_BadWorth, x_BadWorth, c_MOST_NUMBER, c_MOST_SIGNS, c_SMALL⟩
  have td : Td mg := ⟨z_len⟩
  have tc : Tc K := ⟨kf, na_Function_params, na_Function_part, na_Function_known, na_Function_mine⟩
  have tr : Tr mg := ⟨z_tuple, z_range⟩
  have ts : Ts K mg := ⟨kf, z_isinstance, z_int, z_bool, z_str, z_tuple, z_len, z_zip, z_list⟩
  have tx : Tx K mg := ⟨kf, z_len, z_all, z_int, z_str, z_bool, z_tuple, z_range, z_isinstance, g_NoText, x_NoText, c_MOST_FIGURES, c_MOST_TEXT, c_MOST_BRACKETS, c_FIGURES, c_SMALL⟩
  have t6 : Tw6 K mg := ⟨z_tuple, z_range, z_min, z_len, g_WORDS, wds⟩
  have B1 := ok_is_number (P := P) (w := w) (base := base) F_is_number tw
  have B2 := ok_is_word (P := P) (w := w) (base := base) F_is_word tw
  have B3 := ok_is_made_of F_is_made_of tw B1 B2
  have B4 := ok_is_worth F_is_worth B3
  have B5 := ok_is_plain F_is_plain B3
  have B6 := ok_need_worth F_need_worth tw B4
  have B7 := ok_need_plain F_need_plain tw B5
  have C1 := ok_law_mixed (P := P) (w := w) (K := K) (base := base) F__law_mixed
  have C2 := ok_law_begun (P := P) (w := w) (base := base) F__law_begun
  have C3 := ok_law_next F__law_next td C1
  have C4 := ok_law_leaf F__law_leaf C3
  have N1 := nw_Function (P := P) (w := w) (mg := mg) (base := base) F_Function___init__ tc mk_Function g_Function
  have W0 := ok_law_worthT_none (P := P) (w := w) (base := base) F__law_worth
  have W1 := ok_law_worthT (m := 0) F__law_worth tr C3 C4 N1 W0
  have W2 := ok_law_worthT (m := 1) F__law_worth tr C3 C4 N1 W1
  have W3 := ok_law_worthT (m := 2) F__law_worth tr C3 C4 N1 W2
  have W4 := ok_law_worthT (m := 3) F__law_worth tr C3 C4 N1 W3
  have W5 := ok_law_worthT (m := 4) F__law_worth tr C3 C4 N1 W4
  have M1 := mt_names (P := P) (w := w) (mg := mg) (base := base) F_Function_names tc me_Function_names
  have S1 := ok_sort_of (P := P) (w := w) (base := base) F_sort_of ts
  have S2 := ok_are_same F_are_same ts S1
  have S3 := ok_kind_of F_kind_of ts B6 S1
  have S4 := ok_are_alike F_are_alike ts B7 S2
  have X1 := ok_leaf_text (P := P) (w := w) (base := base) F_leaf_text tx
  have X2 := ok_worth_text F_worth_text tx B7 X1
  have X3 := ok_need (P := P) (w := w) (base := base) F_need tx
  have X4 := ok_number_in F_number_in tx X3 B1
  have X5 := ok_leaf_in F_leaf_in tx X3 B2 X4
  have X6 := ok_words_in (P := P) (w := w) (K := K) (base := base) F_words_in ⟨z_len⟩
  have X7 := ok_read F_read tx X3 X6 X5
  have O0 := ok_law_otherwise_none (P := P) (w := w) (base := base) F__law_otherwise
  have O1 := ok_law_otherwise (m := 0) F__law_otherwise ts C3 O0
  have O2 := ok_law_otherwise (m := 1) F__law_otherwise ts C3 O1
  have O3 := ok_law_otherwise (m := 2) F__law_otherwise ts C3 O2
  have O4 := ok_law_otherwise (m := 3) F__law_otherwise ts C3 O3
  have O5 := ok_law_otherwise (m := 4) F__law_otherwise ts C3 O4
  have O6 := ok_law_otherwise (m := 5) F__law_otherwise ts C3 O5
  have K0 := ok_law_kinds_none (P := P) (w := w) (base := base) F__law_kinds
  have K1 := ok_law_kinds (m := 0) F__law_kinds S3 K0
  have K2 := ok_law_kinds (m := 1) F__law_kinds S3 K1
  have K3 := ok_law_kinds (m := 2) F__law_kinds S3 K2
  have K4 := ok_law_kinds (m := 3) F__law_kinds S3 K3
  have K5 := ok_law_kinds (m := 4) F__law_kinds S3 K4
  have K6 := ok_law_kinds (m := 5) F__law_kinds S3 K5
  have K7 := ok_law_kinds (m := 6) F__law_kinds S3 K6
  have K8 := ok_law_kinds (m := 7) F__law_kinds S3 K7
  have K9 := ok_law_kinds (m := 8) F__law_kinds S3 K8
  exact ok_law F_law t6 C2 C3 W5 O6 K9 X2 X7 S4 M1 N1
end Fl
open PySem PySem.W PySem.Calls PyProof.Rows
theorem PySem.Challenge.cw_floorhall_k06_whole_one_text_a_worth_holds : PySem.Challenge.rw_floorhall_k06_whole_one_text_a_worth.Holds := by
  w_on; o_law
  refine HandSHeadRun.head_any (r := OpenLaw.row PySem.Challenge.rw_floorhall_k06_whole_one_text_a_worth) (q := view (OpenLaw.row PySem.Challenge.rw_floorhall_k06_whole_one_text_a_worth).prog [42]) (H := Fl.hk) (ob := Fl.ob) (M := 4000) (loose := Fl.nms) (d := HandSHeadRun.topDef (OpenLaw.row PySem.Challenge.rw_floorhall_k06_whole_one_text_a_worth).prog 42) (kwd := []) Fl.ob_eq
    (by kernel_rfl) (fun s => by kernel_rfl) Fl.run (by kernel_rfl) (by kernel_rfl) (by kernel_rfl) (by rfl) (by first | assumption | decide +kernel) (by decide +kernel) ⟨rfl, rfl, rfl, rfl, rfl, by decide +kernel⟩ ?hw ?hc
  case hw => w_witness2
  case hc =>
    refine Fl.walk_ofN (l := PySem.Challenge.rw_floorhall_k06_whole_one_text_a_worth) (n := 63) (k := 16) (x := "_law_script") (y := "law") rfl (by decide) (by kernel_rfl) ⟨rfl, by decide, by decide⟩ (by kernel_rfl) ?F
    intro w mg h Y G
    obtain ⟨K, KX, c⟩ := Y
    exact ⟨K, Fl.spLaw K, KX, fun H a ns hl hO hS => ⟨_, rfl, a, ns, rfl, Fl.scr_of hO hS, hl, fun _ => rfl⟩, fun base => Fl.facts KX G c base⟩
