import PyProof.Rows.All
import Wide.All
import OpenK.AllK
import Wide.FinOn
import KE.KStateDown
import HandS.ForMost
import HandS.ForExc
import HandS.IsInst
import HandS.Wide
import HandS.Conv
import HandS.TupAny
import HandS.TupMul
import HandS.TupLe
import HandS.Deep
import HandS.Zip
import HandS.Flow
import HandS.Codes
import HandS.Head2
import HandS.HeadEnd
import HandS.HeadHook2
import HandS.EndBits
import HandS.Strs
import HandS.Walk
import PySem.Challenge.RW_floorhall_k12_rows_and_kinds
import PyProof.ReprRoads
import PyProof.ReprReads
import PyProof.CallFns
import PyProof.InstEq
import PyProof.NeKinds
import HandS.Text
import HandS.Flt
import HandS.ExcIs
import HandS.ExcValue
import HandS.TryOnly
import HandS.GenList
import KE.KDictZip
import HandS.RevTup
import HandS.Style
import KE.KRevSl
import HandS.HeadHook3
import HandS.DictTup
import KE.KeyNested
import KE.KDictWalk
set_option Elab.async false
set_option linter.all false
set_option maxRecDepth 100000
set_option maxHeartbeats 0
namespace Fl
open PySem PySem.Spec PyProof.Rows L2

/-! ### things: what the laws hand about, without the heap -/
inductive Th where
  | non | bl (b : Bool) | int (i : Int) | str (x : Str) | tup (l : List Th) | fn (l : List Th) | oth
def isSign (c : Nat) : Bool := Nat.ble 97 c && Nat.ble c 122
def sTrue : Str := "true"
def sFalse : Str := "false"
def wordB (x : Str) : Bool := decide (1 ≤ x.length) && (decide (x.length ≤ 8) && (!decide (x = sTrue) && (!decide (x = sFalse) && x.cps.toList.all isSign)))
def numB (i : Int) : Bool := decide (-1000000000 ≤ i) && decide (i ≤ 1000000000)
mutual
def Th.worth (f : Bool) : Th → Bool
  | .non => false
  | .bl _ => true
  | .int i => numB i
  | .str x => wordB x
  | .tup l => Th.worths f l
  | .fn _ => f
  | .oth => false
def Th.worths (f : Bool) : List Th → Bool
  | [] => true
  | t :: r => t.worth f && Th.worths f r
end
mutual
def Th.nodes : Th → Nat
  | .tup l => Th.nodesL l + 1
  | .non => 1
  | .bl _ => 1
  | .int _ => 1
  | .str _ => 1
  | .fn _ => 1
  | .oth => 1
def Th.nodesL : List Th → Nat
  | [] => 0
  | t :: r => t.nodes + Th.nodesL r
end
mutual
def Th.depth : Th → Nat
  | .tup l => Th.depthL l + 1
  | .non => 0
  | .bl _ => 0
  | .int _ => 0
  | .str _ => 0
  | .fn _ => 0
  | .oth => 0
def Th.depthL : List Th → Nat
  | [] => 0
  | t :: r => max t.depth (Th.depthL r)
end
theorem depthL_app (a b : List Th) : Th.depthL (a ++ b) = max (Th.depthL a) (Th.depthL b) := by
  induction a with
  | nil => simp [Th.depthL]
  | cons t r ih => rw [List.cons_append, Th.depthL, Th.depthL, ih]; omega
theorem Th.nodes_pos (t : Th) : 1 ≤ t.nodes := by cases t <;> simp [Th.nodes]
theorem nodesL_app (a b : List Th) : Th.nodesL (a ++ b) = Th.nodesL a + Th.nodesL b := by
  induction a with
  | nil => simp [Th.nodesL]
  | cons t r ih => rw [List.cons_append, Th.nodesL, Th.nodesL, ih]; omega
theorem worths_app (f : Bool) (a b : List Th) : Th.worths f (a ++ b) = (Th.worths f a && Th.worths f b) := by
  induction a with
  | nil => simp [Th.worths]
  | cons t r ih => rw [List.cons_append, Th.worths, Th.worths, ih, Bool.and_assoc]
theorem len_nodesL (a : List Th) : a.length ≤ Th.nodesL a := by
  induction a with
  | nil => exact Nat.zero_le _
  | cons t r ih =>
    have := t.nodes_pos
    rw [Th.nodesL, List.length_cons]
    omega

/-! ### what stands for what -/
/-- the fields of a function -/
def fnF (n b s o : V) : List (Str × V) := putF "mine" o (putF "known" s (putF "part" b (putF "params" n [])))
mutual
inductive Is (C : Addr) (H : Hp) : V → Th → Prop
  | non : Is C H .non .non
  | bl (b : Bool) : Is C H (.bl b) (.bl b)
  | int (i : Int) : Is C H (.int i) (.int i)
  | str (x : Str) (h : x.length ≤ 100000) : Is C H (.str x) (.str x)
  | tup {p : Addr} {xs : List V} {ts : List Th} : H p = some (.tup xs) → Iss C H xs ts → Is C H (.ref p) (.tup ts)
  | fn {a dx : Addr} {n b s o : V} {l : List Th} : H a = some (.ins C dx (fnF n b s o)) → Iss C H [n, b, s, o] l → Is C H (.ref a) (.fn l)
  | lst {a : Addr} {xs : List V} : H a = some (.lst xs) → Is C H (.ref a) .oth
  | dct {a : Addr} {kvs : List (Key × V)} : H a = some (.dK kvs) → Is C H (.ref a) .oth
inductive Iss (C : Addr) (H : Hp) : List V → List Th → Prop
  | nil : Iss C H [] []
  | cons {v : V} {vs : List V} {t : Th} {ts : List Th} : Is C H v t → Iss C H vs ts → Iss C H (v :: vs) (t :: ts)
end
theorem Iss.len {C : Addr} {H : Hp} : ∀ {xs : List V} {ts : List Th}, Iss C H xs ts → xs.length = ts.length
  | _, _, .nil => rfl
  | _, _, .cons _ r => congrArg Nat.succ r.len
theorem Iss.app {C : Addr} {H : Hp} : ∀ {xs ys : List V} {ts us : List Th}, Iss C H xs ts → Iss C H ys us → Iss C H (xs ++ ys) (ts ++ us)
  | _, _, _, _, .nil, s => s
  | _, _, _, _, .cons h r, s => .cons h (r.app s)
theorem Iss.one {C : Addr} {H : Hp} {v : V} {t : Th} (h : Is C H v t) : Iss C H [v] [t] := .cons h .nil
/-- the last of some -/
theorem Iss.last {C : Addr} {H : Hp} : ∀ {xs : List V} {ts : List Th}, Iss C H xs ts → xs ≠ [] → ∃ (ys : List V) (y : V) (us : List Th) (u : Th), xs = ys ++ [y] ∧ ts = us ++ [u] ∧ Iss C H ys us ∧ Is C H y u
  | _, _, .nil, h => absurd rfl h
  | _, _, .cons (vs := []) h r, _ => by
    cases r
    exact ⟨[], _, [], _, rfl, rfl, .nil, h⟩
  | _, _, .cons (vs := a :: b) h r, _ => by
    obtain ⟨ys, y, us, u, e1, e2, h1, h2⟩ := r.last (List.cons_ne_nil _ _)
    exact ⟨_ :: ys, y, _ :: us, u, by rw [e1]; rfl, by rw [e2]; rfl, .cons h h1, h2⟩
mutual
theorem Is.same {C : Addr} {H H' : Hp} (s : Same H H') : ∀ {v : V} {t : Th}, Is C H v t → Is C H' v t
  | _, _, .non => .non
  | _, _, .bl b => .bl b
  | _, _, .int i => .int i
  | _, _, .str x h => .str x h
  | _, _, .tup h r => .tup (s _ _ h) (r.same s)
  | _, _, .fn h r => .fn (s _ _ h) (r.same s)
  | _, _, .lst h => .lst (s _ _ h)
  | _, _, .dct h => .dct (s _ _ h)
theorem Iss.same {C : Addr} {H H' : Hp} (s : Same H H') : ∀ {xs : List V} {ts : List Th}, Iss C H xs ts → Iss C H' xs ts
  | _, _, .nil => .nil
  | _, _, .cons h r => .cons (h.same s) (r.same s)
end
theorem same_new {H : Hp} {p : Addr} (h : H p = none) (o : HO) : Same H (upd H p o) := fun b u q => by rw [upd_ne (ne_of_none q h)]; exact q
/-- an object that is not of H may change -/
theorem same_mut {H H' : Hp} {p : Addr} {o : HO} (e : Same H H') (h : H p = none) : Same H (upd H' p o) := fun a u ha => by
  rw [upd_ne (ne_of_none ha h)]
  exact e a u ha

/-! ### further rules of the layer -/
theorem extend_tup (l : Addr) (items : Array Value) (n : Nat) (b : Addr) (items2 : Array Value) (n2 : Nat) (dd : Option Addr) (sl : Array (Option Value))
    (a0 : ¬(!items.isEmpty && Builtin.List.listTooLong (items.size + items2.size)) = true) (a1 : items.size ≤ sizeLine) (a2 : items.size + items2.size ≤ sizeLine + 1) :
    Meets (Builtin.«list.extend» ⟨[.ref l, .ref b], []⟩) (fun _ R s => s.heap.get? l = some { cls := .type "list", dict := none, data := .seq items n, slots := #[] } ∧
      s.heap.get? b = some { cls := .type "tuple", dict := dd, data := .seq items2 n2, slots := sl } ∧ R (.ok (.ret Value.none)) { s with heap := s.heap.update l (Obj.mapSeq fun x => x ++ items2), toks := s.toks }) :=
  .of_wp fun prog w A R s h => by
    obtain ⟨hp, g, d, tk, os⟩ := s
    obtain ⟨hl, hb, h⟩ := h
    have f1 := AutoSeq1.idx_int
    have f2 := AutoSeq1.sub_tuple_tuple
    have f3 := AutoSeq1.sub_list_list
    have f4 := AutoSeq1.sub_tuple_list
    have f5 := AutoSeq1.sub_list_tuple
    have a3 : (items ++ items2).size ≤ sizeLine + 1 := by
      rw [Array.size_append]
      exact a2
    wp_walk using (wpAny_updateSeq hl rfl (hz := a1) (_hz' := a3)), wpAny_loadPart' hl, wpAny_loadPart' hb
    exact ⟨_, rfl, h⟩
section
variable {X : Cx}
/-- xs.extend(t), t a tuple -/
def rExtT (K : PySem.W.Frag) : V → List V → Hp → VK → Prop := fun x vs H Q => ∃ l b xs zs, x = .ref l ∧ vs = [.ref b] ∧ H l = some (.lst xs) ∧ SqT K H b zs ∧ xs.length + zs.length ≤ sizeLine ∧ Q .non (upd H l (.lst (xs ++ zs)))
theorem mt_extT : MtM X "list.extend" (rExtT X.K) := by
  intro pins s σ H x vs v us Q I rx rv h
  obtain ⟨l, b, xs, zs, rfl, rfl, hH, hB, hz, q⟩ := h
  cases rx
  obtain ⟨u, rfl, ru⟩ := rv.one
  cases ru
  obtain ⟨_, its, n, r, hl, e⟩ := I.lstM hH
  obtain ⟨its2, r2, ⟨⟨cls, dd, data, sl⟩, ho, hc, n2, hd⟩, _⟩ := I.tuple hB
  simp only at hc hd
  subst hc hd
  have hl2 := r2.length
  have g1 : its.toArray.size ≤ sizeLine := by
    rw [List.size_toArray]
    omega
  have g2 : its.toArray.size + its2.toArray.size ≤ sizeLine := by
    rw [List.size_toArray, List.size_toArray]
    omega
  have g3 : ¬ (!its.toArray.isEmpty && Builtin.List.listTooLong (its.toArray.size + its2.toArray.size)) = true := by
    rw [notLongL g2, Bool.and_false]
    intro z
    cases z
  refine call_meets F.slot_list_extend ⟨_, e, rfl⟩ F.entry_list_extend (F.args_list_extend_2 _ _) (extend_tup l its.toArray n b its2.toArray n2 dd sl g3 g1 (by omega)) ⟨e, ho, ?_⟩
  exact ⟨.non, _, I.lset (its' := its ++ its2) hH e (by simp) (r.append r2) (by rw [List.length_append]; omega), rfl, q⟩
end
end Fl
/-! the language, plain: what a part comes to, with no program in sight -/
namespace Fl
open PySem PySem.Spec PyProof.Rows L2
/-! what of the language is spoken of: calls, same, how many names -/
def callsOn : Bool := true
def sameOn : Bool := true
def namesMost : Nat := 4000
def formList : List (Str × Nat) := [("quote", 1), ("if", 3), ("fn", 2), ("rec", 3), ("let", 3), ("run", 2), ("add", 2), ("less", 2), ("times", 2), ("below", 2), ("same", 2), ("join", 2), ("first", 1), ("rest", 1), ("kind", 1), ("row", 1)]
def formCount (x : Str) : Option Nat := formList.lookup x
def isForm (x : Str) : Bool := (formCount x).isSome
/-- a row's parts -/
def Th.row : Th → List Th
  | .tup l => l
  | _ => []
mutual
/-- alike: plain worths that are equal and of one kind throughout -/
def Th.same : Th → Th → Bool
  | .bl a, .bl b => a == b
  | .int a, .int b => a == b
  | .str a, .str b => decide (a = b)
  | .tup a, .tup b => Th.sames a b
  | _, _ => false
def Th.sames : List Th → List Th → Bool
  | [], [] => true
  | t :: r, u :: s => t.same u && Th.sames r s
  | _, _ => false
end
def Th.kind : Th → Str
  | .bl _ => "truth"
  | .int _ => "number"
  | .str _ => "word"
  | .tup _ => "row"
  | _ => "function"
/-- a name: a word that is no form's -/
def isName : Th → Bool
  | .str x => !isForm x
  | _ => false
def strOf : Th → Option Str
  | .str x => some x
  | _ => none
def areNames : Th → Bool
  | .tup l => l.all isName && decide ((l.filterMap strOf).Nodup)
  | _ => false
/-- the worths of a name in a scope of pairs, in order -/
def hasName (x : Str) : Th → Option Th
  | .tup [.str y, v] => if y = x then some v else none
  | _ => none
def looks (x : Str) (sc : List Th) : List Th := sc.filterMap (hasName x)
/-- whether a row at whose head a form's word stands is told so -/
def isFormed (w : Str) (rest : List Th) : Bool :=
  decide (formCount w = some rest.length) && ((!(w == "let" || w == "rec") || isName (rest.getD 0 .non)) && (!(w == "fn" || w == "rec") || areNames (rest.getD (rest.length - 2) .non)))
/-- what is asked of names here -/
def namesG (w : Str) (rest : List Th) : Bool := !(w == "fn" || w == "rec") || Nat.ble (rest.getD (rest.length - 2) .non).row.length namesMost
/-- what comes of a part, or of a form's parts: a worth, or an end's word -/
inductive Out where
  | val (t : Th)
  | stop (e : Str)
def ofNums (w : Str) : Th → Th → Out
  | .int a, .int b => if w == "below" then .val (.bl (decide (a < b))) else
      let c := if w == "add" then a + b else if w == "less" then a - b else a * b
      if numB c then .val (.int c) else .stop "far"
  | _, _ => .stop "kind"
def isNumW (w : Str) : Bool := w == "add" || (w == "less" || (w == "times" || w == "below"))
def isNilT : Th → Bool
  | .tup [] => true
  | _ => false
def joinT (one : Th) : Th → Out
  | .tup l => .val (.tup (one :: l))
  | _ => .stop "kind"
def partT (w : Str) : Th → Out
  | .tup (a :: r) => .val (if w == "first" then a else .tup r)
  | _ => .stop "kind"
def doneBy (w : Str) (ws : List Th) : Out :=
  let one := ws.getD 0 .non
  let two := ws.getD 1 .non
  if isNumW w then ofNums w one two
  else if w == "same" then (if one.worth false && two.worth false then .val (.bl (one.same two)) else .stop "kind")
  else if w == "join" then joinT one two
  else if w == "kind" then .val (.str one.kind)
  else if w == "row" then .val (.bl (isNilT one))
  else partT w one
def small (t : Th) : Bool := Nat.ble t.nodes 30000 && Nat.ble t.depth 40
/-- what is asked of worths here -/
def doneG (w : Str) (ws : List Th) : Bool := (!(w == "same") || (sameOn && (small (ws.getD 0 .non) && small (ws.getD 1 .non)))) && (!(w == "join") || Nat.ble (ws.getD 1 .non).row.length 100000)
inductive Res where
  | val (t : Th) (n : Int)
  | stop (e : Str) (n : Int)
/-- of worths that came, from the left -/
inductive Ress where
  | vals (l : List Th) (n : Int)
  | stop (e : Str) (n : Int)
def Out.at (n : Int) : Out → Res
  | .val t => .val t n
  | .stop e => .stop e n
def Res.then (r : Option Res) (k : Th → Int → Option Res) : Option Res := match r with
  | some (.val t n) => k t n
  | some (.stop e n) => some (.stop e n)
  | none => none
def Ress.then (r : Option Ress) (k : List Th → Int → Option Res) : Option Res := match r with
  | some (.vals l n) => k l n
  | some (.stop e n) => some (.stop e n)
  | none => none
def Res.told (n0 : Int) (r : Option Res) : Option Res := match r with
  | some (.val t n) => some (.val (.tup [.str "over", t, .int (n - n0)]) n)
  | some (.stop e n) => some (.val (.tup [.str e, .tup [], .int (n - n0)]) n)
  | none => none
def bindAll : List Th → List Th → List Th → List Th
  | x :: xs, v :: vs, sc => bindAll xs vs (.tup [x, v] :: sc)
  | _, _, sc => sc
def ownTh (f o : Th) (sc : List Th) : List Th := match o with
  | .non => sc
  | o => .tup [o, f] :: sc
def scG (sc : List Th) : Bool := Nat.ble sc.length 100000
mutual
/-- what a part comes to; n: the steps so far, lim: at how many the floor ends; fuel: how deep the reckoning may go -/
def ev : Nat → Th → List Th → Int → Int → Option Res
  | 0, _, _, _, _ => none
  | f + 1, p, sc, lim, n => if n = lim then some (.stop "steps" n) else
    match p with
    | .str x => some (if isForm x then .stop "form" (n + 1) else match looks x sc with
      | v :: _ => .val v (n + 1)
      | [] => .stop "name" (n + 1))
    | .tup (h :: r) => if !scG r then none else match strOf h with
      | some w => if isForm w then evForm f w r sc lim (n + 1) else Ress.then (evs f (h :: r) sc lim (n + 1)) fun ws m => evCall f ws lim m
      | none => Ress.then (evs f (h :: r) sc lim (n + 1)) fun ws m => evCall f ws lim m
    | t => some (.val t (n + 1))
def evForm : Nat → Str → List Th → List Th → Int → Int → Option Res
  | f, w, r, sc, lim, n =>
    if !namesG w r then none
    else if !isFormed w r then some (.stop "form" n)
    else evGood f w r sc lim n
def evGood : Nat → Str → List Th → List Th → Int → Int → Option Res
  | f, w, r, sc, lim, n =>
    if w == "quote" then some (.val (r.getD 0 .non) n)
    else if w == "fn" then some (.val (.fn [r.getD 0 .non, r.getD 1 .non, .tup sc, .non]) n)
    else if w == "rec" then some (.val (.fn [r.getD 1 .non, r.getD 2 .non, .tup sc, r.getD 0 .non]) n)
    else if w == "let" then Res.then (ev f (r.getD 1 .non) sc lim n) fun v m => if scG sc then ev f (r.getD 2 .non) (.tup [r.getD 0 .non, v] :: sc) lim m else none
    else if w == "if" then Res.then (ev f (r.getD 0 .non) sc lim n) fun v m => match v with
      | .bl b => ev f (if b then r.getD 1 .non else r.getD 2 .non) sc lim m
      | _ => some (.stop "kind" m)
    else Ress.then (evs f r sc lim n) fun ws m => if w == "run" then (match ws.getD 1 .non with
        | .int k => if 0 ≤ k ∧ k ≤ 100000 then Res.told m (ev f (ws.getD 0 .non) [] (min (m + k) lim) m) else some (.stop "kind" m)
        | _ => some (.stop "kind" m))
      else if doneG w ws then some ((doneBy w ws).at m) else none
def evs : Nat → List Th → List Th → Int → Int → Option Ress
  | _, [], _, _, n => some (.vals [] n)
  | f, p :: ps, sc, lim, n => match ev f p sc lim n with
    | some (.val t m) => (match evs f ps sc lim m with
      | some (.vals l m') => some (.vals (t :: l) m')
      | some (.stop e m') => some (.stop e m')
      | none => none)
    | some (.stop e m) => some (.stop e m)
    | none => none
def evCall : Nat → List Th → Int → Int → Option Res
  | f, t :: vs, lim, n => match t with
    | .fn [ns, body, .tup sc, own] => if !callsOn then none else if ns.row.length = vs.length then
      (if scG sc && scG ns.row then ev f body (bindAll ns.row vs (ownTh (.fn [ns, body, .tup sc, own]) own sc)) lim n else none) else some (.stop "count" n)
    | .fn _ => none
    | _ => some (.stop "kind" n)
  | _, [], _, n => some (.stop "kind" n)
end
end Fl
namespace Fl
open PySem PySem.Spec PyProof.Rows L2

theorem hu64 {A : Around} {k : Nat} (hr : Room k A) : A.units + 64 < cLine := hr.units

/-! ### defs by name -/
theorem pe_gk {X : Cx} {x : Str} {v : V} {pos : Pos} (hg : Gl X x) (h : ∃ u, X.mg x = some u ∧ RelV v u) (hd : (x == ("__debug__" : Str)) = false := by decide) : PE X (.Name x pos) (tC v) := by
  obtain ⟨u, e, r⟩ := h
  exact pe_glob hg e r hd

def bindOk (st : Stmt) (x : Str) (ps : List Str) : Prop := ∀ (kV doc pm : Value) (an : Option Addr) (cdv ct : Value) (us : List Value), us.length = ps.length →
  bindArgs (PySem.W.fnOf x x (defArgs st) (defBody st) (defScope st) .none kV doc pm an cdv ct) ⟨us, []⟩ = pure (ps.zip us)
/-- the def st stands behind the name x -/
structure FnP (K : PySem.W.Frag) (mg : Str → Option Value) (x : Str) (st : Stmt) : Prop where
  ex : ∃ fd, FunD K x x (defArgs st) (defBody st) (defScope st) [] [] (He.ga K x) fd
  gl : mg x = some (.ref (He.ga K x))
/-- the name x stands for a def that keeps the promise sp -/
structure Cl (P : Program) (w : World) (K : PySem.W.Frag) (mg : Str → Option Value) (base : Heap) (k : Nat) (x : Str) (ps : List Str) (sp : Sp) : Prop where
  ex : ∃ f fd, FnOk P w K mg base (L2.CX P w) k f fd ps sp ∧ Binds K fd ps [] ∧ PySem.W.keepIn K (.ref f) = true ∧ mg x = some (.ref f)
section
variable {X : Cx} {k j : Nat} {x : Str} {ps : List Str} {sp : Sp} {E : XK} {p pos : Pos} {e : Expr} {es : List Expr} {t : TA}
theorem pe_b (c : Cl X.prog X.w X.K X.mg X.base k x ps sp) (hr : Room j X.A) (hk : k ≤ j) (hg : Gl X x) (hx : Passes (L2.CX X.prog X.w) X E) (ha : PA X (e :: es) t) (hdb : (x == ("__debug__" : Str)) = false := by decide)
    (he : starEach (e :: es) X.env = (false, eval e X.env) :: starEach es X.env := by rfl) (hpl : (backTo pos (starEach es X.env)).any (·.1) = false := by rfl) : PE X (.Call (.Name x p) (e :: es) [] pos) (tCall sp [] E t) := by
  obtain ⟨f, fd, F, b, kp, g⟩ := c.ex
  exact pe_call F (hr.mono hk) hg g kp b .nil hx ha hdb he hpl
theorem pe_bS {E : L2.St → XK} (c : Cl X.prog X.w X.K X.mg X.base k x ps sp) (hr : Room j X.A) (hk : k ≤ j) (hg : Gl X x) (hx : ∀ σ, PassesAt (L2.CX X.prog X.w) X σ (E σ)) (ha : PA X (e :: es) t) (hdb : (x == ("__debug__" : Str)) = false := by decide)
    (he : starEach (e :: es) X.env = (false, eval e X.env) :: starEach es X.env := by rfl) (hpl : (backTo pos (starEach es X.env)).any (·.1) = false := by rfl) : PE X (.Call (.Name x p) (e :: es) [] pos) (tCallS sp E t) := by
  obtain ⟨f, fd, F, b, kp, g⟩ := c.ex
  exact pe_callS F (hr.mono hk) hg g kp b hx ha hdb he hpl
end
section
variable {P : Program} {w : World} {K : PySem.W.Frag} {mg : Str → Option Value} {base : Heap} {x : Str} {st : Stmt} {N ps : List Str} {k : Nat} {sp : Sp}
theorem Cl.imp {sp' : Sp} (c : Cl P w K mg base k x ps sp) (h : ∀ vs H Q E, sp' vs H Q E → sp vs H Q E) : Cl P w K mg base k x ps sp' := by
  obtain ⟨f, fd, F, b, kp, g⟩ := c.ex
  exact ⟨f, fd, F.imp h, b, kp, g⟩
theorem cl_mk (F : FnP K mg x st) (S : FnScope N ps (defScope st)) (hb : bindOk st x ps) (len : ∀ vs H Q E, sp vs H Q E → vs.length = ps.length)
    (body : ∀ (cdv : Value) (A : Around) (outer : List Env) (s : Shared) (H : Hp) (vs : List V) (Q : VK) (E : XK), Room k (A.deeper (envOfC x (defScope st) s.heap.objs.size (He.ga K x) cdv)) → sp vs H Q E →
      ∃ t, PSs (cxOf (L2.CX P w) P w K mg base N x (defScope st) (He.ga K x) cdv A outer s H E) (defBody st) t ∧ t { nx := fun _ H' => Q .non H', rt := Q } (start N vs) H) : Cl P w K mg base (k + 1) x ps sp := by
  obtain ⟨fd, D⟩ := F.ex
  refine ⟨_, fd, D.ok S len body, ?_, D.kp, F.gl⟩
  obtain ⟨oc, od, dV, kV, doc, pm, an, cdv, ct, osl, rfl, lk, hcd, hd, hkw⟩ := D.ex
  rcases hd with ⟨_, e⟩ | ⟨e, _⟩
  · subst e
    exact Binds.all fun us hl => hb kV doc pm an cdv ct us hl
  · exact absurd rfl e
end
def sp1 (f : V → Hp → VK → XK → Prop) : Sp := fun vs H Q E => ∃ a, vs = [a] ∧ f a H Q E
def sp2 (f : V → V → Hp → VK → XK → Prop) : Sp := fun vs H Q E => ∃ a b, vs = [a, b] ∧ f a b H Q E
def sp3 (f : V → V → V → Hp → VK → XK → Prop) : Sp := fun vs H Q E => ∃ a b c, vs = [a, b, c] ∧ f a b c H Q E
def sp4 (f : V → V → V → V → Hp → VK → XK → Prop) : Sp := fun vs H Q E => ∃ a b c d, vs = [a, b, c, d] ∧ f a b c d H Q E
section
variable {P : Program} {w : World} {K : PySem.W.Frag} {mg : Str → Option Value} {base : Heap} {x p1 p2 p3 : Str} {st : Stmt} {N : List Str} {k : Nat}
theorem cl_1 {f : V → Hp → VK → XK → Prop} (F : FnP K mg x st) (S : FnScope N [p1] (defScope st)) (hb : bindOk st x [p1])
    (body : ∀ (cdv : Value) (A : Around) (outer : List Env) (s : Shared) (H : Hp) (a : V) (Q : VK) (E : XK), Room k (A.deeper (envOfC x (defScope st) s.heap.objs.size (He.ga K x) cdv)) → f a H Q E →
      ∃ t, PSs (cxOf (L2.CX P w) P w K mg base N x (defScope st) (He.ga K x) cdv A outer s H E) (defBody st) t ∧ t { nx := fun _ H' => Q .non H', rt := Q } (start N [a]) H) : Cl P w K mg base (k + 1) x [p1] (sp1 f) :=
  cl_mk F S hb (fun vs H Q E h => by obtain ⟨a, rfl, _⟩ := h; rfl) fun cdv A outer s H vs Q E hr h => by
    obtain ⟨a, rfl, h⟩ := h
    exact body cdv A outer s H a Q E hr h
theorem cl_2 {f : V → V → Hp → VK → XK → Prop} (F : FnP K mg x st) (S : FnScope N [p1, p2] (defScope st)) (hb : bindOk st x [p1, p2])
    (body : ∀ (cdv : Value) (A : Around) (outer : List Env) (s : Shared) (H : Hp) (a b : V) (Q : VK) (E : XK), Room k (A.deeper (envOfC x (defScope st) s.heap.objs.size (He.ga K x) cdv)) → f a b H Q E →
      ∃ t, PSs (cxOf (L2.CX P w) P w K mg base N x (defScope st) (He.ga K x) cdv A outer s H E) (defBody st) t ∧ t { nx := fun _ H' => Q .non H', rt := Q } (start N [a, b]) H) : Cl P w K mg base (k + 1) x [p1, p2] (sp2 f) :=
  cl_mk F S hb (fun vs H Q E h => by obtain ⟨a, b, rfl, _⟩ := h; rfl) fun cdv A outer s H vs Q E hr h => by
    obtain ⟨a, b, rfl, h⟩ := h
    exact body cdv A outer s H a b Q E hr h
theorem cl_3 {f : V → V → V → Hp → VK → XK → Prop} (F : FnP K mg x st) (S : FnScope N [p1, p2, p3] (defScope st)) (hb : bindOk st x [p1, p2, p3])
    (body : ∀ (cdv : Value) (A : Around) (outer : List Env) (s : Shared) (H : Hp) (a b c : V) (Q : VK) (E : XK), Room k (A.deeper (envOfC x (defScope st) s.heap.objs.size (He.ga K x) cdv)) → f a b c H Q E →
      ∃ t, PSs (cxOf (L2.CX P w) P w K mg base N x (defScope st) (He.ga K x) cdv A outer s H E) (defBody st) t ∧ t { nx := fun _ H' => Q .non H', rt := Q } (start N [a, b, c]) H) : Cl P w K mg base (k + 1) x [p1, p2, p3] (sp3 f) :=
  cl_mk F S hb (fun vs H Q E h => by obtain ⟨a, b, c, rfl, _⟩ := h; rfl) fun cdv A outer s H vs Q E hr h => by
    obtain ⟨a, b, c, rfl, h⟩ := h
    exact body cdv A outer s H a b c Q E hr h
end

/-! ### classes by name -/
/-- the name x stands for a class at C whose __init__ keeps the promise sp -/
structure Nw (P : Program) (w : World) (K : PySem.W.Frag) (mg : Str → Option Value) (base : Heap) (k : Nat) (x : Str) (C : Addr) (ps : List Str) (sp : Sp) : Prop where
  ex : ∃ f fd, Mk K C f ∧ FnOk P w K mg base (L2.CX P w) k f fd ps sp ∧ Binds K fd ps [] ∧ mg x = some (.ref C)
section
variable {X : Cx} {k j : Nat} {x : Str} {C : Addr} {ps : List Str} {sp : Sp} {E : XK} {p pos : Pos} {e : Expr} {es : List Expr} {t : TA}
theorem pe_new (c : Nw X.prog X.w X.K X.mg X.base k x C ps sp) (hr : Room j X.A) (hk : k + 1 ≤ j) (hg : Gl X x) (hx : Passes (L2.CX X.prog X.w) X E) (ha : PA X (e :: es) t) (hdb : (x == ("__debug__" : Str)) = false := by decide)
    (he : starEach (e :: es) X.env = (false, eval e X.env) :: starEach es X.env := by rfl) (hpl : (backTo pos (starEach es X.env)).any (·.1) = false := by rfl) : PE X (.Call (.Name x p) (e :: es) [] pos) (tMake C sp [] E t) := by
  obtain ⟨f, fd, M, F, b, g⟩ := c.ex
  exact pe_make M F (hr.mono hk) hg g b .nil hx ha hdb he hpl
end
/-- the method st stands in the class at C by the name x (qualified qn) -/
structure MtP (K : PySem.W.Frag) (C : Addr) (x qn : Str) (st : Stmt) : Prop where
  ex : ∃ fd, FunD K x qn (defArgs st) (defBody st) (defScope st) [] [] (He.ma K C x) fd
def bindOkM (st : Stmt) (x qn : Str) (ps : List Str) : Prop := ∀ (kV doc pm : Value) (an : Option Addr) (cdv ct : Value) (us : List Value), us.length = ps.length →
  bindArgs (PySem.W.fnOf x qn (defArgs st) (defBody st) (defScope st) .none kV doc pm an cdv ct) ⟨us, []⟩ = pure (ps.zip us)
theorem mt_mk {P : Program} {w : World} {K : PySem.W.Frag} {mg : Str → Option Value} {base : Heap} {C : Addr} {x qn : Str} {st : Stmt} {N ps : List Str} {k : Nat} {sp : Sp} (F : MtP K C x qn st) (S : FnScope N ps (defScope st)) (hb : bindOkM st x qn ps)
    (len : ∀ vs H Q E, sp vs H Q E → vs.length = ps.length)
    (body : ∀ (cdv : Value) (A : Around) (outer : List Env) (s : Shared) (H : Hp) (vs : List V) (Q : VK) (E : XK), Room k (A.deeper (envOfC qn (defScope st) s.heap.objs.size (He.ma K C x) cdv)) → sp vs H Q E →
      ∃ t, PSs (cxOf (L2.CX P w) P w K mg base N qn (defScope st) (He.ma K C x) cdv A outer s H E) (defBody st) t ∧ t { nx := fun _ H' => Q .non H', rt := Q } (start N vs) H) :
    ∃ fd, FnOk P w K mg base (L2.CX P w) (k + 1) (He.ma K C x) fd ps sp ∧ Binds K fd ps [] := by
  obtain ⟨fd, D⟩ := F.ex
  refine ⟨fd, D.ok S len body, ?_⟩
  obtain ⟨oc, od, dV, kV, doc, pm, an, cdv, ct, osl, rfl, lk, hcd, hd, hkw⟩ := D.ex
  rcases hd with ⟨_, e⟩ | ⟨e, _⟩
  · subst e
    exact Binds.all fun us hl => hb kV doc pm an cdv ct us hl
  · exact absurd rfl e

/-! ### a list beside the empty one -/
section
variable {X : Cx}
def rNil (K : PySem.W.Frag) (ne : Bool) : R2 := fun x y H Q => ∃ l p xs, x = .ref l ∧ y = .ref p ∧ SqL K H l xs ∧ SqL K H p [] ∧ Q (.bl (if ne then !xs.isEmpty else xs.isEmpty)) H
theorem op_neNil (hu : X.A.units < cLine) : OpR X (compareOp .NotEq) (rNil X.K true) := by
  intro pins s σ H x y v u Q I rx ry h
  obtain ⟨l, p, xs, rfl, rfl, hl, hp, q⟩ := h
  cases rx
  cases ry
  obtain ⟨its, r, p1, _⟩ := I.list hl
  obtain ⟨its2, r2, p2, _⟩ := I.list hp
  cases r2
  have l1 : s.heap.IsList l its.toArray := p1.isList
  have l2 : s.heap.IsList p ([] : List Value).toArray := p2.isList
  cases r with
  | nil => exact SeqAt.RcNeAt.lists (e := fun _ => true) l1 l2 rfl hu (fun j h1 _ => absurd h1 (Nat.not_lt_zero _)) X.prog X.w X.xe _ ⟨.bl false, H, I, rfl, q⟩
  | cons r1 r2 => exact SeqAt.RcNeAt.lists_lengths l1 l2 (by simp) hu X.prog X.w X.xe _ ⟨.bl true, H, I, rfl, q⟩
theorem op_eqNil (hu : X.A.units < cLine) : OpR X (compareOp .Eq) (rNil X.K false) := by
  intro pins s σ H x y v u Q I rx ry h
  obtain ⟨l, p, xs, rfl, rfl, hl, hp, q⟩ := h
  cases rx
  cases ry
  obtain ⟨its, r, p1, _⟩ := I.list hl
  obtain ⟨its2, r2, p2, _⟩ := I.list hp
  cases r2
  have l1 : s.heap.IsList l its.toArray := p1.isList
  have l2 : s.heap.IsList p ([] : List Value).toArray := p2.isList
  cases r with
  | nil => exact SeqAt.RcAt.lists (e := fun _ => true) l1 l2 rfl hu (fun j h1 _ => absurd h1 (Nat.not_lt_zero _)) X.prog X.w X.xe _ ⟨.bl true, H, I, rfl, q⟩
  | cons r1 r2 => exact SeqAt.RcAt.lists_lengths l1 l2 (by simp) hu X.prog X.w X.xe _ ⟨.bl false, H, I, rfl, q⟩
end

/-! ### tuples -/
section
variable {X : Cx} {K : PySem.W.Frag} {H : Hp} {Q : VK} {a b : Addr} {xs ys : List V}
def rTupNil (K : PySem.W.Frag) (ne : Bool) : R2 := fun x y H Q => (∃ p q xs, x = .ref p ∧ y = .ref q ∧ H p = some (.tup xs) ∧ H q = some (.tup []) ∧ Q (.bl (if ne then !xs.isEmpty else xs.isEmpty)) H)
theorem op_eqTN (hu : X.A.units < cLine) : OpR X (compareOp .Eq) (rTupNil X.K false) := by
  intro pins s σ H x y v u Q I rx ry h
  obtain ⟨p, q, xs, rfl, rfl, hp, hq, k⟩ := h
  cases rx
  cases ry
  obtain ⟨its, r, p1, _⟩ := I.tuple (SqT.of (K := X.K) hp)
  obtain ⟨its2, r2, p2, _⟩ := I.tuple (SqT.of (K := X.K) hq)
  cases r2
  refine SeqAt.RcAt.tuples (e := fun _ => true) p1 p2 hu (fun j _ h2 => absurd h2 (Nat.not_lt_zero _)) X.prog X.w X.xe _ ?_
  cases r with
  | nil => exact ⟨.bl true, H, I, rfl, k⟩
  | cons r1 r2 => exact ⟨.bl false, H, I, by simp; rfl, k⟩
theorem op_neTN (hu : X.A.units < cLine) : OpR X (compareOp .NotEq) (rTupNil X.K true) := by
  intro pins s σ H x y v u Q I rx ry h
  obtain ⟨p, q, xs, rfl, rfl, hp, hq, k⟩ := h
  cases rx
  cases ry
  obtain ⟨its, r, p1, _⟩ := I.tuple (SqT.of (K := X.K) hp)
  obtain ⟨its2, r2, p2, _⟩ := I.tuple (SqT.of (K := X.K) hq)
  cases r2
  refine SeqAt.RcNeAt.tuples (e := fun _ => true) p1 p2 hu (fun j _ h2 => absurd h2 (Nat.not_lt_zero _)) X.prog X.w X.xe _ ?_
  cases r with
  | nil => exact ⟨.bl false, H, I, rfl, k⟩
  | cons r1 r2 => exact ⟨.bl true, H, I, by simp; rfl, k⟩
/-- t + u, what comes is a tuple of both -/
theorem rd_cat (ha : H a = some (.tup xs)) (hb : H b = some (.tup ys)) (hl : xs.length + ys.length ≤ sizeLine) (q : ∀ p H', Same H H' → H' p = some (.tup (xs ++ ys)) → Q (.ref p) H') : rCatA K (.ref a) (.ref b) H Q := by
  refine ⟨a, b, xs, ys, rfl, rfl, SqT.of ha, SqT.of hb, hl, fun e => ?_, fun _ e => ?_, fun _ _ p np => ?_⟩
  · subst e
    exact q b H (.refl _) hb
  · subst e
    rw [List.append_nil] at q
    exact q a H (.refl _) ha
  · exact q p _ (same_new np _) upd_same
theorem sIx_none0 (n d : Nat) : HT.sIx n d none = d := rfl
theorem sIx_pos {n d : Nat} {i : Int} (h : 0 ≤ i) : HT.sIx n d (some i) = min i.toNat n := by
  obtain ⟨j, rfl⟩ : ∃ j : Nat, i = (j : Int) := ⟨i.toNat, by omega⟩
  exact HT.sIx_nat n d j
/-- t[:i] -/
theorem rd_take {i : Int} (ha : H a = some (.tup xs)) (h0 : 0 ≤ i) (q : ∀ p H', Same H H' → H' p = some (.tup (xs.take i.toNat)) → Q (.ref p) H') : rSlA K (.ref a) none (some i) H Q := by
  refine ⟨a, xs, rfl, SqT.of ha, fun e => ?_, fun _ p np => ?_⟩
  · obtain ⟨_, e2⟩ := e
    rw [sIx_pos h0] at e2
    have : xs.take i.toNat = xs := List.take_of_length_le (by omega)
    rw [this] at q
    exact q a H (.refl _) ha
  · refine q p _ (same_new np _) ?_
    rw [upd_same]
    unfold cutV
    rw [sIx_none0, sIx_pos h0, List.drop_zero, Nat.sub_zero]
    by_cases hi : i.toNat ≤ xs.length
    · rw [Nat.min_eq_left hi]
    · rw [Nat.min_eq_right (by omega), List.take_of_length_le (Nat.le_refl _), List.take_of_length_le (by omega)]
/-- t[i:] -/
theorem rd_drop {i : Int} (ha : H a = some (.tup xs)) (h0 : 0 ≤ i) (q : ∀ p H', Same H H' → H' p = some (.tup (xs.drop i.toNat)) → Q (.ref p) H') : rSlA K (.ref a) (some i) none H Q := by
  refine ⟨a, xs, rfl, SqT.of ha, fun e => ?_, fun _ p np => ?_⟩
  · obtain ⟨e1, _⟩ := e
    rw [sIx_pos h0] at e1
    have : xs.drop i.toNat = xs := by
      by_cases hx : xs = []
      · rw [hx]
        exact List.drop_nil
      · have : 0 < xs.length := List.length_pos_iff.mpr hx
        have e3 : i.toNat = 0 := by omega
        rw [e3]
        exact List.drop_zero
    rw [this] at q
    exact q a H (.refl _) ha
  · refine q p _ (same_new np _) ?_
    rw [upd_same]
    unfold cutV
    rw [sIx_none0, sIx_pos h0]
    by_cases hi : i.toNat ≤ xs.length
    · rw [Nat.min_eq_left hi, List.take_of_length_le (by rw [List.length_drop]; exact Nat.le_refl _)]
    · rw [Nat.min_eq_right (by omega), List.drop_length, List.drop_eq_nil_of_le (by omega)]
      simp
end

/-! ### kinds of things -/
/-- what the written part says of the class of functions and of the built-in ones -/
structure Kf (K : PySem.W.Frag) (C : Addr) : Prop where
  cl : Cls K C
  ca : PySem.W.findIn K (.ref C) "__class__" = some (some (.builtin "object.__class__"))
  cn : PySem.W.specialIn K (.builtin "object.__class__") "__get__" = some (some (.builtin "getset_descriptor.__get__"))
  ct : PySem.W.takesIn K (.builtin "object.__class__") = some true
  cm : PySem.W.mroIn K C (.type "object") = some true
  fi : PySem.W.kitOne K (.ref C) (.type "int") = some false
  fb : PySem.W.kitOne K (.ref C) (.type "bool") = some false
  fs : PySem.W.kitOne K (.ref C) (.type "str") = some false
  ft : PySem.W.kitOne K (.ref C) (.type "tuple") = some false
  ff : PySem.W.kitOne K (.ref C) (.ref C) = some true
  nf : PySem.W.kitOne K (.type "NoneType") (.ref C) = some false
  bf : PySem.W.kitOne K (.type "bool") (.ref C) = some false
  if_ : PySem.W.kitOne K (.type "int") (.ref C) = some false
  sf : PySem.W.kitOne K (.type "str") (.ref C) = some false
  tf : PySem.W.kitOne K (.type "tuple") (.ref C) = some false
  lf : PySem.W.kitOne K (.type "list") (.ref C) = some false
  df : PySem.W.kitOne K (.type "dict") (.ref C) = some false
def Th.isInt : Th → Bool
  | .int _ => true
  | .bl _ => true
  | _ => false
def Th.isBl : Th → Bool
  | .bl _ => true
  | _ => false
def Th.isStr : Th → Bool
  | .str _ => true
  | _ => false
def Th.isTup : Th → Bool
  | .tup _ => true
  | _ => false
def Th.isFn : Th → Bool
  | .fn _ => true
  | _ => false
section
variable {K : PySem.W.Frag} {C : Addr} {H : Hp} {v : V} {t : Th}
theorem is_int (T : Kf K C) (h : Is C H v t) : ∃ u, TyX K H v u ∧ PySem.W.kitOne K u (.type "int") = some t.isInt := by
  cases h with
  | non => exact ⟨_, .base .non, kit_ty (r := false) (by decide +kernel)⟩
  | bl b => exact ⟨_, .base (.bl _), kit_ty (r := true) (by decide +kernel)⟩
  | int i => exact ⟨_, .base (.int _), kit_ty (r := true) (by decide +kernel)⟩
  | str x _ => exact ⟨_, .base (.str _), kit_ty (r := false) (by decide +kernel)⟩
  | tup e _ => exact ⟨_, .base (.tup e), kit_ty (r := false) (by decide +kernel)⟩
  | lst e => exact ⟨_, .base (.lst e), kit_ty (r := false) (by decide +kernel)⟩
  | dct e => exact ⟨_, .base (.dK e), kit_ty (r := false) (by decide +kernel)⟩
  | fn e => exact ⟨_, .base (.ins e T.cl T.ca T.cn T.ct T.cm), T.fi⟩
theorem is_bool (T : Kf K C) (h : Is C H v t) : ∃ u, TyX K H v u ∧ PySem.W.kitOne K u (.type "bool") = some t.isBl := by
  cases h with
  | non => exact ⟨_, .base .non, kit_ty (r := false) (by decide +kernel)⟩
  | bl b => exact ⟨_, .base (.bl _), kit_ty (r := true) (by decide +kernel)⟩
  | int i => exact ⟨_, .base (.int _), kit_ty (r := false) (by decide +kernel)⟩
  | str x _ => exact ⟨_, .base (.str _), kit_ty (r := false) (by decide +kernel)⟩
  | tup e _ => exact ⟨_, .base (.tup e), kit_ty (r := false) (by decide +kernel)⟩
  | lst e => exact ⟨_, .base (.lst e), kit_ty (r := false) (by decide +kernel)⟩
  | dct e => exact ⟨_, .base (.dK e), kit_ty (r := false) (by decide +kernel)⟩
  | fn e => exact ⟨_, .base (.ins e T.cl T.ca T.cn T.ct T.cm), T.fb⟩
theorem is_str (T : Kf K C) (h : Is C H v t) : ∃ u, TyX K H v u ∧ PySem.W.kitOne K u (.type "str") = some t.isStr := by
  cases h with
  | non => exact ⟨_, .base .non, kit_ty (r := false) (by decide +kernel)⟩
  | bl b => exact ⟨_, .base (.bl _), kit_ty (r := false) (by decide +kernel)⟩
  | int i => exact ⟨_, .base (.int _), kit_ty (r := false) (by decide +kernel)⟩
  | str x _ => exact ⟨_, .base (.str _), kit_ty (r := true) (by decide +kernel)⟩
  | tup e _ => exact ⟨_, .base (.tup e), kit_ty (r := false) (by decide +kernel)⟩
  | lst e => exact ⟨_, .base (.lst e), kit_ty (r := false) (by decide +kernel)⟩
  | dct e => exact ⟨_, .base (.dK e), kit_ty (r := false) (by decide +kernel)⟩
  | fn e => exact ⟨_, .base (.ins e T.cl T.ca T.cn T.ct T.cm), T.fs⟩
theorem is_tup (T : Kf K C) (h : Is C H v t) : ∃ u, TyX K H v u ∧ PySem.W.kitOne K u (.type "tuple") = some t.isTup := by
  cases h with
  | non => exact ⟨_, .base .non, kit_ty (r := false) (by decide +kernel)⟩
  | bl b => exact ⟨_, .base (.bl _), kit_ty (r := false) (by decide +kernel)⟩
  | int i => exact ⟨_, .base (.int _), kit_ty (r := false) (by decide +kernel)⟩
  | str x _ => exact ⟨_, .base (.str _), kit_ty (r := false) (by decide +kernel)⟩
  | tup e _ => exact ⟨_, .base (.tup e), kit_ty (r := true) (by decide +kernel)⟩
  | lst e => exact ⟨_, .base (.lst e), kit_ty (r := false) (by decide +kernel)⟩
  | dct e => exact ⟨_, .base (.dK e), kit_ty (r := false) (by decide +kernel)⟩
  | fn e => exact ⟨_, .base (.ins e T.cl T.ca T.cn T.ct T.cm), T.ft⟩
theorem is_fn (T : Kf K C) (h : Is C H v t) : ∃ u, TyX K H v u ∧ PySem.W.kitOne K u (.ref C) = some t.isFn := by
  cases h with
  | non => exact ⟨_, .base .non, T.nf⟩
  | bl b => exact ⟨_, .base (.bl _), T.bf⟩
  | int i => exact ⟨_, .base (.int _), T.if_⟩
  | str x _ => exact ⟨_, .base (.str _), T.sf⟩
  | tup e _ => exact ⟨_, .base (.tup e), T.tf⟩
  | fn e => exact ⟨_, .base (.ins e T.cl T.ca T.cn T.ct T.cm), T.ff⟩
  | lst e => exact ⟨_, .base (.lst e), T.lf⟩
  | dct e => exact ⟨_, .base (.dK e), T.df⟩
end
end Fl
/-! len(set(t)), t a tuple of any many texts -/
namespace Fl
open PySem PySem.Spec PyProof.Rows L2
/-- how many unlike ones there are among the first i -/
def unl (xs : List Str) : Nat → Nat
  | 0 => 0
  | i + 1 => if (xs.take i).any (· == xs.getD i Str.empty) = true then unl xs i else unl xs i + 1
theorem unl_le (xs : List Str) : ∀ i, unl xs i ≤ i
  | 0 => Nat.le_refl 0
  | i + 1 => by
    have := unl_le xs i
    rw [unl]
    split <;> omega
theorem unl_nodup (xs : List Str) : ∀ i, i ≤ xs.length → (unl xs i = i ↔ (xs.take i).Nodup)
  | 0, _ => ⟨fun _ => by rw [List.take_zero]; exact List.nodup_nil, fun _ => rfl⟩
  | i + 1, h => by
    have ih := unl_nodup xs i (by omega)
    have le := unl_le xs i
    have e1 : xs.getD i Str.empty = xs[i] := by
      rw [List.getD_eq_getElem?_getD, List.getElem?_eq_getElem (by omega)]
      rfl
    rw [unl, List.take_add_one, List.getElem?_eq_getElem (by omega), e1]
    have key : (xs.take i).any (· == xs[i]) = true ↔ xs[i] ∈ xs.take i := by
      rw [List.any_eq_true]
      exact ⟨fun ⟨y, hy, e⟩ => by rw [← eq_of_beq e]; exact hy, fun hy => ⟨_, hy, beq_self_eq_true _⟩⟩
    rw [show (some xs[i]).toList = [xs[i]] from rfl, List.nodup_append]
    by_cases c : (xs.take i).any (· == xs[i]) = true
    · rw [if_pos c]
      exact ⟨fun z => by omega, fun z => absurd rfl (z.2.2 _ (key.mp c) _ (List.mem_singleton.mpr rfl))⟩
    · rw [if_neg c]
      refine ⟨fun z => ⟨ih.mp (by omega), List.nodup_cons.mpr ⟨List.not_mem_nil, List.nodup_nil⟩, fun a ha b hb e => ?_⟩, fun z => by rw [ih.mpr z.1]⟩
      rw [List.mem_singleton.mp hb] at e
      exact c (key.mpr (e ▸ ha))
section
variable {prog : Program} {w : World} {A : Around} {R : Result → Shared → Prop} {I : Addr} {fp wr : List Addr} {G : Array GenState → Array GenState → Prop} {n : Nat} {P : Nat → Value → Prop} {St : Nat → Shared → Prop}
def seenB (xs : List Str) (i : Nat) : Str → Bool := fun k => (xs.take i).any (· == k)
theorem seenB_succ (xs : List Str) (i : Nat) (h : i < xs.length) (k : Str) : (seenB xs i k || decide (k = xs.getD i Str.empty)) = seenB xs (i + 1) k := by
  unfold seenB
  rw [List.take_add_one, List.getElem?_eq_getElem h, List.any_append]
  have e1 : xs.getD i Str.empty = xs[i] := by
    rw [List.getD_eq_getElem?_getD, List.getElem?_eq_getElem h]
    rfl
  rw [e1]
  congr 1
  by_cases e : k = xs[i]
  · rw [decide_eq_true e, e]
    simp
  · rw [decide_eq_false e]
    simp only [Option.toList, List.any_cons, List.any_nil, Bool.or_false]
    exact (beq_eq_false_iff_ne.mpr fun z => e z.symm).symm
theorem fillN (W : WalksS prog w A.in1 I fp wr G n P St) (S : Addr) (hf : S ∉ fp) (xs : List Str) (hx : xs.length = n) (hn : n ≤ 4000) (hv : ∀ i v, P i v → ∃ t, v = .str (xs.getD i Str.empty) t) (k : Nat) :
    ∀ (i : Nat) (s : Shared), n - i = k → i ≤ n → St i s → s.heap.SetOf (PySem.strKind prog w) S (seenB xs i) (unl xs i) → (∀ s', Moved (S :: wr) G s s' → s'.heap.SetOf (PySem.strKind prog w) S (seenB xs n) (unl xs n) → R (.ok (.ret .none)) s') →
      codeAny (model prog w) A (.builtin "set.update.loop" ⟨[.ref S, .ref I], []⟩) R s := by
  have sw : S ∉ wr := fun z => hf (W.sub _ z)
  have up : ∀ b ∈ wr, b ∈ S :: wr := fun b hb => .tail _ hb
  induction k with
  | zero =>
    intro i s hk hi st hS hR
    obtain rfl : i = n := by omega
    refine codeAny_builtin PyProof.Rows.F.entry_set_update_loop ?_
    rw [Around.under_plainId PyProof.Rows.F.plain_set_update_loop _]
    refine wpAny_bind (W.done s _ _ st fun s' m => wpAny_pure (hR s' (m.mono up) ?_))
    obtain ⟨o, es, ep, t, ho, rest⟩ := hS
    exact ⟨o, es, ep, t, m.heap S _ sw ho, rest⟩
  | succ k ih =>
    intro i s hk hi st hS hR
    have lt : i < n := by omega
    refine codeAny_builtin PyProof.Rows.F.entry_set_update_loop ?_
    rw [Around.under_plainId PyProof.Rows.F.plain_set_update_loop _]
    refine wpAny_bind (W.item i s _ _ lt st fun v s' hP st' m => ?_)
    obtain ⟨t, rfl⟩ := hv i v hP
    have hS' : s'.heap.SetOf (PySem.strKind prog w) S (seenB xs i) (unl xs i) := by
      obtain ⟨o, es, ep, tb, ho, rest⟩ := hS
      exact ⟨o, es, ep, tb, m.heap S _ sw ho, rest⟩
    show wpAny _ A.in1 (holding [Value.str (xs.getD i Str.empty) t] (setAdd S (.str (xs.getD i Str.empty) t)) >>= _) _ _ s'
    refine wpAny_bind (wpAny_holding ?_)
    unfold setAdd
    have ul := unl_le xs i
    refine wpAny_holding (wpAny_bind ((PySem.strKind prog w).pyHash (k := xs.getD i Str.empty) (strKind_is _ _ _ _) ?_))
    refine wpAny_setAddHashed_of (knd := PySem.strKind prog w) (s := { s' with toks := s'.toks + 1 }) (strKind_is _ _ _ _) rfl hS' (by unfold scanBound; omega) fun h' sb hS2 => ?_
    have hS3 : h'.SetOf (PySem.strKind prog w) S (seenB xs (i + 1)) (unl xs (i + 1)) :=
      SetOf_congr hS2 (fun k' => seenB_succ xs i (by omega) k') rfl
    refine wpAny_pure ⟨plainId_quiet PyProof.Rows.F.plain_set_update_loop _, ih (i + 1) _ (by omega) lt (W.frame _ s' _ _ st' (Nat.le_succ _) fun b hb o e => ?_) hS3 fun s2 m2 hS4 => hR s2 (Moved.trans W.gtrans ((m.mono up).then_heap (Nat.le_succ _) fun b o hb e => ?_) m2) hS4⟩
    · rw [sb.2 b (fun z : b = S => hf (by rw [← z]; exact hb))]
      exact e
    · rw [sb.2 b (fun z : b = S => hb (by rw [z]; exact .head _))]
      exact e
end
section
variable {prog : Program} {w : World} {A : Around} {E : Value → Shared → Prop} {s : Shared}
theorem call_setN {l : Addr} {items : Array Value} {xs : List Str} {Q : Value → Shared → Prop} (hh : A.handled = none) (hl : s.heap.IsTuple l items) (hi : PyProof.Rows.StrsAre items.toList xs) (hn : xs.length ≤ 4000)
    (h : ∀ (h' : Heap) (tk : Nat), h'.SetOf (PySem.strKind prog w) s.heap.objs.size (seenB xs items.size) (unl xs items.size) → (∀ b o, b < s.heap.objs.size → s.heap.get? b = some o → h'.get? b = some o) → Q (.ref s.heap.objs.size) { s with heap := h', toks := tk }) :
    wpAny (model prog w) A (call (.type "set") [.ref l]) Q E s := by
  obtain ⟨c, tl, hmro⟩ := PySem.F.called_set.mro
  have k1 := PySem.F.called_set.made
  have k2 := PySem.F.called_set.sub
  refine wpAny_call (codeAny_of_tree ?_)
  show wpAny _ _ (callAny (.type "set") _) _ _ _
  refine wpAny_pure ⟨Code.quiet_builtin _ (by decide +kernel), codeAny_builtin PySem.F.entry_type_call ?_⟩
  rw [Around.under_plain (weight_type_call_type "set" [.ref l] []) rfl]
  have k3 := PySem.F.called_set.notType
  have k4 := PySem.F.called_set.canCreate
  have k5 := PySem.F.typeCall_set_1 (.ref l)
  repeat (any_goals (first | assumption | wp_step))
  let ob (led : Bool) : Obj := { cls := .type "set", dict := none, data := .set #[] 0 (.fresh 0 0 led) }
  refine codeAny_mono (code_set_new_1 (.ref l) (E := E) (Q₁ := fun obj s₁ => ∃ led : Bool, obj = .ref s.heap.objs.size ∧ s₁ = { s with heap := s.heap.push (ob led) }) fun led => ⟨led, rfl, rfl⟩) fun r s₁ hr => ?_
  rcases r with e | fl
  · exact hr
  cases fl with
  | ret obj =>
    obtain ⟨led, rfl, rfl⟩ := hr
    have hS : (s.heap.push (ob led)).get? s.heap.objs.size = some (ob led) := Heap.get?_push_size _ rfl
    have hT : Shared.TypeIs { s with heap := s.heap.push (ob led) } (.ref s.heap.objs.size) "set" := ⟨_, hS, rfl⟩
    have k6 := PySem.F.called_set.init.lookup
    have k7 := PySem.F.called_set.init.bind (.ref s.heap.objs.size)
    repeat (any_goals (first | assumption | wp_step))
    refine codeAny_mono (codeAny_call_builtin (R := wants (fun r s₂ => r = .none ∧ ∃ h' tk, s₂ = { s with heap := h', toks := tk } ∧ h'.SetOf (PySem.strKind prog w) s.heap.objs.size (seenB xs items.size) (unl xs items.size) ∧
      (∀ b o, b < s.heap.objs.size → s.heap.get? b = some o → h'.get? b = some o)) E) PySem.F.called_set.init.plain PySem.F.entry_set_init (check_set_init_1 hT ?_)) fun r₂ s₂ hr₂ => ?_
    · obtain ⟨⟨ocls, odict, odata, oslots⟩, hol, hcl, nl, hdl⟩ := hl
      simp only at hcl hdl
      subst hcl hdl
      have hol' : (s.heap.push (ob led)).get? l = some { cls := .type "tuple", dict := odict, data := .seq items nl, slots := oslots } := Heap.get?_push_of_some _ hol
      have j1 := PySem.F.sub_tuple_set
      have j2 := PySem.F.sub_tuple_frozenset
      have j3 : (Value.type "tuple" == Value.type "dict") = false := by decide
      have hl1 : (s.heap.push (ob led)).IsTuple l items := ⟨_, hol', rfl, nl, rfl⟩
      unfold Builtin.«set.__init__» noKeywords Builtin.Frozenset.updateFrom
      generalize hPI : pyIter = PI
      wp_walk
      subst hPI
      refine wpAny_pyIter_tuple hl1 (wpAny_bind (wpAny_runValue ?_))
      have lS : l < s.heap.objs.size := Heap.lt_size hol
      have h3 : A.in1.in1.in1.handled = none := by simp [hh]
      have ne : l ≠ (s.heap.push (ob led)).objs.size := by
        rw [Heap.size_push]
        exact Nat.ne_of_lt (Nat.lt_succ_of_lt lS)
      have hf : s.heap.objs.size ∉ [(s.heap.push (ob led)).objs.size, l] := by
        rw [Heap.size_push]
        simp only [List.mem_cons, List.not_mem_nil, or_false, not_or]
        exact ⟨Nat.ne_of_lt (Nat.lt_succ_self _), Nat.ne_of_gt lS⟩
      have hz : xs.length = items.size := by rw [← StrsAre.len_eq hi, Array.length_toList]
      refine fillN ((Walks.tuple h3 _ l ne items).toS) s.heap.objs.size hf xs hz (by omega) (fun i v hv => SS.strs_at hi i v (by rw [Array.getElem?_toList]; exact hv)) (items.size - 0) 0 _ (by omega) (Nat.zero_le _) ⟨⟨_, Heap.get?_push_size _ rfl, rfl, rfl⟩, (hl1.push _)⟩ ?z0 ?z1
      case z0 =>
        exact PyProof.Rows.SetOf_congr ((PyProof.Rows.setObjOf_fresh (knd := PySem.strKind prog w) led).setOf (Heap.get?_push_of_some _ hS) (by unfold scanBound; omega)) (fun _ => rfl) rfl
      case z1 =>
        intro s' hm hS'
        obtain ⟨h', g', d', tk', os'⟩ := s'
        obtain rfl : g' = s.gens := hm.gens
        obtain rfl : d' = s.drawn := hm.drawn
        obtain rfl : os' = s.os := hm.os
        show wpAny _ _ _ _ _ _
        refine wpAny_pure ?_
        show wpAny _ _ (ret Value.none) _ _ _
        refine wpAny_pure ⟨rfl, h', tk', rfl, hS', fun b o hb e => ?_⟩
        refine hm.heap b o ?_ (Heap.get?_push_of_some _ (Heap.get?_push_of_some _ e))
        rw [Heap.size_push]
        simp only [List.mem_cons, List.not_mem_nil, or_false, not_or]
        exact ⟨Nat.ne_of_lt hb, Nat.ne_of_lt (Nat.lt_succ_of_lt hb)⟩
    · rcases r₂ with e | fl₂
      · exact hr₂
      cases fl₂ with
      | ret r =>
        obtain ⟨rfl, h', tk, rfl, hS', hk'⟩ := hr₂
        repeat (any_goals (first | assumption | wp_step))
        exact h _ _ hS' hk'
      | _ => exact hr₂.elim
  | _ => exact hr.elim
end
def tLenSetN (K : PySem.W.Frag) (ta : TE) : TE := fun σ H Q => ta σ H fun x H1 => ∃ l, ∃ xs : List Str, x = .ref l ∧ SqT K H1 l (xs.map V.str) ∧ xs.length ≤ 4000 ∧ Q (.int (unl xs xs.length : Nat)) H1
theorem pe_lenSetN {X : Cx} {a : Expr} {ta : TE} {p p2 q pos : Pos} (hc : X.calm = true) (hg : Gl X "len") (hm : X.mg "len" = none) (hg2 : Gl X "set") (hm2 : X.mg "set" = none) (ha : PE X a ta)
    (na : starEach [a] X.env = (false, eval a X.env) :: starEach [] X.env := by rfl) : PE X (.Call (.Name "len" p) [.Call (.Name "set" p2) [a] [] q] [] pos) (tLenSetN X.K ta) := by
  refine ⟨fun pins s σ H Q I h => Call_ (ld_blt I hg hm boot_len ?_)⟩
  refine PyProof.Rows.callWith_builtin1 (PyProof.Rows.args_cons (Call_ (ld_blt I hg2 hm2 boot_set ?_)) rfl) rfl rfl
  refine PyProof.Rows.callWith_type1 (PyProof.Rows.args_cons (thn (ha.run pins s σ H _ I h) fun v s1 ⟨x, H1, I1, r1, q1⟩ => PyProof.Rows.args_nil ?_) na) na rfl
  obtain ⟨l, xs, rfl, hq, h1, q1⟩ := q1
  cases r1
  obtain ⟨its, r, pl, hz⟩ := I1.tuple hq
  have hl : its.toArray.size = xs.length := by rw [List.size_toArray, ← r.length, List.length_map]
  have ul := unl_le xs xs.length
  refine call_setN (I1.ok.hd hc) pl (by simpa using strsAre_of r) h1 fun h' tk hS hk => PyProof.Rows.args_nil ?_
  rw [hl] at hS
  obtain ⟨o, es, ep, t, ho, hex, hd, _, _, _, hf, hn⟩ := hS
  have I2 : Inv X pins σ H1 { s1 with heap := h', toks := tk } := I1.kept fun b o e => hk b o (Heap.lt_size e) e
  exact call_len_set ho hex hd hf (by rw [hn] <;> omega) ⟨.int (unl xs xs.length : Nat), H1, I2.tok _, ⟨_, by rw [hn]⟩, q1⟩
theorem unl_dec {ys : List Str} {l : List Th} (e : l = ys.map Th.str) : decide (V.int (unl ys ys.length : Nat) = V.int ((ys.map V.str).length : Nat)) = decide ((l.filterMap strOf).Nodup) := by
  have f : l.filterMap strOf = ys := by
    rw [e]
    clear e
    induction ys with
    | nil => rfl
    | cons y ys ih => rw [List.map_cons, List.filterMap_cons, ih]; rfl
  have k := unl_nodup ys ys.length (Nat.le_refl _)
  rw [List.take_length] at k
  rw [f, List.length_map]
  refine decide_eq_decide.mpr ⟨fun h => k.mp ?_, fun h => by rw [k.mpr h]⟩
  injection h with h
  omega
end Fl
/-! tuple * int, further than the layer's own rule -/
namespace Fl
open PySem PySem.Spec PyProof.Rows L2
def rMulT (K : PySem.W.Frag) : R2 := fun x y H Q => ∃ l k xs, x = .ref l ∧ y = .int k ∧ SqT K H l xs ∧ xs ≠ [] ∧ 2 ≤ k ∧ (xs.length : Int) * k ≤ 1000000 ∧ ∀ p, H p = none → Q (.ref p) (upd H p (.tup (List.replicate k.toNat xs).flatten))
section
variable {X : Cx}
theorem op_mulT : OpR X (binaryOp .Mult) (rMulT X.K) := by
  intro pins s σ H x y v u Q I rx ry h
  obtain ⟨l, k, xs, rfl, rfl, hT, hne, h1, hz, q⟩ := h
  cases rx
  obtain ⟨t, rfl⟩ := ry
  obtain ⟨its, r, ⟨⟨cls, dd, data, sl⟩, ho, hc, n, hd⟩, hs⟩ := I.tuple hT
  simp only at hc hd
  subst hc hd
  have hle : its.length = xs.length := r.length.symm
  have hn : its ≠ [] := fun e => hne (by
    rw [e] at hle
    exact List.eq_nil_of_length_eq_zero hle.symm)
  have hp : 1 ≤ xs.length := by
    rw [← hle]
    exact List.length_pos_iff.mpr hn
  have hi : its.toArray.isEmpty = false := by
    cases its with
    | nil => exact absurd rfl hn
    | cons a b => rfl
  have hsz0 : its.toArray.size = xs.length := by rw [List.size_toArray, hle]
  have h2 : k ≤ 1000000 := by
    have a1 : 1 * k ≤ (xs.length : Int) * k := Int.mul_le_mul_of_nonneg_right (by omega) (by omega)
    omega
  have hm : ((its.toArray.size : Nat) : Int) * k ≤ 1000000 := by
    rw [hsz0]
    exact hz
  have rl : k.toNat * xs.length ≤ 1000000 := by
    have e : ((k.toNat * xs.length : Nat) : Int) = (xs.length : Int) * k := by
      rw [Int.natCast_mul, Int.toNat_of_nonneg (by omega), Int.mul_comm]
    omega
  have flen : (List.replicate k.toNat its).flatten.length ≤ sizeLine := by
    rw [PyProof.Rows.lm_len_rep_flat, hle, sizeLine_eq]
    omega
  have c0 : (decide (k < -(2 ^ 63)) || decide (k ≥ 2 ^ 63)) = false := by
    rw [decide_eq_false (by omega), decide_eq_false (by omega)] <;> rfl
  have c1 : (its.toArray.isEmpty || k == 1) = false := by
    rw [hi, Bool.false_or]
    exact beq_eq_false_iff_ne.mpr (by omega)
  have c2 : (decide (k ≤ 0) || its.toArray.isEmpty) = false := by
    rw [hi, Bool.or_false]
    exact decide_eq_false (by omega)
  have c4 : Builtin.Tuple.tupleTooMany (((its.toArray.size : Nat) : Int) * k) = false := by
    unfold Builtin.Tuple.tupleTooMany
    rw [sizeLine_eq]
    exact decide_eq_false (by omega)
  refine wpAny_binaryOp_repeat_ref (T := "tuple") (U := "int") (by decide) ⟨_, ho, rfl⟩ (fun s' => typeIs_int s' k t) noFill_tuple_mul F.fills_int_mul F.slot_int_rmul repeat_tuple F.slot_int_index.lookup
    (call_meets F.slot_int_rmul (typeIs_int s k t) F.entry_int_rmul (F.args_int_rmul_2 _ _) (int_rmul_tuple k t l its.toArray n dd sl)
      ⟨ho, rfl, ⟨_, ho, rfl⟩, call_meets F.slot_tuple_mul ⟨_, ho, rfl⟩ F.entry_tuple_mul (F.args_tuple_mul_2 _ _) (tuple_mulW l its.toArray n dd sl k t c0 c1 c2 (by omega) c4 (by rw [size_rep, List.size_toArray]; exact flen)) ⟨ho, ?_⟩⟩)
  rw [size_rep]
  refine ⟨.ref s.heap.objs.size, _, I.laid (t' := s.toks) (o := .tup (List.replicate k.toNat xs).flatten) (fun b ob q => Heap.get?_push_of_some _ q) (Nat.le_refl _) ?_, rfl, q _ (I.hok.fresh (Nat.le_refl _))⟩
  exact ⟨by rw [PyProof.Rows.lm_len_rep_flat, sizeLine_eq]; omega, _, r.rep k.toNat, IsTup.new _ _⟩
end
end Fl
/-! what stays as lists and dicts change; small facts -/
namespace Fl
open PySem PySem.Spec PyProof.Rows L2
def Im (H H' : Hp) : Prop := (∀ b xs, H b = some (.tup xs) → H' b = some (.tup xs)) ∧ (∀ b C dx fs, H b = some (.ins C dx fs) → H' b = some (.ins C dx fs)) ∧
  (∀ b xs, H b = some (.lst xs) → ∃ ys, H' b = some (.lst ys)) ∧ ∀ b kv, H b = some (.dK kv) → ∃ kw, H' b = some (.dK kw)
theorem Im.im {H H' : Hp} (a : Im H H') : Im H H' := a
theorem Im.refl (H : Hp) : Im H H := ⟨fun _ _ e => e, fun _ _ _ _ e => e, fun _ _ e => ⟨_, e⟩, fun _ _ e => ⟨_, e⟩⟩
theorem Im.trans {H H1 H2 : Hp} (a : Im H H1) (b : Im H1 H2) : Im H H2 := ⟨fun p xs e => b.1 p xs (a.1 p xs e), fun p C dx fs e => b.2.1 p C dx fs (a.2.1 p C dx fs e), fun p xs e => by
  obtain ⟨_, z⟩ := a.2.2.1 p xs e
  exact b.2.2.1 p _ z, fun p xs e => by
  obtain ⟨_, z⟩ := a.2.2.2 p xs e
  exact b.2.2.2 p _ z⟩
theorem im_same {H H' : Hp} (s : Same H H') : Im H H' := ⟨fun p xs e => s _ _ e, fun p C dx fs e => s _ _ e, fun _ _ e => ⟨_, s _ _ e⟩, fun _ _ e => ⟨_, s _ _ e⟩⟩
theorem im_lst {H : Hp} {D : Addr} {xs ys : List V} (h : H D = some (.lst xs)) : Im H (upd H D (.lst ys)) := by
  refine ⟨fun p xs e => ?_, fun p C dx fs e => ?_, fun b zs e => ?_, fun b kv e => ?_⟩
  · rw [upd_ne (ne_of e h (by intro z; cases z))]
    exact e
  · rw [upd_ne (ne_of e h (by intro z; cases z))]
    exact e
  · by_cases hb : b = D
    · rw [hb]
      exact ⟨_, upd_same⟩
    · exact ⟨_, by rw [upd_ne hb]; exact e⟩
  · rw [upd_ne (ne_of e h (by intro z; cases z))]
    exact ⟨_, e⟩
mutual
theorem Is.ik {C : Addr} {H H' : Hp} (s : Im H H') : ∀ {v : V} {t : Th}, Is C H v t → Is C H' v t
  | _, _, .non => .non
  | _, _, .bl b => .bl b
  | _, _, .int i => .int i
  | _, _, .str x h => .str x h
  | _, _, .tup h r => .tup (s.1 _ _ h) (r.ik s)
  | _, _, .fn h r => .fn (s.2.1 _ _ _ _ h) (r.ik s)
  | _, _, .lst h => .lst (s.2.2.1 _ _ h).choose_spec
  | _, _, .dct h => .dct (s.2.2.2 _ _ h).choose_spec
theorem Iss.ik {C : Addr} {H H' : Hp} (s : Im H H') : ∀ {xs : List V} {ts : List Th}, Iss C H xs ts → Iss C H' xs ts
  | _, _, .nil => .nil
  | _, _, .cons h r => .cons (h.ik s) (r.ik s)
end
theorem Is.im {C : Addr} {H H' : Hp} (s : Im H H') {v : V} {t : Th} (h : Is C H v t) (_ : t.worth true = true) : Is C H' v t := h.ik s
theorem Iss.im {C : Addr} {H H' : Hp} (s : Im H H') {xs : List V} {ts : List Th} (h : Iss C H xs ts) (_ : Th.worths true ts = true) : Iss C H' xs ts := h.ik s
mutual
theorem worth_up : ∀ {t : Th}, t.worth false = true → t.worth true = true
  | .non, h => h
  | .bl _, h => h
  | .int _, h => h
  | .str _, h => h
  | .tup l, h => worths_up (by simpa [Th.worth] using h)
  | .fn _, _ => rfl
  | .oth, h => h
theorem worths_up : ∀ {l : List Th}, Th.worths false l = true → Th.worths true l = true
  | [], _ => rfl
  | t :: r, h => by
    rw [Th.worths, Bool.and_eq_true] at h
    rw [Th.worths, Bool.and_eq_true]
    exact ⟨worth_up h.1, worths_up h.2⟩
end
/-- a leaf -/
inductive Leaf : V → Th → Prop
  | int (i : Int) (h : numB i = true) : Leaf (.int i) (.int i)
  | bl (b : Bool) : Leaf (.bl b) (.bl b)
  | str (x : Str) (h : wordB x = true) : Leaf (.str x) (.str x)
theorem p2 : (0 : Int) < 2 := by decide
theorem p3 : (0 : Int) < 3 := by decide
theorem p5 : (0 : Int) < 5 := by decide
theorem p8 : (0 : Int) < 8 := by decide
theorem p11 : (0 : Int) < 11 := by decide
theorem p21 : (0 : Int) < 21 := by decide
theorem p2e9 : (0 : Int) < 2000000001 := by decide
theorem s1 : 1 ≤ sizeLine := by decide
theorem s2 : 2 ≤ sizeLine := by decide
theorem s3 : 3 ≤ sizeLine := by decide
theorem p4 : (0 : Int) < 4 := by decide
theorem p9 : (0 : Int) < 9 := by decide
theorem d5 : CDiv n 5 := ⟨by decide, by decide⟩
theorem d20 : CDiv n 20 := ⟨by decide, by decide⟩
theorem d180 : CDiv n 180 := ⟨by decide, by decide⟩
theorem d8 : CDiv n 8 := ⟨by decide, by decide⟩
theorem wordB_len {x : Str} (h : wordB x = true) : x.length ≤ 8 := by
  unfold wordB at h
  rw [Bool.and_eq_true, Bool.and_eq_true] at h
  exact of_decide_eq_true h.2.1
end Fl
namespace Fl
open PySem PySem.Spec PyProof.Rows L2
def top (i : Nat) : Stmt := PySem.Challenge.pw_floorhall_k12_rows_and_kinds.main.body.getD i (.Pass ⟨0, 0, 0, 0⟩)
abbrev s_is_number : Stmt := top 9
theorem sc_is_number : FnScope ["thing"] ["thing"] (defScope s_is_number) := ⟨rfl, rfl, rfl, by decide +kernel, rfl, by decide +kernel, by decide +kernel⟩
abbrev s_is_word : Stmt := top 10
theorem sc_is_word : FnScope ["thing", "sign"] ["thing"] (defScope s_is_word) := ⟨rfl, rfl, rfl, by decide +kernel, rfl, by decide +kernel, by decide +kernel⟩
abbrev s_is_made_of : Stmt := top 11
theorem sc_is_made_of : FnScope ["thing", "with_functions", "pile", "one"] ["thing", "with_functions"] (defScope s_is_made_of) := ⟨rfl, rfl, rfl, by decide +kernel, rfl, by decide +kernel, by decide +kernel⟩
abbrev s_is_worth : Stmt := top 12
theorem sc_is_worth : FnScope ["thing"] ["thing"] (defScope s_is_worth) := ⟨rfl, rfl, rfl, by decide +kernel, rfl, by decide +kernel, by decide +kernel⟩
abbrev s_is_plain : Stmt := top 13
theorem sc_is_plain : FnScope ["thing"] ["thing"] (defScope s_is_plain) := ⟨rfl, rfl, rfl, by decide +kernel, rfl, by decide +kernel, by decide +kernel⟩
abbrev s_need_worth : Stmt := top 14
theorem sc_need_worth : FnScope ["thing"] ["thing"] (defScope s_need_worth) := ⟨rfl, rfl, rfl, by decide +kernel, rfl, by decide +kernel, by decide +kernel⟩

abbrev XcP (K : PySem.W.Frag) (x : Str) : Prop := PySem.W.excIn K (He.ga K x) He.veBase "ValueError.__new__" = true ∧ PySem.W.keepIn K (.ref (He.ga K x)) = true ∧
  PySem.W.subIn K (.ref (He.ga K x)) (.type "BaseException") = some true ∧ PySem.W.typeIn K (.ref (He.ga K x)) = some (.type "type")
structure Tw (K : PySem.W.Frag) (mg : Str → Option Value) : Prop where
  kf : Kf K (He.ga K "Function")
  g_Function : mg "Function" = some (.ref (He.ga K "Function"))
  z_isinstance : mg "isinstance" = none
  z_int : mg "int" = none
  z_bool : mg "bool" = none
  z_str : mg "str" = none
  z_tuple : mg "tuple" = none
  z_abs : mg "abs" = none
  z_all : mg "all" = none
  z_len : mg "len" = none
  g_BadWorth : mg "BadWorth" = some (.ref (He.ga K "BadWorth"))
  x_BadWorth : XcP K "BadWorth"
  c_MOST_NUMBER : ∃ u, mg "MOST_NUMBER" = some u ∧ RelV (.int 1000000000) u
  c_MOST_SIGNS : ∃ u, mg "MOST_SIGNS" = some u ∧ RelV (.int 8) u
  c_SMALL : ∃ u, mg "SMALL" = some u ∧ RelV (.str "abcdefghijklmnopqrstuvwxyz") u
abbrev CF (K : PySem.W.Frag) : Addr := He.ga K "Function"
def Th.num : Th → Bool
  | .int i => numB i
  | _ => false
def Th.wrd : Th → Bool
  | .str x => wordB x
  | _ => false
def spNumber (K : PySem.W.Frag) : Sp := sp1 fun v H Q _ => ∃ t, Is (CF K) H v t ∧ Q (.bl t.num) H
def spWord (K : PySem.W.Frag) : Sp := sp1 fun v H Q _ => ∃ t, Is (CF K) H v t ∧ ∀ H', Same H H' → Q (.bl t.wrd) H'
theorem inTF (x : Str) : inV (.str x) [.str sTrue, .str sFalse] = (decide (x = sTrue) || decide (x = sFalse)) := by
  show (sTrue == x || (sFalse == x || false)) = _
  rw [Bool.or_false]
  congr 1
  · by_cases h : x = sTrue
    · rw [h, decide_eq_true rfl, beq_self_eq_true]
    · rw [decide_eq_false h]
      exact beq_eq_false_iff_ne.mpr fun e => h e.symm
  · by_cases h : x = sFalse
    · rw [h, decide_eq_true rfl, beq_self_eq_true]
    · rw [decide_eq_false h]
      exact beq_eq_false_iff_ne.mpr fun e => h e.symm
theorem take_snoc {α : Type} : ∀ {l : List α} {i : Nat} {x : α}, l[i]? = some x → l.take (i + 1) = l.take i ++ [x]
  | [], i, x, h => by simp at h
  | a :: l, 0, x, h => by
    have e : a = x := Option.some.inj h
    rw [e]
    rfl
  | a :: l, i + 1, x, h => by
    have z := take_snoc (l := l) (i := i) (x := x) h
    rw [List.take_succ_cons, z]
    rfl
theorem sign_mem (c : Nat) : decide (c ∈ ("abcdefghijklmnopqrstuvwxyz" : Str).cps.toList) = isSign c := by
  have e : (("abcdefghijklmnopqrstuvwxyz" : Str).cps.toList : List Nat) = List.range' 97 26 := by decide +kernel
  have z : (c ∈ List.range' 97 26) ↔ isSign c = true := by
    rw [List.mem_range'_1]
    unfold isSign
    rw [Bool.and_eq_true, Nat.ble_eq, Nat.ble_eq]
    omega
  cases h : isSign c with
  | true => exact decide_eq_true (by rw [e]; exact z.mpr h)
  | false => exact decide_eq_false (by rw [e]; intro m; rw [z.mp m] at h; cases h)
section
variable {P : Program} {w : World} {K : PySem.W.Frag} {mg : Str → Option Value} {base : Heap}
theorem ok_is_number (F : FnP K mg "is_number" s_is_number) (T : Tw K mg) : Cl P w K mg base 1 "is_number" ["thing"] (spNumber K) := by
  refine cl_1 F sc_is_number (fun _ _ _ _ _ _ us hl => match us, hl with | [_], _ => rfl) fun cdv A outer s H v Q E hr h => ?_
  obtain ⟨t, h, q⟩ := h
  refine ⟨_, PSs.nox (pss_one (ps_ret (pe_and (pe_callB call_isi rfl T.z_isinstance PyProof.Rows.boot_isinstance (pa_cons (pv 0) (pa_cons (pe_bltn (v := .ty "int") rfl T.z_int (by decide +kernel) rfl) pa_nil))) (pe_and (pe_not (pe_callB call_isi rfl T.z_isinstance PyProof.Rows.boot_isinstance (pa_cons (pv 0) (pa_cons (pe_bltn (v := .ty "bool") rfl T.z_bool (by decide +kernel) rfl) pa_nil)))) (pe_one (pe_cmpR op_le (pe_callB call_abs rfl T.z_abs PyProof.Rows.boot_abs (pa_cons (pv 0) pa_nil)) (pe_gk rfl T.c_MOST_NUMBER) (nomark _))))))), ?_⟩
  obtain ⟨u1, y1, k1⟩ := is_int T.kf h
  obtain ⟨u2, y2, k2⟩ := is_bool T.kf h
  refine ⟨v, rfl, v, _, u1, _, _, rfl, .ty _, y1, k1, _, rfl, ?_⟩
  cases h with
  | int i =>
    refine iteT ⟨_, rfl, _, _, u2, _, _, rfl, .ty _, y2, k2, _, rfl, _, rfl, iteT ?_⟩
    refine ⟨_, rfl, _, rfl, _, _, rfl, rfl, ?_⟩
    have e : decide ((if i < 0 then -i else i) ≤ 1000000000) = numB i := by
      unfold numB
      rw [← Bool.decide_and]
      refine decide_eq_decide.mpr ?_
      split <;> omega
    show Q (.bl (decide ((if i < 0 then -i else i) ≤ 1000000000))) H
    rw [e]
    exact q
  | bl b => exact iteT ⟨_, rfl, _, _, u2, _, _, rfl, .ty _, y2, k2, _, rfl, _, rfl, iteF q⟩
  | non => exact iteF q
  | str x _ => exact iteF q
  | tup _ _ => exact iteF q
  | fn _ => exact iteF q
  | lst _ => exact iteF q
  | dct _ => exact iteF q
theorem ok_is_word (F : FnP K mg "is_word" s_is_word) (T : Tw K mg) : Cl P w K mg base 1 "is_word" ["thing"] (spWord K) := by
  refine cl_1 F sc_is_word (fun _ _ _ _ _ _ us hl => match us, hl with | [_], _ => rfl) fun cdv A outer s H v Q E hr h => ?_
  obtain ⟨t, h, q⟩ := h
  refine ⟨_, PSs.nox (pss_cons (ps_if (PW.pt (pw_or (pt_not (pt_val (pe_callB call_isi rfl T.z_isinstance PyProof.Rows.boot_isinstance (pa_cons (pv 0) (pa_cons (pe_bltn (v := .ty "str") rfl T.z_str (by decide +kernel) rfl) pa_nil))))) (pw_or (pt_not (pt_chain op_le op_le pe_int (pe_callB call_len_str rfl T.z_len PySem.boot_len (pa_cons (pv 0) pa_nil)) (pe_gk rfl T.c_MOST_SIGNS))) (pw_or1 (pt_cmpR op_in_seq (pv 0) (pe_tup (pa_cons pe_str (pa_cons pe_str pa_nil))) rfl))))) (pss_one (ps_ret pe_bl)) pss_nil) (pss_one (ps_ret (pe_callB (cr_all rfl) rfl T.z_all PyProof.Rows.boot_all (pa_cons (pe_lc (own := [("sign", 1)]) (g := gName 1) (tt := tYes) rfl sc_is_word.nd (pi_str (pv 0)) (blkOk_by (own := [("sign", 1)]) (N := ["thing", "sign"]) (sc := defScope s_is_word) (by decide +kernel)) (fun _ _ _ _ _ => (pg_name (i := 1) sc_is_word.nd rfl (Or.inl rfl))) (fun _ _ _ _ _ => pts_nil) (fun _ _ _ _ _ => (pe_cmpR op_in_sign (pv 1) (pe_gk rfl T.c_SMALL) rfl))) pa_nil))))), ?_⟩
  obtain ⟨u1, y1, k1⟩ := is_str T.kf h
  refine ⟨v, rfl, v, _, u1, _, _, rfl, .ty _, y1, k1, _, rfl, ?_⟩
  cases h with
  | str x hx =>
    refine iteF ⟨_, rfl, x, rfl, Nat.le_trans hx (by decide), _, _, rfl, rfl, _, rfl, ite2 (fun c1 => ?_) (fun c1 => ?_)⟩
    case refine_2 =>
      refine ⟨_, rfl, iteT (iteT ?_)⟩
      have e : (Th.str x).wrd = false := by
        show wordB x = false
        unfold wordB
        rw [decide_eq_false (by intro z; exact c1 (decide_eq_true (by omega))), Bool.false_and]
      rw [← e]
      exact q _ (.refl _)
    refine ⟨_, _, rfl, rfl, _, rfl, ite2 (fun c2 => ?_) (fun c2 => ?_)⟩
    · refine iteT ?_
      have c3 : ¬ x.length ≤ 8 := by
        intro z
        rw [decide_eq_true (by omega)] at c2
        exact Bool.noConfusion c2
      have e : (Th.str x).wrd = false := by
        show wordB x = false
        unfold wordB
        rw [decide_eq_false c3, Bool.false_and, Bool.and_false]
      rw [← e]
      exact q _ (.refl _)
    have d1 : 1 ≤ x.length := by
      have := of_decide_eq_true c1
      omega
    have d2 : x.length ≤ 8 := by
      have z : ¬ (!decide ((x.length : Int) ≤ 8)) = true := c2
      rw [Bool.not_eq_true', decide_eq_false_iff_not] at z
      omega
    refine ⟨_, rfl, (by show 2 ≤ sizeLine; decide), fun p np => ⟨p, _, rfl, .inr (SqT.of upd_same), rfl, rfl, _, rfl, ?_⟩⟩
    have s1 : Same H (upd H p (.tup [.str sTrue, .str sFalse])) := same_new np _
    have ein : inV (.str x) [.str sTrue, .str sFalse] = (decide (x = sTrue) || decide (x = sFalse)) := inTF x
    show (if (if false = true then !inV (.str x) [.str sTrue, .str sFalse] else inV (.str x) [.str sTrue, .str sFalse]) = true then _ else _)
    rw [if_neg Bool.false_ne_true, ein]
    refine ite2 (fun c3 => ?_) (fun c3 => ?_)
    · have e : (Th.str x).wrd = false := by
        show wordB x = false
        unfold wordB
        rcases Bool.or_eq_true_iff.mp c3 with z | z <;> rw [z] <;> simp
      rw [← e]
      exact q _ s1
    rw [Bool.or_eq_true, not_or, Bool.not_eq_true, Bool.not_eq_true] at c3
    refine ⟨_, rfl, x, rfl, fun D nD => lc_it walk_str (fun i H' => Same H H' ∧ H' D = some (.lst (((x.cps.toList.take i).map isSign).map V.bl)) ∧ H D = none) ⟨s1.trans (same_new nD _), upd_same, s1.free nD⟩ (fun _ _ _ _ => trivial) ?_ ?_⟩
    · rintro i y H1 H2 hi ⟨r1, r2, r3⟩ ⟨rfl, c, hc, rfl⟩
      refine ⟨rfl, _, rfl, c, _, rfl, rfl, _, r2, ?_, same_mut r1 r3, ?_, r3⟩
      · rw [List.length_map, List.length_map]
        have := List.length_take_le' i x.cps.toList
        have e8 : x.cps.toList.length ≤ 8 := by
          rw [Array.length_toList]
          exact d2
        exact small1000 (by omega)
      · have hc' : x.cps.toList[i]? = some c := by
          rw [Array.getElem?_toList]
          exact hc
        rw [upd_same, take_snoc hc', List.map_append, List.map_append]
        show some (HO.lst (_ ++ [V.bl (decide (c ∈ ("abcdefghijklmnopqrstuvwxyz" : Str).cps.toList))])) = _
        rw [sign_mem c]
        rfl
    · rintro H1 ⟨r1, r2, r3⟩
      refine ⟨D, _, rfl, SqL.of r2, ?_⟩
      have e : (((x.cps.toList.take x.cps.size).map isSign).all id) = (Th.str x).wrd := by
        rw [← Array.length_toList, List.take_length, List.all_map]
        show x.cps.toList.all isSign = wordB x
        unfold wordB
        rw [decide_eq_true d1, decide_eq_true d2, c3.1, c3.2]
        rfl
      rw [e]
      exact q _ r1
  | int i => exact iteT (iteT (q _ (.refl _)))
  | bl b => exact iteT (iteT (q _ (.refl _)))
  | non => exact iteT (iteT (q _ (.refl _)))
  | tup _ _ => exact iteT (iteT (q _ (.refl _)))
  | fn _ => exact iteT (iteT (q _ (.refl _)))
  | lst _ => exact iteT (iteT (q _ (.refl _)))
  | dct _ => exact iteT (iteT (q _ (.refl _)))
def spMade (K : PySem.W.Frag) : Sp := sp2 fun v b H Q _ => ∃ t f, b = .bl f ∧ Is (CF K) H v t ∧ t.nodes ≤ 1000000 ∧ ∀ H', Same H H' → Q (.bl (t.worth f)) H'
def MadeW (C : Addr) (H : Hp) (v : V) (f : Bool) (p : Addr) (t : Th) : Nat → L2.St → Hp → Prop := fun m σ H1 =>
  ∃ (xs : List V) (ts : List Th) (o : Option V), σ = [some v, some (.bl f), some (.ref p), o] ∧ Same H H1 ∧ H1 p = some (.lst xs) ∧ Iss C H xs ts ∧ m = Th.nodesL ts ∧ m ≤ 1000000 ∧ Th.worths f ts = t.worth f
theorem ok_is_made_of (F : FnP K mg "is_made_of" s_is_made_of) (T : Tw K mg) (B_is_number : Cl P w K mg base 1 "is_number" ["thing"] (spNumber K)) (B_is_word : Cl P w K mg base 1 "is_word" ["thing"] (spWord K)) :
    Cl P w K mg base 2 "is_made_of" ["thing", "with_functions"] (spMade K) := by
  refine cl_2 F sc_is_made_of (fun _ _ _ _ _ _ us hl => match us, hl with | [_, _], _ => rfl) fun cdv A outer s H v b Q E hr h => ?_
  obtain ⟨t, f, rfl, h, hn, q⟩ := h
  refine ⟨_, PSs.nox (pss_cons (ps_set (i := 2) sc_is_made_of.nd rfl (Or.inl rfl) (pe_lst (pa_cons (pv 0) pa_nil))) (pss_cons (ps_while PassesOwn.never (pt_cmpR (op_neNil hr.units0) (pv 2) (pe_lst pa_nil) (nomark _)) (pss_cons (ps_set (i := 3) sc_is_made_of.nd rfl (Or.inl rfl) (pe_bm0 PySem.F.plainAttrs_list PySem.F.slot_list_pop PySem.F.type_list_pop mt_pop (pv 2))) (pss_one (ps_if (pt_val (pe_callB call_isi rfl T.z_isinstance PyProof.Rows.boot_isinstance (pa_cons (pv 3) (pa_cons (pe_bltn (v := .ty "tuple") rfl T.z_tuple (by decide +kernel) rfl) pa_nil)))) (pss_one (ps_expr (pe_bm PySem.F.plainAttrs_list PySem.F.slot_list_extend PySem.F.type_list_extend (mt_extT) (pv 2) (pa_cons (pv 3) pa_nil)))) (pss_one (ps_if (pt_val (pe_callB call_isi rfl T.z_isinstance PyProof.Rows.boot_isinstance (pa_cons (pv 3) (pa_cons (pe_glob (v := .ref (He.ga K "Function")) rfl T.g_Function rfl) pa_nil)))) (pss_one (ps_if (pt_not (pt_val (pv 1))) (pss_one (ps_ret pe_bl)) pss_nil)) (pss_one (ps_if (PW.pt (pw_and (pt_not (pt_val (pe_callB call_isi rfl T.z_isinstance PyProof.Rows.boot_isinstance (pa_cons (pv 3) (pa_cons (pe_bltn (v := .ty "bool") rfl T.z_bool (by decide +kernel) rfl) pa_nil))))) (pw_and (pt_not (pt_val (pe_b B_is_number hr (by omega) rfl passL (pa_cons (pv 3) pa_nil)))) (pw_and1 (pt_not (pt_val (pe_b B_is_word hr (by omega) rfl passL (pa_cons (pv 3) pa_nil)))))))) (pss_one (ps_ret pe_bl)) pss_nil)))))))) (pss_one (ps_ret pe_bl)))), ?_⟩
  refine ⟨_, rfl, (by show 1 ≤ sizeLine; decide), fun p np => ?_⟩
  refine ⟨MadeW (CF K) H v f p t, ⟨_, [v], [t], none, rfl, same_new np _, upd_same, .one h, rfl, by simpa [Th.nodesL] using hn, by simp [Th.worths]⟩, ?_⟩
  rintro m σ H1 ⟨xs, ts, o, rfl, s1, hp, hi, rfl, hm, hw⟩
  refine ⟨_, rfl, (by show 0 ≤ sizeLine; decide), fun d nd => ⟨p, d, xs, rfl, rfl, SqL.of (by rw [upd_ne (ne_of_none hp nd)]; exact hp), SqL.of upd_same, _, rfl, ?_⟩⟩
  have s2 : Same H (upd H1 d (.lst [])) := s1.trans (same_new nd _)
  have hp2 : upd H1 d (.lst []) p = some (.lst xs) := by
    rw [upd_ne (ne_of_none hp nd)]
    exact hp
  by_cases hx : xs = []
  · subst hx
    cases hi
    refine iteF ?_
    have e : t.worth f = true := hw.symm
    rw [e] at q
    exact q _ s2
  obtain ⟨ys, y, us, u, rfl, rfl, h1, h2⟩ := hi.last hx
  have hne : (!(ys ++ [y]).isEmpty) = true := by cases ys <;> rfl
  show (if (!(ys ++ [y]).isEmpty) = true then _ else _)
  rw [hne]
  refine iteT ?_
  rw [nodesL_app] at hm
  rw [worths_app] at hw
  have eu : Th.nodesL [u] = u.nodes := by simp [Th.nodesL]
  have ew : Th.worths f [u] = u.worth f := by simp [Th.worths]
  rw [eu] at hm
  rw [ew] at hw
  have up := u.nodes_pos
  have hyl : ys.length ≤ Th.nodesL us := by
    rw [h1.len]
    exact len_nodesL us
  refine ⟨_, fun σ' H' z => z, ?_⟩
  refine ⟨_, rfl, .inl ⟨rfl, _, .inl (.inl hp2)⟩, p, _, y, rfl, rfl, hp2, (by simp), ?_⟩
  rw [List.dropLast_concat]
  have s3 : Same H (upd (upd H1 d (.lst [])) p (.lst ys)) := same_mut s2 np
  have hp3 : upd (upd H1 d (.lst [])) p (.lst ys) p = some (.lst ys) := upd_same
  obtain ⟨u1, y1, k1⟩ := is_tup T.kf (h2.same s3)
  obtain ⟨u2, y2, k2⟩ := is_fn T.kf (h2.same s3)
  obtain ⟨u3, y3, k3⟩ := is_bool T.kf (h2.same s3)
  refine ⟨y, rfl, y, _, u1, _, _, rfl, .ty _, y1, k1, _, rfl, ?_⟩
  have good : u.worth f = true → ∀ H', Same H H' → H' p = some (.lst ys) → ∃ m', m' < Th.nodesL (us ++ [u]) ∧ MadeW (CF K) H v f p t m' [some v, some (.bl f), some (.ref p), some y] H' := fun e H' s5 hp5 =>
    ⟨Th.nodesL us, by rw [nodesL_app, eu]; omega, ys, us, _, rfl, s5, hp5, h1, rfl, by omega, by rw [← hw, e, Bool.and_true]⟩
  have bad : u.worth f = false → ∀ H', Same H H' → Q (.bl false) H' := fun e H' s5 => by
    have e2 : t.worth f = false := by rw [← hw, e, Bool.and_false]
    rw [e2] at q
    exact q _ s5
  cases h2 with
  | tup ht hts =>
    rename_i p2 zs l
    refine iteT ?_
    refine ⟨_, rfl, .inl ⟨rfl, _, .inl (.inl hp3)⟩, _, rfl, p, p2, ys, zs, rfl, rfl, hp3, SqT.of (s3 _ _ ht), ?_, ?_⟩
    · have e1 := hts.len
      have e2 := len_nodesL l
      simp only [Th.nodes] at hm
      rw [sizeLine_eq]
      omega
    refine ⟨Th.nodesL (us ++ l), ?_, ys ++ zs, us ++ l, _, rfl, same_mut s3 np, upd_same, h1.app hts, rfl, ?_, ?_⟩
    · rw [nodesL_app, nodesL_app, eu]
      simp only [Th.nodes]
      omega
    · rw [nodesL_app]
      simp only [Th.nodes] at hm
      omega
    · rw [worths_app]
      simpa [Th.worth] using hw
  | fn ha =>
    refine iteF ?_
    refine ⟨_, rfl, _, _, u2, _, _, rfl, .own _, y2, k2, _, rfl, iteT ?_⟩
    refine ⟨_, rfl, f, rfl, ?_⟩
    cases f with
    | true => exact iteF (good rfl _ s3 hp3)
    | false => exact iteT (bad rfl _ s3)
  | bl c =>
    refine iteF ⟨_, rfl, _, _, u2, _, _, rfl, .own _, y2, k2, _, rfl, iteF ?_⟩
    exact ⟨_, rfl, _, _, u3, _, _, rfl, .ty _, y3, k3, _, rfl, iteF (iteF (good rfl _ s3 hp3))⟩
  | int i =>
    refine iteF ⟨_, rfl, _, _, u2, _, _, rfl, .own _, y2, k2, _, rfl, iteF ?_⟩
    refine ⟨_, rfl, _, _, u3, _, _, rfl, .ty _, y3, k3, _, rfl, iteT ?_⟩
    refine ⟨_, rfl, _, rfl, _, .int i, _, rfl, ?_⟩
    cases e : numB i with
    | true =>
      show (if (!numB i) = true then _ else _)
      rw [e]
      exact iteF (iteF (good e _ s3 hp3))
    | false =>
      show (if (!numB i) = true then _ else _)
      rw [e]
      refine iteT ⟨_, rfl, _, rfl, _, .int i, fun H' s4 => ⟨_, rfl, iteT (bad e _ (s3.trans s4))⟩⟩
  | str x hxl =>
    refine iteF ⟨_, rfl, _, _, u2, _, _, rfl, .own _, y2, k2, _, rfl, iteF ?_⟩
    refine ⟨_, rfl, _, _, u3, _, _, rfl, .ty _, y3, k3, _, rfl, iteT ?_⟩
    refine ⟨_, rfl, _, rfl, _, .str x hxl, _, rfl, iteT ⟨_, rfl, _, rfl, _, .str x hxl, fun H' s4 => ⟨_, rfl, ?_⟩⟩⟩
    cases e : wordB x with
    | true =>
      show (if (!wordB x) = true then _ else _)
      rw [e]
      exact iteF (good e _ (s3.trans s4) (s4 _ _ hp3))
    | false =>
      show (if (!wordB x) = true then _ else _)
      rw [e]
      exact iteT (bad e _ (s3.trans s4))
  | non =>
    refine iteF ⟨_, rfl, _, _, u2, _, _, rfl, .own _, y2, k2, _, rfl, iteF ?_⟩
    refine ⟨_, rfl, _, _, u3, _, _, rfl, .ty _, y3, k3, _, rfl, iteT ?_⟩
    exact ⟨_, rfl, _, rfl, _, .non, _, rfl, iteT ⟨_, rfl, _, rfl, _, .non, fun H' s4 => ⟨_, rfl, iteT (bad rfl _ (s3.trans s4))⟩⟩⟩
  | lst ha =>
    refine iteF ⟨_, rfl, _, _, u2, _, _, rfl, .own _, y2, k2, _, rfl, iteF ?_⟩
    refine ⟨_, rfl, _, _, u3, _, _, rfl, .ty _, y3, k3, _, rfl, iteT ?_⟩
    exact ⟨_, rfl, _, rfl, _, .lst (s3 _ _ ha), _, rfl, iteT ⟨_, rfl, _, rfl, _, .lst (s3 _ _ ha), fun H' s4 => ⟨_, rfl, iteT (bad rfl _ (s3.trans s4))⟩⟩⟩
  | dct ha =>
    refine iteF ⟨_, rfl, _, _, u2, _, _, rfl, .own _, y2, k2, _, rfl, iteF ?_⟩
    refine ⟨_, rfl, _, _, u3, _, _, rfl, .ty _, y3, k3, _, rfl, iteT ?_⟩
    exact ⟨_, rfl, _, rfl, _, .dct (s3 _ _ ha), _, rfl, iteT ⟨_, rfl, _, rfl, _, .dct (s3 _ _ ha), fun H' s4 => ⟨_, rfl, iteT (bad rfl _ (s3.trans s4))⟩⟩⟩
/-- is_worth, is_plain -/
def spIs (K : PySem.W.Frag) (f : Bool) : Sp := sp1 fun v H Q _ => ∃ t, Is (CF K) H v t ∧ t.nodes ≤ 1000000 ∧ ∀ H', Same H H' → Q (.bl (t.worth f)) H'
theorem ok_is_worth (F : FnP K mg "is_worth" s_is_worth) (B_is_made_of : Cl P w K mg base 2 "is_made_of" ["thing", "with_functions"] (spMade K)) : Cl P w K mg base 3 "is_worth" ["thing"] (spIs K true) := by
  refine cl_1 F sc_is_worth (fun _ _ _ _ _ _ us hl => match us, hl with | [_], _ => rfl) fun cdv A outer s H v Q E hr h => ?_
  obtain ⟨t, h, hn, q⟩ := h
  exact ⟨_, PSs.nox (pss_one (ps_ret (pe_b B_is_made_of hr (by omega) rfl passL (pa_cons (pv 0) (pa_cons pe_bl pa_nil))))), _, rfl, _, _, rfl, t, true, rfl, h, hn, q⟩
theorem ok_is_plain (F : FnP K mg "is_plain" s_is_plain) (B_is_made_of : Cl P w K mg base 2 "is_made_of" ["thing", "with_functions"] (spMade K)) : Cl P w K mg base 3 "is_plain" ["thing"] (spIs K false) := by
  refine cl_1 F sc_is_plain (fun _ _ _ _ _ _ us hl => match us, hl with | [_], _ => rfl) fun cdv A outer s H v Q E hr h => ?_
  obtain ⟨t, h, hn, q⟩ := h
  exact ⟨_, PSs.nox (pss_one (ps_ret (pe_b B_is_made_of hr (by omega) rfl passL (pa_cons (pv 0) (pa_cons pe_bl pa_nil))))), _, rfl, _, _, rfl, t, false, rfl, h, hn, q⟩
/-- need_worth, need_plain: the thing, or BadWorth -/
def spNeed (K : PySem.W.Frag) (f : Bool) : Sp := sp1 fun v H Q E => ∃ t, Is (CF K) H v t ∧ t.nodes ≤ 1000000 ∧ (t.worth f = true → ∀ H', Same H H' → Q v H') ∧ (t.worth f = false → ∀ H', Same H H' → E (.ref (He.ga K "BadWorth")) none H')
theorem ok_need_worth (F : FnP K mg "need_worth" s_need_worth) (T : Tw K mg) (B_is_worth : Cl P w K mg base 3 "is_worth" ["thing"] (spIs K true)) : Cl P w K mg base 4 "need_worth" ["thing"] (spNeed K true) := by
  refine cl_1 F sc_need_worth (fun _ _ _ _ _ _ us hl => match us, hl with | [_], _ => rfl) fun cdv A outer s H v Q E hr h => ?_
  obtain ⟨t, h, hn, q, qe⟩ := h
  refine ⟨_, (pss_cons (ps_if (pt_not (pt_val (pe_b B_is_worth hr (by omega) rfl passL (pa_cons (pv 0) pa_nil)))) (pss_one (ps_raise rfl (takes_of rfl rfl rfl rfl) (pmk_own PySem.F.excBase_ValueError T.x_BadWorth.1 T.g_BadWorth T.x_BadWorth.2.1 (raises_own T.x_BadWorth.2.2.1 T.x_BadWorth.2.2.2) rfl))) pss_nil) (pss_one (ps_ret (pv 0)))), ?_⟩
  refine ⟨_, rfl, _, rfl, t, h, hn, fun H' s1 => ⟨_, rfl, ?_⟩⟩
  cases e : t.worth true with
  | true => exact iteF ⟨_, rfl, q e _ s1⟩
  | false => exact iteT (qe e _ s1)
end
end Fl
/-! defs that ask repr: nothing is told by repr around them (no guard) -/
namespace Fl
open PySem PySem.Spec PyProof.Rows L2
structure FnG (P : Program) (w : World) (K : PySem.W.Frag) (mg : Str → Option Value) (base : Heap) (k : Nat) (f : Addr) (fd : FuncData) (ps : List Str) (sp : Sp) : Prop where
  len : ∀ vs H Q E, sp vs H Q E → vs.length = ps.length
  run : ∀ (A : Around) (outer : List Env) (s : Shared) (H : Hp) (args : Args) (us : List Value) (vs : List V) (Q : VK) (E : XK), Room k A → A.guards = some [] → Env0 P w K mg base A outer s H → BindsTo s fd args (ps.zip us) → Vals vs us → sp vs H Q E →
    codeAny (model P w) A (.call (.ref f) args) (CR (L2.CX P w) outer P w H s Q E) s
/-- the name x stands for such a def -/
structure Cg (P : Program) (w : World) (K : PySem.W.Frag) (mg : Str → Option Value) (base : Heap) (k : Nat) (x : Str) (ps : List Str) (sp : Sp) : Prop where
  ex : ∃ f fd, FnG P w K mg base k f fd ps sp ∧ (∀ us : List Value, us.length = ps.length → bindArgs fd ⟨us, []⟩ = pure (ps.zip us)) ∧ PySem.W.keepIn K (.ref f) = true ∧ mg x = some (.ref f) ∧ ∃ oc od osl, K.lookup f = some ⟨oc, od, .func fd, osl⟩
section
variable {P : Program} {w : World} {K : PySem.W.Frag} {mg : Str → Option Value} {base : Heap} {x : Str} {st : Stmt} {N ps : List Str} {k : Nat} {sp : Sp}
theorem fng_of {f : Addr} {name qual : Str} {params : Arguments} {body : List Stmt} {scope : Scope} {dV kV doc pm cdv ct oc : Value} {an od : Option Addr} {osl : Array (Option Value)}
    (lk : K.lookup f = some ⟨oc, od, .func (PySem.W.fnOf name qual params body scope dV kV doc pm an cdv ct), osl⟩) (hcd : PySem.W.codeIn K cdv qual = true) (S : FnScope N ps scope) (len : ∀ vs H Q E, sp vs H Q E → vs.length = ps.length)
    (hb : ∀ (A : Around) (outer : List Env) (s : Shared) (H : Hp) (vs : List V) (Q : VK) (E : XK), Room k (A.deeper (envOfC qual scope s.heap.objs.size f cdv)) → (A.deeper (envOfC qual scope s.heap.objs.size f cdv)).guards = some [] → sp vs H Q E →
      ∃ t, PSs (cxOf (L2.CX P w) P w K mg base N qual scope f cdv A outer s H E) body t ∧ t { nx := fun _ H' => Q .non H', rt := Q } (start N vs) H) :
    FnG P w K mg base (k + 1) f (PySem.W.fnOf name qual params body scope dV kV doc pm an cdv ct) ps sp := by
  constructor
  · exact len
  intro A outer s H args us vs Q E hr hg e0 bd r hsp
  have up : ∀ b o, base.get? b = some o → s.heap.get? b = some o := fun b o e => (e0.bs b o e).1
  have X0 : K.In s.heap := e0.mod.kin.keeps up
  have kinds : ∀ y ∈ ps.zip us, scope.names.lookup y.1 = some .local ∨ (scope.names.lookup y.1 = some .cell ∧ ((cellsFrom (s.heap.objs.size + 1) scope.names []).lookup y.1).isSome = true) := by
    rintro ⟨n, v⟩ hy
    rcases S.par n (List.of_mem_zip hy).1 with q | q
    · exact Or.inl q
    · exact Or.inr ⟨q, PySem.W.cellsFrom_some _ _ _ (Or.inl q)⟩
  apply codeAny_call_function hr.depth (X0 _ _ lk) rfl S.co S.gen rfl (PySem.W.codeRec_of X0 hcd)
  apply bd
  apply wpAny_newFunctionEnv_cells S.kind kinds
  intro env he z x
  subst he
  constructor
  · exact (e0.mod.nolimit.keeps up).keeps x.toInCall.keep
  apply codeAny_func
  obtain ⟨t, ht, hq⟩ := hb A outer s H vs Q E (hr.deeper _) hg hsp
  have I : Inv (cxOf (L2.CX P w) P w K mg base N qual scope f cdv A outer s H E) [] (start N vs) H z := inv_start S hr.hd e0 (len _ _ _ _ hsp) r x
  apply wpAny_mono (ht.run [] z (start N vs) H _ I hq) ?_ (fun e s' h => h)
  intro fl s' h
  cases fl with
  | ret u =>
    obtain ⟨v, σ', H', J, rv, q⟩ := h
    exact ⟨v, H', J.os, J.bare, J.base, J.hok, rv, q⟩
  | next =>
    obtain ⟨σ', H', J, q⟩ := h
    exact ⟨V.non, H', J.os, J.bare, J.base, J.hok, rfl, q⟩
  | brk =>
    obtain ⟨_, _, _, q⟩ := h
    exact q.elim
  | cont =>
    obtain ⟨_, _, _, q⟩ := h
    exact q.elim
theorem cg_mk (F : FnP K mg x st) (S : FnScope N ps (defScope st)) (hb : bindOk st x ps) (len : ∀ vs H Q E, sp vs H Q E → vs.length = ps.length)
    (body : ∀ (cdv : Value) (A : Around) (outer : List Env) (s : Shared) (H : Hp) (vs : List V) (Q : VK) (E : XK), Room k (A.deeper (envOfC x (defScope st) s.heap.objs.size (He.ga K x) cdv)) →
      (A.deeper (envOfC x (defScope st) s.heap.objs.size (He.ga K x) cdv)).guards = some [] → sp vs H Q E →
      ∃ t, PSs (cxOf (L2.CX P w) P w K mg base N x (defScope st) (He.ga K x) cdv A outer s H E) (defBody st) t ∧ t { nx := fun _ H' => Q .non H', rt := Q } (start N vs) H) : Cg P w K mg base (k + 1) x ps sp := by
  obtain ⟨fd, D⟩ := F.ex
  obtain ⟨oc, od, dV, kV, doc, pm, an, cdv, ct, osl, rfl, lk, hcd, hd, hkw⟩ := D.ex
  refine ⟨_, _, fng_of lk hcd S len (fun A outer s H vs Q E hr hg h => body cdv A outer s H vs Q E hr hg h), ?_, D.kp, F.gl, _, _, _, lk⟩
  rcases hd with ⟨_, e⟩ | ⟨e, _⟩
  · subst e
    exact fun us hl => hb kV doc pm an cdv ct us hl
  · exact absurd rfl e
end
section
variable {X : Cx} {k j : Nat} {x : Str} {ps : List Str} {sp : Sp} {E : XK} {p pos : Pos} {e : Expr} {es : List Expr} {t : TA}
theorem pe_g (c : Cg X.prog X.w X.K X.mg X.base k x ps sp) (hr : Room j X.A) (hG : X.A.guards = some []) (hk : k ≤ j) (hg : Gl X x) (hx : Passes (L2.CX X.prog X.w) X E) (ha : PA X (e :: es) t) (hdb : (x == ("__debug__" : Str)) = false := by decide)
    (he : starEach (e :: es) X.env = (false, eval e X.env) :: starEach es X.env := by rfl) (hpl : (backTo pos (starEach es X.env)).any (·.1) = false := by rfl) : PE X (.Call (.Name x p) (e :: es) [] pos) (tCall sp [] E t) := by
  obtain ⟨f, fd, F, b', kp, g, _⟩ := c.ex
  have b := Binds.all (K := X.K) b'
  constructor
  intro pins s σ H Q I h
  apply wpAny_Call_Name_kw (ld_glob I hg g ?_ hdb)
  apply PySem.W.callWith_K (h₀ := X.base) I.ok.mod.kin kp ?_ he hpl
  apply thn (ha.run pos pins s σ H _ I h)
  rintro us z ⟨vs, H1, I1, r, q⟩
  refine ⟨I1.kIn, ?_⟩
  rw [List.append_nil] at q
  have hl : us.length = ps.length := r.length.symm.trans (F.len _ _ _ _ q)
  have bd := b z us I1.kIn (by rw [List.append_nil]; exact hl)
  rw [List.append_nil] at bd
  apply wpAny_call
  apply codeAny_mono (F.run X.A X.stack z H1 ⟨us, []⟩ us vs Q E (hr.mono hk) hG I1.env0 bd r q)
  intro r' s' hq
  cases r' with
  | error er => exact hx pins σ H1 z er s' I1 hq
  | ok fl =>
    cases fl with
    | ret u => exact I1.after hq
    | next => exact hq.elim
    | brk => exact hq.elim
    | cont => exact hq.elim
/-- repr of data -/
def rReprD (K : PySem.W.Frag) : List V → Hp → VK → Prop := fun xs H Q => ∃ v d, xs = [v] ∧ Dp K H v d ∧ d.showable = true ∧ d.hasDict = false ∧ d.depth ≤ 60 ∧ d.shown.length ≤ sizeLine ∧ Q (.str d.shown) H
theorem call_reprD {j : Nat} (hr : Room j X.A) (hG : X.A.guards = some []) : CallR X (.builtin "repr") (rReprD X.K) := by
  intro pins s σ H xs us Q I r h
  obtain ⟨v, d, rfl, hd, h1, h2, h3, h4, q⟩ := h
  obtain ⟨u, rfl, ru⟩ := vals1 r
  have hu := hr.units
  obtain ⟨as, rd⟩ := Dp.reads I d v u hd ru
  have fin : ∀ t, EP X pins σ Q (.str d.shown t) { s with toks := s.toks + 1 } := fun t => ⟨.str d.shown, H, I.tok _, ⟨_, rfl⟩, q⟩
  cases rd with
  | none => exact PySem.P.repr_of_none (fin _)
  | bool b => cases b <;> exact PySem.P.repr_of_bool (fin _)
  | int i t => exact PySem.P.repr_of_int (by simpa [PyData.showable] using h1) (fin _)
  | str x t => exact PySem.P.repr_of_str (fin _) h4
  | list a b c e => exact repr_of_reads' (.list a b c e) h1 (fun z => by rw [h2] at z; cases z) hG (by omega) (fun _ _ e => e) (fun h' u tk k => ⟨.str _, H, I.kept (t' := tk) k, ⟨_, rfl⟩, q⟩) h4
  | tuple a b c e => exact repr_of_reads' (.tuple a b c e) h1 (fun z => by rw [h2] at z; cases z) hG (by omega) (fun _ _ e => e) (fun h' u tk k => ⟨.str _, H, I.kept (t' := tk) k, ⟨_, rfl⟩, q⟩) h4
  | dict a b c e f => cases h2
end
/-! ### the end of a law whose defs ask repr -/
section
variable {P : Program} {w : World} {K : PySem.W.Frag} {mg mb : Str → Option Value} {k : Nat} {fa a : Addr} {fd : FuncData} {x : Str} {sp : Sp} {s : Shared} {vs : List Value} {ns : List Int}
theorem callG_at {H : Hp} (KX : K.In s.heap) (g1 : s.heap.Ns mainGlobals mg) (g2 : s.heap.Ns builtinsNs mb) (g3 : ∀ x : Str, x ≠ "__name__" → mb x = bootBuiltins x) (g4 : s.heap.NoLimit) (g5 : s.gens = #[])
    (ha : s.heap.get? a = some { cls := .type "list", data := .seq vs.toArray }) (hr : Room k callerA) (F : ∀ base : Heap, K.In base → base.Ns mainGlobals mg → FnG P w K mg base k fa fd [x] sp) (bd : ∀ (s : Shared) (u : Value), BindsTo s fd ⟨[u], []⟩ [(x, u)])
    (hsp : sp [.ref a] H (fun v _ => v = .bl true) fun _ _ _ => False) (only : Only H) (ok : HOk P w H s.heap) (one : ∀ b, H b ≠ none → b = a) (apart : H a ≠ none → K.lookup a = none) :
    codeAny (model P w) callerA (.call (.ref fa) ⟨[.ref a], []⟩) (fun r s' => r = .ok (.ret (.bool true)) ∧ OldK s.heap s'.heap ∧ s'.os = s.os ∧ AllBare s'.gens) s := by
  have away : ∀ b : Addr, b ≠ a → H b = none := fun b hb => by
    cases q : H b with
    | none => rfl
    | some u => exact absurd (one b (by rw [q]; exact fun z => nomatch z)) hb
  have dicts : ∀ {b : Addr} {m : Str → Option Value}, s.heap.Ns b m → (hidT s.heap H).Ns b m := by
    rintro b m ⟨o, es, ep, e, d, r⟩
    have hb : b ≠ a := fun z => by
      rw [z, ha] at e
      cases e
      cases d
    exact ⟨o, es, ep, hidT_get e (away b hb), d, r⟩
  have KB : K.In (hidT s.heap H) := by
    intro b o e
    have hn : H b = none := by
      cases q : H b with
      | none => rfl
      | some u =>
        have z := one b (by rw [q]; exact fun z => nomatch z)
        rw [z] at q e
        rw [apart (by rw [q]; exact fun z => nomatch z)] at e
        cases e
    exact hidT_get (KX b o e) hn
  have lim : (hidT s.heap H).NoLimit := by
    obtain ⟨mc, z1, z2⟩ := g4
    exact ⟨mc, dicts z1, z2⟩
  have E0 : Env0 P w K mg (hidT s.heap H) callerA [] s H :=
    { frames := rfl, mod := { kin := KB, glob := dicts g1, blt := ⟨mb, dicts g2, g3⟩, nolimit := lim }, bs := fun b o e => of_hidT e, bsz := Nat.le_of_eq (hidT_size _ _), funs := trivial, frf := fun b hb => (nomatch hb), hok := ok, bare := .of_eq g5 }
  apply codeAny_mono ((F _ KB (dicts g1)).run callerA [] s H ⟨[.ref a], []⟩ [.ref a] [.ref a] _ _ hr rfl E0 (bd s (.ref a)) (.cons rfl .nil) hsp)
  intro r s' h
  cases r with
  | error e =>
    obtain ⟨_, _, _, _, _, _, _, _, _, _, _, _, z⟩ := h
    exact z.elim
  | ok fl =>
    cases fl with
    | next => exact h.elim
    | brk => exact h.elim
    | cont => exact h.elim
    | ret u =>
      obtain ⟨v, H', os, bare, un, ok', r', q⟩ := h
      subst q
      cases r'
      refine ⟨rfl, OldK.of_keep ?_, os, bare⟩
      intro b o e
      rcases only b with z | ⟨ob, ys, z⟩
      · exact un.keep b o e z (fun m => nomatch m) (fun m => nomatch m)
      · obtain ⟨y1, _⟩ := ok b _ z
        obtain ⟨y2, _⟩ := ok' b _ (un.frzs b ob _ z)
        rw [e] at y1
        cases y1
        exact y2
theorem callG (KX : K.In s.heap) (g1 : s.heap.Ns mainGlobals mg) (g2 : s.heap.Ns builtinsNs mb) (g3 : ∀ x : Str, x ≠ "__name__" → mb x = bootBuiltins x) (g4 : s.heap.NoLimit) (g5 : s.gens = #[])
    (ha : s.heap.get? a = some { cls := .type "list", data := .seq vs.toArray }) (hi : IntsAre vs ns) (hl : ns.length ≤ sizeLine) (hr : Room k callerA) (F : ∀ base : Heap, K.In base → base.Ns mainGlobals mg → FnG P w K mg base k fa fd [x] sp)
    (bd : ∀ (s : Shared) (u : Value), BindsTo s fd ⟨[u], []⟩ [(x, u)]) (hsp : ∀ H : Hp, Only H → SqL K H a (ns.map V.int) → sp [.ref a] H (fun v _ => v = .bl true) fun _ _ _ => False) :
    codeAny (model P w) callerA (.call (.ref fa) ⟨[.ref a], []⟩) (fun r s' => r = .ok (.ret (.bool true)) ∧ OldK s.heap s'.heap ∧ s'.os = s.os ∧ AllBare s'.gens) s := by
  have rv := vals_ints hi
  cases hk : K.lookup a with
  | some o =>
    have e := KX a o hk
    rw [ha] at e
    cases e
    have on : Only (fun _ => none) := fun _ => .inl rfl
    have sq : SqL K (fun _ => none) a (ns.map V.int) := .inr ⟨_, vs.toArray, _, hk, rfl, rfl, rfl, by rw [List.size_toArray, hi.length]; exact hl, by simpa using rv⟩
    exact callG_at KX g1 g2 g3 g4 g5 ha hr F bd (hsp _ on sq) on (fun b u z => nomatch z) (fun b z => absurd rfl z) fun z => absurd rfl z
  | none =>
    have at1 : (fun b : Addr => if b = a then some (HO.frz { cls := .type "list", data := .seq vs.toArray } (.lst (ns.map V.int))) else none) a = some (HO.frz { cls := .type "list", data := .seq vs.toArray } (.lst (ns.map V.int))) := if_pos rfl
    have on : Only (fun b : Addr => if b = a then some (HO.frz { cls := .type "list", data := .seq vs.toArray } (.lst (ns.map V.int))) else none) := fun b => by
      by_cases hb : b = a
      · exact .inr ⟨_, _, if_pos hb⟩
      · exact .inl (if_neg hb)
    refine callG_at KX g1 g2 g3 g4 g5 ha hr F bd (hsp _ on (.inl (.inr ⟨_, at1⟩))) on (fun b u z => ?_) (fun b z => ?_) fun _ => hk
    · by_cases hb : b = a
      · subst hb
        rw [if_pos rfl] at z
        cases z
        exact ⟨ha, by rw [List.length_map]; exact hl, vs, _, rv, ha⟩
      · rw [if_neg hb] at z
        cases z
    · by_cases hb : b = a
      · exact hb
      · exact absurd (if_neg hb) z
end
theorem walk_ofG {l : PySem.W.OpenLaw} {n k : Nat} {q : Program} {loose : List Str} {XP : (Str → Option Value) → Heap → Prop} {YP : World → Heap → Prop} {d : DefRec} {x : Str}
    (hn : l.most = some n) (hn2 : n ≤ sizeLine) (hdf : d.params.defaults = []) (hr : Room k callerA)
    (F : ∀ (w : World) (mg : Str → Option Value) (fa : Addr) (h : Heap), YP w h → h.Ns mainGlobals mg → mg d.name = some (.ref fa) →
      ∃ (K : PySem.W.Frag) (fd : FuncData) (sp : Sp), K.In h ∧ (∀ (s : Shared) (u : Value), BindsTo s fd ⟨[u], []⟩ [(x, u)]) ∧
        (∀ (H : Hp) (a : Addr) (ns : List Int), ns.length ≤ n → Only H → SqL K H a (ns.map V.int) → sp [.ref a] H (fun v _ => v = .bl true) fun _ _ _ => False) ∧
        ∀ base : Heap, K.In base → base.Ns mainGlobals mg → FnG l.prog w K mg base k fa fd [x] sp) :
    PySem.W.WalkO q loose XP YP l.row.toRowW d [] (fun f vs => PySem.call f vs) := by
  apply Att.attach_call hn hdf
  intro w s0 s1 mg mb fa o pm cd doc a vs ns G Y ho hd hcd hmg hobj hints hlen hg
  obtain ⟨K, fd, sp, KX, hb, hsp, hF⟩ := F w mg fa _ Y G.T.g hmg
  exact callG KX G.T.g G.T.b G.T.builtins G.T.nolimit hg hobj hints (Nat.le_trans hlen hn2) hr hF hb fun H hO hS => hsp H a ns hlen hO hS
/-- the end, of a def by name -/
theorem walk_ofN {l : PySem.W.OpenLaw} {n k : Nat} {q : Program} {loose : List Str} {XP : (Str → Option Value) → Heap → Prop} {YP : World → Heap → Prop} {d : DefRec} {x y : Str}
    (hn : l.most = some n) (hn2 : n ≤ sizeLine) (hdf : d.params.defaults = []) (hr : Room k callerA) (hy : d.name = y)
    (F : ∀ (w : World) (mg : Str → Option Value) (h : Heap), YP w h → h.Ns mainGlobals mg →
      ∃ (K : PySem.W.Frag) (sp : Sp), K.In h ∧ (∀ (H : Hp) (a : Addr) (ns : List Int), ns.length ≤ n → Only H → SqL K H a (ns.map V.int) → sp [.ref a] H (fun v _ => v = .bl true) fun _ _ _ => False) ∧
        ∀ base : Heap, Cg l.prog w K mg base k y [x] sp) :
    PySem.W.WalkO q loose XP YP l.row.toRowW d [] (fun f vs => PySem.call f vs) := by
  refine walk_ofG (x := x) hn hn2 hdf hr fun w mg fa h Y G g => ?_
  rw [hy] at g
  obtain ⟨K, sp, KX, hsp, C⟩ := F w mg h Y G
  obtain ⟨f, fd, F1, b, kp, gf, oc, od, osl, lk⟩ := (C h).ex
  cases g.symm.trans gf
  refine ⟨K, fd, sp, KX, fun s u => ?_, hsp, fun base _ _ => ?_⟩
  · exact .of_eq (b [u] rfl)
  · obtain ⟨f2, fd2, F2, _, _, gf2, oc2, od2, osl2, lk2⟩ := (C base).ex
    cases g.symm.trans gf2
    rw [lk] at lk2
    cases lk2
    exact F2
end Fl
/-! a thing beside itself -/
namespace Fl
open PySem PySem.Spec PyProof.Rows L2
/-- instances of the class at C are equal just where they are one -/
def cmpIn (K : PySem.W.Frag) (C : Addr) : Bool := match K.lookup C with
  | some ⟨.type "type", _, .cls cd, sl⟩ => (match cd.mro, sl.toList with
    | [.ref C', .type "object"], [_, _, _, _, some (.builtin _), _] => C' == C && (!cd.hasDel && (PySem.W.nsOkIn K cd.ns && (decide (PySem.W.nsIn K cd.ns "__eq__" = some none) && decide (PySem.W.nsIn K cd.ns "__ne__" = some none))))
    | _, _ => false)
  | _ => false
theorem cmp_of {K : PySem.W.Frag} {h : Heap} {C x dx : Addr} (X : K.In h) (q : cmpIn K C = true) (hx : h.get? x = some (PySem.W.instObj C dx)) : h.CmpInst x C [.type "object"] := by
  unfold cmpIn at q
  split at q
  · rename_i dd cd sl ho
    split at q
    · rename_i C' k0 k1 k2 k3 n k5 hm hs
      simp only [Bool.and_eq_true, beq_iff_eq, Bool.not_eq_true', decide_eq_true_eq] at q
      obtain ⟨e1, e2, e3, e4, e5⟩ := q
      subst e1
      obtain ⟨nm, bs, mro, ns, qn, hd, sn, sub, ab, col, del⟩ := cd
      dsimp only at hm e2 e3 e4 e5
      subst hm e2
      obtain ⟨sll⟩ := sl
      dsimp only at hs
      subst hs
      exact ⟨_, nm, qn, ns, bs, hd, sn, sub, ab, col, dd, k0, k1, k2, k3, k5, n, _, hx, rfl, X _ _ ho, .of_isNs (PySem.W.isNs_of_in X e3), PySem.W.nsMap_none_of_in X e3 e4, PySem.W.nsMap_none_of_in X e3 e5⟩
    · cases q
  · cases q
theorem eqAt_self (A : Around) (s : Shared) (v : Value) : SeqAt.EqAt A s v v true := fun prog w E Q hq => by
  unfold eqBool
  refine wpAny_holding ?_
  rw [if_pos (beq_self_eq_true v)]
  exact wpAny_bind (wpAny_rule (wpAny_pure hq))
section
variable {X : Cx}
/-- x != x -/
def rNeSelf (K : PySem.W.Frag) (C : Addr) : R2 := fun x y H Q => x = y ∧ (∃ t, Is C H x t ∧ t.worth true = true) ∧ Q (.bl false) H
theorem op_neSelf {C : Addr} (q : cmpIn X.K C = true) (hu : X.A.units + 1 < cLine) : OpR X (compareOp .NotEq) (rNeSelf X.K C) := by
  intro pins s σ H x y v u Q I rx ry h
  obtain ⟨rfl, ⟨t, hi, hw⟩, k⟩ := h
  have fin : EP X pins σ Q (.bool false) s := ⟨.bl false, H, I, rfl, k⟩
  cases hi with
  | non => simp [Th.worth] at hw
  | bl b =>
    cases rx
    cases ry
    exact SeqAt.RcNeAt.bool_bool b b X.prog X.w X.xe _ (by rw [beq_self_eq_true]; exact fin)
  | int i =>
    obtain ⟨t1, rfl⟩ := rx
    obtain ⟨t2, rfl⟩ := ry
    exact SeqAt.RcNeAt.int_int i t1 i t2 X.prog X.w X.xe _ (by rw [beq_self_eq_true]; exact fin)
  | str z _ =>
    obtain ⟨t1, rfl⟩ := rx
    obtain ⟨t2, rfl⟩ := ry
    exact SeqAt.RcNeAt.str_str z t1 z t2 X.prog X.w X.xe _ (by rw [beq_self_eq_true]; exact fin)
  | tup e _ =>
    cases rx
    cases ry
    obtain ⟨its, r, p1, _⟩ := I.tuple (SqT.of (K := X.K) e)
    refine SeqAt.RcNeAt.tuples (e := fun _ => true) p1 p1 (Nat.lt_of_succ_lt hu) (fun j _ _ => eqAt_self _ _ _) X.prog X.w X.xe _ ?_
    have e2 : (!((List.range (min its.toArray.size its.toArray.size)).all (fun _ => true) && its.toArray.size == its.toArray.size)) = false := by simp
    rw [e2]
    exact fin
  | fn e =>
    cases rx
    cases ry
    obtain ⟨_, _, _, e2, _⟩ := I.hok _ _ e
    obtain ⟨hp, g, d, tk, os⟩ := s
    exact richCompare_ne_same F.cmp_object (cmp_of I.kIn q e2) hu fin
  | lst _ => simp [Th.worth] at hw
  | dct _ => simp [Th.worth] at hw
end
end Fl
/-! plain worths as data, and what stays as lists and dicts change -/
namespace Fl
open PySem PySem.Spec PyProof.Rows L2
mutual
def Th.dat : Th → PyData
  | .non => .none
  | .bl b => .bool b
  | .int i => .int i
  | .str x => .str x
  | .tup l => .tuple (Th.dats l)
  | .fn _ => .none
  | .oth => .none
def Th.dats : List Th → List PyData
  | [] => []
  | t :: r => t.dat :: Th.dats r
end
/-! what repr shows as the text says: no function, no list, no dict; good numbers and words; None too -/
mutual
def Th.showy : Th → Bool
  | .non => true
  | .bl _ => true
  | .int i => numB i
  | .str x => wordB x
  | .tup l => Th.showies l
  | .fn _ => false
  | .oth => false
def Th.showies : List Th → Bool
  | [] => true
  | t :: r => t.showy && Th.showies r
end
mutual
theorem showy_of : ∀ t : Th, t.worth false = true → t.showy = true
  | .non, w => by cases w
  | .fn _, w => by cases w
  | .oth, w => by cases w
  | .bl _, _ => rfl
  | .int _, w => w
  | .str _, w => w
  | .tup l, w => by
    rw [Th.showy]
    exact showies_of l (by simpa [Th.worth] using w)
theorem showies_of : ∀ l : List Th, Th.worths false l = true → Th.showies l = true
  | [], _ => rfl
  | t :: r, w => by
    rw [Th.worths, Bool.and_eq_true] at w
    rw [Th.showies, showy_of t w.1, showies_of r w.2]
    rfl
end
theorem wordB_signs {x : Str} (h : wordB x = true) : x.cps.toList.all isSign = true := by
  unfold wordB at h
  simp only [Bool.and_eq_true] at h
  exact h.2.2.2.2
theorem numB_abs {i : Int} (h : numB i = true) : i.natAbs ≤ 1000000000 := by
  unfold numB at h
  simp only [Bool.and_eq_true, decide_eq_true_eq] at h
  omega
theorem log2_num {n : Nat} (h : n ≤ 1000000000) : n.log2 ≤ 29 := by
  by_cases z : n = 0
  · subst z
    decide
  · have := (Nat.log2_lt z (k := 30)).mpr (by omega)
    omega
mutual
theorem dat_dp {K : PySem.W.Frag} {C : Addr} {H : Hp} : ∀ {v : V} {t : Th}, Is C H v t → t.showy = true → Dp K H v t.dat
  | _, _, .non, _ => by rw [Th.dat]; exact .non
  | _, _, .bl b, _ => by rw [Th.dat]; exact .bl b
  | _, _, .int i, _ => by rw [Th.dat]; exact .int i
  | _, _, .str x h, _ => by rw [Th.dat]; exact .str x
  | _, _, .tup h r, w => by rw [Th.dat]; exact .tup (SqT.of h) (dats_dp r (by simpa [Th.showy] using w))
  | _, _, .fn h _, w => by cases w
  | _, _, .lst h, w => by cases w
  | _, _, .dct h, w => by cases w
theorem dats_dp {K : PySem.W.Frag} {C : Addr} {H : Hp} : ∀ {xs : List V} {ts : List Th}, Iss C H xs ts → Th.showies ts = true → DpAll K H xs (Th.dats ts)
  | _, _, .nil, _ => by rw [Th.dats]; exact .nil
  | _, _, .cons h r, w => by
    rw [Th.showies, Bool.and_eq_true] at w
    rw [Th.dats]
    exact .cons (dat_dp h w.1) (dats_dp r w.2)
end
mutual
theorem dat_ok : ∀ t : Th, t.showy = true → t.dat.leavesShort 13 = true ∧ t.dat.showable = true ∧ t.dat.hasDict = false ∧ t.dat.weight + 1 ≤ 32 * t.nodes ∧ t.dat.depth ≤ t.depth
  | .non, _ => by
    rw [Th.dat, Th.nodes, Th.depth]
    exact ⟨rfl, rfl, rfl, by simp [PyData.weight], by simp [PyData.depth]⟩
  | .fn _, w => by cases w
  | .oth, w => by cases w
  | .bl b, _ => by
    rw [Th.dat, Th.nodes, Th.depth]
    exact ⟨rfl, rfl, rfl, by simp [PyData.weight], by simp [PyData.depth]⟩
  | .int i, w => by
    have z := numB_abs (show numB i = true from w)
    have lg := log2_num z
    rw [Th.dat, Th.nodes, Th.depth]
    refine ⟨?_, ?_, rfl, ?_, by simp [PyData.depth]⟩
    · simp only [PyData.leavesShort, decide_eq_true_eq]
      exact PyData.shown_int_le (by omega)
    · simp only [PyData.showable, decide_eq_true_eq]
      omega
    · simp only [PyData.weight]
      split <;> omega
  | .str x, w => by
    have z := wordB_len (show wordB x = true from w)
    have sg := wordB_signs (show wordB x = true from w)
    rw [Th.dat, Th.nodes, Th.depth]
    refine ⟨?_, rfl, rfl, ?_, by simp [PyData.depth]⟩
    · simp only [PyData.leavesShort, List.all_eq_true, decide_eq_true_eq]
      intro c hc
      have := List.all_eq_true.mp sg c hc
      unfold isSign at this
      simp only [Bool.and_eq_true, Nat.ble_eq] at this
      omega
    · have e : x.length = x.cps.size := rfl
      simp only [PyData.weight]
      omega
  | .tup l, w => by
    obtain ⟨h1, h2, h3, h4, h5⟩ := dats_ok l (by simpa [Th.showy] using w)
    rw [Th.dat, Th.nodes, Th.depth]
    refine ⟨by simpa only [PyData.leavesShort] using h1, by simpa only [PyData.showable] using h2, by simpa only [PyData.hasDict] using h3, ?_, ?_⟩
    · simp only [PyData.weight]
      omega
    · simp only [PyData.depth]
      omega
theorem dats_ok : ∀ l : List Th, Th.showies l = true → PyData.leavesShortAll 13 (Th.dats l) = true ∧ PyData.showableAll (Th.dats l) = true ∧ PyData.hasDictAll (Th.dats l) = false ∧ PyData.weightAll (Th.dats l) ≤ 32 * Th.nodesL l ∧ PyData.depthAll (Th.dats l) ≤ Th.depthL l
  | [], _ => by
    rw [Th.dats, Th.nodesL, Th.depthL]
    exact ⟨rfl, rfl, rfl, Nat.le_refl _, Nat.le_refl _⟩
  | t :: r, w => by
    rw [Th.showies, Bool.and_eq_true] at w
    obtain ⟨h1, h2, h3, h4, h5⟩ := dat_ok t w.1
    obtain ⟨g1, g2, g3, g4, g5⟩ := dats_ok r w.2
    rw [Th.dats, Th.nodesL, Th.depthL]
    refine ⟨?_, ?_, ?_, ?_, ?_⟩
    · simp only [PyData.leavesShortAll, h1, g1, Bool.and_self]
    · simp only [PyData.showableAll, h2, g2, Bool.and_self]
    · simp only [PyData.hasDictAll, h3, g3, Bool.or_self]
    · simp only [PyData.weightAll]
      omega
    · simp only [PyData.depthAll]
      omega
end
/-- repr of a plain worth -/
theorem repr_shw {K : PySem.W.Frag} {C : Addr} {H : Hp} {v : V} {t : Th} (h : Is C H v t) (w : t.showy = true) (hn : t.nodes ≤ 30000) (hd : t.depth ≤ 60) : Dp K H v t.dat ∧ t.dat.showable = true ∧ t.dat.hasDict = false ∧ t.dat.depth ≤ 60 ∧ t.dat.shown.length ≤ sizeLine := by
  obtain ⟨h1, h2, h3, h4, h5⟩ := dat_ok t w
  have e : (2 : Nat) ^ 20 = 1048576 := by decide
  exact ⟨dat_dp h w, h2, h3, by omega, PyData.shown_fits (by decide) (Nat.le_refl _) h1 (by omega)⟩
theorem repr_dat {K : PySem.W.Frag} {C : Addr} {H : Hp} {v : V} {t : Th} (h : Is C H v t) (w : t.worth false = true) (hn : t.nodes ≤ 30000) (hd : t.depth ≤ 60) : Dp K H v t.dat ∧ t.dat.showable = true ∧ t.dat.hasDict = false ∧ t.dat.depth ≤ 60 ∧ t.dat.shown.length ≤ sizeLine :=
  repr_shw h (showy_of t w) hn hd
/-! ### kinds stay -/
abbrev Ik (H H' : Hp) : Prop := Im H H'
end Fl
/-! what several laws want -/
namespace Fl
open PySem PySem.Spec PyProof.Rows L2
theorem Iss.get {C : Addr} {H : Hp} : ∀ {xs : List V} {ts : List Th} {i : Nat} {x : V}, Iss C H xs ts → xs[i]? = some x → ∃ t, ts[i]? = some t ∧ Is C H x t
  | _, _, 0, _, .cons h _, e => ⟨_, rfl, by cases e; exact h⟩
  | _, _, i + 1, _, .cons _ r, e => r.get (i := i) e
theorem Iss.take {C : Addr} {H : Hp} : ∀ {xs : List V} {ts : List Th} (i : Nat), Iss C H xs ts → Iss C H (xs.take i) (ts.take i)
  | _, _, 0, _ => .nil
  | _, _, _ + 1, .nil => .nil
  | _, _, i + 1, .cons h r => .cons h (r.take i)
theorem Iss.drop {C : Addr} {H : Hp} : ∀ {xs : List V} {ts : List Th} (i : Nat), Iss C H xs ts → Iss C H (xs.drop i) (ts.drop i)
  | _, _, 0, h => h
  | _, _, _ + 1, .nil => .nil
  | _, _, i + 1, .cons _ r => r.drop i
theorem depth_mem : ∀ {ts : List Th} {t : Th}, t ∈ ts → t.depth ≤ Th.depthL ts
  | _ :: _, _, .head _ => by rw [Th.depthL]; omega
  | _ :: _, _, .tail _ h => by have := depth_mem h; rw [Th.depthL]; omega
theorem nodes_mem : ∀ {ts : List Th} {t : Th}, t ∈ ts → t.nodes ≤ Th.nodesL ts
  | _ :: _, _, .head _ => by rw [Th.nodesL]; omega
  | _ :: _, _, .tail _ h => by have := nodes_mem h; rw [Th.nodesL]; omega
theorem worth_mem {f : Bool} : ∀ {ts : List Th} {t : Th}, t ∈ ts → Th.worths f ts = true → t.worth f = true
  | _ :: _, _, .head _, e => by rw [Th.worths, Bool.and_eq_true] at e; exact e.1
  | _ :: _, _, .tail _ h, e => by rw [Th.worths, Bool.and_eq_true] at e; exact worth_mem h e.2
theorem worth_down {t : Th} (h : t.worth true = false) : t.worth false = false := by
  cases e : t.worth false with
  | false => rfl
  | true => rw [worth_up e] at h; exact h
theorem hu1 {A : Around} {k : Nat} (hr : Room k A) : A.units + 1 < cLine := by
  have := hr.units
  omega
theorem join_seq {ta tb : TS} {D : Ends} {σ : L2.St} {H : Hp} (J : (L2.St → Hp → Prop) → Prop) (h1 : J (fun σ H => tb D σ H)) (h2 : ∀ D' : Ends, J D'.nx → ta D' σ H) : tSeq ta tb D σ H := h2 _ h1
theorem stepG {i : Nat} {x : V} {σ : L2.St} {H : Hp} {k : L2.St → Hp → Prop} (h : k (σ.set i (some x)) H) : gName i x σ H k := h
theorem stepN {D : Ends} {σ : L2.St} {H : Hp} (h : D.nx σ H) : tNext D σ H := h
theorem join_t {T : (Bool → Hp → Prop) → Prop} {k : Bool → Hp → Prop} (J : (Bool → Hp → Prop) → Prop) (h1 : J k) (h2 : ∀ k, J k → T k) : T k := h2 k h1
theorem flat_rep {α : Type} (v : α) : ∀ k : Nat, (List.replicate k [v]).flatten = List.replicate k v
  | 0 => rfl
  | k + 1 => by rw [List.replicate_succ, List.replicate_succ, List.flatten_cons, flat_rep v k]; rfl
theorem iss_rep {C : Addr} {H : Hp} {v : V} {t : Th} (h : Is C H v t) : ∀ k : Nat, Iss C H (List.replicate k v) (List.replicate k t)
  | 0 => .nil
  | k + 1 => .cons h (iss_rep h k)
theorem nodes_rep {t : Th} (h : t.nodes = 1) : ∀ k : Nat, Th.nodesL (List.replicate k t) = k
  | 0 => rfl
  | k + 1 => by rw [List.replicate_succ, Th.nodesL, h, nodes_rep h k]; omega
theorem worths_rep {f : Bool} {t : Th} (h : t.worth f = true) : ∀ k : Nat, Th.worths f (List.replicate k t) = true
  | 0 => rfl
  | k + 1 => by rw [List.replicate_succ, Th.worths, h, worths_rep h k]; rfl
theorem not_num {t : Th} (h : t.worth true = false) : t.num = false := by
  cases t <;> first | rfl | exact h
theorem not_wrd {t : Th} (h : t.worth true = false) : t.wrd = false := by
  cases t <;> first | rfl | exact h
theorem ite_no {c A B : Prop} [Decidable c] (h : ¬ c) (b : B) : if c then A else B := by
  rw [if_neg h]
  exact b
theorem str_self {k : Bool → Hp → Prop} {H : Hp} (x : Str) (h : k false H) : k (!decide (V.str x = V.str x)) H := by
  rw [decide_eq_true rfl]
  exact h
theorem shaped_bb (a b : Bool) : SeqAt.shaped (.tuple [.bool a, .bool b]) = true := by cases a <;> cases b <;> decide +kernel
theorem not_eqv (a b : Bool) : ¬ (!PyData.eqv (.tuple [.bool a, .bool b]) (.tuple [.bool a, .bool b])) = true := by
  simp [PyData.eqv, PyData.eqvAll]
theorem bl_not (b : Bool) : ¬ decide (V.bl b = V.bl (!b)) = true := by
  rw [dec_bl]
  cases b <;> decide
theorem bl_self (b : Bool) : ¬ (!decide (V.bl b = V.bl b)) = true := by
  rw [dec_bl]
  cases b <;> decide
end Fl
/-! worths in a part of the heap that stays (G); functions: instances of the class at C (some C), or lists of four (none) -/
namespace Fl
open PySem PySem.Spec PyProof.Rows L2
def FnAt (M : Option Addr) (G : Hp) (a : Addr) (n b s o : V) : Prop := match M with
  | some C => ∃ dx, G a = some (.ins C dx (fnF n b s o))
  | none => G a = some (.lst [n, b, s, o])
theorem FnAt.same {M : Option Addr} {G G' : Hp} {a : Addr} {n b s o : V} (e : Same G G') (h : FnAt M G a n b s o) : FnAt M G' a n b s o := by
  cases M with
  | none => exact e _ _ h
  | some C =>
    obtain ⟨dx, h⟩ := h
    exact ⟨dx, e _ _ h⟩
def isStrT : Th → Bool
  | .str _ => true
  | _ => false
def isPair : Th → Bool
  | .tup [.str _, _] => true
  | _ => false
mutual
inductive Wo (M : Option Addr) (G : Hp) : V → Th → Prop
  | bl (b : Bool) : Wo M G (.bl b) (.bl b)
  | int (i : Int) (h : numB i = true) : Wo M G (.int i) (.int i)
  | str (x : Str) (h : wordB x = true) : Wo M G (.str x) (.str x)
  | tup {p : Addr} {xs : List V} {ts : List Th} : G p = some (.tup xs) → Wos M G xs ts → Wo M G (.ref p) (.tup ts)
  | fn {a : Addr} {n b s : V} {tn tb sc : List Th} {t : Th} : FnAt M G a n b s .non → Wos M G [n, b, s] [.tup tn, t, .tup sc] → tn.all isStrT = true → sc.all isPair = true → Wo M G (.ref a) (.fn [.tup tn, t, .tup sc, .non])
  | rcf {a : Addr} {n b s : V} {x : Str} {tn tb sc : List Th} {t : Th} : FnAt M G a n b s (.str x) → wordB x = true → Wos M G [n, b, s] [.tup tn, t, .tup sc] → tn.all isStrT = true → sc.all isPair = true → Wo M G (.ref a) (.fn [.tup tn, t, .tup sc, .str x])
inductive Wos (M : Option Addr) (G : Hp) : List V → List Th → Prop
  | nil : Wos M G [] []
  | cons {v : V} {vs : List V} {t : Th} {ts : List Th} : Wo M G v t → Wos M G vs ts → Wos M G (v :: vs) (t :: ts)
end
section
variable {M : Option Addr} {G G' H : Hp}
theorem Wos.len : ∀ {xs : List V} {ts : List Th}, Wos M G xs ts → xs.length = ts.length
  | _, _, .nil => rfl
  | _, _, .cons _ r => congrArg Nat.succ r.len
theorem Wos.app : ∀ {xs ys : List V} {ts us : List Th}, Wos M G xs ts → Wos M G ys us → Wos M G (xs ++ ys) (ts ++ us)
  | _, _, _, _, .nil, s => s
  | _, _, _, _, .cons h r, s => .cons h (r.app s)
theorem Wos.one {v : V} {t : Th} (h : Wo M G v t) : Wos M G [v] [t] := .cons h .nil
theorem Wos.get : ∀ {xs : List V} {ts : List Th} {i : Nat} {x : V}, Wos M G xs ts → xs[i]? = some x → ∃ t, ts[i]? = some t ∧ Wo M G x t
  | _, _, 0, _, .cons h _, e => ⟨_, rfl, by cases e; exact h⟩
  | _, _, i + 1, _, .cons _ r, e => r.get (i := i) e
theorem Wos.getT : ∀ {xs : List V} {ts : List Th} {i : Nat} {t : Th}, Wos M G xs ts → ts[i]? = some t → ∃ x, xs[i]? = some x ∧ Wo M G x t
  | _, _, 0, _, .cons h _, e => ⟨_, rfl, by cases e; exact h⟩
  | _, _, i + 1, _, .cons _ r, e => r.getT (i := i) e
theorem Wos.take : ∀ {xs : List V} {ts : List Th} (i : Nat), Wos M G xs ts → Wos M G (xs.take i) (ts.take i)
  | _, _, 0, _ => .nil
  | _, _, _ + 1, .nil => .nil
  | _, _, i + 1, .cons h r => .cons h (r.take i)
theorem Wos.drop : ∀ {xs : List V} {ts : List Th} (i : Nat), Wos M G xs ts → Wos M G (xs.drop i) (ts.drop i)
  | _, _, 0, h => h
  | _, _, _ + 1, .nil => .nil
  | _, _, i + 1, .cons _ r => r.drop i
mutual
theorem Wo.same (s : Same G G') : ∀ {v : V} {t : Th}, Wo M G v t → Wo M G' v t
  | _, _, .bl b => .bl b
  | _, _, .int i h => .int i h
  | _, _, .str x h => .str x h
  | _, _, .tup h r => .tup (s _ _ h) (r.same s)
  | _, _, .fn (tb := tb) h r a b => .fn (tb := tb) (h.same s) (r.same s) a b
  | _, _, .rcf (tb := tb) h x r a b => .rcf (tb := tb) (h.same s) x (r.same s) a b
theorem Wos.same (s : Same G G') : ∀ {xs : List V} {ts : List Th}, Wos M G xs ts → Wos M G' xs ts
  | _, _, .nil => .nil
  | _, _, .cons h r => .cons (h.same s) (r.same s)
end
theorem wordB_ne {x : Str} (h : wordB x = true) : x ≠ "" := by
  intro e
  rw [e] at h
  exact absurd h (by decide +kernel)
mutual
theorem Wo.worth : ∀ {v : V} {t : Th}, Wo M G v t → t.worth true = true
  | _, _, .bl b => rfl
  | _, _, .int i h => h
  | _, _, .str x h => h
  | _, _, .tup h r => by rw [Th.worth]; exact r.worths
  | _, _, .fn (tb := tb) h r a b => rfl
  | _, _, .rcf (tb := tb) h x r a b => rfl
theorem Wos.worths : ∀ {xs : List V} {ts : List Th}, Wos M G xs ts → Th.worths true ts = true
  | _, _, .nil => rfl
  | _, _, .cons h r => by rw [Th.worths, h.worth, r.worths]; rfl
end
theorem wlen {x : Str} (h : wordB x = true) : x.length ≤ 100000 := Nat.le_trans (wordB_len h) (by decide)
mutual
theorem Wo.is {C : Addr} : ∀ {v : V} {t : Th}, Wo (some C) G v t → Is C G v t
  | _, _, .bl b => .bl b
  | _, _, .int i h => .int i
  | _, _, .str x h => .str x (wlen h)
  | _, _, .tup h r => .tup h r.iss
  | _, _, .fn (tb := tb) ⟨dx, h⟩ r a b => .fn h (r.iss.app (.one .non))
  | _, _, .rcf (tb := tb) ⟨dx, h⟩ x r a b => .fn h (r.iss.app (.one (.str _ (wlen x))))
theorem Wos.iss {C : Addr} : ∀ {xs : List V} {ts : List Th}, Wos (some C) G xs ts → Iss C G xs ts
  | _, _, .nil => .nil
  | _, _, .cons h r => .cons h.is r.iss
end
mutual
theorem Wo.plain {M' : Option Addr} : ∀ {v : V} {t : Th}, Wo M G v t → t.worth false = true → Wo M' G v t
  | _, _, .bl b, _ => .bl b
  | _, _, .int i h, _ => .int i h
  | _, _, .str x h, _ => .str x h
  | _, _, .tup h r, e => .tup h (r.plains (by simpa [Th.worth] using e))
  | _, _, .fn (tb := tb) h r a b, e => by cases e
  | _, _, .rcf (tb := tb) h x r a b, e => by cases e
theorem Wos.plains {M' : Option Addr} : ∀ {xs : List V} {ts : List Th}, Wos M G xs ts → Th.worths false ts = true → Wos M' G xs ts
  | _, _, .nil, _ => .nil
  | _, _, .cons h r, e => by
    rw [Th.worths, Bool.and_eq_true] at e
    exact .cons (h.plain e.1) (r.plains e.2)
end
mutual
theorem Is.wo {C : Addr} {H : Hp} : ∀ {v : V} {t : Th}, Is C H v t → t.worth false = true → Wo M H v t
  | _, _, .non, e => by cases e
  | _, _, .bl b, _ => .bl b
  | _, _, .int i, e => .int i e
  | _, _, .str x h, e => .str x e
  | _, _, .tup h r, e => .tup h (r.wos (by simpa [Th.worth] using e))
  | _, _, .fn h r, e => by cases e
  | _, _, .lst h, e => by cases e
  | _, _, .dct h, e => by cases e
theorem Iss.wos {C : Addr} {H : Hp} : ∀ {xs : List V} {ts : List Th}, Iss C H xs ts → Th.worths false ts = true → Wos M H xs ts
  | _, _, .nil, _ => .nil
  | _, _, .cons h r, e => by
    rw [Th.worths, Bool.and_eq_true] at e
    exact .cons (h.wo e.1) (r.wos e.2)
end
end
/-! ### kinds -/
def KfM (M : Option Addr) (K : PySem.W.Frag) : Prop := match M with
  | some C => Kf K C
  | none => True
section
variable {M : Option Addr} {K : PySem.W.Frag} {G H : Hp} {v : V} {t : Th}
theorem wk_fn {T : String} (hk : ∀ C, M = some C → PySem.W.kitOne K (.ref C) (.type T) = some false) (T' : KfM M K) (s : Same G H) (hl : M = none → PySem.W.kitOne K (.type "list") (.type T) = some false) {a : Addr} {n b c o : V} (h : FnAt M G a n b c o) :
    ∃ u, TyX K H (.ref a) u ∧ PySem.W.kitOne K u (.type T) = some false := by
  cases M with
  | none => exact ⟨_, .base (.lst (s _ _ h)), hl rfl⟩
  | some C =>
    obtain ⟨dx, h⟩ := h
    exact ⟨_, .base (.ins (s _ _ h) T'.cl T'.ca T'.cn T'.ct T'.cm), hk C rfl⟩
theorem wk_int (T : KfM M K) (s : Same G H) (h : Wo M G v t) : ∃ u, TyX K H v u ∧ PySem.W.kitOne K u (.type "int") = some t.isInt := by
  cases h with
  | bl b => exact ⟨_, .base (.bl _), kit_ty (r := true) (by decide +kernel)⟩
  | int i => exact ⟨_, .base (.int _), kit_ty (r := true) (by decide +kernel)⟩
  | str x _ => exact ⟨_, .base (.str _), kit_ty (r := false) (by decide +kernel)⟩
  | tup e _ => exact ⟨_, .base (.tup (s _ _ e)), kit_ty (r := false) (by decide +kernel)⟩
  | fn e => exact wk_fn (fun C z => by subst z; exact Kf.fi T) T s (fun _ => kit_ty (r := false) (by decide +kernel)) e
  | rcf e => exact wk_fn (fun C z => by subst z; exact Kf.fi T) T s (fun _ => kit_ty (r := false) (by decide +kernel)) e
theorem wk_bool (T : KfM M K) (s : Same G H) (h : Wo M G v t) : ∃ u, TyX K H v u ∧ PySem.W.kitOne K u (.type "bool") = some t.isBl := by
  cases h with
  | bl b => exact ⟨_, .base (.bl _), kit_ty (r := true) (by decide +kernel)⟩
  | int i => exact ⟨_, .base (.int _), kit_ty (r := false) (by decide +kernel)⟩
  | str x _ => exact ⟨_, .base (.str _), kit_ty (r := false) (by decide +kernel)⟩
  | tup e _ => exact ⟨_, .base (.tup (s _ _ e)), kit_ty (r := false) (by decide +kernel)⟩
  | fn e => exact wk_fn (fun C z => by subst z; exact Kf.fb T) T s (fun _ => kit_ty (r := false) (by decide +kernel)) e
  | rcf e => exact wk_fn (fun C z => by subst z; exact Kf.fb T) T s (fun _ => kit_ty (r := false) (by decide +kernel)) e
theorem wk_str (T : KfM M K) (s : Same G H) (h : Wo M G v t) : ∃ u, TyX K H v u ∧ PySem.W.kitOne K u (.type "str") = some t.isStr := by
  cases h with
  | bl b => exact ⟨_, .base (.bl _), kit_ty (r := false) (by decide +kernel)⟩
  | int i => exact ⟨_, .base (.int _), kit_ty (r := false) (by decide +kernel)⟩
  | str x _ => exact ⟨_, .base (.str _), kit_ty (r := true) (by decide +kernel)⟩
  | tup e _ => exact ⟨_, .base (.tup (s _ _ e)), kit_ty (r := false) (by decide +kernel)⟩
  | fn e => exact wk_fn (fun C z => by subst z; exact Kf.fs T) T s (fun _ => kit_ty (r := false) (by decide +kernel)) e
  | rcf e => exact wk_fn (fun C z => by subst z; exact Kf.fs T) T s (fun _ => kit_ty (r := false) (by decide +kernel)) e
theorem wk_tup (T : KfM M K) (s : Same G H) (h : Wo M G v t) : ∃ u, TyX K H v u ∧ PySem.W.kitOne K u (.type "tuple") = some t.isTup := by
  cases h with
  | bl b => exact ⟨_, .base (.bl _), kit_ty (r := false) (by decide +kernel)⟩
  | int i => exact ⟨_, .base (.int _), kit_ty (r := false) (by decide +kernel)⟩
  | str x _ => exact ⟨_, .base (.str _), kit_ty (r := false) (by decide +kernel)⟩
  | tup e _ => exact ⟨_, .base (.tup (s _ _ e)), kit_ty (r := true) (by decide +kernel)⟩
  | fn e => exact wk_fn (fun C z => by subst z; exact Kf.ft T) T s (fun _ => kit_ty (r := false) (by decide +kernel)) e
  | rcf e => exact wk_fn (fun C z => by subst z; exact Kf.ft T) T s (fun _ => kit_ty (r := false) (by decide +kernel)) e
/-- isinstance(.., list) in the law's own heap -/
theorem wk_lst (s : Same G H) (h : Wo none G v t) : ∃ u, TyX K H v u ∧ PySem.W.kitOne K u (.type "list") = some t.isFn := by
  cases h with
  | bl b => exact ⟨_, .base (.bl _), kit_ty (r := false) (by decide +kernel)⟩
  | int i => exact ⟨_, .base (.int _), kit_ty (r := false) (by decide +kernel)⟩
  | str x _ => exact ⟨_, .base (.str _), kit_ty (r := false) (by decide +kernel)⟩
  | tup e _ => exact ⟨_, .base (.tup (s _ _ e)), kit_ty (r := false) (by decide +kernel)⟩
  | fn e => exact ⟨_, .base (.lst (s _ _ e)), kit_ty (r := true) (by decide +kernel)⟩
  | rcf e => exact ⟨_, .base (.lst (s _ _ e)), kit_ty (r := true) (by decide +kernel)⟩
/-- isinstance(.., Function) -/
theorem wk_own {C : Addr} (T : Kf K C) (s : Same G H) (h : Wo (some C) G v t) : ∃ u, TyX K H v u ∧ PySem.W.kitOne K u (.ref C) = some t.isFn := is_fn T (h.is.same s)
end
/-! ### steps of a heap in which G stays -/
structure Stp (d : Addr) (G H G' H' : Hp) : Prop where
  gg : Same G G'
  gh : Same G' H'
  fr : ∀ b o, b ≠ d → H b = some o → H' b = some o
  nw : ∀ b, G b = none → H b ≠ none → G' b = none
  ex : ∀ b, H b ≠ none → H' b ≠ none
theorem ex_same {H H' : Hp} (s : Same H H') : ∀ b, H b ≠ none → H' b ≠ none := fun b h => by
  cases e : H b with
  | none => exact absurd e h
  | some o =>
    rw [s _ _ e]
    exact fun z => nomatch z
theorem Stp.refl {d : Addr} {G H : Hp} (s : Same G H) : Stp d G H G H := ⟨.refl _, s, fun _ _ _ e => e, fun _ e _ => e, fun _ e => e⟩
theorem Stp.trans {d : Addr} {G H G1 H1 G2 H2 : Hp} (a : Stp d G H G1 H1) (b : Stp d G1 H1 G2 H2) : Stp d G H G2 H2 :=
  ⟨a.gg.trans b.gg, b.gh, fun x o n e => b.fr x o n (a.fr x o n e), fun x e n => b.nw x (a.nw x e n) (a.ex x n), fun x n => b.ex x (a.ex x n)⟩
/-- new things that nobody needs to keep -/
theorem stp_same {d : Addr} {G H H' : Hp} (g : Same G H) (s : Same H H') : Stp d G H G H' := ⟨.refl _, g.trans s, fun _ _ _ e => s _ _ e, fun _ e _ => e, ex_same s⟩
theorem same_free {G H : Hp} (g : Same G H) {p : Addr} (n : H p = none) : G p = none := g.free n
/-- a new thing that stays -/
theorem stp_new {d p : Addr} {G H : Hp} (g : Same G H) (n : H p = none) (o : HO) : Stp d G H (upd G p o) (upd H p o) := by
  have gn := g.free n
  refine ⟨same_new gn o, fun b u e => ?_, fun b u _ e => same_new n o _ _ e, fun b e x => ?_, ex_same (same_new n o)⟩
  · by_cases hb : b = p
    · rw [hb, upd_same] at e ⊢
      exact e
    · rw [upd_ne hb] at e ⊢
      exact g _ _ e
  · have hb : b ≠ p := fun z => x (by rw [z]; exact n)
    rw [upd_ne hb]
    exact e
/-- the state itself is changed -/
theorem stp_put {d : Addr} {G H : Hp} (g : Same G H) (n : G d = none) (o : HO) : Stp d G H G (upd H d o) := by
  refine ⟨.refl _, fun b u e => ?_, fun b u hb e => by rw [upd_ne hb]; exact e, fun _ e _ => e, fun b e => ?_⟩
  · rw [upd_ne (ne_of_none e n)]
    exact g _ _ e
  · by_cases hb : b = d
    · rw [hb, upd_same]
      exact fun z => nomatch z
    · rw [upd_ne hb]
      exact e
end Fl
/-! plain worths are shown alike just where they are alike -/
namespace Fl
open PySem PySem.Spec PyProof.Rows L2 TL
open PySem.Builtin.Str (reprChar)
/-- the signs of a number -/
def intL : Int → List Nat
  | .ofNat n => numL n
  | .negSucc n => 45 :: numL (n + 1)
mutual
/-- the signs of what is shown -/
def txt : Th → List Nat
  | .bl true => [84, 114, 117, 101]
  | .bl false => [70, 97, 108, 115, 101]
  | .int i => intL i
  | .str x => 39 :: (x.cps.toList ++ [39])
  | .tup l => 40 :: (txts l ++ [41])
  | _ => []
def txts : List Th → List Nat
  | [] => []
  | t :: r => txt t ++ (match r with
    | [] => [44]
    | _ :: _ => tailT r)
def tailT : List Th → List Nat
  | [] => []
  | t :: r => 44 :: 32 :: (txt t ++ tailT r)
end
theorem tl_int (i : Int) : tl (Str.ofString (toString i)) = intL i := by
  cases i with
  | ofNat n => exact tl_num n
  | negSucc n =>
    rw [tl_ofString, show toString (Int.negSucc n) = "-" ++ toString ((n + 1 : Nat) : Int) from rfl, String.toList_append, List.map_append, ← tl_ofString (toString ((n + 1 : Nat) : Int)), tl_num]
    rfl
theorem intL_inj {i j : Int} (h : intL i = intL j) : i = j := by
  have m : ∀ n k : Nat, numL n ≠ 45 :: numL k := fun n k e => numL_free (n := n) (s := 45) (by decide) (by rw [e]; exact .head _)
  cases i with
  | ofNat n =>
    cases j with
    | ofNat k => exact congrArg Int.ofNat (numL_inj h)
    | negSucc k => exact absurd h (m n _)
  | negSucc n =>
    cases j with
    | ofNat k => exact absurd h.symm (m k _)
    | negSucc k =>
      injection h with _ h
      have := numL_inj h
      have e : n = k := by omega
      rw [e]
def endy (r : List Nat) : Prop := r = [] ∨ ∃ c s, r = c :: s ∧ (c = 41 ∨ c = 44)
theorem cut_free {P : Nat → Prop} : ∀ {a b r s : List Nat}, (∀ c ∈ a, P c) → (∀ c ∈ b, P c) → (r = [] ∨ ∃ c t, r = c :: t ∧ ¬ P c) → (s = [] ∨ ∃ c t, s = c :: t ∧ ¬ P c) → a ++ r = b ++ s → a = b ∧ r = s
  | [], [], _, _, _, _, _, _, h => ⟨rfl, h⟩
  | [], y :: b, r, s, _, hb, hr, _, h => by
    rcases hr with rfl | ⟨c, t, rfl, n⟩
    · cases h
    · injection h with e _
      exact absurd (e ▸ hb y (.head _)) n
  | x :: a, [], r, s, ha, _, _, hs, h => by
    rcases hs with rfl | ⟨c, t, rfl, n⟩
    · cases h
    · injection h with e _
      exact absurd (e ▸ ha x (.head _)) n
  | x :: a, y :: b, r, s, ha, hb, hr, hs, h => by
    injection h with e h
    obtain ⟨e2, e3⟩ := cut_free (P := P) (fun c m => ha c (.tail _ m)) (fun c m => hb c (.tail _ m)) hr hs h
    exact ⟨by rw [e, e2], e3⟩
def numC (c : Nat) : Prop := c = 45 ∨ (48 ≤ c ∧ c ≤ 57)
theorem intL_num (i : Int) : ∀ c ∈ intL i, numC c := by
  intro c h
  cases i with
  | ofNat n => exact .inr (numL_digits n c h)
  | negSucc n =>
    rcases List.mem_cons.mp h with e | h
    · exact .inl e
    · exact .inr (numL_digits _ c h)
theorem intL_ne (i : Int) : ∃ c r, intL i = c :: r ∧ numC c := by
  cases e : intL i with
  | nil =>
    cases i with
    | ofNat n => exact absurd e (numL_ne n)
    | negSucc n => cases e
  | cons c r => exact ⟨c, r, rfl, intL_num i c (by rw [e]; exact .head _)⟩
theorem endy_num {r : List Nat} (h : endy r) : r = [] ∨ ∃ c t, r = c :: t ∧ ¬ numC c := by
  rcases h with h | ⟨c, s, h, e⟩
  · exact .inl h
  · exact .inr ⟨c, s, h, by unfold numC; omega⟩
/-- which kind by the first sign -/
def headC : Th → Nat → Prop
  | .bl true, c => c = 84
  | .bl false, c => c = 70
  | .int _, c => numC c
  | .str _, c => c = 39
  | .tup _, c => c = 40
  | _, _ => False
theorem txt_head {t : Th} (w : t.worth false = true) : ∃ c r, txt t = c :: r ∧ headC t c := by
  cases t with
  | non => cases w
  | fn _ => cases w
  | oth => cases w
  | bl b => cases b <;> exact ⟨_, _, rfl, rfl⟩
  | int i =>
    obtain ⟨c, r, h1, h2⟩ := intL_ne i
    exact ⟨c, r, by rw [txt]; exact h1, h2⟩
  | str x => exact ⟨39, _, by rw [txt], rfl⟩
  | tup l => exact ⟨40, _, by rw [txt], rfl⟩
theorem head_not {t : Th} {c : Nat} (w : t.worth false = true) (h : headC t c) : c ≠ 41 ∧ c ≠ 44 := by
  cases t with
  | non => cases w
  | fn _ => cases w
  | oth => cases w
  | bl b => cases b <;> (cases h; decide)
  | int i => unfold headC numC at h; omega
  | str x => cases h; decide
  | tup l => cases h; decide
theorem word_free {x : Str} (h : wordB x = true) : ∀ c ∈ x.cps.toList, c ≠ 39 := by
  intro c hc e
  have := List.all_eq_true.mp (wordB_signs h) c hc
  rw [e] at this
  exact absurd this (by decide)
theorem str_ext {x y : Str} (h : x.cps.toList = y.cps.toList) : x = y := by
  cases x
  cases y
  congr 1
  exact Array.toList_inj.mp h
theorem endy_tail {l : List Th} {r : List Nat} : endy (tailT l ++ 41 :: r) := by
  cases l with
  | nil => exact .inr ⟨41, r, rfl, .inl rfl⟩
  | cons t l => exact .inr ⟨44, _, by rw [tailT]; rfl, .inr rfl⟩
theorem txts_head (t : Th) (r : List Th) : ∃ z, txts (t :: r) = txt t ++ z := by
  cases r with
  | nil => exact ⟨_, by rw [txts]⟩
  | cons u r => exact ⟨_, by rw [txts]⟩
theorem head_kind {t u : Th} {c : Nat} (a : headC t c) (b : headC u c) (wa : t.worth false = true) (wb : u.worth false = true) : t.kind = u.kind ∧ ∀ x y, t = .bl x → u = .bl y → x = y := by
  cases t with
  | non => cases wa
  | fn _ => cases wa
  | oth => cases wa
  | bl x =>
    cases u with
    | bl y => exact ⟨rfl, fun p q h1 h2 => by cases h1; cases h2; cases x <;> cases y <;> first | rfl | (cases a; cases b)⟩
    | non => cases wb
    | fn _ => cases wb
    | oth => cases wb
    | int i => cases x <;> (cases a; unfold headC numC at b; omega)
    | str i => cases x <;> (cases a; cases b)
    | tup i => cases x <;> (cases a; cases b)
  | int i =>
    cases u with
    | int _ => exact ⟨rfl, fun p q h1 h2 => by cases h1⟩
    | non => cases wb
    | fn _ => cases wb
    | oth => cases wb
    | bl x => cases x <;> (cases b; unfold headC numC at a; omega)
    | str i => cases b; unfold headC numC at a; omega
    | tup i => cases b; unfold headC numC at a; omega
  | str i =>
    cases u with
    | str _ => exact ⟨rfl, fun p q h1 h2 => by cases h1⟩
    | non => cases wb
    | fn _ => cases wb
    | oth => cases wb
    | bl x => cases x <;> (cases a; cases b)
    | int i => cases a; unfold headC numC at b; omega
    | tup i => cases a; cases b
  | tup i =>
    cases u with
    | tup _ => exact ⟨rfl, fun p q h1 h2 => by cases h1⟩
    | non => cases wb
    | fn _ => cases wb
    | oth => cases wb
    | bl x => cases x <;> (cases a; cases b)
    | int i => cases a; unfold headC numC at b; omega
    | str i => cases a; cases b
theorem txt_kind {t u : Th} {r s : List Nat} (wt : t.worth false = true) (wu : u.worth false = true) (h : txt t ++ r = txt u ++ s) : t.kind = u.kind ∧ ∀ x y, t = .bl x → u = .bl y → x = y := by
  obtain ⟨c, rt, e1, k1⟩ := txt_head wt
  obtain ⟨c', ru, e2, k2⟩ := txt_head wu
  have hc : c = c' := by
    rw [e1, e2] at h
    injection h
  subst hc
  exact head_kind k1 k2 wt wu
mutual
theorem txt_inj : ∀ (t u : Th) (r s : List Nat), t.worth false = true → u.worth false = true → endy r → endy s → txt t ++ r = txt u ++ s → t = u ∧ r = s
  | .non, u, r, s, wt, wu, er, es, h => by cases wt
  | .fn _, u, r, s, wt, wu, er, es, h => by cases wt
  | .oth, u, r, s, wt, wu, er, es, h => by cases wt
  | .bl a, u, r, s, wt, wu, er, es, h => by
    obtain ⟨kk, bb⟩ := txt_kind wt wu h
    cases u with
    | bl b =>
      have := bb a b rfl rfl
      subst this
      exact ⟨rfl, List.append_cancel_left h⟩
    | int _ => exact absurd kk (show ¬ (("truth" : Str) = "number") by decide)
    | str _ => exact absurd kk (show ¬ (("truth" : Str) = "word") by decide)
    | tup _ => exact absurd kk (show ¬ (("truth" : Str) = "row") by decide)
    | non => cases wu
    | fn _ => cases wu
    | oth => cases wu
  | .int i, u, r, s, wt, wu, er, es, h => by
    obtain ⟨kk, bb⟩ := txt_kind wt wu h
    cases u with
    | int j =>
      rw [txt, txt] at h
      obtain ⟨z1, z2⟩ := cut_free (P := numC) (intL_num i) (intL_num j) (endy_num er) (endy_num es) h
      exact ⟨by rw [intL_inj z1], z2⟩
    | bl _ => exact absurd kk (show ¬ (("number" : Str) = "truth") by decide)
    | str _ => exact absurd kk (show ¬ (("number" : Str) = "word") by decide)
    | tup _ => exact absurd kk (show ¬ (("number" : Str) = "row") by decide)
    | non => cases wu
    | fn _ => cases wu
    | oth => cases wu
  | .str x, u, r, s, wt, wu, er, es, h => by
    obtain ⟨kk, bb⟩ := txt_kind wt wu h
    cases u with
    | str y =>
      rw [txt, txt, List.cons_append, List.cons_append, List.append_assoc, List.append_assoc] at h
      injection h with _ h
      obtain ⟨z1, z2⟩ := cut_free (P := fun c => c ≠ 39) (word_free wt) (word_free wu) (.inr ⟨39, r, rfl, fun z => z rfl⟩) (.inr ⟨39, s, rfl, fun z => z rfl⟩) h
      injection z2 with _ z2
      exact ⟨by rw [str_ext z1], z2⟩
    | bl _ => exact absurd kk (show ¬ (("word" : Str) = "truth") by decide)
    | int _ => exact absurd kk (show ¬ (("word" : Str) = "number") by decide)
    | tup _ => exact absurd kk (show ¬ (("word" : Str) = "row") by decide)
    | non => cases wu
    | fn _ => cases wu
    | oth => cases wu
  | .tup l, u, r, s, wt, wu, er, es, h => by
    obtain ⟨kk, bb⟩ := txt_kind wt wu h
    cases u with
    | tup m =>
      rw [txt, txt, List.cons_append, List.cons_append, List.append_assoc, List.append_assoc] at h
      injection h with _ h
      obtain ⟨z1, z2⟩ := txts_inj l m r s (by simpa [Th.worth] using wt) (by simpa [Th.worth] using wu) h
      exact ⟨by rw [z1], z2⟩
    | bl _ => exact absurd kk (show ¬ (("row" : Str) = "truth") by decide)
    | int _ => exact absurd kk (show ¬ (("row" : Str) = "number") by decide)
    | str _ => exact absurd kk (show ¬ (("row" : Str) = "word") by decide)
    | non => cases wu
    | fn _ => cases wu
    | oth => cases wu
theorem txts_inj : ∀ (l m : List Th) (r s : List Nat), Th.worths false l = true → Th.worths false m = true → txts l ++ 41 :: r = txts m ++ 41 :: s → l = m ∧ r = s
  | [], [], r, s, _, _, h => by
    injection h with _ h
    exact ⟨rfl, h⟩
  | [], u :: m, r, s, _, wm, h => by
    rw [Th.worths, Bool.and_eq_true] at wm
    obtain ⟨c, rt, e1, k1⟩ := txt_head wm.1
    have := (head_not wm.1 k1).1
    obtain ⟨z, e2⟩ := txts_head u m
    rw [show txts ([] : List Th) = [] from rfl, e2, e1] at h
    injection h with h _
    exact absurd h.symm this
  | t :: l, [], r, s, wl, _, h => by
    rw [Th.worths, Bool.and_eq_true] at wl
    obtain ⟨c, rt, e1, k1⟩ := txt_head wl.1
    have := (head_not wl.1 k1).1
    obtain ⟨z, e2⟩ := txts_head t l
    rw [show txts ([] : List Th) = [] from rfl, e2, e1] at h
    injection h with h _
    exact absurd h this
  | [t], [u], r, s, wl, wm, h => by
    rw [Th.worths, Bool.and_eq_true] at wl wm
    rw [txts, txts, List.append_assoc, List.append_assoc] at h
    obtain ⟨z1, z2⟩ := txt_inj t u _ _ wl.1 wm.1 (.inr ⟨44, _, rfl, .inr rfl⟩) (.inr ⟨44, _, rfl, .inr rfl⟩) h
    injection z2 with _ z2
    injection z2 with _ z2
    exact ⟨by rw [z1], z2⟩
  | [t], u :: v :: m, r, s, wl, wm, h => by
    rw [Th.worths, Bool.and_eq_true] at wl wm
    rw [txts, txts, List.append_assoc, List.append_assoc] at h
    obtain ⟨z1, z2⟩ := txt_inj t u _ _ wl.1 wm.1 (.inr ⟨44, _, rfl, .inr rfl⟩) endy_tail h
    rw [tailT] at z2
    injection z2 with _ z2
    injection z2 with z2 _
    cases z2
  | t :: v :: l, [u], r, s, wl, wm, h => by
    rw [Th.worths, Bool.and_eq_true] at wl wm
    rw [txts, txts, List.append_assoc, List.append_assoc] at h
    obtain ⟨z1, z2⟩ := txt_inj t u _ _ wl.1 wm.1 endy_tail (.inr ⟨44, _, rfl, .inr rfl⟩) h
    rw [tailT] at z2
    injection z2 with _ z2
    injection z2 with z2 _
    cases z2
  | t :: v :: l, u :: x :: m, r, s, wl, wm, h => by
    rw [Th.worths, Bool.and_eq_true] at wl wm
    rw [txts, txts, List.append_assoc, List.append_assoc] at h
    obtain ⟨z1, z2⟩ := txt_inj t u _ _ wl.1 wm.1 endy_tail endy_tail h
    obtain ⟨z3, z4⟩ := tails_inj (v :: l) (x :: m) r s wl.2 wm.2 z2
    exact ⟨by rw [z1, z3], z4⟩
theorem tails_inj : ∀ (l m : List Th) (r s : List Nat), Th.worths false l = true → Th.worths false m = true → tailT l ++ 41 :: r = tailT m ++ 41 :: s → l = m ∧ r = s
  | [], [], r, s, _, _, h => by
    injection h with _ h
    exact ⟨rfl, h⟩
  | [], u :: m, r, s, _, wm, h => by
    rw [show tailT ([] : List Th) = [] from rfl, tailT] at h
    injection h with h _
    cases h
  | t :: l, [], r, s, wl, _, h => by
    rw [show tailT ([] : List Th) = [] from rfl, tailT] at h
    injection h with h _
    cases h
  | t :: l, u :: m, r, s, wl, wm, h => by
    rw [Th.worths, Bool.and_eq_true] at wl wm
    rw [tailT, tailT, List.cons_append, List.cons_append, List.cons_append, List.cons_append, List.append_assoc, List.append_assoc] at h
    injection h with _ h
    injection h with _ h
    obtain ⟨z1, z2⟩ := txt_inj t u _ _ wl.1 wm.1 endy_tail endy_tail h
    obtain ⟨z3, z4⟩ := tails_inj l m r s wl.2 wm.2 z2
    exact ⟨by rw [z1, z3], z4⟩
end
/-! what is shown has these signs -/
theorem repr_word {x : Str} (h : wordB x = true) : tl (reprText x) = 39 :: (x.cps.toList ++ [39]) := by
  have q : reprQuote x = 39 := by
    unfold reprQuote
    rw [if_neg]
    intro z
    rw [Bool.and_eq_true] at z
    have z := Array.contains_iff_mem.mp z.1
    exact word_free h 39 (Array.mem_toList_iff.mpr z) rfl
  have one : ∀ c, isSign c = true → reprChar 39 c = [c] := by
    intro c hc
    unfold isSign at hc
    rw [Bool.and_eq_true, Nat.ble_eq, Nat.ble_eq] at hc
    have : ∀ k < 26, reprChar 39 (97 + k) = [97 + k] := by decide +kernel
    have z := this (c - 97) (by omega)
    rw [show 97 + (c - 97) = c by omega] at z
    exact z
  have go : ∀ (l : List Nat) (acc : Array Nat), l.all isSign = true → (l.foldl (fun out c => out ++ (reprChar 39 c).toArray) acc).toList = acc.toList ++ l := by
    intro l
    induction l with
    | nil => intro acc _; simp
    | cons c l ih =>
      intro acc hl
      rw [List.all_cons, Bool.and_eq_true] at hl
      rw [List.foldl_cons, ih _ hl.2, one c hl.1]
      simp
  unfold reprText
  rw [q]
  show (Array.push _ _).toList = _
  rw [Array.toList_push, ← Array.foldl_toList, go _ _ (wordB_signs h)]
  rfl
theorem joinL_flat (S : List Nat) : ∀ (r : List (List Nat)) (p : List Nat), joinL S (p :: r) = p ++ r.flatMap fun x => S ++ x
  | [], p => by simp [joinL]
  | q :: r, p => by
    show p ++ (S ++ joinL S (q :: r)) = _
    rw [joinL_flat S r q, List.flatMap_cons, List.append_assoc]
mutual
theorem shown_txt : ∀ t : Th, t.worth false = true → tl t.dat.shown = txt t
  | .non, w => by cases w
  | .fn _, w => by cases w
  | .oth, w => by cases w
  | .bl true, _ => by rw [Th.dat, PyData.shown, txt]; decide +kernel
  | .bl false, _ => by rw [Th.dat, PyData.shown, txt]; decide +kernel
  | .int i, _ => by rw [Th.dat, PyData.shown, txt]; exact tl_int i
  | .str x, w => by rw [Th.dat, PyData.shown, txt]; exact repr_word w
  | .tup l, w => by
    rw [Th.dat, PyData.shown, txt]
    unfold tupleText
    rw [tl_append, tl_append, tl_join]
    rw [show tl ("(" : Str) = [40] from rfl, shown_len l]
    have z := shown_txts l (by simpa [Th.worth] using w)
    rw [List.append_assoc, z]
    rfl
theorem shown_txts : ∀ l : List Th, Th.worths false l = true → joinL (tl (", " : Str)) ((PyData.shownAll (Th.dats l)).map tl) ++ tl (((if l.length == 1 then ",)" else ")" : String)) : Str) = txts l ++ [41]
  | [], _ => rfl
  | [t], w => by
    rw [Th.worths, Bool.and_eq_true] at w
    rw [Th.dats, Th.dats, PyData.shownAll, PyData.shownAll, txts]
    have := shown_txt t w.1
    show tl t.dat.shown ++ _ = _
    rw [this, List.append_assoc]
    rfl
  | t :: u :: r, w => by
    rw [Th.worths, Bool.and_eq_true] at w
    have k : ((t :: u :: r).length == 1) = false := by simp
    rw [txts, List.append_assoc, ← shown_tail (u :: r) w.2, ← shown_txt t w.1, k]
    show joinL (tl (", " : Str)) ((PyData.shownAll (Th.dats (t :: u :: r))).map tl) ++ [41] = _
    rw [Th.dats, PyData.shownAll, List.map_cons, joinL_flat, List.append_assoc]
    rfl
theorem shown_tail : ∀ l : List Th, Th.worths false l = true → ((PyData.shownAll (Th.dats l)).map tl).flatMap (fun x => 44 :: 32 :: x) ++ [41] = tailT l ++ [41]
  | [], _ => rfl
  | t :: r, w => by
    rw [Th.worths, Bool.and_eq_true] at w
    rw [Th.dats, PyData.shownAll, List.map_cons, List.flatMap_cons, tailT, List.append_assoc, shown_tail r w.2, shown_txt t w.1]
    simp
theorem shown_len : ∀ l : List Th, (PyData.shownAll (Th.dats l)).length = l.length
  | [] => rfl
  | t :: r => by rw [Th.dats, PyData.shownAll, List.length_cons, List.length_cons, shown_len r]
end
mutual
theorem same_eq : ∀ t u : Th, t.worth false = true → (t.same u = true ↔ t = u)
  | .non, u, w => by cases w
  | .fn _, u, w => by cases w
  | .oth, u, w => by cases w
  | .bl a, u, _ => by
    cases u with
    | bl b => rw [Th.same, beq_iff_eq]; exact ⟨fun h => by rw [h], fun h => by injection h⟩
    | _ => exact ⟨fun h => (by cases h), fun h => (by cases h)⟩
  | .int a, u, _ => by
    cases u with
    | int b => rw [Th.same, beq_iff_eq]; exact ⟨fun h => by rw [h], fun h => by injection h⟩
    | _ => exact ⟨fun h => (by cases h), fun h => (by cases h)⟩
  | .str a, u, _ => by
    cases u with
    | str b => rw [Th.same, decide_eq_true_iff]; exact ⟨fun h => by rw [h], fun h => by injection h⟩
    | _ => exact ⟨fun h => (by cases h), fun h => (by cases h)⟩
  | .tup a, u, w => by
    cases u with
    | tup b =>
      rw [Th.same, sames_eq a b (by simpa [Th.worth] using w)]
      exact ⟨fun h => by rw [h], fun h => by injection h⟩
    | _ => exact ⟨fun h => (by cases h), fun h => (by cases h)⟩
theorem sames_eq : ∀ l m : List Th, Th.worths false l = true → (Th.sames l m = true ↔ l = m)
  | [], [], _ => by rw [Th.sames]; exact ⟨fun _ => rfl, fun _ => rfl⟩
  | [], u :: m, _ => ⟨fun h => (by cases h), fun h => (by cases h)⟩
  | t :: l, [], _ => ⟨fun h => (by cases h), fun h => (by cases h)⟩
  | t :: l, u :: m, w => by
    rw [Th.worths, Bool.and_eq_true] at w
    rw [Th.sames, Bool.and_eq_true, same_eq t u w.1, sames_eq l m w.2]
    exact ⟨fun h => by rw [h.1, h.2], fun h => by injection h with h1 h2; exact ⟨h1, h2⟩⟩
end
theorem shown_same {t u : Th} (wt : t.worth false = true) (wu : u.worth false = true) : decide (V.str t.dat.shown = V.str u.dat.shown) = t.same u := by
  have key : V.str t.dat.shown = V.str u.dat.shown ↔ t.same u = true := by
    rw [same_eq t u wt]
    refine ⟨fun h => ?_, fun h => by rw [h]⟩
    injection h with h
    have z := congrArg tl h
    rw [shown_txt t wt, shown_txt u wu] at z
    exact (txt_inj t u [] [] wt wu (.inl rfl) (.inl rfl) (by rw [z])).1
  cases e : t.same u with
  | true => exact decide_eq_true (key.mpr e)
  | false => exact decide_eq_false fun z => by rw [key.mp z] at e; cases e
end Fl
namespace Fl
open PySem PySem.Spec PyProof.Rows L2
abbrev s_law_words : Stmt := top 37
theorem sc_law_words : FnScope [] [] (defScope s_law_words) := ⟨rfl, rfl, rfl, by decide +kernel, rfl, by decide +kernel, by decide +kernel⟩
abbrev s_law_stop : Stmt := top 38
theorem sc_law_stop : FnScope ["_law_state_here", "_law_word"] ["_law_state_here", "_law_word"] (defScope s_law_stop) := ⟨rfl, rfl, rfl, by decide +kernel, rfl, by decide +kernel, by decide +kernel⟩
abbrev s_law_is_name : Stmt := top 39
theorem sc_law_is_name : FnScope ["_law_thing"] ["_law_thing"] (defScope s_law_is_name) := ⟨rfl, rfl, rfl, by decide +kernel, rfl, by decide +kernel, by decide +kernel⟩
abbrev s_law_is_form : Stmt := top 40
theorem sc_law_is_form : FnScope ["_law_word", "_law_rest", "_law_counts", "_law_names", "_law_name"] ["_law_word", "_law_rest"] (defScope s_law_is_form) := ⟨rfl, rfl, rfl, by decide +kernel, rfl, by decide +kernel, by decide +kernel⟩
abbrev s_law_is_plain : Stmt := top 42
theorem sc_law_is_plain : FnScope ["_law_worth", "_law_part_here"] ["_law_worth"] (defScope s_law_is_plain) := ⟨rfl, rfl, rfl, by decide +kernel, rfl, by decide +kernel, by decide +kernel⟩
abbrev s_law_kind : Stmt := top 43
theorem sc_law_kind : FnScope ["_law_worth"] ["_law_worth"] (defScope s_law_kind) := ⟨rfl, rfl, rfl, by decide +kernel, rfl, by decide +kernel, by decide +kernel⟩
section
variable {X : Cx} {k j : Nat} {x : Str} {ps : List Str} {sp : Sp} {E : XK} {p pos : Pos}
theorem pe_b0 (c : Cl X.prog X.w X.K X.mg X.base k x ps sp) (hr : Room j X.A) (hk : k ≤ j) (hg : Gl X x) (hx : Passes (L2.CX X.prog X.w) X E) (hdb : (x == ("__debug__" : Str)) = false := by decide) : PE X (.Call (.Name x p) [] [] pos) (tCall sp [] E tNil) := by
  obtain ⟨f, fd, F, b, kp, g⟩ := c.ex
  exact pe_call0 F (hr.mono hk) hg g kp b .nil hx hdb
end
theorem cl_0 {P : Program} {w : World} {K : PySem.W.Frag} {mg : Str → Option Value} {base : Heap} {x : Str} {st : Stmt} {N : List Str} {k : Nat} {f : Hp → VK → XK → Prop} (F : FnP K mg x st) (S : FnScope N [] (defScope st)) (hb : bindOk st x [])
    (body : ∀ (cdv : Value) (A : Around) (outer : List Env) (s : Shared) (H : Hp) (Q : VK) (E : XK), Room k (A.deeper (envOfC x (defScope st) s.heap.objs.size (He.ga K x) cdv)) → f H Q E →
      ∃ t, PSs (cxOf (L2.CX P w) P w K mg base N x (defScope st) (He.ga K x) cdv A outer s H E) (defBody st) t ∧ t { nx := fun _ H' => Q .non H', rt := Q } (start N []) H) : Cl P w K mg base (k + 1) x [] (fun vs H Q E => vs = [] ∧ f H Q E) :=
  cl_mk F S hb (fun vs H Q E h => by obtain ⟨rfl, _⟩ := h; rfl) fun cdv A outer s H vs Q E hr h => by
    obtain ⟨rfl, h⟩ := h
    exact body cdv A outer s H Q E hr h
theorem seq_if {c : TT} {ta tb tr : TS} {D : Ends} {σ : L2.St} {H : Hp} (J : (Bool → Hp → Prop) → Prop) (h1 : J (fun b H1 => if b = true then ta { D with nx := tr D } σ H1 else tb { D with nx := tr D } σ H1)) (h2 : ∀ k, J k → c σ H k) : tSeq (tIfS c ta tb) tr D σ H := h2 _ h1
def kSteps : Key := Sum.inr "steps"
def kEnd : Key := Sum.inr "end"
/-- the law's own state at d: so many steps, such an end -/
def Ld (d : Addr) (n : Int) (e : Str) (H : Hp) : Prop := H d = some (.dK [(kSteps, .int n), (kEnd, .str e)])
theorem val_steps {n : Int} {e : Str} : valV [(kSteps, V.int n), (kEnd, .str e)] kSteps = some (.int n) := rfl
theorem val_end {n : Int} {e : Str} : valV [(kSteps, V.int n), (kEnd, .str e)] kEnd = some (.str e) := rfl
theorem put_steps {n m : Int} {e : Str} : putK [(kSteps, V.int n), (kEnd, .str e)] kSteps (.int m) = [(kSteps, .int m), (kEnd, .str e)] := rfl
theorem put_end {n : Int} {e e' : Str} : putK [(kSteps, V.int n), (kEnd, .str e)] kEnd (.str e') = [(kSteps, .int n), (kEnd, .str e')] := rfl
theorem Ld.stp {d : Addr} {n : Int} {e : Str} {H H' : Hp} (h : Ld d n e H) (s : Same H H') : Ld d n e H' := s _ _ h
def formWords : List Str := formList.map (·.1)
theorem words_split : Txt.split "quote if fn rec let run add less times below same join first rest kind row" " " = formWords := by decide +kernel
theorem inV_str (x : Str) : ∀ l : List Str, inV (.str x) (l.map V.str) = l.contains x
  | [] => rfl
  | y :: l => by
    have e : inV (.str x) ((y :: l).map V.str) = ((y == x) || inV (.str x) (l.map V.str)) := rfl
    rw [e, inV_str x l, List.contains_cons]
    congr 1
    exact Bool.beq_comm
theorem form_in (x : Str) : formWords.contains x = isForm x := by
  have z : ∀ l : List (Str × Nat), (l.map (·.1)).contains x = (l.lookup x).isSome := by
    intro l
    induction l with
    | nil => rfl
    | cons a l ih =>
      obtain ⟨y, n⟩ := a
      rw [List.map_cons, List.contains_cons, List.lookup_cons, ih]
      cases h : x == y <;> rfl
  exact z formList
structure Tl (mg : Str → Option Value) : Prop where
  z_isinstance : mg "isinstance" = none
  z_int : mg "int" = none
  z_bool : mg "bool" = none
  z_str : mg "str" = none
  z_tuple : mg "tuple" = none
  z_list : mg "list" = none
  z_abs : mg "abs" = none
  z_len : mg "len" = none
  z_set : mg "set" = none
  z_min : mg "min" = none
  z_zip : mg "zip" = none
  z_repr : mg "repr" = none
def spWords : Sp := fun vs H Q _ => vs = [] ∧ ∀ p H', Same H H' → H p = none → H' p = some (.lst (formWords.map V.str)) → Q (.ref p) H'
def spStop : Sp := sp2 fun v b H Q _ => ∃ d n e x G, v = .ref d ∧ b = .str x ∧ Ld d n e H ∧ Same G H ∧ G d = none ∧ ∀ u H', Stp d G H G H' → Ld d n x H' → Q u H'
def spIsName : Sp := sp1 fun v H Q _ => ∃ G t, Wo none G v t ∧ Same G H ∧ ∀ H', Same H H' → Q (.bl (isName t)) H'
def spKind : Sp := sp1 fun v H Q _ => ∃ G t, Wo none G v t ∧ Same G H ∧ Q (.str t.kind) H
def spPlainL (m : Nat) : Sp := sp1 fun v H Q _ => ∃ G t, Wo none G v t ∧ Same G H ∧ t.depth < m ∧ t.nodes ≤ 1000000 ∧ ∀ H', Same H H' → Q (.bl (t.worth false)) H'
section
variable {P : Program} {w : World} {K : PySem.W.Frag} {mg : Str → Option Value} {base : Heap}
theorem ok_law_words (F : FnP K mg "_law_words" s_law_words) : Cl P w K mg base 1 "_law_words" [] spWords := by
  refine cl_0 F sc_law_words (fun _ _ _ _ _ _ us hl => match us, hl with | [], _ => rfl) fun cdv A outer s H Q E hr q => ?_
  refine ⟨_, PSs.nox (pss_one (ps_ret (pe_split pe_str pe_str))), ?_⟩
  refine ⟨⟨_, rfl⟩, _, _, rfl, rfl, by decide +kernel, by decide +kernel, fun p np => ?_⟩
  rw [words_split]
  exact q p _ (same_new np _) np upd_same
theorem ok_law_stop (F : FnP K mg "_law_stop" s_law_stop) : Cl P w K mg base 1 "_law_stop" ["_law_state_here", "_law_word"] spStop := by
  refine cl_2 F sc_law_stop (fun _ _ _ _ _ _ us hl => match us, hl with | [_, _], _ => rfl) fun cdv A outer s H v b Q E hr h => ?_
  obtain ⟨d, n, e, x, G, rfl, rfl, h, g, gd, q⟩ := h
  refine ⟨_, PSs.nox (pss_cons (ps_dput (hu_of hr) (pv 0) pe_str (pv 1) rfl) (pss_one (ps_ret (pe_tup pa_nil)))), ?_⟩
  refine ⟨_, rfl, _, rfl, d, _, rfl, DPut.k (k := kEnd) h (by show 2 < sizeLine; decide), ?_⟩
  rw [put_end]
  have st := stp_put g gd (.dK [(kSteps, .int n), (kEnd, .str x)]) (H := H)
  refine ⟨(by show 0 ≤ sizeLine; decide), fun p np => ?_⟩
  refine q _ _ (st.trans (stp_same st.gh (same_new np _))) ?_
  exact (same_new np _) _ _ upd_same
theorem ok_law_is_name (F : FnP K mg "_law_is_name" s_law_is_name) (T : Tl mg) (B_law_words : Cl P w K mg base 1 "_law_words" [] spWords) : Cl P w K mg base 2 "_law_is_name" ["_law_thing"] spIsName := by
  refine cl_1 F sc_law_is_name (fun _ _ _ _ _ _ us hl => match us, hl with | [_], _ => rfl) fun cdv A outer s H v Q E hr h => ?_
  obtain ⟨G, t, h, g, q⟩ := h
  refine ⟨_, PSs.nox (pss_one (ps_ret (pe_and (pe_callB call_isi rfl T.z_isinstance PyProof.Rows.boot_isinstance (pa_cons (pv 0) (pa_cons (pe_bltn (v := .ty "str") rfl T.z_str (by decide +kernel) rfl) pa_nil))) (pe_one (pe_cmpR op_notIn_seq (pv 0) (pe_b0 B_law_words hr (by omega) rfl passL) rfl))))), ?_⟩
  obtain ⟨u1, y1, k1⟩ := wk_str (K := K) (M := none) trivial g h
  refine ⟨_, rfl, v, _, u1, _, _, rfl, .ty _, y1, k1, _, rfl, ?_⟩
  have no : isName t = false → ∀ A : Prop, (if false = true then A else Q (.bl false) H) := fun e A => iteF (by rw [← e]; exact q _ (.refl _))
  cases h with
  | str x hx =>
    refine iteT ⟨_, rfl, rfl, fun p H1 s1 n1 e1 => ⟨p, _, rfl, .inl (SqL.of e1), rfl, by decide +kernel, ?_⟩⟩
    rw [inV_str, form_in]
    exact q _ s1
  | bl b => exact no rfl _
  | int i => exact no rfl _
  | tup _ _ => exact no rfl _
  | fn _ => exact no rfl _
  | rcf _ => exact no rfl _
theorem ok_law_kind (F : FnP K mg "_law_kind" s_law_kind) (T : Tl mg) : Cl P w K mg base 1 "_law_kind" ["_law_worth"] spKind := by
  refine cl_1 F sc_law_kind (fun _ _ _ _ _ _ us hl => match us, hl with | [_], _ => rfl) fun cdv A outer s H v Q E hr h => ?_
  obtain ⟨G, t, h, g, q⟩ := h
  refine ⟨_, PSs.nox (pss_cons (ps_if (pt_val (pe_callB call_isi rfl T.z_isinstance PyProof.Rows.boot_isinstance (pa_cons (pv 0) (pa_cons (pe_bltn (v := .ty "bool") rfl T.z_bool (by decide +kernel) rfl) pa_nil)))) (pss_one (ps_ret pe_str)) pss_nil) (pss_cons (ps_if (pt_val (pe_callB call_isi rfl T.z_isinstance PyProof.Rows.boot_isinstance (pa_cons (pv 0) (pa_cons (pe_bltn (v := .ty "int") rfl T.z_int (by decide +kernel) rfl) pa_nil)))) (pss_one (ps_ret pe_str)) pss_nil) (pss_cons (ps_if (pt_val (pe_callB call_isi rfl T.z_isinstance PyProof.Rows.boot_isinstance (pa_cons (pv 0) (pa_cons (pe_bltn (v := .ty "str") rfl T.z_str (by decide +kernel) rfl) pa_nil)))) (pss_one (ps_ret pe_str)) pss_nil) (pss_one (ps_ret (pe_ifExp (pt_val (pe_callB call_isi rfl T.z_isinstance PyProof.Rows.boot_isinstance (pa_cons (pv 0) (pa_cons (pe_bltn (v := .ty "tuple") rfl T.z_tuple (by decide +kernel) rfl) pa_nil)))) pe_str pe_str)))))), ?_⟩
  obtain ⟨u1, y1, k1⟩ := wk_bool (K := K) (M := none) trivial g h
  obtain ⟨u2, y2, k2⟩ := wk_int (K := K) (M := none) trivial g h
  obtain ⟨u3, y3, k3⟩ := wk_str (K := K) (M := none) trivial g h
  obtain ⟨u4, y4, k4⟩ := wk_tup (K := K) (M := none) trivial g h
  refine ⟨_, rfl, v, _, u1, _, _, rfl, .ty _, y1, k1, _, rfl, ?_⟩
  cases h with
  | bl b => exact iteT q
  | int i => exact iteF ⟨_, rfl, _, _, u2, _, _, rfl, .ty _, y2, k2, _, rfl, iteT q⟩
  | str x hx => exact iteF ⟨_, rfl, _, _, u2, _, _, rfl, .ty _, y2, k2, _, rfl, iteF ⟨_, rfl, _, _, u3, _, _, rfl, .ty _, y3, k3, _, rfl, iteT q⟩⟩
  | tup _ _ => exact iteF ⟨_, rfl, _, _, u2, _, _, rfl, .ty _, y2, k2, _, rfl, iteF ⟨_, rfl, _, _, u3, _, _, rfl, .ty _, y3, k3, _, rfl, iteF ⟨_, rfl, _, _, u4, _, _, rfl, .ty _, y4, k4, _, rfl, iteT q⟩⟩⟩
  | fn _ => exact iteF ⟨_, rfl, _, _, u2, _, _, rfl, .ty _, y2, k2, _, rfl, iteF ⟨_, rfl, _, _, u3, _, _, rfl, .ty _, y3, k3, _, rfl, iteF ⟨_, rfl, _, _, u4, _, _, rfl, .ty _, y4, k4, _, rfl, iteF q⟩⟩⟩
  | rcf _ => exact iteF ⟨_, rfl, _, _, u2, _, _, rfl, .ty _, y2, k2, _, rfl, iteF ⟨_, rfl, _, _, u3, _, _, rfl, .ty _, y3, k3, _, rfl, iteF ⟨_, rfl, _, _, u4, _, _, rfl, .ty _, y4, k4, _, rfl, iteF q⟩⟩⟩
end
theorem inV2 (x a b : Str) : inV (.str x) [.str a, .str b] = (x == a || x == b) := by
  rw [show ([V.str a, V.str b] : List V) = [a, b].map V.str from rfl, inV_str, List.contains_cons, List.contains_cons, List.contains_nil, Bool.or_false]
theorem form_mem {x : Str} (h : isForm x = true) : x ∈ formWords := by
  rw [← form_in, List.contains_iff_mem] at h
  exact h
def countsL : List (Key × V) := [(Sum.inr "if", .int 3), (Sum.inr "rec", .int 3), (Sum.inr "let", .int 3), (Sum.inr "quote", .int 1), (Sum.inr "first", .int 1), (Sum.inr "rest", .int 1), (Sum.inr "kind", .int 1), (Sum.inr "row", .int 1)]
def countOk (x : Str) : Bool := decide ((valV (mergeK [] countsL) (Sum.inr x)).getD (.int 2) = .int ((formCount x).getD 0 : Nat)) && (Nat.ble 1 ((formCount x).getD 0) && ((!(x == "let" || x == "rec") || Nat.ble 3 ((formCount x).getD 0)) && (!(x == "fn" || x == "rec") || Nat.ble 2 ((formCount x).getD 0))))
theorem counts_ok : formWords.all countOk = true := by decide +kernel
theorem count_of {x : Str} (h : isForm x = true) : (valV (mergeK [] countsL) (Sum.inr x)).getD (.int 2) = .int ((formCount x).getD 0 : Nat) ∧ 1 ≤ (formCount x).getD 0 ∧ ((x == "let" || x == "rec") = true → 3 ≤ (formCount x).getD 0) ∧ ((x == "fn" || x == "rec") = true → 2 ≤ (formCount x).getD 0) := by
  have z := List.all_eq_true.mp counts_ok x (form_mem h)
  unfold countOk at z
  rw [Bool.and_eq_true, Bool.and_eq_true, Bool.and_eq_true] at z
  refine ⟨of_decide_eq_true z.1, Nat.le_of_ble_eq_true z.2.1, fun e => ?_, fun e => ?_⟩
  · have := z.2.2.1
    rw [e] at this
    exact Nat.le_of_ble_eq_true (by simpa using this)
  · have := z.2.2.2
    rw [e] at this
    exact Nat.le_of_ble_eq_true (by simpa using this)
theorem count_some {x : Str} (h : isForm x = true) : formCount x = some ((formCount x).getD 0) := by
  unfold isForm at h
  cases e : formCount x with
  | none => rw [e] at h; cases h
  | some n => rfl
theorem atI_two {α : Type} {xs : List α} {y : α} (h : 2 ≤ xs.length) (e : xs[xs.length - 2]? = some y) : atI xs (-2) = some y := by
  unfold atI ixN
  rw [if_neg (by decide), if_pos (by omega)]
  show xs[((-2 : Int) + (xs.length : Nat)).toNat]? = some y
  rw [show ((-2 : Int) + (xs.length : Nat)).toNat = xs.length - 2 by omega]
  exact e
theorem getD_of {α : Type} {l : List α} {i : Nat} {x d : α} (h : l[i]? = some x) : l.getD i d = x := by
  rw [List.getD_eq_getElem?_getD, h]
  rfl
theorem strs_of {M : Option Addr} {G : Hp} : ∀ {xs : List V} {ts : List Th}, Wos M G xs ts → ts.all isName = true → ∃ ys : List Str, xs = ys.map V.str ∧ ts = ys.map Th.str
  | _, _, .nil, _ => ⟨[], rfl, rfl⟩
  | _, _, .cons h r, e => by
    rw [List.all_cons, Bool.and_eq_true] at e
    obtain ⟨ys, e1, e2⟩ := strs_of r e.2
    cases h with
    | str x hx => exact ⟨x :: ys, by rw [e1]; rfl, by rw [e2]; rfl⟩
    | bl b => cases e.1
    | int i => cases e.1
    | tup _ _ => cases e.1
    | fn _ => cases e.1
    | rcf _ => cases e.1
theorem nodup_one (l : List Th) (h : l.length ≤ 1) : (l.filterMap strOf).Nodup := by
  match l, h with
  | [], _ => exact List.nodup_nil
  | [a], _ =>
    cases e : strOf a with
    | none => simp [List.filterMap, e]
    | some y => simp [List.filterMap, e]
def spIsForm : Sp := sp2 fun v b H Q _ => ∃ G w a xs r, v = .str w ∧ b = .ref a ∧ G a = some (.tup xs) ∧ Wos none G xs r ∧ Same G H ∧ isForm w = true ∧ namesG w r = true ∧ ∀ H', Same H H' → Q (.bl (isFormed w r)) H'
section
variable {P : Program} {w : World} {K : PySem.W.Frag} {mg : Str → Option Value} {base : Heap}
theorem ok_law_is_form (F : FnP K mg "_law_is_form" s_law_is_form) (T : Tl mg) (B_law_is_name : Cl P w K mg base 2 "_law_is_name" ["_law_thing"] spIsName) : Cl P w K mg base 3 "_law_is_form" ["_law_word", "_law_rest"] spIsForm := by
  refine cl_2 F sc_law_is_form (fun _ _ _ _ _ _ us hl => match us, hl with | [_, _], _ => rfl) fun cdv A outer s H v b Q E hr h => ?_
  obtain ⟨G, wd, a, xs, r, rfl, rfl, ha, hr1, g, hf, hg, q⟩ := h
  refine ⟨_, PSs.nox (pss_cons (ps_set (i := 2) sc_law_is_form.nd rfl (Or.inl rfl) (pe_disp (pps_cons pe_str pe_int (pps_cons pe_str pe_int (pps_cons pe_str pe_int (pps_cons pe_str pe_int (pps_cons pe_str pe_int (pps_cons pe_str pe_int (pps_cons pe_str pe_int (pps_cons pe_str pe_int pps_nil)))))))) (by rfl) (by rfl) (fun z => by cases z) (by decide))) (pss_cons (ps_if (pt_cmpR op_ne (pe_callB call_len_seq rfl T.z_len PySem.boot_len (pa_cons (pv 1) pa_nil)) (pe_dget2 (hu_of hr) (pv 2) (pv 0) pe_int ⟨rfl, by rfl, rfl, rfl⟩) (nomark _)) (pss_one (ps_ret pe_bl)) pss_nil) (pss_cons (ps_if (PW.pt (pw_and (pt_cmpR op_in_seq (pv 0) (pe_tup (pa_cons pe_str (pa_cons pe_str pa_nil))) rfl) (pw_and1 (pt_not (pt_val (pe_b B_law_is_name hr (by omega) rfl passL (pa_cons (pe_ix ix_tup (pv 1) pe_int (fun _ _ => rfl)) pa_nil))))))) (pss_one (ps_ret pe_bl)) pss_nil) (pss_cons (ps_if (pt_cmpR op_notIn_seq (pv 0) (pe_tup (pa_cons pe_str (pa_cons pe_str pa_nil))) rfl) (pss_one (ps_ret pe_bl)) pss_nil) (pss_cons (ps_set (i := 3) sc_law_is_form.nd rfl (Or.inl rfl) (pe_ix ix_tup (pv 1) (pe_un un_neg pe_int) (fun _ _ => rfl))) (pss_cons (ps_if (PW.pt (pw_or (pt_not (pt_val (pe_callB call_isi rfl T.z_isinstance PyProof.Rows.boot_isinstance (pa_cons (pv 3) (pa_cons (pe_bltn (v := .ty "tuple") rfl T.z_tuple (by decide +kernel) rfl) pa_nil))))) (pw_or1 (pt_cmpR (op_neNil hr.units0) (pe_lc (own := [("_law_name", 4)]) (g := gName 4) rfl sc_law_is_form.nd (pi_tup (pv 3)) (blkOk_by (own := [("_law_name", 4)]) (N := ["_law_word", "_law_rest", "_law_counts", "_law_names", "_law_name"]) (sc := defScope s_law_is_form) (by decide +kernel)) (fun _ _ _ _ _ => (pg_name (i := 4) sc_law_is_form.nd rfl (Or.inl rfl))) (fun _ _ _ _ _ => (pts_one (pt_not (pt_val (pe_b B_law_is_name hr (by omega) rfl passL (pa_cons (pv 4) pa_nil)))))) (fun _ _ _ _ _ => (pv 4))) (pe_lst pa_nil) (nomark _))))) (pss_one (ps_ret pe_bl)) pss_nil) (pss_one (ps_ret (pe_cmpR op_eq (pe_lenSetN rfl rfl T.z_len rfl T.z_set (pv 3)) (pe_callB call_len_seq rfl T.z_len PySem.boot_len (pa_cons (pv 3) pa_nil)) (nomark _)))))))))), ?_⟩
  have ln := hr1.len
  obtain ⟨c1, c2, c3, c4⟩ := count_of hf
  have c5 := count_some hf
  refine fun d nd => ⟨upd_same, countsL, rfl, (by decide), ?_⟩
  have sd : Same H (upd (upd H d (.dK [])) d (.dK (mergeK [] countsL))) := same_mut (same_new nd _) nd
  have ed : (upd (upd H d (.dK [])) d (.dK (mergeK [] countsL))) d = some (.dK (mergeK [] countsL)) := upd_same
  generalize upd (upd H d (.dK [])) d (.dK (mergeK [] countsL)) = H1 at sd ed ⊢
  have ha1 := sd _ _ (g _ _ ha)
  refine ⟨_, rfl, a, _, rfl, .inr (SqT.of ha1), _, rfl, d, rfl, .inl ⟨_, .inl ed⟩, _, rfl, _, DGet.k (k := Sum.inr wd) ed, by rw [c1]; rfl, _, rfl, ?_⟩
  rw [c1]
  refine ite2 (fun k1 => ?_) (fun k1 => ?_)
  · have e : isFormed wd r = false := by
      unfold isFormed
      rw [decide_eq_false, Bool.false_and]
      intro z
      rw [z, ln] at k1
      exact absurd k1 (by simp)
    rw [← e]
    exact q _ sd
  have lr : r.length = (formCount wd).getD 0 := by
    have z : ¬ (!decide (V.int ((xs.length : Nat) : Int) = V.int ((formCount wd).getD 0 : Nat))) = true := k1
    rw [Bool.not_eq_true', decide_eq_false_iff_not, Classical.not_not] at z
    injection z with z
    omega
  have d1 : decide (formCount wd = some r.length) = true := decide_eq_true (by rw [lr]; exact c5)
  have fin : ∀ b : Bool, b = ((!(wd == "let" || wd == "rec") || isName (r.getD 0 .non)) && (!(wd == "fn" || wd == "rec") || areNames (r.getD (r.length - 2) .non))) → ∀ H', Same H H' → Q (.bl b) H' := fun b e H' s => by
    have z := q H' s
    unfold isFormed at z
    rw [d1, Bool.true_and, ← e] at z
    exact z
  refine stepN ?_
  dsimp only
  refine seq_if (fun k => ∀ H', Same H H' → ∀ b, b = ((wd == "let" || wd == "rec") && !isName (r.getD 0 .non)) → k b H') (fun H3 s3 b eb => ?_) (fun k hk => ?_)
  case refine_2 =>
    refine ⟨_, rfl, (by decide), fun p np => ⟨p, _, rfl, .inr (SqT.of upd_same), rfl, rfl, _, rfl, ?_⟩⟩
    have s2' := sd.trans (same_new np (.tup [.str "let", .str "rec"]))
    refine ite2 (fun c => ?_) (fun c => ?_)
    · have c' : (wd == "let" || wd == "rec") = true := by
        rw [← inV2]
        exact c
      have l3 := c3 c'
      obtain ⟨t0, e0⟩ : ∃ t0, r[0]? = some t0 := ⟨_, List.getElem?_eq_getElem (show 0 < r.length by omega)⟩
      obtain ⟨x0, f0, g0⟩ := hr1.getT e0
      refine ⟨_, rfl, a, _, _, _, rfl, rfl, SqT.of (s2' _ _ (g _ _ ha)), atI_nat f0, _, rfl, G, t0, g0, g.trans s2', fun H4 s4 => ⟨_, rfl, ?_⟩⟩
      refine hk _ (s2'.trans s4) _ ?_
      rw [c', getD_of e0, Bool.true_and]
    · refine hk _ s2' _ ?_
      have c' : (wd == "let" || wd == "rec") = false := by
        rw [← inV2]
        exact Bool.eq_false_iff.mpr c
      rw [c', Bool.false_and]
  subst eb
  refine ite2 (fun k2 => ?_) (fun k2 => ?_)
  · rw [Bool.and_eq_true] at k2
    have z := fin false (by rw [k2.1]; cases z : isName (r.getD 0 .non) with
      | false => rfl
      | true => rw [z] at k2; cases k2.2) H3 s3
    exact z
  have n1 : (!(wd == "let" || wd == "rec") || isName (r.getD 0 .non)) = true := by
    cases z1 : (wd == "let" || wd == "rec") with
    | false => rfl
    | true =>
      cases z2 : isName (r.getD 0 .non) with
      | false => rw [z1, z2] at k2; exact absurd rfl k2
      | true => rfl
  rw [n1, Bool.true_and] at fin
  refine ⟨_, rfl, (by decide), fun p np => ⟨p, _, rfl, .inr (SqT.of upd_same), rfl, rfl, _, rfl, ?_⟩⟩
  have s4 := s3.trans (same_new np (.tup [.str "fn", .str "rec"]))
  refine ite2 (fun k3 => ?_) (fun k3 => ?_)
  · have c' : (wd == "fn" || wd == "rec") = false := by
      rw [← inV2]
      cases z : inV (.str wd) [.str "fn", .str "rec"] with
    | false => rfl
      | true => exact absurd k3 (by rw [z]; decide)
    exact fin true (by rw [c']; rfl) _ s4
  have c' : (wd == "fn" || wd == "rec") = true := by
    rw [← inV2]
    cases z : inV (.str wd) [.str "fn", .str "rec"] with
    | true => rfl
    | false => exact absurd (by rw [z]; rfl) k3
  have l2 := c4 c'
  rw [c', Bool.not_true, Bool.false_or] at fin
  obtain ⟨t0, e0⟩ : ∃ t0, r[r.length - 2]? = some t0 := ⟨_, List.getElem?_eq_getElem (show r.length - 2 < r.length by omega)⟩
  obtain ⟨x0, f0, g0⟩ := hr1.getT e0
  rw [getD_of e0] at fin
  have hg0 : t0.row.length ≤ 4000 := by
    unfold namesG at hg
    rw [c', getD_of e0] at hg
    exact Nat.le_of_ble_eq_true (by simpa [namesMost] using hg)
  have ha4 := s4 _ _ (g _ _ ha)
  refine ⟨_, rfl, _, rfl, a, _, _, _, rfl, rfl, SqT.of ha4, atI_two (by omega) (by rw [ln]; exact f0), ?_⟩
  have g4 := g.trans s4
  generalize upd H3 p (.tup [.str "fn", .str "rec"]) = H4 at s4 g4 ha4 ⊢
  obtain ⟨u1, y1, k1'⟩ := wk_tup (K := K) (M := none) trivial g4 g0
  refine ⟨_, rfl, _, _, u1, _, _, rfl, .ty _, y1, k1', _, rfl, ?_⟩
  cases g0 with
  | bl b => exact iteT (iteT (fin false rfl _ s4))
  | int i => exact iteT (iteT (fin false rfl _ s4))
  | str x hx => exact iteT (iteT (fin false rfl _ s4))
  | fn _ => exact iteT (iteT (fin false rfl _ s4))
  | rcf _ => exact iteT (iteT (fin false rfl _ s4))
  | tup ht hts =>
    rename_i q0 zs l
    have hl := hts.len
    have hl1 : l.length ≤ 4000 := hg0
    refine iteF ⟨_, rfl, q0, rfl, ⟨_, SqT.of (g4 _ _ ht)⟩, fun D nD => ?_⟩
    refine lc_it (walk_tup (K := K) (a := q0) (xs := zs)) (fun i H' => ∃ acc : List V, Same H4 H' ∧ H' D = some (.lst acc) ∧ acc.length ≤ i ∧ acc.isEmpty = (l.take i).all isName) ⟨[], same_new nD _, upd_same, Nat.le_refl _, rfl⟩ (fun _ _ _ z => by obtain ⟨_, z, _⟩ := z; exact SqT.of (z _ _ (g4 _ _ ht))) ?_ ?_
    · rintro i y H5 H6 hi ⟨acc, r1, r2, r3, r4⟩ ⟨rfl, hy⟩
      obtain ⟨t1, e1, g1⟩ := hts.get hy
      refine ⟨rfl, _, rfl, _, rfl, G, t1, g1, g4.trans r1, fun H7 s7 => ⟨_, rfl, ?_⟩⟩
      have e7 := s7 _ _ r2
      have tk : (l.take (i + 1)).all isName = (acc.isEmpty && isName t1) := by
        rw [take_snoc e1, List.all_append, ← r4, List.all_cons, List.all_nil, Bool.and_true]
      cases w1 : isName t1 with
      | true =>
        rw [w1, Bool.and_true] at tk
        exact iteF ⟨acc, r1.trans s7, e7, by omega, tk.symm⟩
      | false =>
        rw [w1, Bool.and_false] at tk
        refine iteT ⟨_, rfl, acc, e7, ?_, acc ++ [y], same_mut (r1.trans s7) nD, upd_same, ?_, ?_⟩
        · rw [sizeLine_eq]
          omega
        · rw [List.length_append, List.length_singleton]
          omega
        · rw [tk]
          cases acc <;> rfl
    · rintro H5 ⟨acc, r1, r2, r3, r4⟩
      rw [hl, List.take_length] at r4
      refine ⟨by decide, fun p2 n2 => ⟨D, p2, acc, rfl, rfl, SqL.of ((same_new n2 _) _ _ r2), SqL.of upd_same, _, rfl, ?_⟩⟩
      have s6 := (s4.trans r1).trans (same_new n2 (.lst []))
      rw [r4]
      cases al : l.all isName with
      | false => exact iteT (fin false (by rw [areNames, al]; rfl) _ s6)
      | true =>
        obtain ⟨ys, ey1, ey2⟩ := strs_of hts al
        have h6 := s6 _ _ (g _ _ ht)
        rw [ey1] at h6
        have z := fin (decide ((l.filterMap strOf).Nodup)) (by rw [areNames, al, Bool.true_and]) _ s6
        have yl : ys.length ≤ 4000 := by
          rw [ey2, List.length_map] at hl1
          exact hl1
        refine iteF ⟨_, rfl, q0, ys, rfl, SqT.of h6, yl, _, rfl, q0, _, rfl, .inr (SqT.of h6), rfl, ?_⟩
        rw [unl_dec ey2]
        exact z
theorem ok_law_is_plain_none (F : FnP K mg "_law_is_plain" s_law_is_plain) : Cl P w K mg base 1 "_law_is_plain" ["_law_worth"] (spPlainL 0) := by
  refine cl_1 F sc_law_is_plain (fun _ _ _ _ _ _ us hl => match us, hl with | [_], _ => rfl) fun cdv A outer s H v Q E hr h => ?_
  obtain ⟨_, _, _, _, h, _⟩ := h
  omega
theorem ok_law_is_plain {m : Nat} (F : FnP K mg "_law_is_plain" s_law_is_plain) (T : Tl mg) (B_law_is_plain : Cl P w K mg base (1 + m) "_law_is_plain" ["_law_worth"] (spPlainL m)) : Cl P w K mg base (1 + m + 1) "_law_is_plain" ["_law_worth"] (spPlainL (m + 1)) := by
  refine cl_1 F sc_law_is_plain (fun _ _ _ _ _ _ us hl => match us, hl with | [_], _ => rfl) fun cdv A outer s H v Q E hr h => ?_
  obtain ⟨G, t, h, g, hd, hn, q⟩ := h
  refine ⟨_, PSs.nox (pss_cons (ps_if (pt_val (pe_callB call_isi rfl T.z_isinstance PyProof.Rows.boot_isinstance (pa_cons (pv 0) (pa_cons (pe_bltn (v := .ty "tuple") rfl T.z_tuple (by decide +kernel) rfl) pa_nil)))) (pss_one (ps_ret (pe_cmpR (op_eqNil hr.units0) (pe_lc (own := [("_law_part_here", 1)]) (g := gName 1) rfl sc_law_is_plain.nd (pi_tup (pv 0)) (blkOk_by (own := [("_law_part_here", 1)]) (N := ["_law_worth", "_law_part_here"]) (sc := defScope s_law_is_plain) (by decide +kernel)) (fun _ _ _ _ _ => (pg_name (i := 1) sc_law_is_plain.nd rfl (Or.inl rfl))) (fun _ _ _ _ _ => (pts_one (pt_not (pt_val (pe_b B_law_is_plain hr (Nat.le_refl _) rfl passL (pa_cons (pv 1) pa_nil)))))) (fun _ _ _ _ _ => (pv 1))) (pe_lst pa_nil) (nomark _)))) pss_nil) (pss_one (ps_ret (pe_not (pe_callB call_isi rfl T.z_isinstance PyProof.Rows.boot_isinstance (pa_cons (pv 0) (pa_cons (pe_bltn (v := .ty "list") rfl T.z_list (by decide +kernel) rfl) pa_nil))))))), ?_⟩
  obtain ⟨u1, y1, k1⟩ := wk_tup (K := K) (M := none) trivial g h
  obtain ⟨u2, y2, k2⟩ := wk_lst (K := K) g h
  refine ⟨_, rfl, v, _, u1, _, _, rfl, .ty _, y1, k1, _, rfl, ?_⟩
  cases h with
  | bl b => exact iteF ⟨_, rfl, _, _, u2, _, _, rfl, .ty _, y2, k2, _, rfl, q _ (.refl _)⟩
  | int i hi =>
    refine iteF ⟨_, rfl, _, _, u2, _, _, rfl, .ty _, y2, k2, _, rfl, ?_⟩
    have z := q _ (.refl _)
    rw [Th.worth, hi] at z
    exact z
  | str x hx =>
    refine iteF ⟨_, rfl, _, _, u2, _, _, rfl, .ty _, y2, k2, _, rfl, ?_⟩
    have z := q _ (.refl _)
    rw [Th.worth, hx] at z
    exact z
  | fn _ => exact iteF ⟨_, rfl, _, _, u2, _, _, rfl, .ty _, y2, k2, _, rfl, q _ (.refl _)⟩
  | rcf _ => exact iteF ⟨_, rfl, _, _, u2, _, _, rfl, .ty _, y2, k2, _, rfl, q _ (.refl _)⟩
  | tup ht hts =>
    rename_i p zs l
    have hl := hts.len
    simp only [Th.depth] at hd
    simp only [Th.nodes] at hn
    refine iteT ⟨_, rfl, p, rfl, ⟨_, SqT.of (g _ _ ht)⟩, fun D nD => ?_⟩
    refine lc_it (walk_tup (K := K) (a := p) (xs := zs)) (fun i H' => ∃ acc : List V, Same H H' ∧ H' D = some (.lst acc) ∧ acc.length ≤ i ∧ acc.isEmpty = Th.worths false (l.take i)) ⟨[], same_new nD _, upd_same, Nat.le_refl _, rfl⟩ (fun _ _ _ z => by obtain ⟨_, z, _⟩ := z; exact SqT.of (z _ _ (g _ _ ht))) ?_ ?_
    · rintro i y H1 H2 hi ⟨acc, r1, r2, r3, r4⟩ ⟨rfl, hy⟩
      obtain ⟨t1, e1, g1⟩ := hts.get hy
      have me := List.mem_of_getElem? e1
      have dm := depth_mem me
      have nm := nodes_mem me
      refine ⟨rfl, _, rfl, _, rfl, G, t1, g1, g.trans r1, by omega, by omega, fun H3 s3 => ⟨_, rfl, ?_⟩⟩
      have e3 := s3 _ _ r2
      have tk : Th.worths false (l.take (i + 1)) = (acc.isEmpty && t1.worth false) := by
        rw [take_snoc e1, worths_app, ← r4, Th.worths, Th.worths, Bool.and_true]
      have lz := len_nodesL l
      cases w1 : t1.worth false with
      | true =>
        rw [w1, Bool.and_true] at tk
        exact iteF ⟨acc, r1.trans s3, e3, by omega, tk.symm⟩
      | false =>
        rw [w1, Bool.and_false] at tk
        refine iteT ⟨_, rfl, acc, e3, ?_, acc ++ [y], same_mut (r1.trans s3) nD, upd_same, ?_, ?_⟩
        · rw [sizeLine_eq]
          omega
        · rw [List.length_append, List.length_singleton]
          omega
        · rw [tk]
          cases acc <;> rfl
    · rintro H1 ⟨acc, r1, r2, r3, r4⟩
      rw [hl, List.take_length] at r4
      refine ⟨by decide, fun p2 n2 => ⟨D, p2, acc, rfl, rfl, SqL.of ((same_new n2 _) _ _ r2), SqL.of upd_same, ?_⟩⟩
      rw [r4]
      have z := q _ (r1.trans (same_new n2 (.lst [])))
      rw [Th.worth] at z
      exact z
theorem ok_law_is_plain_all (F : FnP K mg "_law_is_plain" s_law_is_plain) (T : Tl mg) : ∀ m, Cl P w K mg base (1 + m) "_law_is_plain" ["_law_worth"] (spPlainL m)
  | 0 => ok_law_is_plain_none F
  | m + 1 => ok_law_is_plain F T (ok_law_is_plain_all F T m)
end
end Fl
/-! what ev tells: steps within the bounds, ends by words -/
namespace Fl
open PySem PySem.Spec PyProof.Rows L2
def evCalls (f : Nat) (ps sc : List Th) (lim n : Int) : Option Res := Ress.then (evs f ps sc lim n) fun ws m => evCall f ws lim m
def evRow (f : Nat) (h : Th) (r sc : List Th) (lim n : Int) : Option Res := if !scG r then none else match strOf h with
  | some w => if isForm w then evForm f w r sc lim n else evCalls f (h :: r) sc lim n
  | none => evCalls f (h :: r) sc lim n
def evWord (x : Str) (sc : List Th) (n : Int) : Res := if isForm x then .stop "form" n else match looks x sc with
  | v :: _ => .val v n
  | [] => .stop "name" n
def evPart (f : Nat) (p : Th) (sc : List Th) (lim n : Int) : Option Res := match p with
  | .str x => some (evWord x sc n)
  | .tup (h :: r) => evRow f h r sc lim n
  | t => some (.val t n)
theorem ev_succ (f : Nat) (p : Th) (sc : List Th) (lim n : Int) : ev (f + 1) p sc lim n = if n = lim then some (.stop "steps" n) else evPart f p sc lim (n + 1) := by
  unfold ev
  rfl
def endWs : List Str := ["steps", "form", "name", "kind", "far", "count"]
def doneWs : List Str := ["add", "less", "times", "below", "same", "join", "first", "rest", "kind", "row"]
def Res.fits (n lim : Int) : Res → Prop
  | .val _ m => n ≤ m ∧ m ≤ lim
  | .stop e m => n ≤ m ∧ m ≤ lim ∧ e ∈ endWs
def Ress.fits (n lim : Int) : Ress → Prop
  | .vals _ m => n ≤ m ∧ m ≤ lim
  | .stop e m => n ≤ m ∧ m ≤ lim ∧ e ∈ endWs
theorem fit_mono {n n' lim : Int} (h : n ≤ n') : ∀ {r : Res}, r.fits n' lim → r.fits n lim
  | .val _ _, ⟨a, b⟩ => ⟨by omega, b⟩
  | .stop _ _, ⟨a, b, c⟩ => ⟨by omega, b, c⟩
theorem nums_stop {w : Str} {a b : Th} {e : Str} (h : ofNums w a b = .stop e) : e ∈ endWs := by
  unfold ofNums at h
  split at h
  · split at h
    · cases h
    · simp only at h
      rename_i a b _
      generalize (if (w == ("add" : Str)) = true then a + b else if (w == ("less" : Str)) = true then a - b else a * b) = c at h
      split at h
      · cases h
      · cases h
        decide
  · cases h
    decide
theorem done_stop {w : Str} {ws : List Th} {e : Str} (h : doneBy w ws = .stop e) : e ∈ endWs := by
  unfold doneBy at h
  simp only at h
  split at h
  · exact nums_stop h
  split at h
  · split at h
    · cases h
    · cases h; decide
  split at h
  · unfold joinT at h
    split at h
    · cases h
    · cases h; decide
  split at h
  · cases h
  split at h
  · cases h
  unfold partT at h
  split at h
  · cases h
  · cases h; decide
theorem then_fits {n n1 lim : Int} {a : Option Res} {k : Th → Int → Option Res} {r : Res} (h : Res.then a k = some r) (hn : n ≤ n1) (ha : ∀ q, a = some q → q.fits n1 lim) (hk : ∀ v m, n ≤ m → m ≤ lim → k v m = some r → r.fits n lim) : r.fits n lim := by
  unfold Res.then at h
  cases a with
  | none => cases h
  | some q =>
    cases q with
    | val t m =>
      obtain ⟨h1, h2⟩ := ha _ rfl
      exact hk t m (by omega) h2 h
    | stop e m =>
      cases h
      exact fit_mono hn (ha _ rfl)
theorem thens_fits {n n1 lim : Int} {a : Option Ress} {k : List Th → Int → Option Res} {r : Res} (h : Ress.then a k = some r) (hn : n ≤ n1) (ha : ∀ q, a = some q → q.fits n1 lim) (hk : ∀ v m, n ≤ m → m ≤ lim → k v m = some r → r.fits n lim) : r.fits n lim := by
  unfold Ress.then at h
  cases a with
  | none => cases h
  | some q =>
    cases q with
    | vals t m =>
      obtain ⟨h1, h2⟩ := ha _ rfl
      exact hk t m (by omega) h2 h
    | stop e m =>
      cases h
      obtain ⟨z1, z2, z3⟩ := ha _ rfl
      exact ⟨by omega, z2, z3⟩
abbrev EvF (f : Nat) : Prop := ∀ p sc lim n r, n ≤ lim → ev f p sc lim n = some r → r.fits n lim
theorem evs_fits {f : Nat} (E : EvF f) : ∀ ps sc lim n r, n ≤ lim → evs f ps sc lim n = some r → r.fits n lim
  | [], sc, lim, n, r, hn, h => by
    rw [evs] at h
    cases h
    exact ⟨Int.le_refl _, hn⟩
  | p :: ps, sc, lim, n, r, hn, h => by
    rw [evs] at h
    cases e : ev f p sc lim n with
    | none => rw [e] at h; cases h
    | some q =>
      rw [e] at h
      have z := E _ _ _ _ _ hn e
      cases q with
      | stop x m =>
        cases h
        exact z
      | val t m =>
        simp only at h
        obtain ⟨z1, z2⟩ := z
        cases e2 : evs f ps sc lim m with
        | none => rw [e2] at h; cases h
        | some q2 =>
          rw [e2] at h
          have y := evs_fits E ps sc lim m q2 z2 e2
          cases q2 with
          | stop x m' =>
            cases h
            obtain ⟨y1, y2, y3⟩ := y
            exact ⟨by omega, y2, y3⟩
          | vals l m' =>
            cases h
            obtain ⟨y1, y2⟩ := y
            exact ⟨by omega, y2⟩
theorem call_fits {f : Nat} (E : EvF f) : ∀ ws lim n r, n ≤ lim → evCall f ws lim n = some r → r.fits n lim := by
  intro ws lim n r hn h
  unfold evCall at h
  split at h
  · split at h
    · split at h
      · cases h
      · split at h
        · split at h
          · exact E _ _ _ _ _ hn h
          · cases h
        · cases h
          exact ⟨Int.le_refl _, hn, by decide⟩
    · cases h
    · cases h
      exact ⟨Int.le_refl _, hn, by decide⟩
  · cases h
    exact ⟨Int.le_refl _, hn, by decide⟩
theorem told_fits {n lim : Int} {a : Option Res} {r : Res} (ha : ∀ q, a = some q → q.fits n lim) (h : Res.told n a = some r) : r.fits n lim := by
  unfold Res.told at h
  cases a with
  | none => cases h
  | some q =>
    have z := ha _ rfl
    cases q with
    | val t m => cases h; exact z
    | stop e m => cases h; exact ⟨z.1, z.2.1⟩
theorem good_fits {f : Nat} (E : EvF f) : ∀ w ws sc lim n r, n ≤ lim → evGood f w ws sc lim n = some r → r.fits n lim := by
  intro w ws sc lim n r hn h
  have here : ∀ t, (Res.val t n).fits n lim := fun t => ⟨Int.le_refl _, hn⟩
  have stop : ∀ m, n ≤ m → m ≤ lim → (Res.stop "kind" m).fits n lim := fun m h1 h2 => ⟨h1, h2, by decide⟩
  unfold evGood at h
  split at h
  · cases h; exact here _
  split at h
  · cases h; exact here _
  split at h
  · cases h; exact here _
  split at h
  · refine then_fits h (Int.le_refl _) (fun q e => E _ _ _ _ _ hn e) fun v m h1 h2 k => ?_
    split at k
    · exact fit_mono h1 (E _ _ _ _ _ h2 k)
    · cases k
  split at h
  · refine then_fits h (Int.le_refl _) (fun q e => E _ _ _ _ _ hn e) fun v m h1 h2 k => ?_
    split at k
    · exact fit_mono h1 (E _ _ _ _ _ h2 k)
    · cases k
      exact stop _ h1 h2
  · refine thens_fits h (Int.le_refl _) (fun q e => evs_fits E _ _ _ _ _ hn e) fun v m h1 h2 k => ?_
    split at k
    · split at k
      · split at k
        · rename_i c
          refine fit_mono h1 (told_fits (lim := lim) (fun q e => ?_) k)
          have z := E _ _ _ _ _ (by omega) e
          cases q with
          | val t m' => exact ⟨z.1, by have := z.2; omega⟩
          | stop x m' => exact ⟨z.1, by have := z.2.1; omega, z.2.2⟩
        · cases k
          exact stop _ h1 h2
      · cases k
        exact stop _ h1 h2
    · split at k
      · cases k
        cases d : doneBy w v with
        | val t => exact ⟨h1, h2⟩
        | stop e => exact ⟨h1, h2, done_stop d⟩
      · cases k
theorem form_fits {f : Nat} (E : EvF f) : ∀ w ws sc lim n r, n ≤ lim → evForm f w ws sc lim n = some r → r.fits n lim := by
  intro w ws sc lim n r hn h
  unfold evForm at h
  split at h
  · cases h
  split at h
  · cases h
    exact ⟨Int.le_refl _, hn, by decide⟩
  exact good_fits E _ _ _ _ _ _ hn h
/-! a good form, by its word -/
theorem good_quote {f : Nat} {r sc : List Th} {lim n : Int} : evGood f "quote" r sc lim n = some (.val (r.getD 0 .non) n) := by rw [evGood, if_pos (by decide +kernel)]
theorem good_fn {f : Nat} {r sc : List Th} {lim n : Int} : evGood f "fn" r sc lim n = some (.val (.fn [r.getD 0 .non, r.getD 1 .non, .tup sc, .non]) n) := by rw [evGood, if_neg (by decide +kernel), if_pos (by decide +kernel)]
theorem good_rec {f : Nat} {r sc : List Th} {lim n : Int} : evGood f "rec" r sc lim n = some (.val (.fn [r.getD 1 .non, r.getD 2 .non, .tup sc, r.getD 0 .non]) n) := by rw [evGood, if_neg (by decide +kernel), if_neg (by decide +kernel), if_pos (by decide +kernel)]
theorem good_let {f : Nat} {r sc : List Th} {lim n : Int} : evGood f "let" r sc lim n = Res.then (ev f (r.getD 1 .non) sc lim n) fun v m => if scG sc then ev f (r.getD 2 .non) (.tup [r.getD 0 .non, v] :: sc) lim m else none := by
  rw [evGood, if_neg (by decide +kernel), if_neg (by decide +kernel), if_neg (by decide +kernel), if_pos (by decide +kernel)]
def evIf (f : Nat) (r sc : List Th) (lim : Int) (v : Th) (m : Int) : Option Res := match v with
  | .bl b => ev f (if b then r.getD 1 .non else r.getD 2 .non) sc lim m
  | _ => some (.stop "kind" m)
theorem good_if {f : Nat} {r sc : List Th} {lim n : Int} : evGood f "if" r sc lim n = Res.then (ev f (r.getD 0 .non) sc lim n) (evIf f r sc lim) := by
  rw [evGood, if_neg (by decide +kernel), if_neg (by decide +kernel), if_neg (by decide +kernel), if_neg (by decide +kernel), if_pos (by decide +kernel)]
  rfl
def evRun (f : Nat) (lim : Int) (ws : List Th) (m : Int) : Option Res := match ws.getD 1 .non with
  | .int k => if 0 ≤ k ∧ k ≤ 100000 then Res.told m (ev f (ws.getD 0 .non) [] (min (m + k) lim) m) else some (.stop "kind" m)
  | _ => some (.stop "kind" m)
theorem good_run {f : Nat} {r sc : List Th} {lim n : Int} : evGood f "run" r sc lim n = Ress.then (evs f r sc lim n) (evRun f lim) := by
  rw [evGood, if_neg (by decide +kernel), if_neg (by decide +kernel), if_neg (by decide +kernel), if_neg (by decide +kernel), if_neg (by decide +kernel)]
  congr 1
theorem good_done {f : Nat} {w : Str} {r sc : List Th} {lim n : Int} (h : w ∈ doneWs) : evGood f w r sc lim n = Ress.then (evs f r sc lim n) fun ws m => if doneG w ws then some ((doneBy w ws).at m) else none := by
  have z : ∀ x ∈ doneWs, ¬ (x == "quote") = true ∧ ¬ (x == "fn") = true ∧ ¬ (x == "rec") = true ∧ ¬ (x == "let") = true ∧ ¬ (x == "if") = true ∧ ¬ (x == "run") = true := by decide +kernel
  obtain ⟨a, b, c, d, e, g⟩ := z w h
  rw [evGood, if_neg a, if_neg b, if_neg c, if_neg d, if_neg e]
  congr 1
  funext ws m
  rw [if_neg g]
theorem ev_fits : ∀ f, EvF f
  | 0 => fun p sc lim n r hn h => by
    rw [ev] at h
    cases h
  | f + 1 => fun p sc lim n r hn h => by
    have E := ev_fits f
    unfold ev at h
    split at h
    · cases h
      exact ⟨Int.le_refl _, hn, by decide⟩
    have h1 : n + 1 ≤ lim := by omega
    have call : ∀ q, Ress.then (evs f q sc lim (n + 1)) (fun ws m => evCall f ws lim m) = some r → r.fits n lim := fun q h => by
      refine thens_fits h (show n ≤ n + 1 by omega) (fun q e => evs_fits E _ _ _ _ _ h1 e) fun v m k1 k2 k => ?_
      exact fit_mono k1 (call_fits E _ _ _ _ k2 k)
    split at h
    · cases h
      split
      · exact ⟨by omega, h1, by decide⟩
      · split
        · exact ⟨by omega, h1⟩
        · exact ⟨by omega, h1, by decide⟩
    · split at h
      · cases h
      split at h
      · split at h
        · exact fit_mono (by omega) (form_fits E _ _ _ _ _ _ h1 h)
        · exact call _ h
      · exact call _ h
    · cases h
      exact ⟨by omega, h1⟩
theorem endWs_ne {e : Str} (h : e ∈ endWs) : e ≠ "" := by
  intro z
  rw [z] at h
  exact absurd h (by decide)
theorem endWs_word {e : Str} (h : e ∈ endWs) : wordB e = true := by
  have z : endWs.all wordB = true := by decide +kernel
  exact List.all_eq_true.mp z e h
end Fl
/-! abs of an int or a bool -/
namespace Fl
open PySem PySem.Spec PyProof.Rows L2 PySem.Calls
theorem slot_bool_abs : Slot "bool" "__abs__" "int.__abs__" :=
  .of (owner := "int") (n := "__abs__") (by rw [typeLookup_type, builtinLookup_eq_fast]; kernel_rfl) (by decide +kernel) (by decide +kernel) (by decide +kernel)
    (by first | exact .inl (by decide +kernel) | exact .inr (by decide +kernel)) (by rw [isSubtype_type]; kernel_rfl)
section
variable {prog : Program} {w : World} {A : Around} {E : Value → Shared → Prop} {s : Shared} {b : Bool}
theorem call_abs_bool {Q : Value → Shared → Prop} (h : ∀ u tk, Q (.int (if b then 1 else 0) u) { s with toks := tk }) :
    wpAny (model prog w) A (call (.builtin "abs") [.bool b]) Q E s := by
  refine call_function_entry kind_abs plain_abs entry_abs (args_abs _) ?_
  unfold Builtin.«abs»
  refine wpAny_bind (m := oneArg "abs" _) (wpAny_pure ?_)
  refine wpAny_bind (m := callSpecial? (.bool b) (Str.ofString "__abs__")) (wpAny_callSpecial?_slot (name := Str.ofString "__abs__") (PySem.typeIs_bool s b) slot_bool_abs
    (wpAny_call_entry slot_bool_abs (PySem.typeIs_bool s b) entry_int_abs ?_ (args_int_abs _)))
  cases b
  · have h' := h s.toks (s.toks + 1)
    exact wpAny_ret_mkInt (wpAny_pure ⟨_, rfl, h'⟩)
  · have h' := h s.toks (s.toks + 1)
    exact wpAny_ret_mkInt (wpAny_pure ⟨_, rfl, h'⟩)
end
def rAbsB : List V → Hp → VK → Prop := fun xs H Q => (∃ i, xs = [.int i] ∧ Q (.int (if i < 0 then -i else i)) H) ∨ ∃ b, xs = [.bl b] ∧ Q (.int (if b then 1 else 0)) H
section
variable {X : Cx}
theorem call_absB : CallR X (.builtin "abs") rAbsB := by
  intro pins s σ H xs us Q I r h
  rcases h with ⟨i, rfl, q⟩ | ⟨b, rfl, q⟩
  · obtain ⟨u, rfl, t, rfl⟩ := vals1 r
    exact call_abs_int fun u tk => ⟨.int (if i < 0 then -i else i), H, I.tok _, ⟨_, rfl⟩, q⟩
  · obtain ⟨u, rfl, rb⟩ := vals1 r
    cases rb
    exact call_abs_bool fun u tk => ⟨.int (if b then 1 else 0), H, I.tok _, ⟨_, rfl⟩, q⟩
end
end Fl
/-! an error that was caught and is kept as a value -/
namespace Fl
open PySem PySem.Spec PyProof.Rows L2
/-- an exception of the class cls that was caught, at a -/
def CauO (cls : Value) (a : Addr) : HO := .ext fun h => ∃ (oe : Obj) (vs : Array Value), h.get? a = some oe ∧ Zc cls none oe ∧ oe.data = .fields vs
theorem cauO_ok {P : Program} {w : World} {H : Hp} {h : Heap} {a : Addr} {cls : Value} {oe : Obj} {vs : Array Value} (e : h.get? a = some oe) (z : Zc cls none oe) (d : oe.data = .fields vs) : ObjOk P w H h a (CauO cls a) :=
  ⟨⟨oe, vs, e, z, d⟩, ⟨oe, e⟩, fun _ _ ⟨o, v, q, r⟩ k => ⟨o, v, k o q, r⟩⟩
section
variable {X : Cx} {pins : List (Addr × Obj)} {σ : L2.St} {H : Hp} {s : Shared}
/-- an object that stands already, new since the entry, is tracked from here on -/
theorem inv_track {a : Addr} {o : HO} {oe : Obj} {vs : Array Value} (I : Inv X pins σ H s) (n0 : X.s_0.heap.get? a = none) (ha : s.heap.get? a = some oe) (hd : oe.data = .fields vs) (na : H a = none) (nL : a ≠ X.env.locals)
    (np : ∀ p ∈ X.pn ++ pins, p.1 ≠ a) (new : ObjOk X.prog X.w (upd H a o) s.heap a o) : Inv X pins σ (upd H a o) s := by
  have old : ∀ b u, X.s_0.heap.get? b = some u → b ≠ a := fun b u e z => by
    rw [z, n0] at e
    cases e
  have trk : ∀ b u, H b = some u → b ≠ a := fun b u e z => by
    rw [z, na] at e
    cases e
  have cel : ∀ x c, X.env.cells.lookup x = some c → c ≠ a := fun x c e z => by
    obtain ⟨v, u, hu, hc⟩ := I.cell x c e
    rw [z, ha] at hu
    cases hu
    rw [hd] at hc
    cases hc
  exact {
    ok := I.ok
    os := I.os
    bare := I.bare
    base := {
      keep := I.base.keep
      slot := I.base.slot
      free := fun b u e n hx => by rw [upd_ne (old b u e)]; exact I.base.free b u e n hx
      there := I.base.there
      tups := fun b xs e => by
        have z := I.base.tups b xs e
        rw [upd_ne (trk _ _ z)]
        exact z
      frzs := fun b u xs e => by
        have z := I.base.frzs b u xs e
        rw [upd_ne (trk _ _ z)]
        exact z
      tbls := fun b ps e => by
        obtain ⟨m, z⟩ := I.base.tbls b ps e
        exact ⟨m, by rw [upd_ne (trk _ _ z)]; exact z⟩ }
    loc := I.loc
    cell := I.cell
    free := by rw [upd_ne nL.symm]; exact I.free
    freeC := fun x c e => by rw [upd_ne (cel x c e)]; exact I.freeC x c e
    pin := fun p hp => by
      obtain ⟨p1, p2, p3, p4, p5⟩ := I.pin p hp
      exact ⟨p1, by rw [upd_ne (np p hp)]; exact p2, p3, p4, p5⟩
    hok := fun b u e => by
      by_cases hb : b = a
      · subst hb
        rw [upd_same] at e
        cases e
        exact new
      · rw [upd_ne hb] at e
        exact (I.hok b u e).stay (fun _ _ _ q => q) (fun c q => by rw [upd_ne (trk _ _ q)]; exact q) fun c xs q => by rw [upd_ne (trk _ _ q)]; exact q
    len := I.len }
end
/-- what «except x as n: suite» wishes, where the caught error is kept: slot i is n's -/
def wKeep (K : PySem.W.Frag) (c : Value) (i : Nat) (ts : Addr → TS) (Wout : WX) (D : Ends) : WX := fun cls d σ H =>
  ∃ b, PySem.W.exmOne K cls c = some b ∧
    (b = true → d = none ∧ ∀ a, H a = none → ts a { nx := fun σ' H' => H' a = none → D.nx (σ'.set i none) (upd H' a (CauO cls a)), rt := fun _ _ => False, bk := fun _ _ => False, ct := fun _ _ => False } (σ.set i (some (.ref a))) H) ∧
    (b = false → Wout cls d σ H)
section
variable {X : Cx} {x n : Str} {c : Value} {i : Nat} {body suite : List Stmt} {b0 : Stmt} {np pos pos' : Pos} {tb : WX → TS} {ts : Addr → TS} {Wout : WX}
theorem ps_try_keep (hs : X.stack = X.env :: X.outer) (hf : X.env.frame = some X.env.locals) (hx : X.ex = []) (hN : X.N.Nodup) (hi : X.N[i]? = some n) (hln : X.env.kindOf n = some .local) (hc : Names X x c) (tk : Takes X Wout)
    (hb : ∀ (W : WX) (pn : List (Addr × Obj)) (xe : Value → Shared → Prop), Takes (X.tr pn xe) W → PassesOwn (model X.prog X.w) X.A X.env xe → PSs (X.tr pn xe) body (tb W))
    (hsu : ∀ (a : Addr) (pn : List (Addr × Obj)), PSs (X.suite a pn) (b0 :: suite) (ts a)) :
    PS X (.Try body [.ExceptHandler (some (.Name x np)) (some n) (b0 :: suite) pos'] [] [] pos) (fun D σ H => tb (wKeep X.K c i ts Wout D) D σ H) := by
  constructor
  intro pins s σ H D I h
  have K0 := I.ok
  have fr : X.A.frames = some (X.env :: X.outer) := hs ▸ K0.frames
  have run := (hb (wKeep X.K c i ts Wout D) (X.pn ++ pins)
    (fun e z1 => wpAny (model X.prog X.w) X.A (noteFrame e X.env)
      (fun _ z2 => wpAny (model X.prog X.w) X.A (setFlight e none)
        (fun _ z3 => wpAny (model X.prog X.w) X.A (handleBy e X.env [.ExceptHandler (some (.Name x np)) (some n) (b0 :: suite) pos']) (SP X pins D) X.xe z3) X.xe z2) X.xe z1)
    ?caught PassesOwn.looking).run [] s σ H D (I.toTry _) h
  case caught =>
    rintro u s' ⟨a, B, sI, pins', σ', H', cls, d, rfl, J', nb, up, sky, na, os, ag, b, hb1, yes, no⟩
    have J : Inv X pins σ' H' sI := J'.ofTry K0
    have sk : Sky B (X.env :: X.outer) a (Zc cls d) X.env.locals s'.heap := hs ▸ sky
    show wpAny (model X.prog X.w) X.A (noteFrame (.ref a) X.env) _ _ _
    apply Sky.land Zc.steady fr hf sk
    intro g3 f3 u3
    have J3 : Inv X pins σ' H' { s' with heap := g3 } := J.landed nb f3.1 (up.trans u3) os ag
    obtain ⟨o3, v3, e3, z3, d3⟩ := f3.there
    have off : ∀ E ∈ (X.env :: X.outer), E.frame ≠ some a := fun E hE q => by
      obtain ⟨_, o', h1, h2⟩ := f3.2.2.1.mem (List.mem_filterMap.mpr ⟨E, hE, q⟩)
      rw [e3] at h1
      cases h1
      exact h2 _ d3
    have aL : a ≠ X.env.locals := fun q => off X.env (List.mem_cons_self ..) (by rw [hf, q])
    have aF : a ∉ X.fs := fun m => by
      obtain ⟨E, h1, h2⟩ := List.mem_filterMap.mp m
      exact off E (List.mem_cons_of_mem _ h1) h2
    have aI : sI.heap.get? a = none := by
      cases q : sI.heap.get? a with
      | none => rfl
      | some o =>
        have q2 := nb a o q (fun m => by
          rw [hs] at m
          obtain ⟨E, h1, h2⟩ := List.mem_filterMap.mp m
          exact off E h1 h2)
        rw [f3.2.1] at q2
        cases q2
    have a0 : X.s_0.heap.get? a = none := by
      cases q : X.s_0.heap.get? a with
      | none => rfl
      | some o =>
        obtain ⟨o', q2⟩ := J.base.there a o q (by rw [hx]; exact fun m => nomatch m)
        rw [aI] at q2
        cases q2
    have aP : ∀ p ∈ X.pn ++ pins, p.1 ≠ a := fun p hp q => by
      have q2 := (J.pin p hp).1
      rw [q, aI] at q2
      cases q2
    have S3 := J3.suite e3 d3 na aL aF
    apply wpAny_handleBy_cons
    · apply codeAny_handlers_test
      have tyc : PySem.W.Looks (model X.prog X.w) g3 (typeOf (.ref a)) cls := fun A' Q' E' s0 k q => wpAny_typeOf_ref (k _ _ e3) (by rw [z3.1]; exact q)
      have look := PySem.W.exm_one (M := model X.prog X.w) J3.kIn tyc hb1
      have nm : ∀ {Q' : Value → Shared → Prop} {E' : Value → Shared → Prop}, Q' c { s' with heap := g3 } → wpAny (model X.prog X.w) (X.A.mark (some (.ref a))) (eval (.Name x np) X.env) Q' E' { s' with heap := g3 } := by
        intro Q' E' q
        obtain ⟨y1, y2, y3 | ⟨y3, y4, y5⟩⟩ := hc
        · exact ld_glob (X := X.suite a ((a, o3) :: (X.pn ++ pins))) S3 y1 y3 q y2
        · exact ld_blt (X := X.suite a ((a, o3) :: (X.pn ++ pins))) S3 y1 y3 y4 q y5 y2
      apply nm
      apply look.here
      cases b with
      | true =>
        obtain ⟨dn, go⟩ := yes rfl
        subst dn
        apply codeAny_handlers_suite_as
        apply HandSPX.lands_againZ f3
        intro g4 f4 u4
        have J4 : Inv X pins σ' H' { s' with heap := g4 } := J.landed nb f4.1 ((up.trans u3).trans u4) os ag
        obtain ⟨o4, v4, e4, z4, d4⟩ := f4.there
        have S4 := J4.suite e4 d4 na aL aF
        apply store_ok (X := X.suite a ((a, o4) :: (X.pn ++ pins))) (v := .ref a) S4 hN hi (.inl hln) rfl ?_ (.inr hln)
        intro s5 S5
        apply wpAny_mono ((hsu a _).run [] s5 _ H' _ S5 (go a na)) ?_ (fun _ _ z => False.elim z)
        intro f s6 q6
        cases f with
        | next =>
          obtain ⟨σ6, H6, S6, k6⟩ := q6
          obtain ⟨p1, p2, _⟩ := S6.pin (a, o4) (List.mem_append_left _ (List.mem_cons_self ..))
          have T6 := inv_track (o := CauO cls a) (S6.unsuite K0) a0 p1 d4 p2 aL aP (cauO_ok p1 z4 d4)
          exact gone_ok T6 hN hi hln fun s7 J7 => ⟨_, _, J7, k6 p2⟩
        | brk =>
          obtain ⟨_, _, _, k6⟩ := q6
          exact k6.elim
        | cont =>
          obtain ⟨_, _, _, k6⟩ := q6
          exact k6.elim
        | ret u =>
          obtain ⟨_, _, _, _, _, k6⟩ := q6
          exact k6.elim
      | false =>
        show wpAny _ X.A (handleBy (.ref a) X.env []) _ _ _
        apply wpAny_handleBy_nil
        obtain ⟨_, _, _, oe, ve, T, oT, vT, y1, y2, y3, y4, _⟩ := id f3
        have fin : wpAny (model X.prog X.w) X.A (setFlight (.ref a) X.env.frame) (fun _ t4 => wpAny (model X.prog X.w) X.A (throw (.ref a) : Sem Flow) (SP X pins D) X.xe t4) X.xe { s' with heap := g3 } := by
          rw [hf]
          apply HandSPX.setFlight_upZ f3
          intro g4 hh4 u4
          apply wpAny_throw
          exact tk _ _ ⟨a, B, sI, pins, σ', H', cls, d, rfl, J, nb, (up.trans u3).trans u4, .inr (.inr (by rw [hs]; exact hh4)), na, os, ag, no rfl⟩
        unfold PySem.passOn
        apply wpAny_bind
        apply wpAny_field y1 y3 y4
        rw [if_neg (show ¬ ((Value.ref T == Value.none) = true) from by simp)]
        first
          | exact wpAny_bind (wpAny_pure (wpAny_bind fin))
          | exact wpAny_bind fin
    · intro q
      cases q
  apply wpAny_Try_except
  apply wpAny_mono run ?_ (fun e s1 he => he)
  intro f s1 q
  cases f with
  | next =>
    obtain ⟨σ', H', J', k⟩ := q
    exact wpAny_execs_nil ⟨σ', H', J'.ofTry K0, k⟩
  | brk =>
    obtain ⟨σ', H', J', k⟩ := q
    exact ⟨σ', H', J'.ofTry K0, k⟩
  | cont =>
    obtain ⟨σ', H', J', k⟩ := q
    exact ⟨σ', H', J'.ofTry K0, k⟩
  | ret u =>
    obtain ⟨v, σ', H', J', r, k⟩ := q
    exact ⟨v, σ', H', J'.ofTry K0, r, k⟩
end
/-! ### isinstance of a kept error -/
/-- an error of the class named D that is kept, or None -/
def rIsX (K : PySem.W.Frag) : List V → Hp → VK → Prop := fun xs H Q => ∃ (a D : Addr) (c : V) (u : Value) (b : Bool), xs = [.ref a, c] ∧ ClsV c u ∧ H a = some (CauO (.ref D) a) ∧ ExcC K D ∧ PySem.W.kitOne K (.ref D) u = some b ∧ Q (.bl b) H
def rIsXT (K : PySem.W.Frag) : List V → Hp → VK → Prop := fun xs H Q => ∃ (a D tp : Addr) (cs : List V) (us : List Value) (b : Bool), xs = [.ref a, .ref tp] ∧ H tp = some (.tup cs) ∧ Paired ClsV cs us ∧ H a = some (CauO (.ref D) a) ∧ ExcC K D ∧ PySem.W.kitAny K (.ref D) us = some b ∧ Q (.bl b) H
section
variable {X : Cx} {pins : List (Addr × Obj)} {σ : L2.St} {H : Hp} {s : Shared}
theorem cau_at {a D : Addr} (I : Inv X pins σ H s) (h : H a = some (CauO (.ref D) a)) : ∃ oe, PySem.W.InstAt s.heap a oe D none := by
  obtain ⟨⟨oe, vs, e, z, d⟩, _, _⟩ := I.hok a _ h
  obtain ⟨oc, od, oda, osl⟩ := oe
  obtain ⟨z1, z2⟩ := z
  dsimp only at z1 z2 d
  subst z1 z2 d
  exact ⟨_, e, rfl, rfl, trivial⟩
theorem call_isX : CallR X (.builtin "isinstance") (rIsX X.K) := by
  intro pins s σ H xs us Q I r h
  obtain ⟨a, D, c, u, b, rfl, k, ha, C, e, q⟩ := h
  obtain ⟨u1, u2, rfl, r1, r2⟩ := vals2 r
  cases (show u1 = Value.ref a from r1)
  have e2 := k.eq r2
  subst e2
  obtain ⟨oe, J⟩ := cau_at I ha
  exact PySem.W.kia_one (PySem.W.handS_kitx_exc C.hg C.hk C.hs C.hd C.ha C.hn C.ht C.hm) I.kIn J e (fun z => nomatch z) fun tk => ⟨.bl b, H, I.tok tk, rfl, q⟩
theorem call_isXT : CallR X (.builtin "isinstance") (rIsXT X.K) := by
  intro pins s σ H xs us Q I r h
  obtain ⟨a, D, tp, cs, ws, b, rfl, hT, k, ha, C, e, q⟩ := h
  obtain ⟨u1, u2, rfl, r1, r2⟩ := vals2 r
  cases (show u1 = Value.ref a from r1)
  cases (show u2 = Value.ref tp from r2)
  obtain ⟨oe, J⟩ := cau_at I ha
  obtain ⟨_, its, rv, o, h1, h2, n, h3⟩ := (show ObjOk X.prog X.w H s.heap tp (.tup cs) from I.hok tp _ hT)
  have e3 := ClsV.all k rv
  subst e3
  obtain ⟨oc, od, dt, sl⟩ := o
  simp only at h2 h3
  subst h2 h3
  exact PySem.W.kia_tup (PySem.W.handS_kitx_exc C.hg C.hk C.hs C.hd C.ha C.hn C.ht C.hm) I.kIn J h1 e (fun z => nomatch z) fun tk => ⟨.bl b, H, I.tok tk, rfl, q⟩
end
end Fl
/-! list(zip(t, u)) of two tuples of one length -/
namespace Fl
open PySem PySem.Spec PyProof.Rows L2
theorem zip_no_len : typeLookup (.type "zip") "__len__" = pure none := by rw [typeLookup_type, builtinLookup_eq_fast]; kernel_rfl
theorem zip_no_hint : typeLookup (.type "zip") "__length_hint__" = pure none := by rw [typeLookup_type, builtinLookup_eq_fast]; kernel_rfl
section
variable {prog : Program} {w : World} {A : Around} {E : Value → Shared → Prop} {s : Shared} {z TI TO T p q l m : Addr} {f : Bool} {oT : Obj} {i j : Nat} {xs ys : Array Value} {x y : Value}
/-- the next pair, as one is out still -/
theorem heldT_item {Q : Option Value → Shared → Prop} (D : ZipApart z TI TO p q l m) (hz : IsZipHeld s.heap z TI TO T f) (hT : s.heap.get? T = some oT) (hI : IsPair s.heap TI (.ref p) (.ref q)) (hp : s.heap.IsTupleIter p l i) (hq : s.heap.IsTupleIter q m j)
    (hl : s.heap.IsTuple l xs) (hm : s.heap.IsTuple m ys) (hx : xs[i]? = some x) (hy : ys[j]? = some y)
    (hQ : ∀ h', IsZipHeld h' z TI TO T true → h'.IsTupleIter p l (i + 1) → h'.IsTupleIter q m (j + 1) → IsPair h' s.heap.objs.size x y → h'.objs.size = s.heap.objs.size + 1 → (∀ c o, c ≠ z → c ≠ p → c ≠ q → s.heap.get? c = some o → h'.get? c = some o) →
      Q (some (.ref s.heap.objs.size)) { s with heap := h' }) : wpAny (model prog w) A (pyNext (.ref z)) Q E s := by
  have ty : s.TypeIs (.ref z) "zip" := ⟨_, hz, rfl⟩
  unfold pyNext
  refine wpAny_bind (wpAny_attempt (wpAny_callSpecial?_slot (name := Str.ofString "__next__") ty F.slot_zip_next (wpAny_call_entry F.slot_zip_next ty F.entry_zip_next ?_ (F.args_zip_next_1 _))))
  show wpAny _ A.in1 (field (.ref z) 2 >>= _) _ _ s; refine wpAny_bind (wpAny_field (x := .bool false) hz rfl rfl ?_)
  show wpAny _ A.in1 (field (.ref z) 3 >>= _) _ _ s; refine wpAny_bind (wpAny_field (x := .ref TI) hz rfl rfl (wpAny_bind (wpAny_seqItems hI rfl ?_)))
  show wpAny _ A.in1 (Builtin.SmallTypes.ownedTupleIsFree (.ref z) >>= _) _ _ s; refine wpAny_bind (wpAny_tupleHeld_zip hz hT fun g1 z1 k1 => ?_)
  simp only [Bool.false_eq_true, if_false]; refine wpAny_bind ?_; rw [← Array.forIn_toList]; simp only [List.forIn_cons, List.forIn_nil]; refine wpAny_bind (wpAny_bind (wpAny_holding ?_))
  show wpAny _ A.in1 (Builtin.SmallTypes.nextOf (.ref p) >>= _) _ _ _; refine wpAny_bind (RZ.nextOf_tuple_item (s := { s with heap := g1 }) (hp.extBut k1.extBut D.i1z) (hl.extBut k1.extBut D.l1z) hx fun g2 p2 k2 => wpAny_pure (wpAny_pure ?_))
  refine wpAny_bind (wpAny_bind (wpAny_holding ?_)); show wpAny _ A.in1 (Builtin.SmallTypes.nextOf (.ref q) >>= _) _ _ _
  refine wpAny_bind (RZ.nextOf_tuple_item (s := { s with heap := g2 }) ((hq.extBut k1.extBut D.i2z).extBut k2.extBut D.i12.symm) ((hm.extBut k1.extBut D.l2z).extBut k2.extBut D.l2i1) hy fun g3 q3 k3 => wpAny_pure (wpAny_pure (wpAny_pure ?_)))
  show wpAny _ A.in1 (newTuple [x, y] >>= _) _ _ _; refine wpAny_bind (wpAny_newTuple (wpAny_pure ⟨_, rfl, wpAny_pure ?_⟩))
  have n3 : g3.objs.size = s.heap.objs.size := by rw [k3.1, k2.1, k1.1]
  have z3 : IsZipHeld g3 z TI TO T true := k3.extBut _ _ D.i2z.symm (k2.extBut _ _ D.i1z.symm z1)
  have kk : ∀ c o, c ≠ z → c ≠ p → c ≠ q → s.heap.get? c = some o → g3.get? c = some o := fun c o e1 e2 e3 e => k3.extBut _ _ e3 (k2.extBut _ _ e2 (k1.extBut _ _ e1 e))
  have p3 : g3.IsTupleIter p l (i + 1) := p2.extBut k3.extBut D.i12
  have nw : IsPair (g3.push { cls := .type "tuple", data := .seq #[x, y] }) g3.objs.size x y := Heap.get?_push_size _ rfl
  have n4 : (g3.push { cls := .type "tuple", data := .seq #[x, y] }).objs.size = g3.objs.size + 1 := Heap.size_push ..
  show Q (some (.ref g3.objs.size)) _
  rw [n3] at nw n4 ⊢
  exact hQ _ (Heap.get?_push_of_some _ z3) (p3.at fun o e => Heap.get?_push_of_some _ e) (q3.at fun o e => Heap.get?_push_of_some _ e) nw n4 fun c o e1 e2 e3 e => Heap.get?_push_of_some _ (kk c o e1 e2 e3 e)
theorem heldT_end {Q : Option Value → Shared → Prop} (hh : A.handled = none) (D : ZipApart z TI TO p q l m) (hz : IsZipHeld s.heap z TI TO T f) (hT : s.heap.get? T = some oT) (hI : IsPair s.heap TI (.ref p) (.ref q)) (hp : s.heap.IsTupleIter p l i) (hl : s.heap.IsTuple l xs)
    (hx : xs[i]? = none) (hQ : ∀ h', (∀ c o, c ≠ z → c ≠ p → s.heap.get? c = some o → h'.get? c = some o) → Q none { s with heap := h' }) : wpAny (model prog w) A (pyNext (.ref z)) Q E s := by
  have ty : s.TypeIs (.ref z) "zip" := ⟨_, hz, rfl⟩
  unfold pyNext
  refine wpAny_bind (wpAny_attempt (wpAny_callSpecial?_slot (name := Str.ofString "__next__") ty F.slot_zip_next (wpAny_call_entry F.slot_zip_next ty F.entry_zip_next ?_ (F.args_zip_next_1 _))))
  show wpAny _ A.in1 (field (.ref z) 2 >>= _) _ _ s; refine wpAny_bind (wpAny_field (x := .bool false) hz rfl rfl ?_)
  show wpAny _ A.in1 (field (.ref z) 3 >>= _) _ _ s; refine wpAny_bind (wpAny_field (x := .ref TI) hz rfl rfl (wpAny_bind (wpAny_seqItems hI rfl ?_)))
  show wpAny _ A.in1 (Builtin.SmallTypes.ownedTupleIsFree (.ref z) >>= _) _ _ s; refine wpAny_bind (wpAny_tupleHeld_zip hz hT fun g1 z1 k1 => ?_)
  simp only [Bool.false_eq_true, if_false]; refine wpAny_bind ?_; rw [← Array.forIn_toList]; simp only [List.forIn_cons, List.forIn_nil]; refine wpAny_bind (wpAny_bind (wpAny_holding ?_))
  show wpAny _ A.in1 (Builtin.SmallTypes.nextOf (.ref p) >>= _) _ _ _; refine wpAny_bind (RZ.nextOf_tuple_end (s := { s with heap := g1 }) hh (hp.extBut k1.extBut D.i1z) (hl.extBut k1.extBut D.l1z) hx fun g2 e k2 he => ?_)
  obtain ⟨o, ho, hc⟩ := he
  exact wpAny_bind (wpAny_isInstance (T := "StopIteration") (b := true) ⟨o, ho, hc⟩ isSubtype_stop (wpAny_pure (hQ _ fun c o e1 e2 e => k2 _ _ e2 (k1.extBut _ _ e1 e))))
end
theorem sqT_same {K : PySem.W.Frag} {H H' : Hp} {a : Addr} {vs : List V} (e : Same H H') (h : SqT K H a vs) : SqT K H' a vs := by
  rcases h with (h | ⟨o, h⟩) | h
  · exact .inl (.inl (e _ _ h))
  · exact .inl (.inr ⟨o, e _ _ h⟩)
  · exact .inr h
/-! ### the loop -/
/-- a zip of the tuples at l, m, i items out; S: the list that they are put in -/
def ZSt (z TI TO p q l m S : Addr) (i : Nat) (h : Heap) : Prop :=
  IsPair h TI (.ref p) (.ref q) ∧ h.IsTupleIter p l i ∧ h.IsTupleIter q m i ∧ (∃ o, h.get? TO = some o) ∧ ((IsZip h z TI TO .none ∧ ∃ x y, IsPair h TO x y) ∨ ∃ T f oT, IsZipHeld h z TI TO T f ∧ h.get? T = some oT ∧ T ≠ z ∧ T ≠ p ∧ T ≠ q ∧ T ≠ S)
section
variable {prog : Program} {w : World} {A : Around} {E : Value → Shared → Prop} {s : Shared} {z TI TO p q l m S : Addr} {i : Nat} {xs ys : Array Value} {x y : Value}
theorem zst_item {Q : Option Value → Shared → Prop} (D : ZipApart z TI TO p q l m) (st : ZSt z TI TO p q l m S i s.heap) (hS : S < s.heap.objs.size) (hl : s.heap.IsTuple l xs) (hm : s.heap.IsTuple m ys) (hx : xs[i]? = some x) (hy : ys[i]? = some y)
    (hQ : ∀ h', ZSt z TI TO p q l m S (i + 1) h' → IsPair h' s.heap.objs.size x y → h'.objs.size = s.heap.objs.size + 1 → (∀ c o, c ∉ [z, TI, TO, p, q] → s.heap.get? c = some o → h'.get? c = some o) → Q (some (.ref s.heap.objs.size)) { s with heap := h' }) :
    wpAny (model prog w) A (pyNext (.ref z)) Q E s := by
  obtain ⟨hI, hp, hq, ⟨oO, hO⟩, st⟩ := st
  have lp : p < s.heap.objs.size := by obtain ⟨_, e, _⟩ := hp; exact Heap.lt_size e
  have lq : q < s.heap.objs.size := by obtain ⟨_, e, _⟩ := hq; exact Heap.lt_size e
  rcases st with ⟨hz, x0, y0, hTO⟩ | ⟨T, f, oT, hz, hT, t1, t2, t3, t4⟩
  · have lz : z < s.heap.objs.size := Heap.lt_size hz
    refine RZ.pyNext_zipT_item D hz hI hTO hp hq hl hm hx hy fun h' z' TO' p' q' hT hsz hk => hQ h' ⟨hk _ _ D.TIz D.TITO D.TIi1 D.TIi2 hI, p', q', ⟨_, TO'⟩, .inr ⟨_, false, _, z', hT, Nat.ne_of_gt lz, Nat.ne_of_gt lp, Nat.ne_of_gt lq, Nat.ne_of_gt hS⟩⟩ hT hsz fun c o n e => hk c o ?_ ?_ ?_ ?_ e
    all_goals
      intro z1
      exact n (by simp [z1])
  · have lz : z < s.heap.objs.size := Heap.lt_size hz
    refine heldT_item D hz hT hI hp hq hl hm hx hy fun h' z' p' q' nT hsz hk => hQ h' ⟨hk _ _ D.TIz D.TIi1 D.TIi2 hI, p', q', ⟨_, hk _ _ D.TOz D.TOi1 D.TOi2 hO⟩, .inr ⟨T, true, oT, z', hk _ _ t1 t2 t3 hT, t1, t2, t3, t4⟩⟩ nT hsz fun c o n e => hk c o ?_ ?_ ?_ e
    all_goals
      intro z1
      exact n (by simp [z1])
theorem zst_end {Q : Option Value → Shared → Prop} (hh : A.handled = none) (D : ZipApart z TI TO p q l m) (st : ZSt z TI TO p q l m S i s.heap) (hl : s.heap.IsTuple l xs) (hm : s.heap.IsTuple m ys) (hx : xs[i]? = none)
    (hQ : ∀ h', (∀ c o, c ∉ [z, TI, TO, p, q] → s.heap.get? c = some o → h'.get? c = some o) → Q none { s with heap := h' }) : wpAny (model prog w) A (pyNext (.ref z)) Q E s := by
  obtain ⟨hI, hp, hq, ⟨oO, hO⟩, st⟩ := st
  rcases st with ⟨hz, x0, y0, hTO⟩ | ⟨T, f, oT, hz, hT, t1, t2, t3, t4⟩
  · refine RZ.pyNext_zipT_end hh D hz hI hTO hp hq hl hm (.inl hx) fun h' hk => hQ h' fun c o n e => hk c o ?_ ?_ ?_ ?_ e
    all_goals
      intro z1
      exact n (by simp [z1])
  · refine heldT_end hh D hz hT hI hp hl hx fun h' hk => hQ h' fun c o n e => hk c o ?_ ?_ e
    all_goals
      intro z1
      exact n (by simp [z1])
theorem ZSt.keep {h h' : Heap} (D : ZipApart z TI TO p q l m) (st : ZSt z TI TO p q l m S i h) (hn : ∀ c ∈ [z, TI, TO, p, q], c ≠ S) (k : ∀ c o, c ≠ S → h.get? c = some o → h'.get? c = some o) : ZSt z TI TO p q l m S i h' := by
  obtain ⟨hI, hp, hq, ⟨oO, hO⟩, st⟩ := st
  refine ⟨k _ _ (hn _ (by simp)) hI, hp.at fun o e => k _ _ (hn _ (by simp)) e, hq.at fun o e => k _ _ (hn _ (by simp)) e, ⟨_, k _ _ (hn _ (by simp)) hO⟩, ?_⟩
  rcases st with ⟨hz, x0, y0, hTO⟩ | ⟨T, f, oT, hz, hT, t1, t2, t3, t4⟩
  · exact .inl ⟨k _ _ (hn _ (by simp)) hz, x0, y0, k _ _ (hn _ (by simp)) hTO⟩
  · exact .inr ⟨T, f, oT, k _ _ (hn _ (by simp)) hz, k _ _ t4 hT, t1, t2, t3, t4⟩
end
/-- what the list holds: pairs, new tuples -/
def Prs (H : Hp) (xs ys : List V) (i : Nat) (Ts : List Addr) : Prop := Ts.length = i ∧ ∀ (k : Nat) (T : Addr), Ts[k]? = some T → ∃ x y, xs[k]? = some x ∧ ys[k]? = some y ∧ H T = some (.tup [x, y])
section
variable {X : Cx} {pins : List (Addr × Obj)} {σ : L2.St} {H H0 : Hp} {s : Shared} {z TI TO p q l m S : Addr}
theorem drainZ {R : Result → Shared → Prop} {A : Around} {xs ys : List V} (hh : A.handled = none) (D : ZipApart z TI TO p q l m) (hl : xs.length = ys.length) (hn : ∀ c ∈ [z, TI, TO, p, q], c ≠ S)
    (hend : ∀ s' H' acc c Ts, Inv X pins σ H' s' → (∀ c ∈ [z, TI, TO, p, q, S], FpOk X pins H' c) → Same H0 H' → s'.heap.get? S = some (lstObj acc c) → Vals (Ts.map V.ref) acc.toList → Prs H' xs ys xs.length Ts → R (.ok (.ret .none)) s') :
    ∀ (n i : Nat) (s : Shared) (H : Hp) (acc : Array Value) (c : Nat) (Ts : List Addr), i + n = xs.length → Inv X pins σ H s → (∀ c ∈ [z, TI, TO, p, q, S], FpOk X pins H c) → Same H0 H → SqT X.K H l xs → SqT X.K H m ys → ZSt z TI TO p q l m S i s.heap → s.heap.get? S = some (lstObj acc c) →
      Vals (Ts.map V.ref) acc.toList → Prs H xs ys i Ts → codeAny (model X.prog X.w) A (.builtin "list.extend.loop" ⟨[.ref S, .ref z, .none], []⟩) R s := by
  intro n
  induction n with
  | zero =>
    intro i s H acc c Ts hi I hf sm hx hy st hS rv pr
    have ei : i = xs.length := by omega
    subst ei
    obtain ⟨its, r1, p1, _⟩ := I.tuple hx
    obtain ⟨its2, r2, p2, _⟩ := I.tuple hy
    refine codeAny_builtin F.entry_extend_loop ?_
    rw [Around.under_plainId F.plain_extend_loop _]
    show wpAny _ A.in1 (pyNext (.ref z) >>= fun _ => _) _ _ s
    refine wpAny_bind (zst_end (A := A.in1) hh D st p1 p2 ?_ fun h' hk => ?_)
    · rw [List.getElem?_toArray]
      exact List.getElem?_eq_none (by rw [r1.length]; exact Nat.le_refl _)
    · have I2 : Inv X pins σ H { s with heap := h' } := I.turnedL (t' := s.toks) (ch := [z, TI, TO, p, q]) hk fun c hc => hf c (by
        simp only [List.mem_cons, List.not_mem_nil, or_false] at hc ⊢
        rcases hc with e | e | e | e | e <;> simp [e])
      refine wpAny_pure (hend _ H acc c Ts I2 hf sm (hk _ _ ?_ hS) rv pr)
      intro hc
      exact hn S hc rfl
  | succ n ih =>
    intro i s H acc c Ts hi I hf sm hx hy st hS rv pr
    obtain ⟨its, r1, p1, z1⟩ := I.tuple hx
    obtain ⟨its2, r2, p2, _⟩ := I.tuple hy
    have hi1 : i < xs.length := by omega
    have ex : xs[i]? = some xs[i] := List.getElem?_eq_getElem hi1
    have ey : ys[i]? = some (ys[i]'(by omega)) := List.getElem?_eq_getElem (by omega)
    obtain ⟨u, hu, ru⟩ := r1.get ex
    obtain ⟨u2, hu2, ru2⟩ := r2.get ey
    have lS : S < s.heap.objs.size := Heap.lt_size hS
    have sz : acc.size = i := by
      have z2 := rv.length
      rw [List.length_map, pr.1, Array.length_toList] at z2
      exact z2.symm
    have hxl : xs.length ≤ sizeLine := z1
    refine codeAny_builtin F.entry_extend_loop ?_
    rw [Around.under_plainId F.plain_extend_loop _]
    show wpAny _ A.in1 (pyNext (.ref z) >>= fun _ => _) _ _ s
    refine wpAny_bind (zst_item (A := A.in1) (x := u) (y := u2) D st lS p1 p2 (by simpa using hu) (by simpa using hu2) fun h' st' nT hsz hk => ?_)
    have hf5 : ∀ c ∈ [z, TI, TO, p, q], FpOk X pins H c := fun c hc => hf c (by
      simp only [List.mem_cons, List.not_mem_nil, or_false] at hc ⊢
      rcases hc with e | e | e | e | e <;> simp [e])
    have nH : H s.heap.objs.size = none := I.hok.fresh (Nat.le_refl _)
    have I1 : Inv X pins σ (upd H s.heap.objs.size (.tup [xs[i], ys[i]'(by omega)])) { s with heap := h' } :=
      I.turnedNew (t' := s.toks) (ch := [z, TI, TO, p, q]) hk hf5 (Nat.le_refl _) ⟨by show 2 ≤ sizeLine; decide, [u, u2], .cons ru (.cons ru2 .nil), ⟨_, nT, rfl, _, rfl⟩⟩
    have hS' : h'.get? S = some (lstObj acc c) := hk _ _ (fun hc => hn S hc rfl) hS
    have hf' : ∀ c ∈ [z, TI, TO, p, q, S], FpOk X pins (upd H s.heap.objs.size (.tup [xs[i], ys[i]'(by omega)])) c := fun c hc => by
      obtain ⟨g1, g2⟩ := hf c hc
      refine ⟨?_, g2⟩
      have lc : c < s.heap.objs.size := by
        obtain ⟨hI, ⟨_, e1, _⟩, ⟨_, e2, _⟩, ⟨_, e3⟩, st⟩ := st
        have lz : z < s.heap.objs.size := by
          rcases st with ⟨hz, _⟩ | ⟨_, _, _, hz, _⟩ <;> exact Heap.lt_size hz
        simp only [List.mem_cons, List.not_mem_nil, or_false] at hc
        rcases hc with e | e | e | e | e | e
        · rw [e]; exact lz
        · rw [e]; exact Heap.lt_size hI
        · rw [e]; exact Heap.lt_size e3
        · rw [e]; exact Heap.lt_size e1
        · rw [e]; exact Heap.lt_size e2
        · rw [e]; exact lS
      rw [upd_ne (Nat.ne_of_lt lc)]
      exact g1
    show wpAny _ A.in1 (updateSeq S (·.push (.ref s.heap.objs.size)) >>= fun _ => _) _ _ _
    refine wpAny_bind (wpAny_updateSeq hS' rfl (wpAny_pure ⟨plainId_quiet F.plain_extend_loop _, ?_⟩) (by omega) (by show (acc.push _).size ≤ sizeLine + 1; rw [Array.size_push]; omega))
    have up : ∀ c o, c ≠ S → h'.get? c = some o → (h'.update S (Obj.mapSeq (·.push (.ref s.heap.objs.size)))).get? c = some o := fun c o hc e => (Heap.get?_update_other _ _ (Ne.symm hc)).trans e
    obtain ⟨g0, g1, g2, g3, g4, g5⟩ := hf' S (by simp)
    have I2 : Inv X pins σ (upd H s.heap.objs.size (.tup [xs[i], ys[i]'(by omega)])) { s with heap := h'.update S (Obj.mapSeq (·.push (.ref s.heap.objs.size))) } := I1.turned (t' := s.toks) (fun b o hb e => up b o hb e) g0 g1 g3 g4 g5
    have sq1 : ∀ {b : Addr} {vs : List V}, SqT X.K H b vs → SqT X.K (upd H s.heap.objs.size (.tup [xs[i], ys[i]'(by omega)])) b vs := fun e => sqT_same (same_new nH _) e
    have sm1 : Same H (upd H s.heap.objs.size (.tup [xs[i], ys[i]'(by omega)])) := same_new nH _
    obtain ⟨c', eS⟩ : ∃ c', (h'.update S (Obj.mapSeq (·.push (.ref s.heap.objs.size)))).get? S = some (lstObj (acc.push (.ref s.heap.objs.size)) c') := ⟨_, Heap.get?_update_self _ hS' rfl⟩
    refine ih (i + 1) _ _ (acc.push (.ref s.heap.objs.size)) c' (Ts ++ [s.heap.objs.size]) (by omega) I2 hf' (sm.trans sm1) ?_ ?_ (st'.keep D hn up) ?_ ?_ ?_
    · exact sq1 hx
    · exact sq1 hy
    · exact eS
    · rw [List.map_append, Array.toList_push]
      exact rv.append (.cons rfl .nil)
    · refine ⟨by rw [List.length_append, pr.1]; rfl, fun k T e => ?_⟩
      by_cases hk1 : k < Ts.length
      · rw [List.getElem?_append_left hk1] at e
        obtain ⟨x, y, e1, e2, e3⟩ := pr.2 k T e
        exact ⟨x, y, e1, e2, sm1 _ _ e3⟩
      · rw [List.getElem?_append_right (by omega)] at e
        have hk2 : k = Ts.length := by
          have := (List.getElem?_eq_some_iff.mp e).1
          simp at this
          omega
        rw [hk2, Nat.sub_self] at e
        cases e
        refine ⟨_, _, ?_, ?_, upd_same⟩
        · rw [hk2, pr.1]
          exact ex
        · rw [hk2, pr.1]
          exact ey
/-- the list's object, laid since the entry, is tracked from here on -/
theorem inv_trackL {a : Addr} {o : HO} {oe : Obj} (I : Inv X pins σ H s) (ha : s.heap.get? a = some oe) (hd : ∀ v, oe.data ≠ .cell v) (f : FpOk X pins H a) (n0 : X.s_0.heap.get? a = none)
    (new : ObjOk X.prog X.w (upd H a o) s.heap a o) : Inv X pins σ (upd H a o) s := by
  obtain ⟨na, nL, _, _, _, np⟩ := f
  have old : ∀ b u, X.s_0.heap.get? b = some u → b ≠ a := fun b u e z => by
    rw [z, n0] at e
    cases e
  have trk : ∀ b u, H b = some u → b ≠ a := fun b u e z => by
    rw [z, na] at e
    cases e
  have cel : ∀ x c, X.env.cells.lookup x = some c → c ≠ a := fun x c e z => by
    obtain ⟨v, u, hu, hc⟩ := I.cell x c e
    rw [z, ha] at hu
    cases hu
    exact hd _ hc
  exact {
    ok := I.ok
    os := I.os
    bare := I.bare
    base := {
      keep := I.base.keep
      slot := I.base.slot
      free := fun b u e n hx => by rw [upd_ne (old b u e)]; exact I.base.free b u e n hx
      there := I.base.there
      tups := fun b xs e => by
        have z := I.base.tups b xs e
        rw [upd_ne (trk _ _ z)]
        exact z
      frzs := fun b u xs e => by
        have z := I.base.frzs b u xs e
        rw [upd_ne (trk _ _ z)]
        exact z
      tbls := fun b ps e => by
        obtain ⟨m, z⟩ := I.base.tbls b ps e
        exact ⟨m, by rw [upd_ne (trk _ _ z)]; exact z⟩ }
    loc := I.loc
    cell := I.cell
    free := by rw [upd_ne nL.symm]; exact I.free
    freeC := fun x c e => by rw [upd_ne (cel x c e)]; exact I.freeC x c e
    pin := fun p hp => by
      obtain ⟨p1, p2, p3, p4, p5⟩ := I.pin p hp
      exact ⟨p1, by rw [upd_ne (np p hp)]; exact p2, p3, p4, p5⟩
    hok := fun b u e => by
      by_cases hb : b = a
      · subst hb
        rw [upd_same] at e
        cases e
        exact new
      · rw [upd_ne hb] at e
        exact (I.hok b u e).stay (fun _ _ _ q => q) (fun c q => by rw [upd_ne (trk _ _ q)]; exact q) fun c xs q => by rw [upd_ne (trk _ _ q)]; exact q
    len := I.len }
end
/-! ### the expression -/
def tListZip (K : PySem.W.Frag) (ta : TA) : TE := fun σ H Q => ta σ H fun vs H1 => ∃ a b xs ys, vs = [.ref a, .ref b] ∧ SqT K H1 a xs ∧ SqT K H1 b ys ∧ xs.length = ys.length ∧ ∀ S Ts H', Same H1 H' → H' S = none → Prs H' xs ys xs.length Ts → Q (.ref S) (upd H' S (.lst (Ts.map V.ref)))
section
variable {X : Cx}
theorem call_listZip {pins : List (Addr × Obj)} {σ : L2.St} {H : Hp} {s : Shared} {z TI TO p q l m : Addr} {xs ys : List V} {Q : VK} (hc : X.calm = true) (I : Inv X pins σ H s) (D : ZipApart z TI TO p q l m) (hx : SqT X.K H l xs) (hy : SqT X.K H m ys) (hl : xs.length = ys.length)
    (hz : IsZip s.heap z TI TO .none) (hI : IsPair s.heap TI (.ref p) (.ref q)) (hTO : IsPair s.heap TO .none .none) (hp : s.heap.IsTupleIter p l 0) (hq : s.heap.IsTupleIter q m 0) (hf : ∀ c ∈ [z, TI, TO, p, q], FpOk X pins H c)
    (h : ∀ S Ts H', Same H H' → H' S = none → Prs H' xs ys xs.length Ts → Q (.ref S) (upd H' S (.lst (Ts.map V.ref)))) : wpAny (model X.prog X.w) X.A (call (.type "list") [.ref z]) (EP X pins σ Q) X.xe s := by
  have lz : z < s.heap.objs.size := Heap.lt_size hz
  have hsub : ∀ c ∈ [z, TI, TO, p, q], c ≠ s.heap.objs.size := fun c hc' => by
    obtain ⟨_, e1, _⟩ := id hp
    obtain ⟨_, e2, _⟩ := id hq
    have l1 := Heap.lt_size hI
    have l2 := Heap.lt_size hTO
    have l3 := Heap.lt_size e1
    have l4 := Heap.lt_size e2
    simp only [List.mem_cons, List.not_mem_nil, or_false] at hc'
    rcases hc' with e | e | e | e | e <;> rw [e] <;> exact Nat.ne_of_lt (by assumption)
  refine callType_codes (Q₁ := fun obj z1 => obj = .ref s.heap.objs.size ∧ z1 = { s with heap := s.heap.push { cls := .type "list", data := .seq #[] } }) F.called_list (F.typeCall_list_1 _) F.entry_list_init (code_list_new _ ⟨rfl, rfl⟩) fun obj z1 hz1 => ?_
  obtain ⟨rfl, rfl⟩ := hz1
  have hS : (s.heap.push { cls := .type "list", data := .seq #[] }).get? s.heap.objs.size = some { cls := .type "list", data := .seq #[] } := Heap.get?_push_size _ rfl
  refine ⟨⟨_, hS, rfl⟩, F.args_list_init_2 _ _, ?_⟩
  show wpAny _ X.A.in1.in1 (do let old ← Builtin.List.listItems (.ref s.heap.objs.size); (do Builtin.List.listUpdate (.ref s.heap.objs.size) (fun _ => #[]); letGo old.toList.reverse; Builtin.List.listExtendWith (.ref s.heap.objs.size) (.ref z) .none)) _ _ _
  refine wpAny_bind ?_
  unfold Builtin.List.listItems
  refine wpAny_bind (wpAny_seqItems hS rfl (wpAny_pure ?_))
  show wpAny _ X.A.in1.in1 (updateSeq s.heap.objs.size (fun _ => #[]) >>= fun _ => (letGo (#[] : Array Value).toList.reverse >>= fun _ => Builtin.List.listExtendWith (.ref s.heap.objs.size) (.ref z) .none)) _ _ _
  refine wpAny_bind (wpAny_updateSeq hS rfl ?_)
  have hS2 := Heap.get?_update_self (Obj.mapSeq (fun _ => (#[] : Array Value))) hS rfl
  refine wpAny_bind (wpAny_letGo ?_)
  unfold Builtin.List.listExtendWith
  have up : ∀ (g : Heap) (f : Obj → Obj), (∀ b o, s.heap.get? b = some o → g.get? b = some o) → ∀ b o, s.heap.get? b = some o → (g.update s.heap.objs.size f).get? b = some o := fun g f k b o e => (Heap.get?_update_other _ _ (Nat.ne_of_gt (Heap.lt_size e))).trans (k b o e)
  have k2 := up (s.heap.push { cls := .type "list", data := .seq #[] }) (Obj.mapSeq (fun _ => (#[] : Array Value))) fun b o e => Heap.get?_push_of_some _ e
  have zt : ∀ {g : Heap}, (∀ b o, s.heap.get? b = some o → g.get? b = some o) → Shared.TypeIs { s with heap := g } (.ref z) "zip" := fun k => ⟨_, k _ _ hz, rfl⟩
  refine wpAny_bind (wpAny_typeOf (zt k2) ?_)
  have b1 : Builtin.List.listSameRef (.ref s.heap.objs.size) (.ref z) = false := by simp [Builtin.List.listSameRef, Nat.ne_of_gt lz]
  have b2 : (Value.type "zip" == Value.type "list") = false := by decide
  have b3 : (Value.type "zip" == Value.type "tuple") = false := by decide
  simp only [b1, b2, b3, Bool.or_false, Bool.false_eq_true, if_false]
  refine wpAny_bind (wpAny_pyIter_zip (s := { s with heap := _ }) (k2 _ _ hz) ?_)
  refine wpAny_bind (wpAny_holding ?_)
  unfold Builtin.List.listLengthHint
  refine wpAny_bind (wpAny_specialOf (zt k2) zip_no_len ?_)
  show wpAny _ X.A.in1.in1 (specialOf (Value.ref z) (Str.ofString "__length_hint__") >>= fun _ => _) _ _ _
  refine wpAny_bind (wpAny_specialOf (zt k2) zip_no_hint (wpAny_pure ?_))
  show wpAny _ X.A.in1.in1 (rule "list.extend.makes-room" >>= fun _ => (Builtin.List.listTouch (.ref s.heap.objs.size) >>= fun _ => again (.builtin "list.extend.loop" ⟨[.ref s.heap.objs.size, .ref z, .none], []⟩))) _ _ _
  refine wpAny_bind (wpAny_rule (wpAny_bind ?_))
  show wpAny _ X.A.in1.in1 (updateSeq s.heap.objs.size (·.push .none) >>= fun _ => updateSeq s.heap.objs.size (·.pop)) _ _ _
  refine wpAny_bind (wpAny_updateSeq hS2 rfl ?_)
  have hS3 := Heap.get?_update_self (Obj.mapSeq (·.push Value.none)) hS2 rfl
  refine wpAny_updateSeq (hz := by seq_fits) hS3 rfl ?_
  have hS4 := Heap.get?_update_self (Obj.mapSeq (·.pop)) hS3 rfl
  have k4 := up _ (Obj.mapSeq (·.pop)) (up _ (Obj.mapSeq (·.push Value.none)) k2)
  refine wpAny_pure ⟨plainId_quiet F.plain_extend_loop _, ?_⟩
  have fS : FpOk X pins H s.heap.objs.size := I.fpOk (Nat.le_refl _) (I.hok.fresh (Nat.le_refl _))
  have n0 : X.s_0.heap.get? s.heap.objs.size = none := by
    cases e : X.s_0.heap.get? s.heap.objs.size with
    | none => rfl
    | some o =>
      exact absurd (Nat.lt_of_lt_of_le (Heap.lt_size e) I.sz) (Nat.lt_irrefl _)
  refine drainZ (X := X) (A := X.A.in1) (pins := pins) (σ := σ) (H0 := H) (S := s.heap.objs.size) (I.ok.hd hc) D hl hsub (fun s' H' acc c Ts I' f' sm e rv pr => ?_) xs.length 0 _ H #[] _ [] (by omega) (I.kept (t' := s.toks) k4) ?_ (.refl _) hx hy ?_ hS4 .nil ⟨rfl, fun k T e => nomatch e⟩
  · have tr := inv_trackL (o := .lst (Ts.map V.ref)) I' e (fun v z => by cases z) (f' _ (by simp)) n0 ⟨?_, acc.toList, c, rv, by rw [e]⟩
    · exact ⟨rfl, .ref s.heap.objs.size, _, tr, rfl, h _ Ts H' sm (f' _ (by simp)).1 pr⟩
    · obtain ⟨its, r1, _, z1⟩ := I.tuple hx
      rw [List.length_map, pr.1]
      exact z1
  · intro c hc'
    by_cases ec : c = s.heap.objs.size
    · rw [ec]
      exact fS
    · refine hf c ?_
      simp only [List.mem_cons, List.not_mem_nil, or_false] at hc' ⊢
      rcases hc' with e | e | e | e | e | e
      · simp [e]
      · simp [e]
      · simp [e]
      · simp [e]
      · simp [e]
      · exact absurd e ec
  · exact ⟨k4 _ _ hI, hp.at fun o e => k4 _ o e, hq.at fun o e => k4 _ o e, ⟨_, k4 _ _ hTO⟩, .inl ⟨k4 _ _ hz, _, _, k4 _ _ hTO⟩⟩
theorem pe_listZip {e1 e2 : Expr} {ta : TA} {p p2 pos pos2 : Pos} (hg : Gl X "list") (hm : X.mg "list" = none) (hg2 : Gl X "zip") (hm2 : X.mg "zip" = none) (ha : PA X [e1, e2] ta) (hc : X.calm = true := by rfl)
    (hs : starEach [.Call (.Name "zip" p2) [e1, e2] [] pos2] X.env = [(false, eval (.Call (.Name "zip" p2) [e1, e2] [] pos2) X.env)] := by rfl) (hs2 : starEach [e1, e2] X.env = (false, eval e1 X.env) :: starEach [e2] X.env := by rfl) (hpl : (backTo pos2 (starEach [e2] X.env)).any (·.1) = false := by rfl) :
    PE X (.Call (.Name "list" p) [.Call (.Name "zip" p2) [e1, e2] [] pos2] [] pos) (tListZip X.K ta) := by
  refine ⟨fun pins s σ H Q I h => Call_ (ld_blt I hg hm PyProof.Rows.boot_list (PyProof.Rows.callWith_type1 ?_ hs rfl))⟩
  rw [hs]
  show wpAny _ _ (spliced [(false, eval (.Call (.Name "zip" p2) [e1, e2] [] pos2) X.env)]) _ _ s
  refine Calls.spliced_cons (Call_ (ld_blt I hg2 hm2 PyProof.Rows.boot_zip (PyProof.Rows.callWith_type1 (thn (ha.run pos2 pins s σ H _ I h) fun us s1 ⟨vs, H1, I1, r1, q1⟩ => ?_) hs2 hpl)))
  obtain ⟨a, b, xs, ys, ex, hx, hy, hl, q⟩ := q1
  subst ex
  obtain ⟨u1, u2, rfl, r2, r3⟩ := vals2 r1
  cases (show u1 = Value.ref a from r2)
  cases (show u2 = Value.ref b from r3)
  obtain ⟨its, rv, p1, _⟩ := I1.tuple hx
  obtain ⟨its2, rv2, p3, _⟩ := I1.tuple hy
  obtain ⟨o1, ho1, _⟩ := id p1
  obtain ⟨o2, ho2, _⟩ := id p3
  refine RZ.call_zipT (show s1.heap.IsTuple a its.toArray from p1) (show s1.heap.IsTuple b its2.toArray from p3) fun h' hz hTI hTO h1 h2 hsz hk => Calls.spliced_nil ?_
  have I2 : Inv X pins σ H1 { s1 with heap := h' } := I1.kept (t' := s1.toks) hk
  refine call_listZip (s := { s1 with heap := h' }) hc I2 (PySem.W.ktu_apart s1.heap.objs.size a b (Heap.lt_size ho1) (Heap.lt_size ho2)) hx hy hl hz hTI hTO h1 h2 (fun c hcm => ?_) q
  have hle : s1.heap.objs.size ≤ c := by
    simp only [List.mem_cons, List.not_mem_nil, or_false] at hcm
    rcases hcm with e | e | e | e | e <;> rw [e]
    · exact Nat.le_add_right _ _
    · exact Nat.le_add_right _ _
    · exact Nat.le_add_right _ _
    · exact Nat.le_refl _
    · exact Nat.le_add_right _ _
  exact I1.fpOk hle (I1.hok.fresh hle)
end
end Fl
/-! zip of two ways of any kind: next, by what each way's own next does -/
namespace Fl
open PySem PySem.Spec PyProof.Rows L2
/-- a way through items: what holds of it at each place, and what its next does -/
structure Way (prog : Program) (w : World) (it src : Addr) (xs : Array Value) where
  st : Nat → Heap → Prop
  live : ∀ {i : Nat} {h : Heap}, st i h → ∃ o, h.get? it = some o
  keep : ∀ {i : Nat} {h h' : Heap}, st i h → (∀ o, h.get? it = some o → h'.get? it = some o) → (∀ o, h.get? src = some o → h'.get? src = some o) → st i h'
  item : ∀ {A : Around} {E : Value → Shared → Prop} {s : Shared} {i : Nat} {x : Value} {Q : Value → Shared → Prop}, st i s.heap → xs[i]? = some x → (∀ h', st (i + 1) h' → Heap.SameBut it s.heap h' → Q x { s with heap := h' }) → wpAny (model prog w) A (Builtin.SmallTypes.nextOf (.ref it)) Q E s
  fin : ∀ {A : Around} {E : Value → Shared → Prop} {s : Shared} {i : Nat} {Q : Value → Shared → Prop}, A.handled = none → st i s.heap → xs[i]? = none → (∀ h' e, Heap.ExtBut it s.heap h' → (∃ o, h'.get? e = some o ∧ o.cls = .type "StopIteration") → E (.ref e) { s with heap := h' }) → wpAny (model prog w) A (Builtin.SmallTypes.nextOf (.ref it)) Q E s
section
variable {prog : Program} {w : World}
def wayT {it l : Addr} {xs : Array Value} (n : l ≠ it) : Way prog w it l xs where
  st i h := h.IsTupleIter it l i ∧ h.IsTuple l xs
  live := fun ⟨⟨o, e, _⟩, _⟩ => ⟨o, e⟩
  keep := fun ⟨a, b⟩ k1 k2 => ⟨a.at k1, by obtain ⟨o, e, r⟩ := b; exact ⟨o, k2 _ e, r⟩⟩
  item := fun ⟨a, b⟩ hx hQ => RZ.nextOf_tuple_item a b hx fun h' a' sb => hQ h' ⟨a', b.extBut sb.extBut n⟩ sb
  fin := fun hh ⟨a, b⟩ hx hE => RZ.nextOf_tuple_end hh a b hx hE
def wayL {it l : Addr} {xs : Array Value} (n : l ≠ it) : Way prog w it l xs where
  st i h := h.IsListIter it l i ∧ h.IsList l xs
  live := fun ⟨⟨o, e, _⟩, _⟩ => ⟨o, e⟩
  keep := fun ⟨a, b⟩ k1 k2 => ⟨a.at k1, by obtain ⟨o, e, r⟩ := b; exact ⟨o, k2 _ e, r⟩⟩
  item := fun ⟨a, b⟩ hx hQ => wpAny_nextOf_list_item a b hx fun h' a' sb => hQ h' ⟨a', b.extBut sb.extBut n⟩ sb
  fin := fun hh ⟨a, b⟩ hx hE => wpAny_nextOf_list_end hh a b hx hE
end
/-- no other cell than z, TO, p, q is touched -/
abbrev Kept4 (z TO p q : Addr) (h h' : Heap) : Prop := ∀ c o, c ≠ z → c ≠ TO → c ≠ p → c ≠ q → h.get? c = some o → h'.get? c = some o
section
variable {prog : Program} {w : World} {A : Around} {E : Value → Shared → Prop} {s : Shared} {z TI TO T p q l m : Addr} {f : Bool} {oT : Obj} {i j : Nat} {xs ys : Array Value} {x y a b : Value}
theorem Way.but {it src c : Addr} (W : Way prog w it src xs) {h h' : Heap} (st : W.st i h) (k : Heap.ExtBut c h h') (n1 : it ≠ c) (n2 : src ≠ c) : W.st i h' := W.keep st (fun o e => k _ _ n1 e) (fun o e => k _ _ n2 e)
/-- the next pair, as none is out -/
theorem way_item {Q : Option Value → Shared → Prop} (W1 : Way prog w p l xs) (W2 : Way prog w q m ys) (D : ZipApart z TI TO p q l m) (hz : IsZip s.heap z TI TO .none) (hI : IsPair s.heap TI (.ref p) (.ref q)) (hO : IsPair s.heap TO a b)
    (h1 : W1.st i s.heap) (h2 : W2.st j s.heap) (hx : xs[i]? = some x) (hy : ys[j]? = some y)
    (hQ : ∀ h', IsZip h' z TI TO (rawInt s.heap.objs.size) → IsPair h' TO x y → W1.st (i + 1) h' → W2.st (j + 1) h' → IsPair h' s.heap.objs.size x y → h'.objs.size = s.heap.objs.size + 1 → Kept4 z TO p q s.heap h' →
      Q (some (.ref s.heap.objs.size)) { s with heap := h' }) : wpAny (model prog w) A (pyNext (.ref z)) Q E s := by
  have ty : s.TypeIs (.ref z) "zip" := ⟨_, hz, rfl⟩
  unfold pyNext
  refine wpAny_bind (wpAny_attempt (wpAny_callSpecial?_slot (name := Str.ofString "__next__") ty F.slot_zip_next (wpAny_call_entry F.slot_zip_next ty F.entry_zip_next ?_ (F.args_zip_next_1 _))))
  show wpAny _ A.in1 (field (.ref z) 2 >>= _) _ _ s; refine wpAny_bind (wpAny_field (x := .bool false) hz rfl rfl ?_)
  show wpAny _ A.in1 (field (.ref z) 3 >>= _) _ _ s; refine wpAny_bind (wpAny_field (x := .ref TI) hz rfl rfl (wpAny_bind (wpAny_seqItems hI rfl ?_)))
  show wpAny _ A.in1 (Builtin.SmallTypes.ownedTupleIsFree (.ref z) >>= _) _ _ s
  refine wpAny_bind ?_
  unfold Builtin.SmallTypes.ownedTupleIsFree
  refine wpAny_bind (wpAny_field hz rfl (x := .none) rfl (wpAny_pure ?_))
  simp only [if_true]
  refine wpAny_bind (wpAny_rule (wpAny_bind (wpAny_field hz rfl (x := .ref TO) rfl (wpAny_bind (wpAny_setField_rec hz (by simp) fun g1 z1 k1 => ?_)))))
  replace z1 : IsZip g1 z TI TO .ellipsis := z1
  refine wpAny_bind ?_
  simp only [List.zipIdx_cons, List.zipIdx_nil, List.forIn_cons, List.forIn_nil]
  refine wpAny_bind (wpAny_bind (wpAny_onRaise ?_))
  show wpAny _ _ (Builtin.SmallTypes.nextOf (.ref p) >>= _) _ _ _
  refine wpAny_bind (W1.item (s := { s with heap := g1 }) (W1.but h1 k1.extBut D.i1z D.l1z) hx fun g2 p2 k2 => wpAny_pure ?_)
  have o2 : IsPair g2 TO a b := k2.extBut _ _ D.TOi1 (k1.extBut _ _ D.TOz hO)
  refine wpAny_bind (wpAny_seqItems (s := { s with heap := g2 }) o2 rfl (wpAny_bind (wpAny_updateSeq_pair (s := { s with heap := g2 }) o2 fun g3 o3 k3 => ?_)))
  replace o3 : IsPair g3 TO x b := o3
  refine wpAny_bind (wpAny_letGo (wpAny_pure ?_))
  refine wpAny_bind (wpAny_bind (wpAny_onRaise ?_))
  show wpAny _ _ (Builtin.SmallTypes.nextOf (.ref q) >>= _) _ _ _
  refine wpAny_bind (W2.item (s := { s with heap := g3 }) (W2.but (W2.but (W2.but h2 k1.extBut D.i2z D.l2z) k2.extBut D.i12.symm D.l2i1) k3.extBut D.TOi2.symm D.l2TO) hy fun g4 q4 k4 => wpAny_pure ?_)
  have o4 : IsPair g4 TO x b := k4.extBut _ _ D.TOi2 o3
  refine wpAny_bind (wpAny_seqItems (s := { s with heap := g4 }) o4 rfl (wpAny_bind (wpAny_updateSeq_pair (s := { s with heap := g4 }) o4 fun g5 o5 k5 => ?_)))
  replace o5 : IsPair g5 TO x y := o5
  refine wpAny_bind (wpAny_letGo (wpAny_pure (wpAny_pure ?_)))
  refine wpAny_bind (wpAny_seqItems (s := { s with heap := g5 }) o5 rfl (wpAny_bind (wpAny_newTuple ?_)))
  have n5 : g5.objs.size = s.heap.objs.size := by rw [k5.1, k4.1, k3.1, k2.1, k1.1]
  have z5 : IsZip g5 z TI TO .ellipsis := k5.extBut _ _ D.TOz.symm (k4.extBut _ _ D.i2z.symm (k3.extBut _ _ D.TOz.symm (k2.extBut _ _ D.i1z.symm z1)))
  have kk : Kept4 z TO p q s.heap g5 := fun c o c1 c2 c3 c4 e => k5.extBut _ _ c2 (k4.extBut _ _ c4 (k3.extBut _ _ c2 (k2.extBut _ _ c3 (k1.extBut _ _ c1 e))))
  have p5 : W1.st (i + 1) g5 := W1.but (W1.but (W1.but p2 k3.extBut D.TOi1.symm D.l1TO) k4.extBut D.i12 D.l1i2) k5.extBut D.TOi1.symm D.l1TO
  have q5 : W2.st (j + 1) g5 := W2.but q4 k5.extBut D.TOi2.symm D.l2TO
  have lz : z < g5.objs.size := Heap.lt_size z5
  show wpAny _ _ (Builtin.SmallTypes.ownedTupleHandOut (.ref z) (.ref g5.objs.size) >>= _) _ _ _
  refine wpAny_bind ?_
  unfold Builtin.SmallTypes.ownedTupleHandOut
  have z6 : IsZip (g5.push { cls := .type "tuple", data := .seq #[x, y] }) z TI TO .ellipsis := Heap.get?_push_of_some _ z5
  refine wpAny_bind (wpAny_setField_rec z6 (by simp) fun g7 z7 k7 => ?_)
  replace z7 : IsZip g7 z TI TO (rawInt g5.objs.size) := z7
  refine wpAny_setField_rec z7 (by simp) fun g8 z8 k8 => ?_
  replace z8 : IsZip g8 z TI TO (rawInt g5.objs.size) := z8
  have up : ∀ c o, c ≠ z → g5.get? c = some o → g8.get? c = some o := fun c o c1 e => k8.extBut _ _ c1 (k7.extBut _ _ c1 (Heap.get?_push_of_some _ e))
  have t8 : IsPair g8 g5.objs.size x y := k8.extBut _ _ (Nat.ne_of_gt lz) (k7.extBut _ _ (Nat.ne_of_gt lz) (Heap.get?_push_size _ rfl))
  have n8 : g8.objs.size = g5.objs.size + 1 := by rw [k8.1, k7.1, Heap.size_push]
  rw [n5] at z8 t8 n8
  refine wpAny_pure ⟨_, rfl, wpAny_pure ?_⟩
  show Q (some (.ref g5.objs.size)) _
  rw [n5]
  exact hQ g8 z8 (up _ _ D.TOz o5) (W1.keep p5 (fun o e => up _ _ D.i1z e) fun o e => up _ _ D.l1z e) (W2.keep q5 (fun o e => up _ _ D.i2z e) fun o e => up _ _ D.l2z e) t8 n8 fun c o c1 c2 c3 c4 e => up c o c1 (kk c o c1 c2 c3 c4 e)
/-- the first way is at its end, as none is out -/
theorem way_end {Q : Option Value → Shared → Prop} (hh : A.handled = none) (W1 : Way prog w p l xs) (D : ZipApart z TI TO p q l m) (hz : IsZip s.heap z TI TO .none) (hI : IsPair s.heap TI (.ref p) (.ref q))
    (h1 : W1.st i s.heap) (hx : xs[i]? = none) (hQ : ∀ h', Kept4 z TO p q s.heap h' → Q none { s with heap := h' }) : wpAny (model prog w) A (pyNext (.ref z)) Q E s := by
  have ty : s.TypeIs (.ref z) "zip" := ⟨_, hz, rfl⟩
  unfold pyNext
  refine wpAny_bind (wpAny_attempt (wpAny_callSpecial?_slot (name := Str.ofString "__next__") ty F.slot_zip_next (wpAny_call_entry F.slot_zip_next ty F.entry_zip_next ?_ (F.args_zip_next_1 _))))
  show wpAny _ A.in1 (field (.ref z) 2 >>= _) _ _ s; refine wpAny_bind (wpAny_field (x := .bool false) hz rfl rfl ?_)
  show wpAny _ A.in1 (field (.ref z) 3 >>= _) _ _ s; refine wpAny_bind (wpAny_field (x := .ref TI) hz rfl rfl (wpAny_bind (wpAny_seqItems hI rfl ?_)))
  show wpAny _ A.in1 (Builtin.SmallTypes.ownedTupleIsFree (.ref z) >>= _) _ _ s
  refine wpAny_bind ?_
  unfold Builtin.SmallTypes.ownedTupleIsFree
  refine wpAny_bind (wpAny_field hz rfl (x := .none) rfl (wpAny_pure ?_))
  simp only [if_true]
  refine wpAny_bind (wpAny_rule (wpAny_bind (wpAny_field hz rfl (x := .ref TO) rfl (wpAny_bind (wpAny_setField_rec hz (by simp) fun g1 z1 k1 => ?_)))))
  replace z1 : IsZip g1 z TI TO .ellipsis := z1
  refine wpAny_bind ?_
  simp only [List.zipIdx_cons, List.zipIdx_nil, List.forIn_cons, List.forIn_nil]
  refine wpAny_bind (wpAny_bind (wpAny_onRaise ?_))
  show wpAny _ _ (Builtin.SmallTypes.nextOf (.ref p) >>= _) _ _ _
  refine wpAny_bind (W1.fin (s := { s with heap := g1 }) hh (W1.but h1 k1.extBut D.i1z D.l1z) hx fun g2 e k2 he => ?_)
  obtain ⟨oe, hoe, hce⟩ := he
  have z2 : IsZip g2 z TI TO .ellipsis := k2 _ _ D.i1z.symm z1
  have ez : e ≠ z := fun x => by
    subst x
    rw [z2] at hoe
    cases hoe
    simp at hce
  refine wpAny_setField_rec (s := { s with heap := g2 }) z2 (by simp) fun g3 _ k3 => ?_
  refine wpAny_bind (wpAny_isInstance (T := "StopIteration") (b := true) ⟨oe, k3.extBut _ _ ez hoe, hce⟩ isSubtype_stop (wpAny_pure (hQ _ fun c o c1 _ c3 _ e' => k3.extBut _ _ c1 (k2 _ _ c3 (k1.extBut _ _ c1 e')))))
/-- the next pair, as one is out still -/
theorem wayH_item {Q : Option Value → Shared → Prop} (W1 : Way prog w p l xs) (W2 : Way prog w q m ys) (D : ZipApart z TI TO p q l m) (hz : IsZipHeld s.heap z TI TO T f) (hT : s.heap.get? T = some oT) (hI : IsPair s.heap TI (.ref p) (.ref q))
    (h1 : W1.st i s.heap) (h2 : W2.st j s.heap) (hx : xs[i]? = some x) (hy : ys[j]? = some y)
    (hQ : ∀ h', IsZipHeld h' z TI TO T true → W1.st (i + 1) h' → W2.st (j + 1) h' → IsPair h' s.heap.objs.size x y → h'.objs.size = s.heap.objs.size + 1 → (∀ c o, c ≠ z → c ≠ p → c ≠ q → s.heap.get? c = some o → h'.get? c = some o) →
      Q (some (.ref s.heap.objs.size)) { s with heap := h' }) : wpAny (model prog w) A (pyNext (.ref z)) Q E s := by
  have ty : s.TypeIs (.ref z) "zip" := ⟨_, hz, rfl⟩
  unfold pyNext
  refine wpAny_bind (wpAny_attempt (wpAny_callSpecial?_slot (name := Str.ofString "__next__") ty F.slot_zip_next (wpAny_call_entry F.slot_zip_next ty F.entry_zip_next ?_ (F.args_zip_next_1 _))))
  show wpAny _ A.in1 (field (.ref z) 2 >>= _) _ _ s; refine wpAny_bind (wpAny_field (x := .bool false) hz rfl rfl ?_)
  show wpAny _ A.in1 (field (.ref z) 3 >>= _) _ _ s; refine wpAny_bind (wpAny_field (x := .ref TI) hz rfl rfl (wpAny_bind (wpAny_seqItems hI rfl ?_)))
  show wpAny _ A.in1 (Builtin.SmallTypes.ownedTupleIsFree (.ref z) >>= _) _ _ s; refine wpAny_bind (wpAny_tupleHeld_zip hz hT fun g1 z1 k1 => ?_)
  simp only [Bool.false_eq_true, if_false]; refine wpAny_bind ?_; rw [← Array.forIn_toList]; simp only [List.forIn_cons, List.forIn_nil]; refine wpAny_bind (wpAny_bind (wpAny_holding ?_))
  show wpAny _ A.in1 (Builtin.SmallTypes.nextOf (.ref p) >>= _) _ _ _
  refine wpAny_bind (W1.item (s := { s with heap := g1 }) (W1.but h1 k1.extBut D.i1z D.l1z) hx fun g2 p2 k2 => wpAny_pure (wpAny_pure ?_))
  refine wpAny_bind (wpAny_bind (wpAny_holding ?_)); show wpAny _ A.in1 (Builtin.SmallTypes.nextOf (.ref q) >>= _) _ _ _
  refine wpAny_bind (W2.item (s := { s with heap := g2 }) (W2.but (W2.but h2 k1.extBut D.i2z D.l2z) k2.extBut D.i12.symm D.l2i1) hy fun g3 q3 k3 => wpAny_pure (wpAny_pure (wpAny_pure ?_)))
  show wpAny _ A.in1 (newTuple [x, y] >>= _) _ _ _; refine wpAny_bind (wpAny_newTuple (wpAny_pure ⟨_, rfl, wpAny_pure ?_⟩))
  have n3 : g3.objs.size = s.heap.objs.size := by rw [k3.1, k2.1, k1.1]
  have z3 : IsZipHeld g3 z TI TO T true := k3.extBut _ _ D.i2z.symm (k2.extBut _ _ D.i1z.symm z1)
  have kk : ∀ c o, c ≠ z → c ≠ p → c ≠ q → s.heap.get? c = some o → g3.get? c = some o := fun c o e1 e2 e3 e => k3.extBut _ _ e3 (k2.extBut _ _ e2 (k1.extBut _ _ e1 e))
  have p3 : W1.st (i + 1) g3 := W1.but p2 k3.extBut D.i12 D.l1i2
  have nw : IsPair (g3.push { cls := .type "tuple", data := .seq #[x, y] }) g3.objs.size x y := Heap.get?_push_size _ rfl
  have n4 : (g3.push { cls := .type "tuple", data := .seq #[x, y] }).objs.size = g3.objs.size + 1 := Heap.size_push ..
  show Q (some (.ref g3.objs.size)) _
  rw [n3] at nw n4 ⊢
  exact hQ _ (Heap.get?_push_of_some _ z3) (W1.keep p3 (fun o e => Heap.get?_push_of_some _ e) fun o e => Heap.get?_push_of_some _ e) (W2.keep q3 (fun o e => Heap.get?_push_of_some _ e) fun o e => Heap.get?_push_of_some _ e) nw n4 fun c o e1 e2 e3 e => Heap.get?_push_of_some _ (kk c o e1 e2 e3 e)
theorem wayH_end {Q : Option Value → Shared → Prop} (hh : A.handled = none) (W1 : Way prog w p l xs) (D : ZipApart z TI TO p q l m) (hz : IsZipHeld s.heap z TI TO T f) (hT : s.heap.get? T = some oT) (hI : IsPair s.heap TI (.ref p) (.ref q)) (h1 : W1.st i s.heap)
    (hx : xs[i]? = none) (hQ : ∀ h', (∀ c o, c ≠ z → c ≠ p → s.heap.get? c = some o → h'.get? c = some o) → Q none { s with heap := h' }) : wpAny (model prog w) A (pyNext (.ref z)) Q E s := by
  have ty : s.TypeIs (.ref z) "zip" := ⟨_, hz, rfl⟩
  unfold pyNext
  refine wpAny_bind (wpAny_attempt (wpAny_callSpecial?_slot (name := Str.ofString "__next__") ty F.slot_zip_next (wpAny_call_entry F.slot_zip_next ty F.entry_zip_next ?_ (F.args_zip_next_1 _))))
  show wpAny _ A.in1 (field (.ref z) 2 >>= _) _ _ s; refine wpAny_bind (wpAny_field (x := .bool false) hz rfl rfl ?_)
  show wpAny _ A.in1 (field (.ref z) 3 >>= _) _ _ s; refine wpAny_bind (wpAny_field (x := .ref TI) hz rfl rfl (wpAny_bind (wpAny_seqItems hI rfl ?_)))
  show wpAny _ A.in1 (Builtin.SmallTypes.ownedTupleIsFree (.ref z) >>= _) _ _ s; refine wpAny_bind (wpAny_tupleHeld_zip hz hT fun g1 z1 k1 => ?_)
  simp only [Bool.false_eq_true, if_false]; refine wpAny_bind ?_; rw [← Array.forIn_toList]; simp only [List.forIn_cons, List.forIn_nil]; refine wpAny_bind (wpAny_bind (wpAny_holding ?_))
  show wpAny _ A.in1 (Builtin.SmallTypes.nextOf (.ref p) >>= _) _ _ _
  refine wpAny_bind (W1.fin (s := { s with heap := g1 }) hh (W1.but h1 k1.extBut D.i1z D.l1z) hx fun g2 e k2 he => ?_)
  obtain ⟨o, ho, hc⟩ := he
  exact wpAny_bind (wpAny_isInstance (T := "StopIteration") (b := true) ⟨o, ho, hc⟩ isSubtype_stop (wpAny_pure (hQ _ fun c o e1 e2 e => k2 _ _ e2 (k1.extBut _ _ e1 e))))
end
end Fl
/-! a zip of two ways drained into a list; tuple(zip(t, l)) of a tuple and a list -/
namespace Fl
open PySem PySem.Spec PyProof.Rows L2
section
variable {prog : Program} {w : World} {A : Around} {E : Value → Shared → Prop} {s : Shared} {z TI TO p q l m S : Addr} {i : Nat} {xs ys : Array Value} {x y : Value}
/-- a zip of two ways, i items out; S: the list that they are put in -/
def ZW (W1 : Way prog w p l xs) (W2 : Way prog w q m ys) (z TI TO S : Addr) (i : Nat) (h : Heap) : Prop :=
  IsPair h TI (.ref p) (.ref q) ∧ W1.st i h ∧ W2.st i h ∧ (∃ o, h.get? TO = some o) ∧ ((IsZip h z TI TO .none ∧ ∃ x y, IsPair h TO x y) ∨ ∃ T f oT, IsZipHeld h z TI TO T f ∧ h.get? T = some oT ∧ T ≠ z ∧ T ≠ p ∧ T ≠ q ∧ T ≠ S)
variable {W1 : Way prog w p l xs} {W2 : Way prog w q m ys}
theorem zw_item {Q : Option Value → Shared → Prop} (D : ZipApart z TI TO p q l m) (st : ZW W1 W2 z TI TO S i s.heap) (hS : S < s.heap.objs.size) (hx : xs[i]? = some x) (hy : ys[i]? = some y)
    (hQ : ∀ h', ZW W1 W2 z TI TO S (i + 1) h' → IsPair h' s.heap.objs.size x y → h'.objs.size = s.heap.objs.size + 1 → (∀ c o, c ∉ [z, TI, TO, p, q] → s.heap.get? c = some o → h'.get? c = some o) → Q (some (.ref s.heap.objs.size)) { s with heap := h' }) :
    wpAny (model prog w) A (pyNext (.ref z)) Q E s := by
  obtain ⟨hI, hp, hq, ⟨oO, hO⟩, st⟩ := st
  have lp : p < s.heap.objs.size := by obtain ⟨_, e⟩ := W1.live hp; exact Heap.lt_size e
  have lq : q < s.heap.objs.size := by obtain ⟨_, e⟩ := W2.live hq; exact Heap.lt_size e
  rcases st with ⟨hz, x0, y0, hTO⟩ | ⟨T, f, oT, hz, hT, t1, t2, t3, t4⟩
  · have lz : z < s.heap.objs.size := Heap.lt_size hz
    refine way_item W1 W2 D hz hI hTO hp hq hx hy fun h' z' TO' p' q' hT hsz hk => hQ h' ⟨hk _ _ D.TIz D.TITO D.TIi1 D.TIi2 hI, p', q', ⟨_, TO'⟩, .inr ⟨_, false, _, z', hT, Nat.ne_of_gt lz, Nat.ne_of_gt lp, Nat.ne_of_gt lq, Nat.ne_of_gt hS⟩⟩ hT hsz fun c o n e => hk c o ?_ ?_ ?_ ?_ e
    all_goals
      intro z1
      exact n (by simp [z1])
  · have lz : z < s.heap.objs.size := Heap.lt_size hz
    refine wayH_item W1 W2 D hz hT hI hp hq hx hy fun h' z' p' q' nT hsz hk => hQ h' ⟨hk _ _ D.TIz D.TIi1 D.TIi2 hI, p', q', ⟨_, hk _ _ D.TOz D.TOi1 D.TOi2 hO⟩, .inr ⟨T, true, oT, z', hk _ _ t1 t2 t3 hT, t1, t2, t3, t4⟩⟩ nT hsz fun c o n e => hk c o ?_ ?_ ?_ e
    all_goals
      intro z1
      exact n (by simp [z1])
theorem zw_end {Q : Option Value → Shared → Prop} (hh : A.handled = none) (D : ZipApart z TI TO p q l m) (st : ZW W1 W2 z TI TO S i s.heap) (hx : xs[i]? = none)
    (hQ : ∀ h', (∀ c o, c ∉ [z, TI, TO, p, q] → s.heap.get? c = some o → h'.get? c = some o) → Q none { s with heap := h' }) : wpAny (model prog w) A (pyNext (.ref z)) Q E s := by
  obtain ⟨hI, hp, hq, ⟨oO, hO⟩, st⟩ := st
  rcases st with ⟨hz, x0, y0, hTO⟩ | ⟨T, f, oT, hz, hT, t1, t2, t3, t4⟩
  · refine way_end hh W1 D hz hI hp hx fun h' hk => hQ h' fun c o n e => hk c o ?_ ?_ ?_ ?_ e
    all_goals
      intro z1
      exact n (by simp [z1])
  · refine wayH_end hh W1 D hz hT hI hp hx fun h' hk => hQ h' fun c o n e => hk c o ?_ ?_ e
    all_goals
      intro z1
      exact n (by simp [z1])
theorem ZW.keep {h h' : Heap} (st : ZW W1 W2 z TI TO S i h) (hn : ∀ c ∈ [z, TI, TO, p, q], c ≠ S) (n1 : l ≠ S) (n2 : m ≠ S) (k : ∀ c o, c ≠ S → h.get? c = some o → h'.get? c = some o) : ZW W1 W2 z TI TO S i h' := by
  obtain ⟨hI, hp, hq, ⟨oO, hO⟩, st⟩ := st
  refine ⟨k _ _ (hn _ (by simp)) hI, W1.keep hp (fun o e => k _ _ (hn _ (by simp)) e) (fun o e => k _ _ n1 e), W2.keep hq (fun o e => k _ _ (hn _ (by simp)) e) (fun o e => k _ _ n2 e), ⟨_, k _ _ (hn _ (by simp)) hO⟩, ?_⟩
  rcases st with ⟨hz, x0, y0, hTO⟩ | ⟨T, f, oT, hz, hT, t1, t2, t3, t4⟩
  · exact .inl ⟨k _ _ (hn _ (by simp)) hz, x0, y0, k _ _ (hn _ (by simp)) hTO⟩
  · exact .inr ⟨T, f, oT, k _ _ (hn _ (by simp)) hz, k _ _ t4 hT, t1, t2, t3, t4⟩
end
section
variable {X : Cx} {pins : List (Addr × Obj)} {σ : L2.St} {H H0 : Hp} {s : Shared} {z TI TO p q l m S : Addr} {its its2 : Array Value}
theorem drainW {v0 : Value} {W1 : Way X.prog X.w p l its} {W2 : Way X.prog X.w q m its2} {R : Result → Shared → Prop} {A : Around} {xs ys : List V} (hh : A.handled = none) (D : ZipApart z TI TO p q l m) (r1 : Vals xs its.toList) (r2 : Vals ys its2.toList) (z1 : xs.length ≤ sizeLine) (nl : l ≠ S) (nm : m ≠ S) (hl : xs.length = ys.length) (hn : ∀ c ∈ [z, TI, TO, p, q], c ≠ S)
    (hend : ∀ s' H' acc c Ts, Inv X pins σ H' s' → (∀ c ∈ [z, TI, TO, p, q, S], FpOk X pins H' c) → Same H0 H' → s'.heap.get? S = some (lstObj acc c) → Vals (Ts.map V.ref) acc.toList → Prs H' xs ys xs.length Ts → R (.ok (.ret v0)) s') :
    ∀ (n i : Nat) (s : Shared) (H : Hp) (acc : Array Value) (c : Nat) (Ts : List Addr), i + n = xs.length → Inv X pins σ H s → (∀ c ∈ [z, TI, TO, p, q, S], FpOk X pins H c) → Same H0 H → ZW W1 W2 z TI TO S i s.heap → s.heap.get? S = some (lstObj acc c) →
      Vals (Ts.map V.ref) acc.toList → Prs H xs ys i Ts → codeAny (model X.prog X.w) A (.builtin "list.extend.loop" ⟨[.ref S, .ref z, v0], []⟩) R s := by
  intro n
  induction n with
  | zero =>
    intro i s H acc c Ts hi I hf sm st hS rv pr
    have ei : i = xs.length := by omega
    subst ei
    refine codeAny_builtin F.entry_extend_loop ?_
    rw [Around.under_plainId F.plain_extend_loop _]
    show wpAny _ A.in1 (pyNext (.ref z) >>= fun _ => _) _ _ s
    refine wpAny_bind (zw_end (A := A.in1) hh D st ?_ fun h' hk => ?_)
    · rw [← Array.getElem?_toList]
      exact List.getElem?_eq_none (by rw [r1.length]; exact Nat.le_refl _)
    · have I2 : Inv X pins σ H { s with heap := h' } := I.turnedL (t' := s.toks) (ch := [z, TI, TO, p, q]) hk fun c hc => hf c (by
        simp only [List.mem_cons, List.not_mem_nil, or_false] at hc ⊢
        rcases hc with e | e | e | e | e <;> simp [e])
      refine wpAny_pure (hend _ H acc c Ts I2 hf sm (hk _ _ ?_ hS) rv pr)
      intro hc
      exact hn S hc rfl
  | succ n ih =>
    intro i s H acc c Ts hi I hf sm st hS rv pr
    have hi1 : i < xs.length := by omega
    have ex : xs[i]? = some xs[i] := List.getElem?_eq_getElem hi1
    have ey : ys[i]? = some (ys[i]'(by omega)) := List.getElem?_eq_getElem (by omega)
    obtain ⟨u, hu, ru⟩ := r1.get ex
    obtain ⟨u2, hu2, ru2⟩ := r2.get ey
    have lS : S < s.heap.objs.size := Heap.lt_size hS
    have sz : acc.size = i := by
      have z2 := rv.length
      rw [List.length_map, pr.1, Array.length_toList] at z2
      exact z2.symm
    have hxl : xs.length ≤ sizeLine := z1
    refine codeAny_builtin F.entry_extend_loop ?_
    rw [Around.under_plainId F.plain_extend_loop _]
    show wpAny _ A.in1 (pyNext (.ref z) >>= fun _ => _) _ _ s
    refine wpAny_bind (zw_item (A := A.in1) (x := u) (y := u2) D st lS (by rw [← Array.getElem?_toList]; exact hu) (by rw [← Array.getElem?_toList]; exact hu2) fun h' st' nT hsz hk => ?_)
    have hf5 : ∀ c ∈ [z, TI, TO, p, q], FpOk X pins H c := fun c hc => hf c (by
      simp only [List.mem_cons, List.not_mem_nil, or_false] at hc ⊢
      rcases hc with e | e | e | e | e <;> simp [e])
    have nH : H s.heap.objs.size = none := I.hok.fresh (Nat.le_refl _)
    have I1 : Inv X pins σ (upd H s.heap.objs.size (.tup [xs[i], ys[i]'(by omega)])) { s with heap := h' } :=
      I.turnedNew (t' := s.toks) (ch := [z, TI, TO, p, q]) hk hf5 (Nat.le_refl _) ⟨by show 2 ≤ sizeLine; decide, [u, u2], .cons ru (.cons ru2 .nil), ⟨_, nT, rfl, _, rfl⟩⟩
    have hS' : h'.get? S = some (lstObj acc c) := hk _ _ (fun hc => hn S hc rfl) hS
    have hf' : ∀ c ∈ [z, TI, TO, p, q, S], FpOk X pins (upd H s.heap.objs.size (.tup [xs[i], ys[i]'(by omega)])) c := fun c hc => by
      obtain ⟨g1, g2⟩ := hf c hc
      refine ⟨?_, g2⟩
      have lc : c < s.heap.objs.size := by
        obtain ⟨hI, h1, h2, ⟨_, e3⟩, st⟩ := st
        obtain ⟨_, e1⟩ := W1.live h1
        obtain ⟨_, e2⟩ := W2.live h2
        have lz : z < s.heap.objs.size := by
          rcases st with ⟨hz, _⟩ | ⟨_, _, _, hz, _⟩ <;> exact Heap.lt_size hz
        simp only [List.mem_cons, List.not_mem_nil, or_false] at hc
        rcases hc with e | e | e | e | e | e
        · rw [e]; exact lz
        · rw [e]; exact Heap.lt_size hI
        · rw [e]; exact Heap.lt_size e3
        · rw [e]; exact Heap.lt_size e1
        · rw [e]; exact Heap.lt_size e2
        · rw [e]; exact lS
      rw [upd_ne (Nat.ne_of_lt lc)]
      exact g1
    show wpAny _ A.in1 (updateSeq S (·.push (.ref s.heap.objs.size)) >>= fun _ => _) _ _ _
    refine wpAny_bind (wpAny_updateSeq hS' rfl (wpAny_pure ⟨plainId_quiet F.plain_extend_loop _, ?_⟩) (by omega) (by show (acc.push _).size ≤ sizeLine + 1; rw [Array.size_push]; omega))
    have up : ∀ c o, c ≠ S → h'.get? c = some o → (h'.update S (Obj.mapSeq (·.push (.ref s.heap.objs.size)))).get? c = some o := fun c o hc e => (Heap.get?_update_other _ _ (Ne.symm hc)).trans e
    obtain ⟨g0, g1, g2, g3, g4, g5⟩ := hf' S (by simp)
    have I2 : Inv X pins σ (upd H s.heap.objs.size (.tup [xs[i], ys[i]'(by omega)])) { s with heap := h'.update S (Obj.mapSeq (·.push (.ref s.heap.objs.size))) } := I1.turned (t' := s.toks) (fun b o hb e => up b o hb e) g0 g1 g3 g4 g5
    have sm1 : Same H (upd H s.heap.objs.size (.tup [xs[i], ys[i]'(by omega)])) := same_new nH _
    obtain ⟨c', eS⟩ : ∃ c', (h'.update S (Obj.mapSeq (·.push (.ref s.heap.objs.size)))).get? S = some (lstObj (acc.push (.ref s.heap.objs.size)) c') := ⟨_, Heap.get?_update_self _ hS' rfl⟩
    refine ih (i + 1) _ _ (acc.push (.ref s.heap.objs.size)) c' (Ts ++ [s.heap.objs.size]) (by omega) I2 hf' (sm.trans sm1) (st'.keep hn nl nm up) ?_ ?_ ?_
    · exact eS
    · rw [List.map_append, Array.toList_push]
      exact rv.append (.cons rfl .nil)
    · refine ⟨by rw [List.length_append, pr.1]; rfl, fun k T e => ?_⟩
      by_cases hk1 : k < Ts.length
      · rw [List.getElem?_append_left hk1] at e
        obtain ⟨x, y, e1, e2, e3⟩ := pr.2 k T e
        exact ⟨x, y, e1, e2, sm1 _ _ e3⟩
      · rw [List.getElem?_append_right (by omega)] at e
        have hk2 : k = Ts.length := by
          have := (List.getElem?_eq_some_iff.mp e).1
          simp at this
          omega
        rw [hk2, Nat.sub_self] at e
        cases e
        refine ⟨_, _, ?_, ?_, upd_same⟩
        · rw [hk2, pr.1]
          exact ex
        · rw [hk2, pr.1]
          exact ey
theorem collectW {W1 : Way X.prog X.w p l its} {W2 : Way X.prog X.w q m its2} {A : Around} {E : Value → Shared → Prop} {xs ys : List V} {Q : List Value → Shared → Prop} (hh : A.handled = none) (I : Inv X pins σ H s) (D : ZipApart z TI TO p q l m) (r1 : Vals xs its.toList) (r2 : Vals ys its2.toList)
    (zz : xs.length ≤ sizeLine) (hl : xs.length = ys.length) (ll : l < s.heap.objs.size) (lm : m < s.heap.objs.size) (hz : IsZip s.heap z TI TO .none) (hI : IsPair s.heap TI (.ref p) (.ref q)) (hTO : IsPair s.heap TO .none .none) (hp : W1.st 0 s.heap) (hq : W2.st 0 s.heap) (hf : ∀ c ∈ [z, TI, TO, p, q], FpOk X pins H c)
    (hQ : ∀ s' H' acc Ts, Inv X pins σ H' s' → Same H H' → Vals (Ts.map V.ref) acc → Prs H' xs ys xs.length Ts → Q acc s') : wpAny (model X.prog X.w) A (collect (.ref z)) Q E s := by
  have lz : z < s.heap.objs.size := Heap.lt_size hz
  have hsub : ∀ c ∈ [z, TI, TO, p, q], c ≠ s.heap.objs.size := fun c hc' => by
    obtain ⟨_, e1⟩ := W1.live hp
    obtain ⟨_, e2⟩ := W2.live hq
    have l1 := Heap.lt_size hI
    have l2 := Heap.lt_size hTO
    have l3 := Heap.lt_size e1
    have l4 := Heap.lt_size e2
    simp only [List.mem_cons, List.not_mem_nil, or_false] at hc'
    rcases hc' with e | e | e | e | e <;> rw [e] <;> exact Nat.ne_of_lt (by assumption)
  unfold collect
  refine wpAny_bind (wpAny_runValue (codeAny_builtin F.entry_proto_collect ?_))
  rw [Around.under_plainId F.plain_proto_collect _]
  show wpAny _ A.in1 (newList [] >>= fun l' => again (.builtin "list.__iadd__" ⟨[l', .ref z], []⟩)) _ _ s
  refine wpAny_bind (wpAny_newObj_type ?_)
  refine wpAny_pure ⟨plainId_quiet F.plain_list_iadd _, codeAny_builtin F.entry_list_iadd ?_⟩
  rw [Around.under_plainId F.plain_list_iadd _]
  have hS : (s.heap.push { cls := .type "list", data := .seq ([] : List Value).toArray }).get? s.heap.objs.size = some { cls := .type "list", data := .seq ([] : List Value).toArray } := Heap.get?_push_size _ rfl
  have k2 : ∀ b o, s.heap.get? b = some o → (s.heap.push { cls := .type "list", data := .seq ([] : List Value).toArray }).get? b = some o := fun b o e => Heap.get?_push_of_some _ e
  have zt : ∀ {g : Heap}, (∀ b o, s.heap.get? b = some o → g.get? b = some o) → Shared.TypeIs { s with heap := g } (.ref z) "zip" := fun k => ⟨_, k _ _ hz, rfl⟩
  have b1 : Builtin.List.listSameRef (.ref s.heap.objs.size) (.ref z) = false := by simp [Builtin.List.listSameRef, Nat.ne_of_gt lz]
  show wpAny _ A.in1 (Builtin.List.listExtendWith (.ref s.heap.objs.size) (.ref z) (.ref s.heap.objs.size)) _ _ _
  unfold Builtin.List.listExtendWith
  refine wpAny_bind (wpAny_typeOf (zt k2) ?_)
  have b2 : (Value.type "zip" == Value.type "list") = false := by decide
  have b3 : (Value.type "zip" == Value.type "tuple") = false := by decide
  simp only [b1, b2, b3, Bool.or_false, Bool.false_eq_true, if_false]
  refine wpAny_bind (wpAny_pyIter_zip (s := { s with heap := _ }) (k2 _ _ hz) ?_)
  refine wpAny_bind (wpAny_holding ?_)
  unfold Builtin.List.listLengthHint
  refine wpAny_bind (wpAny_specialOf (zt k2) zip_no_len ?_)
  show wpAny _ A.in1 (specialOf (Value.ref z) (Str.ofString "__length_hint__") >>= fun _ => _) _ _ _
  refine wpAny_bind (wpAny_specialOf (zt k2) zip_no_hint (wpAny_pure ?_))
  show wpAny _ A.in1 (rule "list.extend.makes-room" >>= fun _ => (Builtin.List.listTouch (.ref s.heap.objs.size) >>= fun _ => again (.builtin "list.extend.loop" ⟨[.ref s.heap.objs.size, .ref z, .ref s.heap.objs.size], []⟩))) _ _ _
  refine wpAny_bind (wpAny_rule (wpAny_bind ?_))
  show wpAny _ A.in1 (updateSeq s.heap.objs.size (·.push .none) >>= fun _ => updateSeq s.heap.objs.size (·.pop)) _ _ _
  have up : ∀ (g : Heap) (f : Obj → Obj), (∀ b o, s.heap.get? b = some o → g.get? b = some o) → ∀ b o, s.heap.get? b = some o → (g.update s.heap.objs.size f).get? b = some o := fun g f k b o e => (Heap.get?_update_other _ _ (Nat.ne_of_gt (Heap.lt_size e))).trans (k b o e)
  refine wpAny_bind (wpAny_updateSeq hS rfl ?_)
  have hS3 := Heap.get?_update_self (Obj.mapSeq (·.push Value.none)) hS rfl
  refine wpAny_updateSeq (hz := by seq_fits) hS3 rfl ?_
  have hS4 := Heap.get?_update_self (Obj.mapSeq (·.pop)) hS3 rfl
  have k4 := up _ (Obj.mapSeq (·.pop)) (up _ (Obj.mapSeq (·.push Value.none)) k2)
  refine wpAny_pure ⟨plainId_quiet F.plain_extend_loop _, ?_⟩
  have fS : FpOk X pins H s.heap.objs.size := I.fpOk (Nat.le_refl _) (I.hok.fresh (Nat.le_refl _))
  refine drainW (X := X) (v0 := .ref s.heap.objs.size) (W1 := W1) (W2 := W2) (A := A) (pins := pins) (σ := σ) (H0 := H) (S := s.heap.objs.size) hh D r1 r2 zz (Nat.ne_of_lt ll) (Nat.ne_of_lt lm) hl hsub (fun s' H' acc c Ts I' f' sm e rv pr => ?_) xs.length 0 _ H #[] _ [] (by omega) (I.kept (t' := s.toks) k4) ?_ (.refl _) ?_ hS4 .nil ⟨rfl, fun k T e => nomatch e⟩
  · show wpAny _ A (load s.heap.objs.size >>= _) _ _ s'
    refine wpAny_bind (wpAny_load e ?_)
    exact wpAny_pure (hQ s' H' acc.toList Ts I' sm rv pr)
  · intro c hc'
    by_cases ec : c = s.heap.objs.size
    · rw [ec]
      exact fS
    · refine hf c ?_
      simp only [List.mem_cons, List.not_mem_nil, or_false] at hc' ⊢
      rcases hc' with e | e | e | e | e | e
      · simp [e]
      · simp [e]
      · simp [e]
      · simp [e]
      · simp [e]
      · exact absurd e ec
  · exact ⟨k4 _ _ hI, W1.keep hp (fun o e => k4 _ o e) (fun o e => k4 _ o e), W2.keep hq (fun o e => k4 _ o e) (fun o e => k4 _ o e), ⟨_, k4 _ _ hTO⟩, .inl ⟨k4 _ _ hz, _, _, k4 _ _ hTO⟩⟩
end
end Fl
/-! zip(t, l) of a tuple and a list called; tuple(zip(t, l)) -/
namespace Fl
open PySem PySem.Spec PyProof.Rows L2
abbrev zm1 (h : Heap) (a : Addr) : Heap := h.push { cls := .type "tuple_iterator", data := .fields #[.ref a, .int 0 0] }
abbrev zm2 (h : Heap) (a b : Addr) : Heap := (zm1 h a).push { cls := .type "list_iterator", data := .fields #[.ref b, .int 0 0] }
abbrev zm3 (h : Heap) (a b : Addr) : Heap := (zm2 h a b).push { cls := .type "tuple", data := .seq #[.ref h.objs.size, .ref (zm1 h a).objs.size] }
abbrev zm4 (h : Heap) (a b : Addr) : Heap := (zm3 h a b).push { cls := .type "tuple", data := .seq #[.none, .none] }
abbrev zm5 (h : Heap) (a b : Addr) : Heap := (zm4 h a b).push { cls := .type "zip", data := .fields #[.none, .bool false, .bool false, .ref (zm2 h a b).objs.size, .ref (zm3 h a b).objs.size] }
theorem meets_zipM (a b : Addr) (xs ys : Array Value) :
    Meets (Builtin.«zip.__new__» ⟨[.type "zip", .ref a, .ref b], []⟩) (fun _ R s => s.heap.IsTuple a xs ∧ s.heap.IsList b ys ∧ R (.ok (.ret (.ref (zm4 s.heap a b).objs.size))) { s with heap := zm5 s.heap a b }) :=
  .of_wp fun prog w A R s h => by
    obtain ⟨hp, g, d, tk, os⟩ := s
    obtain ⟨hl1, hl2, h⟩ := h
    have hsub := sub_zip
    have hL1 : Heap.IsTuple (Shared.heap ⟨hp, g, d, tk, os⟩) a xs := hl1
    have hL2 : Heap.IsList (Shared.heap ⟨hp.push { cls := .type "tuple_iterator", data := .fields #[.ref a, .int 0 0] }, g, d, tk, os⟩) b ys := Heap.IsList.push hl2 _
    wp_walk using wpAny_pyIter_tuple hL1, wpAny_pyIter_list hL2
    exact ⟨_, rfl, h⟩
section
variable {prog : Program} {w : World} {A : Around} {E : Value → Shared → Prop} {s : Shared}
theorem call_zipM {a b : Addr} {xs ys : Array Value} {Q : Value → Shared → Prop} (h1 : s.heap.IsTuple a xs) (h2 : s.heap.IsList b ys)
    (h : ∀ h', IsZip h' (s.heap.objs.size + 4) (s.heap.objs.size + 2) (s.heap.objs.size + 3) .none → IsPair h' (s.heap.objs.size + 2) (.ref s.heap.objs.size) (.ref (s.heap.objs.size + 1)) → IsPair h' (s.heap.objs.size + 3) .none .none →
      h'.IsTupleIter s.heap.objs.size a 0 → h'.IsListIter (s.heap.objs.size + 1) b 0 → (∀ c o, s.heap.get? c = some o → h'.get? c = some o) → Q (.ref (s.heap.objs.size + 4)) { s with heap := h' }) :
    wpAny (model prog w) A (call (.type "zip") [.ref a, .ref b]) Q E s := by
  refine callType_new F.called_zip (by decide) (F.typeCall_zip_2 _ _) (F.newCall_zip_2 _ _) (fun obj => F.args_object_init_3 obj _ _) F.entry_zip_new (meets_zipM a b xs ys) ⟨h1, h2, ?_⟩
  have z1 : (zm1 s.heap a).objs.size = s.heap.objs.size + 1 := Heap.size_push ..
  have z2 : (zm2 s.heap a b).objs.size = s.heap.objs.size + 2 := by rw [Heap.size_push, z1]
  have z3 : (zm3 s.heap a b).objs.size = s.heap.objs.size + 3 := by rw [Heap.size_push, z2]
  have z4 : (zm4 s.heap a b).objs.size = s.heap.objs.size + 4 := by rw [Heap.size_push, z3]
  have up : ∀ {g : Heap} {o1 : Obj} {c : Addr} {o : Obj}, g.get? c = some o → (g.push o1).get? c = some o := fun e => Heap.get?_push_of_some _ e
  have g5 : (zm5 s.heap a b).get? (zm4 s.heap a b).objs.size = some _ := Heap.get?_push_size _ rfl
  have g4 : (zm5 s.heap a b).get? (zm3 s.heap a b).objs.size = some _ := up (Heap.get?_push_size _ rfl)
  have g3 : (zm5 s.heap a b).get? (zm2 s.heap a b).objs.size = some _ := up (up (Heap.get?_push_size _ rfl))
  have g2 : (zm5 s.heap a b).get? (zm1 s.heap a).objs.size = some _ := up (up (up (Heap.get?_push_size _ rfl)))
  have g1 : (zm5 s.heap a b).get? s.heap.objs.size = some _ := up (up (up (up (Heap.get?_push_size _ rfl))))
  show _ ∧ _
  rw [z2, z3, z4] at g5
  rw [z1, z2] at g3
  rw [z3] at g4
  rw [z1] at g2
  rw [z4]
  exact ⟨⟨_, g5, rfl⟩, h _ g5 g3 g4 ⟨_, g1, rfl, rfl⟩ ⟨_, g2, rfl, rfl⟩ fun c o x => up (up (up (up (up x))))⟩
end
section
variable {X : Cx} {pins : List (Addr × Obj)} {σ : L2.St} {H : Hp} {s : Shared} {z TI TO p q l m : Addr} {its its2 : Array Value}
theorem code_tupZip {W1 : Way X.prog X.w p l its} {W2 : Way X.prog X.w q m its2} {A : Around} {E : Value → Shared → Prop} {xs ys : List V} {Q : Value → Shared → Prop} (hh : A.handled = none) (I : Inv X pins σ H s) (D : ZipApart z TI TO p q l m) (r1 : Vals xs its.toList) (r2 : Vals ys its2.toList)
    (zz : xs.length ≤ sizeLine) (hl : xs.length = ys.length) (ll : l < s.heap.objs.size) (lm : m < s.heap.objs.size) (hz : IsZip s.heap z TI TO .none) (hI : IsPair s.heap TI (.ref p) (.ref q)) (hTO : IsPair s.heap TO .none .none) (hp : W1.st 0 s.heap) (hq : W2.st 0 s.heap) (hf : ∀ c ∈ [z, TI, TO, p, q], FpOk X pins H c)
    (hQ : ∀ s' H' acc Ts, Inv X pins σ H' s' → Same H H' → Vals (Ts.map V.ref) acc → Prs H' xs ys xs.length Ts → Q (.ref s'.heap.objs.size) { s' with heap := s'.heap.push { cls := .type "tuple", data := .seq acc.toArray } }) :
    codeAny (model X.prog X.w) A (.call (.builtin "tuple.__new__") ⟨[.type "tuple", .ref z], []⟩) (wants Q E) s := by
  refine codeAny_of_tree ?_
  show wpAny _ A.in1 (do checkBuiltinCall "tuple.__new__" ⟨[.type "tuple", .ref z], []⟩; again (.builtin "tuple.__new__" ⟨[.type "tuple", .ref z], []⟩)) _ _ s
  refine wpAny_bind (wpAny_of_eq (F.newCall_tuple_1 _) (wpAny_pure ⟨plainId_quiet F.plain_tuple_new _, codeAny_builtin F.entry_tuple_new ?_⟩))
  rw [Around.under_plainId F.plain_tuple_new _]
  have hsub := sub_tuple_self
  have hinit := init_tuple_lookup
  have hmh := madeHere_tuple
  have hT : s.TypeIs (.ref z) "zip" := ⟨_, hz, rfl⟩
  have hh1 : A.in1.handled = none := hh
  wp_walk using wpAny_typeOf hT, collectW (A := A.in1) (W1 := W1) (W2 := W2) hh1 I D r1 r2 zz hl ll lm hz hI hTO hp hq hf
  intro s' H' acc Ts I' sm rv pr
  show wpAny _ _ (Builtin.Tuple.tupleExact acc.toArray >>= fun v => ret v) _ _ _
  unfold Builtin.Tuple.tupleExact
  refine wpAny_bind (wpAny_newObj_type ?_ ?_)
  · exact wpAny_pure (hQ s' H' acc Ts I' sm rv pr)
  · show acc.toArray.size ≤ sizeLine
    have e := rv.length
    rw [List.length_map, pr.1] at e
    rw [List.size_toArray, ← e]
    exact zz
end
end Fl
/-! the expression tuple(zip(t, l)) -/
namespace Fl
open PySem PySem.Spec PyProof.Rows L2
def tTupZip (K : PySem.W.Frag) (ta : TA) : TE := fun σ H Q => ta σ H fun vs H1 => ∃ a b xs ys, vs = [.ref a, .ref b] ∧ SqT K H1 a xs ∧ SqL K H1 b ys ∧ xs.length = ys.length ∧ ∀ S Ts H', Same H1 H' → H' S = none → Prs H' xs ys xs.length Ts → Q (.ref S) (upd H' S (.tup (Ts.map V.ref)))
section
variable {X : Cx}
theorem pe_tupZip {e1 e2 : Expr} {ta : TA} {p p2 pos pos2 : Pos} (hg : Gl X "tuple") (hm : X.mg "tuple" = none) (hg2 : Gl X "zip") (hm2 : X.mg "zip" = none) (ha : PA X [e1, e2] ta) (hc : X.calm = true := by rfl)
    (hs : starEach [.Call (.Name "zip" p2) [e1, e2] [] pos2] X.env = [(false, eval (.Call (.Name "zip" p2) [e1, e2] [] pos2) X.env)] := by rfl) (hs2 : starEach [e1, e2] X.env = (false, eval e1 X.env) :: starEach [e2] X.env := by rfl) (hpl : (backTo pos2 (starEach [e2] X.env)).any (·.1) = false := by rfl) :
    PE X (.Call (.Name "tuple" p) [.Call (.Name "zip" p2) [e1, e2] [] pos2] [] pos) (tTupZip X.K ta) := by
  refine ⟨fun pins s σ H Q I h => Call_ (ld_blt I hg hm PyProof.Rows.boot_tuple (PyProof.Rows.callWith_type1 ?_ hs rfl))⟩
  rw [hs]
  show wpAny _ _ (spliced [(false, eval (.Call (.Name "zip" p2) [e1, e2] [] pos2) X.env)]) _ _ s
  refine Calls.spliced_cons (Call_ (ld_blt I hg2 hm2 PyProof.Rows.boot_zip (PyProof.Rows.callWith_type1 (thn (ha.run pos2 pins s σ H _ I h) fun us s1 ⟨vs, H1, I1, r1, q1⟩ => ?_) hs2 hpl)))
  obtain ⟨a, b, xs, ys, ex, hx, hy, hl, q⟩ := q1
  subst ex
  obtain ⟨u1, u2, rfl, r2, r3⟩ := vals2 r1
  cases (show u1 = Value.ref a from r2)
  cases (show u2 = Value.ref b from r3)
  obtain ⟨its, rv, p1, zz⟩ := I1.tuple hx
  obtain ⟨its2, rv2, p3, _⟩ := I1.list hy
  have t1 : s1.heap.IsTuple a its.toArray := p1
  have t2 := p3.isList
  obtain ⟨o1, ho1, _⟩ := id t1
  obtain ⟨o2, ho2, _⟩ := id t2
  have la := Heap.lt_size ho1
  have lb := Heap.lt_size ho2
  refine call_zipM t1 t2 fun h' hz hTI hTO h1 h2 hk => Calls.spliced_nil ?_
  have I2 : Inv X pins σ H1 { s1 with heap := h' } := I1.kept (t' := s1.toks) hk
  have fr : ∀ c ∈ [s1.heap.objs.size + 4, s1.heap.objs.size + 2, s1.heap.objs.size + 3, s1.heap.objs.size, s1.heap.objs.size + 1], FpOk X pins H1 c := fun c hcm => by
    have hle : s1.heap.objs.size ≤ c := by
      simp only [List.mem_cons, List.not_mem_nil, or_false] at hcm
      rcases hcm with e | e | e | e | e <;> rw [e]
      · exact Nat.le_add_right _ _
      · exact Nat.le_add_right _ _
      · exact Nat.le_add_right _ _
      · exact Nat.le_refl _
      · exact Nat.le_add_right _ _
    exact I1.fpOk hle (I1.hok.fresh hle)
  have t1' : h'.IsTuple a its.toArray := by
    obtain ⟨o, e, r⟩ := t1
    exact ⟨o, hk _ _ e, r⟩
  have t2' : h'.IsList b its2.toArray := by
    obtain ⟨o, e, r⟩ := t2
    exact ⟨o, hk _ _ e, r⟩
  have la' : a < h'.objs.size := by
    obtain ⟨o, e, _⟩ := t1'
    exact Heap.lt_size e
  have lb' : b < h'.objs.size := by
    obtain ⟨o, e, _⟩ := t2'
    exact Heap.lt_size e
  refine callType_codes (Q₁ := fun obj s₁ => s₁.TypeIs obj "tuple" ∧ EP X pins σ Q obj s₁) F.called_tuple (F.typeCall_tuple_1 _) F.entry_object_init
    (code_tupZip (X := X) (s := { s1 with heap := h' }) (W1 := wayT (Nat.ne_of_lt la)) (W2 := wayL (Nat.ne_of_lt (Nat.lt_succ_of_lt lb))) (A := X.A.in1) (I.ok.hd hc) I2 (PySem.W.ktu_apart s1.heap.objs.size a b la lb) rv rv2 zz hl la' lb' hz hTI hTO ⟨h1, t1'⟩ ⟨h2, t2'⟩ fr
      fun s' H' acc Ts I' sm rv' pr => ⟨⟨_, Heap.get?_push_size _ rfl, rfl⟩, .ref s'.heap.objs.size, upd H' s'.heap.objs.size (.tup (Ts.map V.ref)), I'.laid (t' := s'.toks) (fun c o e => Heap.get?_push_of_some _ e) (Nat.le_refl _) ⟨?_, acc, rv', ?_⟩, rfl, q _ Ts H' sm (I'.hok.fresh (Nat.le_refl _)) pr⟩) fun obj s₁ h₁ => ?_
  · rw [List.length_map, pr.1]
    exact zz
  · exact IsTup.new _ _
  · exact ⟨h₁.1, F.args_object_init_2 obj _, object_init_meets F.called_tuple.init.lookup F.called_tuple.made (by decide) X.prog X.w X.A.in1 _ s₁ ⟨h₁.1, rfl, h₁.2⟩⟩
end
end Fl
/-! a loop over zip(t, l) of a tuple and a list -/
namespace Fl
open PySem PySem.Spec PyProof.Rows L2
/-- the tuple at a and the list at b as they stand at each turn, the items in new pairs -/
def ItzM (K : PySem.W.Frag) (a b : Addr) : It :=
  ⟨fun i H => ∃ (xs ys : List V) (x y : V), SqT K H a xs ∧ SqL K H b ys ∧ xs[i]? = some x ∧ ys[i]? = some y,
    fun i H v H' => ∃ T x y, v = .ref T ∧ H T = none ∧ H' = upd H T (.tup [x, y]) ∧ (∀ xs, SqT K H a xs → xs[i]? = some x) ∧ ∀ ys, SqL K H b ys → ys[i]? = some y,
    fun i H => ∃ xs : List V, SqT K H a xs ∧ xs.length ≤ i⟩
theorem turn_zipM {P : Program} {w : World} {K : PySem.W.Frag} {elts : List Expr} {kk : Nat} {tpos : Pos} {a b z TI TO i1 i2 : Addr} (D : ZipApart z TI TO i1 i2 a b) :
    Turn P w K (.Tuple elts kk tpos) (ItzM K a b) [z, TI, TO, i1, i2] z (fun i h => IsZip h z TI TO .none ∧ IsPair h TI (.ref i1) (.ref i2) ∧ (∃ x y, IsPair h TO x y) ∧ h.IsTupleIter i1 a i ∧ h.IsListIter i2 b i) where
  mem := by simp
  obj := fun i h st c hc => by
    obtain ⟨hz, hTI, ⟨x, y, hTO⟩, ⟨o1, e1, _, d1⟩, ⟨o2, e2, _, d2⟩⟩ := st
    have e' : c = z ∨ c = TI ∨ c = TO ∨ c = i1 ∨ c = i2 := by simpa using hc
    rcases e' with q | q | q | q | q
    · rw [q]; exact ⟨_, hz, fun v q => nomatch q⟩
    · rw [q]; exact ⟨_, hTI, fun v q => nomatch q⟩
    · rw [q]; exact ⟨_, hTO, fun v q => nomatch q⟩
    · rw [q]; exact ⟨o1, e1, fun v q => by rw [d1] at q; cases q⟩
    · rw [q]; exact ⟨o2, e2, fun v q => by rw [d2] at q; cases q⟩
  keep := fun i h h' st k => by
    obtain ⟨hz, hTI, ⟨x, y, hTO⟩, h1, h2⟩ := st
    exact ⟨k z (by simp) _ hz, k TI (by simp) _ hTI, ⟨x, y, k TO (by simp) _ hTO⟩, h1.at fun o q => k i1 (by simp) o q, h2.at fun o q => k i2 (by simp) o q⟩
  item := by
    intro X hP hw hK hc i pins s σ H E I hf st hg
    subst hP hw hK
    obtain ⟨hz, hTI, ⟨x0, y0, hTO⟩, h1, h2⟩ := st
    obtain ⟨xs, ys, x, y, hqx, hqy, hx, hy⟩ := hg
    obtain ⟨its, rv, p, _⟩ := I.tuple hqx
    obtain ⟨its2, rv2, p2, _⟩ := I.list hqy
    obtain ⟨u, hu, ru⟩ := rv.get hx
    obtain ⟨u2, hu2, ru2⟩ := rv2.get hy
    have hzl : z < s.heap.objs.size := Heap.lt_size hz
    have t1 : s.heap.IsTuple a its.toArray := p
    refine way_item (wayT D.l1i1) (wayL D.l2i2) D hz hTI hTO ⟨h1, t1⟩ ⟨h2, p2.isList⟩ (x := u) (y := u2) (by simpa using hu) (by simpa using hu2) fun h' z' TO' h1' h2' hT hsz hk => ?_
    refine ⟨_, rfl, wpAny_letOwnedTupleGo_zip (s := { s with heap := h' }) z' fun h'' z'' sb => ?_⟩
    have hT2 : h''.get? s.heap.objs.size = some { cls := .type "tuple", data := .seq #[u, u2] } := (sb.2 _ (Nat.ne_of_gt hzl)).trans hT
    have new : ObjOk X.prog X.w (upd H s.heap.objs.size (.tup [x, y])) h'' s.heap.objs.size (.tup [x, y]) :=
      ⟨by show 2 ≤ sizeLine; decide, [u, u2], .cons ru (.cons ru2 .nil), ⟨_, hT2, rfl, _, rfl⟩⟩
    have I1 : Inv X pins σ (upd H s.heap.objs.size (.tup [x, y])) { s with heap := h'' } :=
      I.turnedNew (t' := s.toks) (ch := [z, TI, TO, i1, i2]) (fun c o hb q => (sb.2 c (fun q' => hb (by simp [q']))).trans (hk c o (fun q' => hb (by simp [q'])) (fun q' => hb (by simp [q'])) (fun q' => hb (by simp [q'])) (fun q' => hb (by simp [q'])) q)) hf (Nat.le_refl _) new
    refine ⟨.ref s.heap.objs.size, _, I1, rfl, ⟨_, x, y, rfl, I.hok.fresh (Nat.le_refl _), rfl, fun l hl => by rw [I.tuple_inj hl hqx]; exact hx, fun l hl => by rw [I.list_inj hl hqy]; exact hy⟩, ⟨z'', ?_, ⟨u, u2, ?_⟩, ?_, ?_⟩, fun c hcm => ?_⟩
    · exact (sb.2 _ D.TIz).trans (hk _ _ D.TIz D.TITO D.TIi1 D.TIi2 hTI)
    · exact (sb.2 _ D.TOz).trans TO'
    · exact h1'.1.at fun o q => (sb.2 _ D.i1z).trans q
    · exact h2'.1.at fun o q => (sb.2 _ D.i2z).trans q
    · have hlt : c < s.heap.objs.size := by
        have e' : c = z ∨ c = TI ∨ c = TO ∨ c = i1 ∨ c = i2 := by simpa using hcm
        rcases e' with q | q | q | q | q
        · rw [q]; exact hzl
        · rw [q]; exact Heap.lt_size hTI
        · rw [q]; exact Heap.lt_size hTO
        · rw [q]; obtain ⟨_, e1, _⟩ := h1; exact Heap.lt_size e1
        · rw [q]; obtain ⟨_, e2, _⟩ := h2; exact Heap.lt_size e2
      rw [upd_ne (Nat.ne_of_lt hlt)]
      exact (hf c hcm).1
  done := by
    intro X hP hw hK hc i pins s σ H E I hf st hg
    subst hP hw hK
    obtain ⟨hz, hTI, ⟨x0, y0, hTO⟩, h1, h2⟩ := st
    obtain ⟨xs, hqx, hend⟩ := hg
    obtain ⟨its, rv, p, _⟩ := I.tuple hqx
    have l1 := rv.length
    have t1 : s.heap.IsTuple a its.toArray := p
    exact way_end (I.ok.hd hc) (wayT D.l1i1) D hz hTI ⟨h1, t1⟩ (by simp; omega) fun h' hk => ⟨rfl, I.turnedL (t' := s.toks) (ch := [z, TI, TO, i1, i2]) (fun c o hb q =>
      hk c o (fun q' => hb (by simp [q'])) (fun q' => hb (by simp [q'])) (fun q' => hb (by simp [q'])) (fun q' => hb (by simp [q'])) q) hf⟩
  self := fun A i s Q E st h => wpAny_pyIter_zip st.1 h
def iZipM (K : PySem.W.Frag) (ta : TA) : TI := fun σ H R => ta σ H fun vs H1 => ∃ a b xs ys, vs = [.ref a, .ref b] ∧ SqT K H1 a xs ∧ SqL K H1 b ys ∧ R (ItzM K a b) H1
theorem pi_zipM {X : Cx} {e e2 : Expr} {ta : TA} {p pos tpos : Pos} {elts : List Expr} {kk : Nat} (hg : Gl X "zip") (hm : X.mg "zip" = none) (ha : PA X [e, e2] ta)
    (hs : starEach [e, e2] X.env = (false, eval e X.env) :: starEach [e2] X.env := by rfl) (hpl : (backTo pos (starEach [e2] X.env)).any (·.1) = false := by rfl) :
    PI X (.Tuple elts kk tpos) (.Call (.Name "zip" p) [e, e2] [] pos) (iZipM X.K ta) := by
  refine ⟨fun pins s σ H R I h => ?_⟩
  refine Call_ (ld_blt I hg hm PyProof.Rows.boot_zip (PyProof.Rows.callWith_type1 (thn (ha.run pos pins s σ H _ I h) fun us s1 ⟨vs, H1, I1, r1, q1⟩ => ?_) hs hpl))
  obtain ⟨a, b, xs, ys, ex, hqx, hqy, q⟩ := q1
  subst ex
  obtain ⟨u1, u2, rfl, r2, r3⟩ := vals2 r1
  cases (show u1 = Value.ref a from r2)
  cases (show u2 = Value.ref b from r3)
  have fr : ∀ c ∈ [s1.heap.objs.size + 4, s1.heap.objs.size + 2, s1.heap.objs.size + 3, s1.heap.objs.size, s1.heap.objs.size + 1], FpOk X pins H1 c := fun c hcm => by
    have hle : s1.heap.objs.size ≤ c := by
      simp only [List.mem_cons, List.not_mem_nil, or_false] at hcm
      rcases hcm with e | e | e | e | e <;> rw [e]
      · exact Nat.le_add_right _ _
      · exact Nat.le_add_right _ _
      · exact Nat.le_add_right _ _
      · exact Nat.le_refl _
      · exact Nat.le_add_right _ _
    exact I1.fpOk hle (I1.hok.fresh hle)
  obtain ⟨its, rv, p1, _⟩ := I1.tuple hqx
  obtain ⟨its2, rv2, p2, _⟩ := I1.list hqy
  have t1 : s1.heap.IsTuple a its.toArray := p1
  obtain ⟨o1, ho1, _⟩ := id t1
  obtain ⟨o2, ho2, _⟩ := id p2.isList
  refine call_zipM t1 p2.isList fun h' hz hTI hTO h1 h2 hk => wpAny_pyIter_zip hz ?_
  have I2 : Inv X pins σ H1 { s1 with heap := h' } := I1.kept (t' := s1.toks) hk
  exact ⟨s1.heap.objs.size + 4, [s1.heap.objs.size + 4, s1.heap.objs.size + 2, s1.heap.objs.size + 3, s1.heap.objs.size, s1.heap.objs.size + 1], _, _, H1, rfl, I2, turn_zipM (PySem.W.ktu_apart s1.heap.objs.size a b (Heap.lt_size ho1) (Heap.lt_size ho2)), ⟨hz, hTI, ⟨_, _, hTO⟩, h1, h2⟩, fr, q⟩
/-- a loop over zip of a tuple and a list of one length -/
theorem for_zipM {K : PySem.W.Frag} {a b : Addr} {xs ys : List V} {g : TG} {tb : TS} {D : Ends} {σ : L2.St} {H : Hp} (hl : xs.length = ys.length) (Pv : Nat → L2.St → Hp → Prop) (h0 : Pv 0 σ H) (hq : ∀ i σ H, Pv i σ H → SqT K H a xs ∧ SqL K H b ys)
    (hs : ∀ (i : Nat) (x y : V) (T : Addr) (σ : L2.St) (H : Hp), xs[i]? = some x → ys[i]? = some y → Pv i σ H → H T = none → g (.ref T) σ (upd H T (.tup [x, y])) fun σ2 H2 => tb { D with nx := Pv (i + 1), ct := Pv (i + 1), bk := D.nx } σ2 H2) (hd : ∀ σ H, Pv xs.length σ H → D.nx σ H) :
    ∃ W : Nat → Nat → L2.St → Hp → Prop, (∃ m, W 0 m σ H) ∧ ∀ i m σ H, W i m σ H →
      ((ItzM K a b).stop i H ∧ D.nx σ H) ∨ ((ItzM K a b).go i H ∧ ∃ N : L2.St → Hp → Prop, (∀ σ' H', N σ' H' → ∃ m', m' < m ∧ W (i + 1) m' σ' H') ∧ ∀ v H', (ItzM K a b).yld i H v H' → g v σ H' fun σ2 H2 => tb { D with nx := N, ct := N, bk := D.nx } σ2 H2) := by
  refine ⟨fun i m σ H => m = xs.length - i ∧ i ≤ xs.length ∧ Pv i σ H, ⟨xs.length, rfl, Nat.zero_le _, h0⟩, ?_⟩
  rintro i m σ H ⟨rfl, hi, p⟩
  obtain ⟨qx, qy⟩ := hq i σ H p
  by_cases hlt : i < xs.length
  · have hx : xs[i]? = some xs[i] := List.getElem?_eq_getElem hlt
    have hlt2 : i < ys.length := by omega
    have hy : ys[i]? = some ys[i] := List.getElem?_eq_getElem hlt2
    refine .inr ⟨⟨xs, ys, _, _, qx, qy, hx, hy⟩, Pv (i + 1), fun σ' H' p' => ⟨xs.length - (i + 1), by omega, rfl, hlt, p'⟩, fun v H' y => ?_⟩
    obtain ⟨T, x', y', rfl, hT, rfl, f1, f2⟩ := y
    exact hs i x' y' T σ H (f1 xs qx) (f2 ys qy) p hT
  · have e : i = xs.length := by omega
    subst e
    exact .inl ⟨⟨xs, qx, Nat.le_refl _⟩, hd σ H p⟩
end Fl
/-! t[::-1] of a tuple -/
namespace Fl
open PySem PySem.Spec PyProof.Rows L2
theorem adjust_rev (n : Nat) : Builtin.Slice.sliceAdjust none none (-1) (n : Int) = ((n : Int) - 1, -1) := by
  simp [Builtin.Slice.sliceAdjust]
theorem places_rev (n : Nat) : Builtin.Slice.slicePlaces ((n : Int) - 1) (-1) (-1) = n := by
  unfold Builtin.Slice.slicePlaces
  simp
  omega
theorem fm_congr {α β : Type} {f g : α → Option β} : ∀ {l : List α}, (∀ x, x ∈ l → f x = g x) → l.filterMap f = l.filterMap g
  | [], _ => rfl
  | a :: r, h => by
    rw [List.filterMap_cons, List.filterMap_cons, h a (.head _), fm_congr fun x m => h x (.tail _ m)]
theorem pick_rev (its : List Value) : ((List.range its.length).filterMap fun (k : Nat) => its.toArray[((its.length : Int) - 1 + (k : Int) * (-1)).toNat]?) = its.reverse := by
  have h : ∀ k, k ∈ List.range its.length → its.toArray[((its.length : Int) - 1 + (k : Int) * (-1)).toNat]? = its.reverse[k]? := fun k hk => by
    have lt : k < its.length := List.mem_range.mp hk
    rw [List.getElem?_toArray, List.getElem?_reverse lt]
    congr 1
    omega
  rw [fm_congr h]
  have z := List.length_reverse (as := its)
  generalize its.reverse = r at z
  rw [← z]
  clear h z
  induction r with
  | nil => rfl
  | cons a r ih =>
    rw [List.length_cons, List.range_succ_eq_map, List.filterMap_cons, List.filterMap_map]
    simp only [Function.comp_def, List.getElem?_cons_succ, List.getElem?_cons_zero]
    exact congrArg (a :: ·) ih
section
variable {prog : Program} {w : World} {A : Around} {E : Value → Shared → Prop} {s : Shared}
theorem sliceApplied_rev {sl : Addr} {vl vu vs : Value} {n : Nat} {Q : Int × Int × Nat → Shared → Prop} (hs : s.heap.IsSliceOf sl vl vu vs) (pl : IsPart vl none) (pu : IsPart vu none) (ps : IsPart vs (some (-1)))
    (h : Q ((n : Int) - 1, -1, n) s) : wpAny (model prog w) A (Builtin.Slice.sliceApplied (.ref sl) (pure (n : Int))) Q E s := by
  obtain ⟨os, hos, hcs, hds⟩ := id hs
  unfold Builtin.Slice.sliceApplied Builtin.Slice.sliceFields
  refine wpAny_bind (wpAny_bind (wpAny_field hos hds (x := vl) rfl (wpAny_bind (wpAny_field hos hds (x := vu) rfl (wpAny_bind (wpAny_field hos hds (x := vs) rfl (wpAny_pure ?_)))))))
  refine wpAny_bind (HT.slicePart_ ps ?_)
  show wpAny _ _ (if ((-1 : Int) == 0) = true then _ else _) _ _ s
  rw [if_neg (by decide)]
  refine wpAny_bind (HT.slicePart_ pl (wpAny_bind (HT.slicePart_ pu (wpAny_bind (wpAny_pure ?_)))))
  show wpAny _ _ (match Builtin.Slice.sliceAdjust none none (-1) (n : Int) with | (lo, hi) => pure (lo, (-1 : Int), Builtin.Slice.slicePlaces lo hi (-1))) _ _ s
  rw [adjust_rev n]
  show wpAny _ _ (pure ((n : Int) - 1, (-1 : Int), Builtin.Slice.slicePlaces ((n : Int) - 1) (-1) (-1))) _ _ s
  rw [places_rev]
  exact wpAny_pure h
theorem getItem_tuple_rev {t sl : Addr} {its : List Value} {vl vu vs : Value} {Q : Value → Shared → Prop} (ht : IsTup s.heap t its.toArray) (hs : s.heap.IsSliceOf sl vl vu vs) (pl : IsPart vl none) (pu : IsPart vu none) (ps : IsPart vs (some (-1)))
    (h : Q (.ref s.heap.objs.size) { s with heap := s.heap.push { cls := .type "tuple", data := .seq its.reverse.toArray } }) (hsz : its.length ≤ sizeLine) : wpAny (model prog w) A (getItem (.ref t) (.ref sl)) Q E s := by
  obtain ⟨os, hos, hcs, hds⟩ := id hs
  have hTs : s.TypeIs (.ref sl) "slice" := ⟨os, hos, hcs⟩
  unfold getItem
  try with_reducible refine wpAny_holding ?_
  first | refine wpAny_bind (wpAny_pure ?_) | skip
  refine wpAny_bind (wpAny_sequenceKey ht.typeIs (by decide) ?_)
  refine wpAny_bind (wpAny_callSpecial?_slot (name := Str.ofString "__getitem__") ht.typeIs PyProof.Rows.slot_tuple_getitem
    (wpAny_call_entry PyProof.Rows.slot_tuple_getitem ht.typeIs entry_tuple_getitem ?_ (args_tuple_getitem _ _)))
  show wpAny _ _ (Builtin.Tuple.tupleItemsOf (.ref t) >>= _) _ _ s
  refine wpAny_bind (tupleItemsOf_ ht ?_)
  refine wpAny_bind (wpAny_typeOf hTs ?_)
  rw [if_pos (by decide)]
  refine wpAny_bind (sliceApplied_rev (n := its.toArray.size) hs pl pu ps ?_)
  have hno : ¬ (((((its.toArray.size : Nat) : Int) - 1) == 0 && (-1 : Int) == 1 && its.toArray.size == its.toArray.size) = true) := by
    rw [show ((-1 : Int) == 1) = false from rfl, Bool.and_false, Bool.false_and]
    exact Bool.false_ne_true
  show wpAny _ _ (if ((((its.toArray.size : Nat) : Int) - 1) == 0 && (-1 : Int) == 1 && its.toArray.size == its.toArray.size) = true then _ else _) _ _ s
  rw [if_neg hno]
  have e := pick_rev its
  rw [show its.length = its.toArray.size from (List.size_toArray ..).symm] at e
  rw [e]
  first
    | exact wpAny_bind (m := Builtin.Tuple.tupleExact _) (wpAny_newObj_type (wpAny_pure ⟨_, rfl, wpAny_pure h⟩) (by show its.reverse.toArray.size ≤ sizeLine; rw [List.size_toArray, List.length_reverse]; exact hsz))
    | exact wpAny_bind (m := Builtin.Tuple.tupleExact _) (wpAny_newObj_type (wpAny_bind (wpAny_pure (wpAny_pure ⟨_, rfl, wpAny_pure h⟩))) (by show its.reverse.toArray.size ≤ sizeLine; rw [List.size_toArray, List.length_reverse]; exact hsz))
    | exact wpAny_bind (wpAny_bind (m := Builtin.Tuple.tupleExact _) (wpAny_newObj_type (wpAny_pure ⟨_, rfl, wpAny_pure h⟩) (by show its.reverse.toArray.size ≤ sizeLine; rw [List.size_toArray, List.length_reverse]; exact hsz)))
end
section
variable {X : Cx}
def tRevT (K : PySem.W.Frag) (te : TE) : TE := fun σ H Q => te σ H fun x H1 => ∃ a xs, x = .ref a ∧ SqT K H1 a xs ∧ ∀ p, H1 p = none → Q (.ref p) (upd H1 p (.tup xs.reverse))
theorem pe_revT {e : Expr} {te : TE} {k : Nat} {p1 p2 p3 pos : Pos} (he : PE X e te) : PE X (.Subscript e (.Slice none none (some (.UnaryOp .USub (.Constant (.int 1) k p1) p2)) p3) pos) (tRevT X.K te) := by
  refine ⟨fun pins s σ H Q I h => ?_⟩
  refine Subscript_ (thn (he.run pins s σ H _ I h) fun v s1 ⟨x, H1, I1, r1, q1⟩ => ?_)
  obtain ⟨a, xs, ex, hx, q⟩ := q1
  subst ex
  cases r1
  have hst : PO X (some (.UnaryOp .USub (.Constant (.int 1) k p1) p2)) (tPart (tUn (rU fun i => .int (-i)) (tC (.int 1)))) := po_some (pe_un un_neg pe_int)
  refine wpAny_Slice (thn (po_none.run pins s1 σ H1 (fun o H2 => o = none ∧ H2 = H1) I1 ⟨rfl, rfl⟩) fun vl s2 ⟨l, H2, I2, pl, el, e2⟩ => ?_)
  subst el e2
  refine thn (po_none.run pins s2 σ H2 (fun o H3 => o = none ∧ H3 = H2) I2 ⟨rfl, rfl⟩) fun vu s3 ⟨u, H3, I3, pu, eu, e3⟩ => ?_
  subst eu e3
  refine thn (hst.run pins s3 σ H3 (fun o H4 => o = some (-1) ∧ H4 = H3) I3 ⟨1, rfl, -1, rfl, rfl, rfl⟩) fun vs s4 ⟨o, H4, I4, ps, eo, e4⟩ => ?_
  subst eo e4
  have I5 : Inv X pins σ H4 { s4 with heap := s4.heap.push { cls := .type "slice", data := .fields #[vl, vu, vs] } } := I4.kept (t' := s4.toks) fun b ob q => Heap.get?_push_of_some _ q
  obtain ⟨its, r, ht, hz⟩ := I5.tuple hx
  have hlen := r.length
  show wpAny (model X.prog X.w) X.A (subscriptTail e (.Slice none none (some (.UnaryOp .USub (.Constant (.int 1) k p1) p2)) p3) (.ref a) (.ref s4.heap.objs.size)) (EP X pins σ Q) X.xe { s4 with heap := s4.heap.push { cls := .type "slice", data := .fields #[vl, vu, vs] } }
  refine tail_any (ops := [.ref a, .ref s4.heap.objs.size]) ht.typeIs (PyProof.Rows.slot_tuple_getitem.lookup) ?_ (by with_unfolding_all rfl)
  refine getItem_tuple_rev ht (Heap.IsSliceOf.new _ vl vu vs) pl pu ps ?_ (by omega)
  refine ⟨.ref _, _, I5.laid (t' := s4.toks) (o := .tup xs.reverse) (fun b ob q => Heap.get?_push_of_some _ q) (Nat.le_refl _) ?_, rfl, q _ (I5.hok.fresh (Nat.le_refl _))⟩
  exact ⟨by rw [List.length_reverse]; exact hz, _, r.reverse, IsTup.new _ _⟩
end
end Fl
/-! names bound, as a row of pairs -/
namespace Fl
open PySem PySem.Spec PyProof.Rows L2
def pairsTh (ns vs : List Th) : List Th := List.zipWith (fun x v => Th.tup [x, v]) ns vs
theorem bindAll_eq : ∀ (ns vs sc : List Th), ns.length = vs.length → bindAll ns vs sc = (pairsTh ns vs).reverse ++ sc
  | [], [], sc, _ => rfl
  | x :: xs, v :: vs, sc, h => by
    rw [bindAll, bindAll_eq xs vs _ (by simpa using h)]
    show _ = ((Th.tup [x, v]) :: pairsTh xs vs).reverse ++ sc
    rw [List.reverse_cons, List.append_assoc]
    rfl
theorem wos_rev {M : Option Addr} {G : Hp} : ∀ {xs : List V} {ts : List Th}, Wos M G xs ts → Wos M G xs.reverse ts.reverse
  | _, _, .nil => .nil
  | _, _, .cons h r => by
    rw [List.reverse_cons, List.reverse_cons]
    exact (wos_rev r).app (.one h)
/-- the new pairs of a zip are the pairs of what they are told as -/
theorem prs_wos {M : Option Addr} {G H' : Hp} : ∀ {xs ys : List V} {ns vs : List Th} {Ts : List Addr}, Same G H' → Wos M G xs ns → Wos M G ys vs → Ts.length = xs.length → xs.length = ys.length →
    (∀ (k : Nat) (T : Addr), Ts[k]? = some T → ∃ x y, xs[k]? = some x ∧ ys[k]? = some y ∧ H' T = some (.tup [x, y])) → Wos M H' (Ts.map V.ref) (pairsTh ns vs)
  | [], [], _, _, [], _, .nil, .nil, _, _, _ => .nil
  | x :: xs, y :: ys, _, _, T :: Ts, sm, .cons hx rx, .cons hy ry, h1, h2, h => by
    obtain ⟨a, b, e1, e2, e3⟩ := h 0 T rfl
    cases e1
    cases e2
    exact .cons (.tup e3 (.cons (hx.same sm) (.one (hy.same sm)))) (prs_wos sm rx ry (by simpa using h1) (by simpa using h2) fun k T' e => h (k + 1) T' e)
end Fl
/-! tuple(zip(l, m)) of two lists -/
namespace Fl
open PySem PySem.Spec PyProof.Rows L2
abbrev zl1 (h : Heap) (a : Addr) : Heap := h.push { cls := .type "list_iterator", data := .fields #[.ref a, .int 0 0] }
abbrev zl2 (h : Heap) (a b : Addr) : Heap := (zl1 h a).push { cls := .type "list_iterator", data := .fields #[.ref b, .int 0 0] }
abbrev zl3 (h : Heap) (a b : Addr) : Heap := (zl2 h a b).push { cls := .type "tuple", data := .seq #[.ref h.objs.size, .ref (zl1 h a).objs.size] }
abbrev zl4 (h : Heap) (a b : Addr) : Heap := (zl3 h a b).push { cls := .type "tuple", data := .seq #[.none, .none] }
abbrev zl5 (h : Heap) (a b : Addr) : Heap := (zl4 h a b).push { cls := .type "zip", data := .fields #[.none, .bool false, .bool false, .ref (zl2 h a b).objs.size, .ref (zl3 h a b).objs.size] }
theorem meets_zipLL (a b : Addr) (xs ys : Array Value) :
    Meets (Builtin.«zip.__new__» ⟨[.type "zip", .ref a, .ref b], []⟩) (fun _ R s => s.heap.IsList a xs ∧ s.heap.IsList b ys ∧ R (.ok (.ret (.ref (zl4 s.heap a b).objs.size))) { s with heap := zl5 s.heap a b }) :=
  .of_wp fun prog w A R s h => by
    obtain ⟨hp, g, d, tk, os⟩ := s
    obtain ⟨hl1, hl2, h⟩ := h
    have hsub := sub_zip
    have hL1 : Heap.IsList (Shared.heap ⟨hp, g, d, tk, os⟩) a xs := hl1
    have hL2 : Heap.IsList (Shared.heap ⟨hp.push { cls := .type "list_iterator", data := .fields #[.ref a, .int 0 0] }, g, d, tk, os⟩) b ys := Heap.IsList.push hl2 _
    wp_walk using wpAny_pyIter_list hL1, wpAny_pyIter_list hL2
    exact ⟨_, rfl, h⟩
section
variable {prog : Program} {w : World} {A : Around} {E : Value → Shared → Prop} {s : Shared}
theorem call_zipLL {a b : Addr} {xs ys : Array Value} {Q : Value → Shared → Prop} (h1 : s.heap.IsList a xs) (h2 : s.heap.IsList b ys)
    (h : ∀ h', IsZip h' (s.heap.objs.size + 4) (s.heap.objs.size + 2) (s.heap.objs.size + 3) .none → IsPair h' (s.heap.objs.size + 2) (.ref s.heap.objs.size) (.ref (s.heap.objs.size + 1)) → IsPair h' (s.heap.objs.size + 3) .none .none →
      h'.IsListIter s.heap.objs.size a 0 → h'.IsListIter (s.heap.objs.size + 1) b 0 → (∀ c o, s.heap.get? c = some o → h'.get? c = some o) → Q (.ref (s.heap.objs.size + 4)) { s with heap := h' }) :
    wpAny (model prog w) A (call (.type "zip") [.ref a, .ref b]) Q E s := by
  refine callType_new F.called_zip (by decide) (F.typeCall_zip_2 _ _) (F.newCall_zip_2 _ _) (fun obj => F.args_object_init_3 obj _ _) F.entry_zip_new (meets_zipLL a b xs ys) ⟨h1, h2, ?_⟩
  have z1 : (zl1 s.heap a).objs.size = s.heap.objs.size + 1 := Heap.size_push ..
  have z2 : (zl2 s.heap a b).objs.size = s.heap.objs.size + 2 := by rw [Heap.size_push, z1]
  have z3 : (zl3 s.heap a b).objs.size = s.heap.objs.size + 3 := by rw [Heap.size_push, z2]
  have z4 : (zl4 s.heap a b).objs.size = s.heap.objs.size + 4 := by rw [Heap.size_push, z3]
  have up : ∀ {g : Heap} {o1 : Obj} {c : Addr} {o : Obj}, g.get? c = some o → (g.push o1).get? c = some o := fun e => Heap.get?_push_of_some _ e
  have g5 : (zl5 s.heap a b).get? (zl4 s.heap a b).objs.size = some _ := Heap.get?_push_size _ rfl
  have g4 : (zl5 s.heap a b).get? (zl3 s.heap a b).objs.size = some _ := up (Heap.get?_push_size _ rfl)
  have g3 : (zl5 s.heap a b).get? (zl2 s.heap a b).objs.size = some _ := up (up (Heap.get?_push_size _ rfl))
  have g2 : (zl5 s.heap a b).get? (zl1 s.heap a).objs.size = some _ := up (up (up (Heap.get?_push_size _ rfl)))
  have g1 : (zl5 s.heap a b).get? s.heap.objs.size = some _ := up (up (up (up (Heap.get?_push_size _ rfl))))
  show _ ∧ _
  rw [z2, z3, z4] at g5
  rw [z1, z2] at g3
  rw [z3] at g4
  rw [z1] at g2
  rw [z4]
  exact ⟨⟨_, g5, rfl⟩, h _ g5 g3 g4 ⟨_, g1, rfl, rfl⟩ ⟨_, g2, rfl, rfl⟩ fun c o x => up (up (up (up (up x))))⟩
end
def tTupZipL (K : PySem.W.Frag) (ta : TA) : TE := fun σ H Q => ta σ H fun vs H1 => ∃ a b xs ys, vs = [.ref a, .ref b] ∧ SqL K H1 a xs ∧ SqL K H1 b ys ∧ xs.length = ys.length ∧ ∀ S Ts H', Same H1 H' → H' S = none → Prs H' xs ys xs.length Ts → Q (.ref S) (upd H' S (.tup (Ts.map V.ref)))
section
variable {X : Cx}
theorem pe_tupZipL {e1 e2 : Expr} {ta : TA} {p p2 pos pos2 : Pos} (hg : Gl X "tuple") (hm : X.mg "tuple" = none) (hg2 : Gl X "zip") (hm2 : X.mg "zip" = none) (ha : PA X [e1, e2] ta) (hc : X.calm = true := by rfl)
    (hs : starEach [.Call (.Name "zip" p2) [e1, e2] [] pos2] X.env = [(false, eval (.Call (.Name "zip" p2) [e1, e2] [] pos2) X.env)] := by rfl) (hs2 : starEach [e1, e2] X.env = (false, eval e1 X.env) :: starEach [e2] X.env := by rfl) (hpl : (backTo pos2 (starEach [e2] X.env)).any (·.1) = false := by rfl) :
    PE X (.Call (.Name "tuple" p) [.Call (.Name "zip" p2) [e1, e2] [] pos2] [] pos) (tTupZipL X.K ta) := by
  refine ⟨fun pins s σ H Q I h => Call_ (ld_blt I hg hm PyProof.Rows.boot_tuple (PyProof.Rows.callWith_type1 ?_ hs rfl))⟩
  rw [hs]
  show wpAny _ _ (spliced [(false, eval (.Call (.Name "zip" p2) [e1, e2] [] pos2) X.env)]) _ _ s
  refine Calls.spliced_cons (Call_ (ld_blt I hg2 hm2 PyProof.Rows.boot_zip (PyProof.Rows.callWith_type1 (thn (ha.run pos2 pins s σ H _ I h) fun us s1 ⟨vs, H1, I1, r1, q1⟩ => ?_) hs2 hpl)))
  obtain ⟨a, b, xs, ys, ex, hx, hy, hl, q⟩ := q1
  subst ex
  obtain ⟨u1, u2, rfl, r2, r3⟩ := vals2 r1
  cases (show u1 = Value.ref a from r2)
  cases (show u2 = Value.ref b from r3)
  obtain ⟨its, rv, p1, zz⟩ := I1.list hx
  obtain ⟨its2, rv2, p3, _⟩ := I1.list hy
  have t1 := p1.isList
  have t2 := p3.isList
  obtain ⟨o1, ho1, _⟩ := id t1
  obtain ⟨o2, ho2, _⟩ := id t2
  have la := Heap.lt_size ho1
  have lb := Heap.lt_size ho2
  refine call_zipLL t1 t2 fun h' hz hTI hTO h1 h2 hk => Calls.spliced_nil ?_
  have I2 : Inv X pins σ H1 { s1 with heap := h' } := I1.kept (t' := s1.toks) hk
  have fr : ∀ c ∈ [s1.heap.objs.size + 4, s1.heap.objs.size + 2, s1.heap.objs.size + 3, s1.heap.objs.size, s1.heap.objs.size + 1], FpOk X pins H1 c := fun c hcm => by
    have hle : s1.heap.objs.size ≤ c := by
      simp only [List.mem_cons, List.not_mem_nil, or_false] at hcm
      rcases hcm with e | e | e | e | e <;> rw [e]
      · exact Nat.le_add_right _ _
      · exact Nat.le_add_right _ _
      · exact Nat.le_add_right _ _
      · exact Nat.le_refl _
      · exact Nat.le_add_right _ _
    exact I1.fpOk hle (I1.hok.fresh hle)
  have t1' : h'.IsList a its.toArray := by
    obtain ⟨o, e, r⟩ := t1
    exact ⟨o, hk _ _ e, r⟩
  have t2' : h'.IsList b its2.toArray := by
    obtain ⟨o, e, r⟩ := t2
    exact ⟨o, hk _ _ e, r⟩
  have la' : a < h'.objs.size := by
    obtain ⟨o, e, _⟩ := t1'
    exact Heap.lt_size e
  have lb' : b < h'.objs.size := by
    obtain ⟨o, e, _⟩ := t2'
    exact Heap.lt_size e
  refine callType_codes (Q₁ := fun obj s₁ => s₁.TypeIs obj "tuple" ∧ EP X pins σ Q obj s₁) F.called_tuple (F.typeCall_tuple_1 _) F.entry_object_init
    (code_tupZip (X := X) (s := { s1 with heap := h' }) (W1 := wayL (Nat.ne_of_lt la)) (W2 := wayL (Nat.ne_of_lt (Nat.lt_succ_of_lt lb))) (A := X.A.in1) (I.ok.hd hc) I2 (PySem.W.ktu_apart s1.heap.objs.size a b la lb) rv rv2 zz hl la' lb' hz hTI hTO ⟨h1, t1'⟩ ⟨h2, t2'⟩ fr
      fun s' H' acc Ts I' sm rv' pr => ⟨⟨_, Heap.get?_push_size _ rfl, rfl⟩, .ref s'.heap.objs.size, upd H' s'.heap.objs.size (.tup (Ts.map V.ref)), I'.laid (t' := s'.toks) (fun c o e => Heap.get?_push_of_some _ e) (Nat.le_refl _) ⟨?_, acc, rv', ?_⟩, rfl, q _ Ts H' sm (I'.hok.fresh (Nat.le_refl _)) pr⟩) fun obj s₁ h₁ => ?_
  · rw [List.length_map, pr.1]
    exact zz
  · exact IsTup.new _ _
  · exact ⟨h₁.1, F.args_object_init_2 obj _, object_init_meets F.called_tuple.init.lookup F.called_tuple.made (by decide) X.prog X.w X.A.in1 _ s₁ ⟨h₁.1, rfl, h₁.2⟩⟩
end
end Fl
namespace Fl
open PySem PySem.Spec PyProof.Rows L2
abbrev s_law_all : Stmt := top 41
theorem sc_law_all : FnScope ["_law_state_here", "_law_parts", "_law_scope", "_law_limit", "_law_found", "_law_part_here"] ["_law_state_here", "_law_parts", "_law_scope", "_law_limit"] (defScope s_law_all) := ⟨rfl, rfl, rfl, by decide +kernel, rfl, by decide +kernel, by decide +kernel⟩
abbrev s_law_done : Stmt := top 44
theorem sc_law_done : FnScope ["_law_state_here", "_law_word", "_law_worths", "_law_one", "_law_other", "_law_found", "_law_is_good"] ["_law_state_here", "_law_word", "_law_worths"] (defScope s_law_done) := ⟨rfl, rfl, rfl, by decide +kernel, rfl, by decide +kernel, by decide +kernel⟩
abbrev s_law_form : Stmt := top 45
theorem sc_law_form : FnScope ["_law_state_here", "_law_word", "_law_rest", "_law_scope", "_law_limit", "_law_worth", "_law_worths"] ["_law_state_here", "_law_word", "_law_rest", "_law_scope", "_law_limit"] (defScope s_law_form) := ⟨rfl, rfl, rfl, by decide +kernel, rfl, by decide +kernel, by decide +kernel⟩
abbrev s_law_call : Stmt := top 46
theorem sc_law_call : FnScope ["_law_state_here", "_law_function", "_law_worths", "_law_limit", "_law_names", "_law_body", "_law_scope", "_law_own", "_law_name", "_law_worth"] ["_law_state_here", "_law_function", "_law_worths", "_law_limit"] (defScope s_law_call) := ⟨rfl, rfl, rfl, by decide +kernel, rfl, by decide +kernel, by decide +kernel⟩
abbrev s_law_reckon : Stmt := top 47
theorem sc_law_reckon : FnScope ["_law_state_here", "_law_part_here", "_law_scope", "_law_limit", "_law_found", "_law_worths", "_law_name", "_law_worth"] ["_law_state_here", "_law_part_here", "_law_scope", "_law_limit"] (defScope s_law_reckon) := ⟨rfl, rfl, rfl, by decide +kernel, rfl, by decide +kernel, by decide +kernel⟩
abbrev s_law_floor : Stmt := top 48
theorem sc_law_floor : FnScope ["_law_state_here", "_law_program", "_law_limit", "_law_since", "_law_worth", "_law_end"] ["_law_state_here", "_law_program", "_law_limit"] (defScope s_law_floor) := ⟨rfl, rfl, rfl, by decide +kernel, rfl, by decide +kernel, by decide +kernel⟩
structure Okk (d : Addr) (G H : Hp) (n lim : Int) : Prop where
  g : Same G H
  gd : G d = none
  ld : Ld d n "" H
  n0 : 0 ≤ n
  nl : n ≤ lim
  ll : lim ≤ 100000
theorem Okk.stp {d : Addr} {G H G' H' : Hp} {n m lim : Int} (o : Okk d G H n lim) (s : Stp d G H G' H') (ld : Ld d m "" H') (h1 : n ≤ m) (h2 : m ≤ lim) : Okk d G' H' m lim :=
  ⟨s.gh, s.nw d o.gd (by rw [o.ld]; exact fun z => nomatch z), ld, by have := o.n0; omega, h2, o.ll⟩
def ScW (M : Option Addr) (G : Hp) (s : V) (sc : List Th) : Prop := ∃ sa xs, s = .ref sa ∧ G sa = some (.tup xs) ∧ Wos M G xs sc ∧ sc.all isPair = true ∧ sc.length ≤ 200001
theorem ScW.same {M : Option Addr} {G G' : Hp} {s : V} {sc : List Th} (h : ScW M G s sc) (e : Same G G') : ScW M G' s sc := by
  obtain ⟨a, xs, h1, h2, h3, h4⟩ := h
  exact ⟨a, xs, h1, e _ _ h2, h3.same e, h4⟩
def PostR (d : Addr) (G H : Hp) (Q : VK) : Res → Prop
  | .val t m => ∀ u G' H', Stp d G H G' H' → Ld d m "" H' → Wo none G' u t → Q u H'
  | .stop e m => ∀ u G' H', Stp d G H G' H' → Ld d m e H' → Q u H'
def PostS (d : Addr) (G H : Hp) (Q : VK) : Ress → Prop
  | .vals l m => ∀ D ys G' H', Stp d G H G' H' → Ld d m "" H' → H' D = some (.lst ys) → G' D = none → D ≠ d → Wos none G' ys l → Q (.ref D) H'
  | .stop e m => ∀ u G' H', Stp d G H G' H' → Ld d m e H' → Q u H'
theorem PostR.back {d : Addr} {G H G1 H1 : Hp} {Q : VK} {r : Res} (s : Stp d G H G1 H1) (p : PostR d G H Q r) : PostR d G1 H1 Q r := by
  cases r with
  | val t m => exact fun u G' H' s' l w => p u G' H' (s.trans s') l w
  | stop e m => exact fun u G' H' s' l => p u G' H' (s.trans s') l
theorem stp_mut {d D : Addr} {G H G' H' : Hp} (s : Stp d G H G' H') (hD : H D = none) (gD : G' D = none) (o : HO) : Stp d G H G' (upd H' D o) := by
  refine ⟨s.gg, fun b u e => ?_, fun b u n e => ?_, s.nw, fun b e => ?_⟩
  · rw [upd_ne (ne_of_none e gD)]
    exact s.gh _ _ e
  · rw [upd_ne (ne_of_none e hD)]
    exact s.fr _ _ n e
  · by_cases hb : b = D
    · rw [hb, upd_same]
      exact fun z => nomatch z
    · rw [upd_ne hb]
      exact s.ex _ e
def Ress.pre (us : List Th) : Ress → Ress
  | .vals l m => .vals (us ++ l) m
  | .stop e m => .stop e m
theorem evs_cons (f : Nat) (p : Th) (ps sc : List Th) (lim n : Int) : evs f (p :: ps) sc lim n = match ev f p sc lim n with
    | some (.val t m) => (match evs f ps sc lim m with
      | some (.vals l m') => some (.vals (t :: l) m')
      | some (.stop e m') => some (.stop e m')
      | none => none)
    | some (.stop e m) => some (.stop e m)
    | none => none := by
  rw [evs] <;> rfl
theorem pair_of {M : Option Addr} {G : Hp} {v : V} {t : Th} (h : Wo M G v t) (e : isPair t = true) : ∃ p x u tv, v = .ref p ∧ G p = some (.tup [.str x, u]) ∧ t = .tup [.str x, tv] ∧ wordB x = true ∧ Wo M G u tv := by
  cases h with
  | bl b => cases e
  | int i => cases e
  | str x hx => cases e
  | fn _ => cases e
  | rcf _ => cases e
  | tup ht hts =>
    cases hts with
    | nil => cases e
    | cons h1 r =>
      cases r with
      | nil => cases h1 <;> cases e
      | cons h2 r2 =>
        cases r2 with
        | cons _ _ => cases h1 <;> cases e
        | nil =>
          cases h1 with
          | str x hx => exact ⟨_, x, _, _, rfl, ht, rfl, hx, h2⟩
          | bl b => cases e
          | int i => cases e
          | tup _ _ => cases e
          | fn _ => cases e
          | rcf _ => cases e
theorem looks_app (x : Str) (a b : List Th) : looks x (a ++ b) = looks x a ++ looks x b := List.filterMap_append
def spReckon (f : Nat) : Sp := sp4 fun v p s l H Q _ => ∃ d G n lim t sc r, v = .ref d ∧ l = .int lim ∧ Okk d G H n lim ∧ Wo none G p t ∧ ScW none G s sc ∧ ev f t sc lim n = some r ∧ PostR d G H Q r
def spAll (f : Nat) : Sp := sp4 fun v p s l H Q _ => ∃ d G n lim a xs ts sc r, v = .ref d ∧ l = .int lim ∧ Okk d G H n lim ∧ p = .ref a ∧ G a = some (.tup xs) ∧ Wos none G xs ts ∧ ScW none G s sc ∧ ts.length ≤ 100001 ∧ evs f ts sc lim n = some r ∧ PostS d G H Q r
def spForm (f : Nat) : Sp := fun vs H Q _ => ∃ d G n lim w a xs ts s sc r, vs = [.ref d, .str w, .ref a, s, .int lim] ∧ Okk d G H n lim ∧ G a = some (.tup xs) ∧ Wos none G xs ts ∧ ScW none G s sc ∧ isForm w = true ∧ evForm f w ts sc lim n = some r ∧ PostR d G H Q r
def spCallL (f : Nat) : Sp := sp4 fun v p s l H Q _ => ∃ d G n lim t D ys ws r, v = .ref d ∧ l = .int lim ∧ Okk d G H n lim ∧ Wo none G p t ∧ s = .ref D ∧ H D = some (.lst ys) ∧ Wos none G ys ws ∧ evCall f (t :: ws) lim n = some r ∧ PostR d G H Q r
def spFloor (f : Nat) : Sp := sp3 fun v p l H Q _ => ∃ d G n lim t r, v = .ref d ∧ l = .int lim ∧ Okk d G H n lim ∧ Wo none G p t ∧ Res.told n (ev f t [] lim n) = some r ∧ PostR d G H Q r
def spDone : Sp := sp3 fun v b p H Q _ => ∃ d G n w D ys ws, v = .ref d ∧ b = .str w ∧ p = .ref D ∧ Same G H ∧ G d = none ∧ Ld d n "" H ∧ H D = some (.lst ys) ∧ Wos none G ys ws ∧ w ∈ doneWs ∧ formCount w = some ws.length ∧ doneG w ws = true ∧ PostR d G H Q ((doneBy w ws).at n)
section
variable {P : Program} {w : World} {K : PySem.W.Frag} {mg : Str → Option Value} {base : Heap}
theorem ok_law_all {L f : Nat} (F : FnP K mg "_law_all" s_law_all) (B_law_reckon : Cg P w K mg base L "_law_reckon" ["_law_state_here", "_law_part_here", "_law_scope", "_law_limit"] (spReckon f)) : Cg P w K mg base (L + 1) "_law_all" ["_law_state_here", "_law_parts", "_law_scope", "_law_limit"] (spAll f) := by
  refine cg_mk F sc_law_all (fun _ _ _ _ _ _ us hl => match us, hl with | [_, _, _, _], _ => rfl) (fun vs H Q E h => by obtain ⟨_, _, _, _, rfl, _⟩ := h; rfl) fun cdv A outer s H vs Q E hr hg h => ?_
  obtain ⟨_, _, s, _, rfl, d, G, n, lim, a, xs, ts, sc, r, rfl, rfl, ok, rfl, ha, hx, hs, tl, he, q⟩ := h
  refine ⟨_, PSs.nox (pss_cons (ps_set (i := 4) sc_law_all.nd rfl (Or.inl rfl) (pe_lst pa_nil)) (pss_cons (ps_for PassesOwn.never rfl (pi_tup (pv 1)) (pg_name (i := 5) sc_law_all.nd rfl (Or.inl rfl)) (pss_one (ps_if (pt_cmpR op_eq (pe_dget (hu_of hr) (pv 0) pe_str (fun _ _ => rfl)) pe_str (nomark _)) (pss_one (ps_expr (pe_bm PySem.F.plainAttrs_list PySem.F.slot_list_append PySem.F.type_list_append mt_append (pv 4) (pa_cons (pe_g B_law_reckon hr hg (by omega) rfl passL (pa_cons (pv 0) (pa_cons (pv 5) (pa_cons (pv 2) (pa_cons (pv 3) pa_nil))))) pa_nil)))) pss_nil))) (pss_one (ps_ret (pv 4))))), ?_⟩
  have ln := hx.len
  have dne : ∀ {Hh : Hp} {m : Int} {e : Str} {D : Addr}, Ld d m e Hh → Hh D = none → D ≠ d := fun h z e => by
    rw [e, h] at z
    cases z
  refine ⟨(by decide), fun D nD => ?_⟩
  have s0 := stp_same (d := d) ok.g (same_new nD (.lst []))
  have nDd := dne ok.ld nD
  refine ⟨_, rfl, a, rfl, ⟨_, SqT.of (s0.gh _ _ ha)⟩, ?_⟩
  refine for_it walk_tup (fun i σ H' => ∃ o5 G' m ys, σ = [some (.ref d), some (.ref a), some s, some (.int lim), some (.ref D), o5] ∧ Stp d G H G' H' ∧ G' D = none ∧ H' D = some (.lst ys) ∧ ys.length ≤ i ∧ i ≤ ts.length ∧
    ((∃ us rr, Ld d m "" H' ∧ n ≤ m ∧ m ≤ lim ∧ Wos none G' ys us ∧ evs f (ts.drop i) sc lim m = some rr ∧ r = rr.pre us) ∨ ∃ e, Ld d m e H' ∧ e ≠ "" ∧ r = .stop e m))
    ⟨none, G, n, [], rfl, s0, same_free ok.g nD, upd_same, Nat.le_refl _, Nat.zero_le _, .inl ⟨[], r, (same_new nD (.lst [])) _ _ ok.ld, Int.le_refl _, ok.nl, .nil, he, by cases r <;> rfl⟩⟩
    (fun _ _ _ _ z => by obtain ⟨_, _, _, _, _, z, _⟩ := z; exact SqT.of (z.gh _ _ (z.gg _ _ ha))) ?_ ?_
  · rintro i y σ H1 H2 hi ⟨o5, G', m, ys, rfl, r1, r2, r3, r4, r5, r6⟩ ⟨rfl, hy⟩
    obtain ⟨t1, e1, g1⟩ := hx.get hy
    have li : i < ts.length := by omega
    have dc : ts.drop i = t1 :: ts.drop (i + 1) := by
      rw [List.drop_eq_getElem_cons li]
      rw [List.getElem?_eq_getElem li] at e1
      rw [Option.some.inj e1]
    rcases r6 with ⟨us, rr, k1, k2, k3, k4, k5, k6⟩ | ⟨e, k1, k2, k3⟩
    · refine ⟨_, rfl, d, _, rfl, DGet.k (k := kEnd) k1, rfl, _, rfl, ?_⟩
      refine iteT ⟨_, rfl, .inl ⟨rfl, _, .inl (.inl r3)⟩, ?_⟩
      have ok1 := ok.stp r1 k1 k2 k3
      rw [dc, evs_cons] at k5
      cases ev1 : ev f t1 sc lim m with
      | none => rw [ev1] at k5; cases k5
      | some q1 =>
        rw [ev1] at k5
        have fit := ev_fits f _ _ _ _ _ k3 ev1
        refine ⟨_, rfl, _, rfl, _, rfl, _, rfl, _, _, _, _, rfl, d, G', m, lim, t1, sc, q1, rfl, rfl, ok1, g1.same r1.gg, hs.same r1.gg, ev1, ?_⟩
        have d3 : D ≠ d := fun z => by rw [z, k1] at r3; cases r3
        cases q1 with
        | val t2 m2 =>
          intro u G2 H3 s3 l3 w3
          have e3 := s3.fr _ _ d3 r3
          refine ⟨D, _, _, rfl, rfl, e3, by rw [sizeLine_eq]; omega, ?_⟩
          have gD2 := s3.nw _ r2 (by rw [r3]; exact fun z => nomatch z)
          simp only at k5
          cases ev2 : evs f (ts.drop (i + 1)) sc lim m2 with
          | none => rw [ev2] at k5; cases k5
          | some q2 =>
            rw [ev2] at k5
            refine ⟨_, G2, m2, ys ++ [u], rfl, stp_mut (r1.trans s3) nD gD2 _, gD2, upd_same, by rw [List.length_append, List.length_singleton]; omega, li, .inl ⟨us ++ [t2], q2, ?_, by have := fit.1; omega, fit.2, (k4.same s3.gg).app (.one w3), ev2, ?_⟩⟩
            · show upd H3 D _ d = _
              rw [upd_ne d3.symm]
              exact l3
            · rw [k6]
              cases q2 with
              | vals l m' => cases k5; show Ress.vals (us ++ t2 :: l) m' = Ress.vals ((us ++ [t2]) ++ l) m'; rw [List.append_assoc]; rfl
              | stop e m' => cases k5; rfl
        | stop e2 m2 =>
          intro u G2 H3 s3 l3
          have e3 := s3.fr _ _ d3 r3
          refine ⟨D, _, _, rfl, rfl, e3, by rw [sizeLine_eq]; omega, ?_⟩
          have gD2 := s3.nw _ r2 (by rw [r3]; exact fun z => nomatch z)
          cases k5
          refine ⟨_, G2, m2, ys ++ [u], rfl, stp_mut (r1.trans s3) nD gD2 _, gD2, upd_same, by rw [List.length_append, List.length_singleton]; omega, li, .inr ⟨e2, ?_, endWs_ne fit.2.2, k6⟩⟩
          show upd H3 D _ d = _
          rw [upd_ne d3.symm]
          exact l3
    · refine ⟨_, rfl, d, _, rfl, DGet.k (k := kEnd) k1, rfl, _, rfl, ?_⟩
      rw [decide_eq_false (fun z => k2 (by injection z))]
      exact iteF ⟨_, G', m, ys, rfl, r1, r2, r3, by omega, li, .inr ⟨e, k1, k2, k3⟩⟩
  · rintro σ H1 ⟨o5, G', m, ys, rfl, r1, r2, r3, r4, r5, r6⟩
    rcases r6 with ⟨us, rr, k1, k2, k3, k4, k5, k6⟩ | ⟨e, k1, k2, k3⟩
    · rw [ln, List.drop_length, evs] at k5
      cases k5
      rw [k6] at q
      refine ⟨_, rfl, q D ys G' H1 r1 k1 r3 r2 (fun z => by rw [z, k1] at r3; cases r3) ?_⟩
      rw [List.append_nil]
      exact k4
    · rw [k3] at q
      exact ⟨_, rfl, q _ G' H1 r1 k1⟩

theorem ite_ff {c : Bool} {A B : Prop} (h : c = false) (b : B) : if c = true then A else B := by
  rw [h]
  exact iteF b
theorem ite_tt {c : Bool} {A B : Prop} (h : c = true) (a : A) : if c = true then A else B := by
  rw [h]
  exact iteT a
theorem str_ne {a b : Str} (h : a ≠ b) : decide (V.str a = V.str b) = false := decide_eq_false fun z => h (by injection z)
theorem str_eq {a b : Str} (h : a = b) : decide (V.str a = V.str b) = true := decide_eq_true (by rw [h])
theorem wo_end {M : Option Addr} {G : Hp} {e : Str} (h : e ∈ endWs) : Wo M G (.str e) (.str e) := .str e (endWs_word h)
theorem wo_steps {M : Option Addr} {G : Hp} {n m lim : Int} (h0 : 0 ≤ n) (h1 : n ≤ m) (h2 : m ≤ lim) (h3 : lim ≤ 100000) : Wo M G (.int (m - n)) (.int (m - n)) := .int _ (by
  unfold numB
  rw [decide_eq_true (by omega), decide_eq_true (by omega)]
  rfl)
theorem ok_law_floor {L f : Nat} (F : FnP K mg "_law_floor" s_law_floor) (B_law_reckon : Cg P w K mg base L "_law_reckon" ["_law_state_here", "_law_part_here", "_law_scope", "_law_limit"] (spReckon f)) : Cg P w K mg base (L + 1) "_law_floor" ["_law_state_here", "_law_program", "_law_limit"] (spFloor f) := by
  refine cg_mk F sc_law_floor (fun _ _ _ _ _ _ us hl => match us, hl with | [_, _, _], _ => rfl) (fun vs H Q E h => by obtain ⟨_, _, _, rfl, _⟩ := h; rfl) fun cdv A outer s H vs Q E hr hg h => ?_
  obtain ⟨_, pv0, _, rfl, d, G, n, lim, t, r, rfl, rfl, ok, hp, he, q⟩ := h
  refine ⟨_, PSs.nox (pss_cons (ps_set (i := 3) sc_law_floor.nd rfl (Or.inl rfl) (pe_dget (hu_of hr) (pv 0) pe_str (fun _ _ => rfl))) (pss_cons (ps_set (i := 4) sc_law_floor.nd rfl (Or.inl rfl) (pe_g B_law_reckon hr hg (by omega) rfl passL (pa_cons (pv 0) (pa_cons (pv 1) (pa_cons (pe_tup pa_nil) (pa_cons (pv 2) pa_nil)))))) (pss_cons (ps_set (i := 5) sc_law_floor.nd rfl (Or.inl rfl) (pe_dget (hu_of hr) (pv 0) pe_str (fun _ _ => rfl))) (pss_cons (ps_dput (hu_of hr) (pv 0) pe_str pe_str rfl) (pss_one (ps_ret (pe_tup (pa_cons (pe_ifExp (pt_cmpR op_eq (pv 5) pe_str (nomark _)) pe_str (pv 5)) (pa_cons (pe_ifExp (pt_cmpR op_eq (pv 5) pe_str (nomark _)) (pv 4) (pe_tup pa_nil)) (pa_cons (pe_op op_sub (pe_dget (hu_of hr) (pv 0) pe_str (fun _ _ => rfl)) (pv 3)) pa_nil)))))))))), ?_⟩
  cases ev1 : ev f t [] lim n with
  | none => rw [ev1] at he; cases he
  | some r0 =>
    rw [ev1] at he
    have fit := ev_fits f _ _ _ _ _ ok.nl ev1
    refine ⟨_, rfl, d, _, rfl, DGet.k (k := kSteps) ok.ld, _, rfl, _, rfl, (by decide), fun p np => ?_⟩
    have s0 := stp_new (d := d) ok.g np (.tup [])
    have l0 : Ld d n "" (upd H p (.tup [])) := (same_new np _) _ _ ok.ld
    have ok0 := ok.stp s0 l0 (Int.le_refl _) ok.nl
    refine ⟨_, rfl, _, _, _, _, rfl, d, _, n, lim, t, [], r0, rfl, rfl, ok0, hp.same s0.gg, ⟨p, [], rfl, upd_same, .nil, rfl, by decide⟩, ev1, ?_⟩
    cases r0 with
    | val t1 m =>
      intro u G1 H1 s1 l1 w1
      cases he
      have s2 := stp_put (d := d) s1.gh (s1.nw d ok0.gd (by rw [ok0.ld]; exact fun z => nomatch z)) (.dK [(kSteps, .int m), (kEnd, .str "")]) (H := H1)
      refine ⟨_, rfl, d, _, rfl, DGet.k (k := kEnd) l1, _, rfl, d, _, rfl, DPut.k (k := kEnd) l1 (by show 2 < sizeLine; decide), ?_⟩
      rw [put_end]
      have l2 : Ld d m "" (upd H1 d (.dK [(kSteps, .int m), (kEnd, .str "")])) := upd_same
      refine ⟨_, rfl, rfl, _, rfl, ite_tt (str_eq rfl) ⟨_, rfl, rfl, _, rfl, ite_tt (str_eq rfl) ⟨_, rfl, _, rfl, d, _, rfl, DGet.k (k := kSteps) l2, _, rfl, _, _, rfl, rfl, s3, fun p2 np2 => ?_⟩⟩⟩
      have s39 := stp_new (d := d) s2.gh np2 (.tup [.str "over", u, .int (m - n)])
      refine q _ _ _ (((s0.trans s1).trans s2).trans s39) ((same_new np2 _) _ _ l2) (.tup upd_same (.cons (.str _ (by decide +kernel)) (.cons (w1.same s39.gg) (.one (wo_steps ok.n0 fit.1 fit.2 ok.ll)))))
    | stop e m =>
      intro u G1 H1 s1 l1
      cases he
      have ne := endWs_ne fit.2.2
      have s2 := stp_put (d := d) s1.gh (s1.nw d ok0.gd (by rw [ok0.ld]; exact fun z => nomatch z)) (.dK [(kSteps, .int m), (kEnd, .str "")]) (H := H1)
      refine ⟨_, rfl, d, _, rfl, DGet.k (k := kEnd) l1, _, rfl, d, _, rfl, DPut.k (k := kEnd) l1 (by show 2 < sizeLine; decide), ?_⟩
      rw [put_end]
      have l2 : Ld d m "" (upd H1 d (.dK [(kSteps, .int m), (kEnd, .str "")])) := upd_same
      refine ⟨_, rfl, rfl, _, rfl, ite_ff (str_ne ne) ⟨_, rfl, _, rfl, rfl, _, rfl, ite_ff (str_ne ne) ⟨by decide, fun p3 np3 => ⟨_, rfl, d, _, rfl, DGet.k (k := kSteps) ((same_new np3 _) _ _ l2), _, rfl, _, _, rfl, rfl, s3, fun p2 np2 => ?_⟩⟩⟩⟩
      have s25 := stp_new (d := d) s2.gh np3 (.tup [])
      have s39 := stp_new (d := d) s25.gh np2 (.tup [.str e, .ref p3, .int (m - n)])
      refine q _ _ _ ((((s0.trans s1).trans s2).trans s25).trans s39) ((same_new np2 _) _ _ ((same_new np3 _) _ _ l2)) (.tup upd_same (.cons (wo_end fit.2.2) (.cons (.tup (s39.gg _ _ upd_same) .nil) (.one (wo_steps ok.n0 fit.1 fit.2.1 ok.ll)))))
theorem call_cases {f : Nat} {t : Th} {ws : List Th} {lim n : Int} {r : Res} (h : evCall f (t :: ws) lim n = some r) : (t.isFn = false ∧ r = .stop "kind" n) ∨ ∃ ns body sc own, t = .fn [ns, body, .tup sc, own] ∧
    ((ns.row.length ≠ ws.length ∧ r = .stop "count" n) ∨ (ns.row.length = ws.length ∧ scG sc = true ∧ scG ns.row = true ∧ ev f body (bindAll ns.row ws (ownTh t own sc)) lim n = some r)) := by
  unfold evCall at h
  cases t with
  | fn l =>
    split at h
    · rename_i ns body sc own q
      rw [if_neg (by decide)] at h
      cases q
      refine .inr ⟨ns, body, sc, own, rfl, ?_⟩
      by_cases c : ns.row.length = ws.length
      · rw [if_pos c] at h
        by_cases g : (scG sc && scG ns.row) = true
        · rw [if_pos g] at h
          obtain ⟨g1, g2⟩ := Bool.and_eq_true_iff.mp g
          exact .inr ⟨c, g1, g2, h⟩
        · rw [if_neg g] at h
          cases h
      · rw [if_neg c] at h
        exact .inl ⟨c, (Option.some.inj h).symm⟩
    · cases h
    · rename_i q
      exact absurd rfl (q _)
  | non => cases h; exact .inl ⟨rfl, rfl⟩
  | bl b => cases h; exact .inl ⟨rfl, rfl⟩
  | int b => cases h; exact .inl ⟨rfl, rfl⟩
  | str b => cases h; exact .inl ⟨rfl, rfl⟩
  | tup b => cases h; exact .inl ⟨rfl, rfl⟩
  | oth => cases h; exact .inl ⟨rfl, rfl⟩
theorem rd_catG {d a b : Addr} {G H : Hp} {K : PySem.W.Frag} {Q : VK} {xs ys : List V} (g : Same G H) (ha : G a = some (.tup xs)) (hb : G b = some (.tup ys)) (hl : xs.length + ys.length ≤ sizeLine)
    (q : ∀ p G' H', Same H H' → Stp d G H G' H' → G' p = some (.tup (xs ++ ys)) → Q (.ref p) H') : rCatA K (.ref a) (.ref b) H Q := by
  refine ⟨a, b, xs, ys, rfl, rfl, SqT.of (g _ _ ha), SqT.of (g _ _ hb), hl, fun e => ?_, fun _ e => ?_, fun _ _ p np => ?_⟩
  · subst e
    exact q b G H (.refl _) (.refl g) hb
  · subst e
    rw [List.append_nil] at q
    exact q a G H (.refl _) (.refl g) ha
  · exact q p _ _ (same_new np _) (stp_new g np _) upd_same
theorem rd_dropG {d a : Addr} {G H : Hp} {K : PySem.W.Frag} {Q : VK} {xs : List V} {i : Int} (g : Same G H) (ha : G a = some (.tup xs)) (h0 : 0 ≤ i) (q : ∀ p G' H', Same H H' → Stp d G H G' H' → G' p = some (.tup (xs.drop i.toNat)) → Q (.ref p) H') : rSlA K (.ref a) (some i) none H Q := by
  refine ⟨a, xs, rfl, SqT.of (g _ _ ha), fun e => ?_, fun _ p np => ?_⟩
  · obtain ⟨e1, _⟩ := e
    rw [sIx_pos h0] at e1
    have : xs.drop i.toNat = xs := by
      by_cases hx : xs = []
      · rw [hx]
        exact List.drop_nil
      · have : 0 < xs.length := List.length_pos_iff.mpr hx
        have e3 : i.toNat = 0 := by omega
        rw [e3]
        exact List.drop_zero
    rw [this] at q
    exact q a G H (.refl _) (.refl g) ha
  · refine q p _ _ (same_new np _) (stp_new g np _) ?_
    rw [upd_same]
    unfold cutV
    rw [sIx_none0, sIx_pos h0]
    by_cases hi : i.toNat ≤ xs.length
    · rw [Nat.min_eq_left hi, List.take_of_length_le (by rw [List.length_drop]; exact Nat.le_refl _)]
    · rw [Nat.min_eq_right (by omega), List.drop_length, List.drop_eq_nil_of_le (by omega)]
      simp
theorem pairs_take {ns vs : List Th} {i : Nat} {t u : Th} (h1 : ns[i]? = some t) (h2 : vs[i]? = some u) : pairsTh (ns.take (i + 1)) (vs.take (i + 1)) = pairsTh (ns.take i) (vs.take i) ++ [.tup [t, u]] := by
  have l1 : i < ns.length := (List.getElem?_eq_some_iff.mp h1).1
  have l2 : i < vs.length := (List.getElem?_eq_some_iff.mp h2).1
  unfold pairsTh
  rw [List.take_add_one, List.take_add_one, h1, h2, List.zipWith_append (by rw [List.length_take, List.length_take]; omega)]
  rfl
theorem ok_law_call {L f : Nat} (hL : 1 ≤ L) (F : FnP K mg "_law_call" s_law_call) (T : Tl mg) (B_law_stop : Cl P w K mg base 1 "_law_stop" ["_law_state_here", "_law_word"] spStop) (B_law_reckon : Cg P w K mg base L "_law_reckon" ["_law_state_here", "_law_part_here", "_law_scope", "_law_limit"] (spReckon f)) : Cg P w K mg base (L + 1) "_law_call" ["_law_state_here", "_law_function", "_law_worths", "_law_limit"] (spCallL f) := by
  refine cg_mk F sc_law_call (fun _ _ _ _ _ _ us hl => match us, hl with | [_, _, _, _], _ => rfl) (fun vs H Q E h => by obtain ⟨_, _, _, _, rfl, _⟩ := h; rfl) fun cdv A outer s H vs Q E hr hg h => ?_
  obtain ⟨_, pv0, _, _, rfl, d, G, n, lim, t, D, ys, ws, r, rfl, rfl, ok, hp, rfl, hD, hys, he, q⟩ := h
  refine ⟨_, PSs.nox (pss_cons (ps_if (pt_not (pt_val (pe_callB call_isi rfl T.z_isinstance PyProof.Rows.boot_isinstance (pa_cons (pv 1) (pa_cons (pe_bltn (v := .ty "list") rfl T.z_list (by decide +kernel) rfl) pa_nil))))) (pss_one (ps_ret (pe_b B_law_stop hr (by omega) rfl passL (pa_cons (pv 0) (pa_cons pe_str pa_nil))))) pss_nil) (pss_cons (ps_asg (pv 1) (pg_lst rfl (pgs_cons (pg_name (i := 4) sc_law_call.nd rfl (Or.inl rfl)) (pgs_cons (pg_name (i := 5) sc_law_call.nd rfl (Or.inl rfl)) (pgs_cons (pg_name (i := 6) sc_law_call.nd rfl (Or.inl rfl)) (pgs_cons (pg_name (i := 7) sc_law_call.nd rfl (Or.inl rfl)) pgs_nil)))))) (pss_cons (ps_if (pt_cmpR op_ne (pe_callB call_len_seq rfl T.z_len PySem.boot_len (pa_cons (pv 4) pa_nil)) (pe_callB call_len_seq rfl T.z_len PySem.boot_len (pa_cons (pv 2) pa_nil)) (nomark _)) (pss_one (ps_ret (pe_b B_law_stop hr (by omega) rfl passL (pa_cons (pv 0) (pa_cons pe_str pa_nil))))) pss_nil) (pss_cons (ps_if (pt_cmpR op_notN (pv 7) pe_non (nomark _)) (pss_one (ps_set (i := 6) sc_law_call.nd rfl (Or.inl rfl) (pe_op op_catA (pe_tup (pa_cons (pe_tup (pa_cons (pv 7) (pa_cons (pv 1) pa_nil))) pa_nil)) (pv 6)))) pss_nil) (pss_cons (ps_for PassesOwn.never rfl (pi_zipM rfl T.z_zip (pa_cons (pv 4) (pa_cons (pv 2) pa_nil))) (pg_tup rfl (pgs_cons (pg_name (i := 8) sc_law_call.nd rfl (Or.inl rfl)) (pgs_cons (pg_name (i := 9) sc_law_call.nd rfl (Or.inl rfl)) pgs_nil))) (pss_one (ps_set (i := 6) sc_law_call.nd rfl (Or.inl rfl) (pe_op op_catA (pe_tup (pa_cons (pe_tup (pa_cons (pv 8) (pa_cons (pv 9) pa_nil))) pa_nil)) (pv 6))))) (pss_one (ps_ret (pe_g B_law_reckon hr hg (by omega) rfl passL (pa_cons (pv 0) (pa_cons (pv 5) (pa_cons (pv 6) (pa_cons (pv 3) pa_nil)))))))))))), ?_⟩
  obtain ⟨u1, y1, k1⟩ := wk_lst (K := K) ok.g hp
  rcases call_cases he with ⟨nf, rfl⟩ | ⟨ns, body, sc, own, rfl, hc⟩
  rotate_left
  · obtain ⟨x, nv, bv, sv, ov, tn, rfl, hx, rfl, wn, wb, ws', al, an, as'⟩ : ∃ x nv bv sv ov tn, pv0 = V.ref x ∧ G x = some (.lst [nv, bv, sv, ov]) ∧ ns = .tup tn ∧ Wo none G nv (.tup tn) ∧ Wo none G bv body ∧ Wo none G sv (.tup sc) ∧ ((ov = .non ∧ own = .non) ∨ ∃ z, ov = .str z ∧ own = .str z ∧ wordB z = true) ∧ tn.all isStrT = true ∧ sc.all isPair = true := by
      cases hp with
      | fn h1 h2 h3 h4 =>
        cases h2 with
        | cons a1 h2 =>
          cases h2 with
          | cons a2 h2 =>
            cases h2 with
            | cons a3 h2 => exact ⟨_, _, _, _, _, _, rfl, h1, rfl, a1, a2, a3, .inl ⟨rfl, rfl⟩, h3, h4⟩
      | rcf h1 hz h2 h3 h4 =>
        cases h2 with
        | cons a1 h2 =>
          cases h2 with
          | cons a2 h2 =>
            cases h2 with
            | cons a3 h2 => exact ⟨_, _, _, _, _, _, rfl, h1, rfl, a1, a2, a3, .inr ⟨_, rfl, rfl, hz⟩, h3, h4⟩
    have hxH := ok.g _ _ hx
    cases wn with
    | tup hn wns =>
    cases ws' with
    | tup hs wss =>
    rename_i pn xns psc xsc
    have ln := wns.len
    have ly := hys.len
    refine ⟨_, rfl, _, _, u1, _, _, rfl, .ty _, y1, k1, _, rfl, ?_⟩
    refine iteF ?_
    refine ⟨_, rfl, x, _, rfl, SqL.of hxH, rfl, _, _, rfl, _, _, rfl, _, _, rfl, _, _, rfl, rfl, ?_⟩
    refine ⟨_, rfl, pn, xns, rfl, .inr (SqT.of (ok.g _ _ hn)), _, rfl, D, ys, rfl, .inl (SqL.of hD), rfl, ?_⟩
    have dD : D ≠ d := fun z => by rw [z, ok.ld] at hD; cases hD
    rcases hc with ⟨c, rfl⟩ | ⟨c, g1, g2, he2⟩
    · have e : (!decide (V.int (xns.length : Nat) = V.int (ys.length : Nat))) = true := by
        rw [dec_int]
        have c' : tn.length ≠ ws.length := c
        have : ((xns.length : Int) == (ys.length : Int)) = false := by
          rw [beq_eq_false_iff_ne]
          omega
        rw [this]
        rfl
      refine ⟨_, rfl, ?_⟩
      rw [e]
      refine iteT ⟨_, rfl, _, _, rfl, d, n, "", "count", G, rfl, rfl, ok.ld, ok.g, ok.gd, fun u H' s' l' => ?_⟩
      exact q u G H' s' l'
    have c' : tn.length = ws.length := c
    have e : (!decide (V.int (xns.length : Nat) = V.int (ys.length : Nat))) = false := by
      rw [dec_int]
      have : ((xns.length : Int) == (ys.length : Int)) = true := by
        rw [beq_iff_eq]
        omega
      rw [this]
      rfl
    refine ⟨_, rfl, ?_⟩
    rw [e]
    refine iteF (stepN ?_)
    dsimp only
    have st0 := Stp.refl (d := d) ok.g
    have lsc : sc.length ≤ 100000 := Nat.le_of_ble_eq_true g1
    have ltn : tn.length ≤ 100000 := Nat.le_of_ble_eq_true g2
    have lsx := wss.len
    refine join_seq (fun k => ∀ (a : Addr) G1 H1 xs, Stp d G H G1 H1 → Ld d n "" H1 → G1 a = some (.tup xs) → Wos none G1 xs (ownTh (.fn [.tup tn, body, .tup sc, own]) own sc) → (ownTh (.fn [.tup tn, body, .tup sc, own]) own sc).all isPair = true → (ownTh (.fn [.tup tn, body, .tup sc, own]) own sc).length ≤ 100001 →
      k [some (.ref d), some (.ref x), some (.ref D), some (.int lim), some (.ref pn), some bv, some (.ref a), some ov, none, none] H1) (fun a G1 H1 xs st ld1 ha hxs1 al1 le1 => ?_) (fun D' hk => ?_)
    · refine ⟨_, rfl, _, rfl, pn, D, _, _, rfl, SqT.of (st.gh _ _ (st.gg _ _ hn)), SqL.of (st.fr _ _ dD hD), ?_⟩
      refine for_zipM (show xns.length = ys.length by omega) (fun i σ H2 => ∃ a o8 o9 G2 xs, σ = [some (.ref d), some (.ref x), some (.ref D), some (.int lim), some (.ref pn), some bv, some (.ref a), some ov, o8, o9] ∧ Stp d G H G2 H2 ∧ Ld d n "" H2 ∧ i ≤ tn.length ∧ G2 a = some (.tup xs) ∧
          Wos none G2 xs ((pairsTh (tn.take i) (ws.take i)).reverse ++ ownTh (.fn [.tup tn, body, .tup sc, own]) own sc) ∧ ((pairsTh (tn.take i) (ws.take i)).reverse ++ ownTh (.fn [.tup tn, body, .tup sc, own]) own sc).all isPair = true ∧ ((pairsTh (tn.take i) (ws.take i)).reverse ++ ownTh (.fn [.tup tn, body, .tup sc, own]) own sc).length ≤ 100001 + i)
        ⟨a, none, none, G1, xs, rfl, st, ld1, Nat.zero_le _, ha, hxs1, al1, le1⟩ (fun i σ H2 z => ?_) (fun i y1 y2 Ta σ H2 e1 e2 z nT => ?_) (fun σ H2 z => ?_)
      · obtain ⟨_, _, _, G2, _, _, st2, _⟩ := z
        exact ⟨SqT.of (st2.gh _ _ (st2.gg _ _ hn)), SqL.of (st2.fr _ _ dD hD)⟩
      · obtain ⟨a2, o8, o9, G2, xs2, rfl, st2, ld2, li, ha2, wx2, al2, le2⟩ := z
        obtain ⟨t1, f1, w1⟩ := wns.get e1
        obtain ⟨t2, f2, w2⟩ := hys.get e2
        have lt1 : i < tn.length := (List.getElem?_eq_some_iff.mp f1).1
        have s2T := same_new nT (.tup [y1, y2])
        have stT := st2.trans (stp_same (d := d) st2.gh s2T)
        refine ⟨Ta, _, rfl, SqT.of upd_same, rfl, _, _, rfl, _, _, rfl, rfl, ?_⟩
        refine ⟨_, rfl, _, rfl, s2, fun p5 np5 => ⟨s1, fun p6 np6 => ⟨_, rfl, ?_⟩⟩⟩
        have st5 := stp_new (d := d) stT.gh np5 (.tup [y1, y2])
        have st6 := stp_new (d := d) st5.gh np6 (.tup [.ref p5])
        have lx2 := wx2.len
        have stp6 := stT.trans (st5.trans st6)
        refine rd_catG (d := d) st6.gh upd_same ((st5.trans st6).gg _ _ ha2) (by rw [sizeLine_eq]; simp only [List.length_singleton]; omega) fun p7 G7 H7 s7 st7 e7 => ?_
        have gA := ((st5.trans st6).trans st7).gg
        have gB := stp6.gg.trans st7.gg
        have pt : (pairsTh (tn.take (i + 1)) (ws.take (i + 1))).reverse = .tup [t1, t2] :: (pairsTh (tn.take i) (ws.take i)).reverse := by
          rw [pairs_take f1 f2, List.reverse_append]
          rfl
        refine ⟨p7, _, _, G7, _, rfl, stp6.trans st7, s7 _ _ ((same_new np6 _) _ _ ((same_new np5 _) _ _ (s2T _ _ ld2))), lt1, e7, ?_, ?_, ?_⟩
        · rw [pt]
          exact .cons (.tup ((st6.gg.trans st7.gg) _ _ upd_same) (.cons (w1.same gB) (.one (w2.same gB)))) (wx2.same gA)
        · rw [pt, List.cons_append, List.all_cons, al2, Bool.and_true]
          have := List.all_eq_true.mp an t1 (List.mem_of_getElem? f1)
          cases t1 <;> first | rfl | cases this
        · rw [pt, List.cons_append, List.length_cons]
          omega
      · obtain ⟨a2, o8, o9, G2, xs2, rfl, st2, ld2, li, ha2, wx2, al2, le2⟩ := z
        rw [ln, List.take_length, c', List.take_length, ← bindAll_eq _ _ _ c'] at wx2
        rw [ln, List.take_length, c', List.take_length, ← bindAll_eq _ _ _ c'] at al2
        rw [ln, List.take_length, c', List.take_length, ← bindAll_eq _ _ _ c'] at le2
        have ok2 := ok.stp st2 ld2 (Int.le_refl _) ok.nl
        refine ⟨_, rfl, _, rfl, _, rfl, _, rfl, _, _, _, _, rfl, d, G2, n, lim, body, _, r, rfl, rfl, ok2, wb.same st2.gg, ⟨a2, _, rfl, ha2, wx2, al2, by omega⟩, he2, PostR.back st2 q⟩
    · rcases al with ⟨rfl, rfl⟩ | ⟨z, rfl, rfl, hz⟩
      · refine ⟨_, rfl, rfl, _, rfl, ?_⟩
        refine iteF ?_
        exact hk psc G H xsc st0 ok.ld hs wss as' (by show sc.length ≤ 100001; omega)
      · refine ⟨_, rfl, rfl, _, rfl, ?_⟩
        refine iteT ?_
        refine ⟨_, rfl, _, rfl, s2, fun p5 np5 => ⟨s1, fun p6 np6 => ⟨_, rfl, ?_⟩⟩⟩
        have st5 := stp_new (d := d) ok.g np5 (.tup [.str z, .ref x])
        have st6 := stp_new (d := d) st5.gh np6 (.tup [.ref p5])
        refine rd_catG (d := d) st6.gh upd_same ((st5.trans st6).gg _ _ hs) (by rw [sizeLine_eq]; simp only [List.length_singleton]; omega) fun p7 G7 H7 s7 st7 e7 => ?_
        have stA := (st5.trans st6).trans st7
        refine hk p7 G7 H7 _ stA (s7 _ _ ((same_new np6 _) _ _ ((same_new np5 _) _ _ ok.ld))) e7 ?_ ?_ ?_
        · exact .cons (.tup ((st6.gg.trans st7.gg) _ _ upd_same) (.cons (.str _ hz) (.one (hp.same stA.gg)))) (wss.same stA.gg)
        · exact as'
        · show (_ :: sc).length ≤ _
          rw [List.length_cons]
          omega
  refine ⟨_, rfl, _, _, u1, _, _, rfl, .ty _, y1, k1, _, rfl, ?_⟩
  rw [nf]
  refine iteT ⟨_, rfl, _, _, rfl, d, n, "", "kind", G, rfl, rfl, ok.ld, ok.g, ok.gd, fun u H' s' l' => ?_⟩
  exact q u G H' s' l'

theorem num_kind {t : Th} (h : t.kind = "number") : ∃ i, t = .int i := by
  cases t with
  | int i => exact ⟨i, rfl⟩
  | bl _ => exact absurd h (show ¬ (("truth" : Str) = "number") by decide)
  | str _ => exact absurd h (show ¬ (("word" : Str) = "number") by decide)
  | tup _ => exact absurd h (show ¬ (("row" : Str) = "number") by decide)
  | fn _ => exact absurd h (show ¬ (("function" : Str) = "number") by decide)
  | non => exact absurd h (show ¬ (("function" : Str) = "number") by decide)
  | oth => exact absurd h (show ¬ (("function" : Str) = "number") by decide)
def kindWs : List Str := ["truth", "number", "word", "row", "function"]
theorem kind_in (t : Th) : t.kind ∈ kindWs := by
  cases t <;> first | exact .head _ | exact .tail _ (.head _) | exact .tail _ (.tail _ (.head _)) | exact .tail _ (.tail _ (.tail _ (.head _))) | exact .tail _ (.tail _ (.tail _ (.tail _ (.head _))))
theorem shaped_kk (a b : Th) : SeqAt.shaped (.list [.str a.kind, .str b.kind]) = true := by
  have z : ∀ x ∈ kindWs, ∀ y ∈ kindWs, SeqAt.shaped (.list [.str x, .str y]) = true := by decide +kernel
  exact z _ (kind_in a) _ (kind_in b)
theorem eqv_kk (a b : Th) : PyData.eqv (.list [.str a.kind, .str b.kind]) (.list [.str "number", .str "number"]) = (decide (a.kind = "number") && decide (b.kind = "number")) := by
  have z : ∀ x ∈ kindWs, ∀ y ∈ kindWs, PyData.eqv (.list [.str x, .str y]) (.list [.str "number", .str "number"]) = (decide (x = "number") && decide (y = "number")) := by decide +kernel
  exact z _ (kind_in a) _ (kind_in b)
theorem inV4 (x a b c d : Str) : inV (.str x) [.str a, .str b, .str c, .str d] = (x == a || (x == b || (x == c || x == d))) := by
  rw [show ([V.str a, V.str b, V.str c, V.str d] : List V) = [a, b, c, d].map V.str from rfl, inV_str, List.contains_cons, List.contains_cons, List.contains_cons, List.contains_cons, List.contains_nil, Bool.or_false]
theorem numB_abs' {i : Int} : decide ((if i < 0 then -i else i) ≤ 10 ^ (9 : Int).toNat) = numB i := by
  unfold numB
  rw [← Bool.decide_and]
  refine decide_eq_decide.mpr ?_
  have e : (10 : Int) ^ (9 : Int).toNat = 1000000000 := by decide
  rw [e]
  split <;> omega
theorem pow9 : CPow 10 9 := ⟨by decide, by decide, by decide⟩
theorem numB_mul {a : Int} (h : numB a = true) : -(2 ^ 64) < a ∧ a < 2 ^ 64 := by
  unfold numB at h
  rw [Bool.and_eq_true, decide_eq_true_iff, decide_eq_true_iff] at h
  omega
def foundL (a b : Int) : List (Key × V) := [(Sum.inr "add", .int (a + b)), (Sum.inr "less", .int (a - b)), (Sum.inr "times", .int (a * b)), (Sum.inr "below", .bl (decide (a < b)))]
theorem found_add (a b : Int) : valV (mergeK [] (foundL a b)) (Sum.inr "add") = some (.int (a + b)) := by rfl
theorem found_less (a b : Int) : valV (mergeK [] (foundL a b)) (Sum.inr "less") = some (.int (a - b)) := by rfl
theorem found_times (a b : Int) : valV (mergeK [] (foundL a b)) (Sum.inr "times") = some (.int (a * b)) := by rfl
theorem found_below (a b : Int) : valV (mergeK [] (foundL a b)) (Sum.inr "below") = some (.bl (decide (a < b))) := by rfl
theorem wo_int {M : Option Addr} {G : Hp} {t : Th} {v : V} {i : Int} (h : Wo M G v t) (e : t = .int i) : v = .int i ∧ numB i = true := by
  subst e
  cases h with
  | int _ h => exact ⟨rfl, h⟩
theorem wo_row {M : Option Addr} {G : Hp} {t : Th} {v : V} (h : Wo M G v t) (e : t.kind = "row") : ∃ p xs l, v = .ref p ∧ t = .tup l ∧ G p = some (.tup xs) ∧ Wos M G xs l := by
  cases h with
  | tup a b => exact ⟨_, _, _, rfl, rfl, a, b⟩
  | bl _ => exact absurd e (show ¬ (("truth" : Str) = "row") by decide)
  | int _ => exact absurd e (show ¬ (("number" : Str) = "row") by decide)
  | str _ => exact absurd e (show ¬ (("word" : Str) = "row") by decide)
  | fn _ => exact absurd e (show ¬ (("function" : Str) = "row") by decide)
  | rcf _ => exact absurd e (show ¬ (("function" : Str) = "row") by decide)
theorem atI_neg {α : Type} {xs : List α} {y : α} (h : 1 ≤ xs.length) (e : xs[xs.length - 1]? = some y) : atI xs (-1) = some y := by
  unfold atI ixN
  rw [if_neg (by decide), if_pos (by omega)]
  show xs[((-1 : Int) + (xs.length : Nat)).toNat]? = some y
  rw [show ((-1 : Int) + (xs.length : Nat)).toNat = xs.length - 1 by omega]
  exact e
theorem row_kind {t : Th} (h : t.kind ≠ "row") : ∀ l, t ≠ .tup l := fun l e => h (by rw [e]; rfl)
theorem of_str {a b : Str} (h : decide (V.str a = V.str b) = true) : a = b := by
  have z := of_decide_eq_true h
  injection z
theorem not_str {a b : Str} (h : ¬ decide (V.str a = V.str b) = true) : a ≠ b := fun e => h (str_eq e)
theorem kind_word (t : Th) : wordB t.kind = true := by
  have z : ∀ x ∈ kindWs, wordB x = true := by decide +kernel
  exact z _ (kind_in t)
theorem ok_law_done {L : Nat} (hL : 1 ≤ L) (F : FnP K mg "_law_done" s_law_done) (T : Tl mg) (B_law_stop : Cl P w K mg base 1 "_law_stop" ["_law_state_here", "_law_word"] spStop) (B_law_kind : Cl P w K mg base 1 "_law_kind" ["_law_worth"] spKind)
    {m : Nat} (hm : 41 ≤ m) (B_law_is_plain : Cl P w K mg base L "_law_is_plain" ["_law_worth"] (spPlainL m)) : Cg P w K mg base (L + 1) "_law_done" ["_law_state_here", "_law_word", "_law_worths"] spDone := by
  refine cg_mk F sc_law_done (fun _ _ _ _ _ _ us hl => match us, hl with | [_, _, _], _ => rfl) (fun vs H Q E h => by obtain ⟨_, _, _, rfl, _⟩ := h; rfl) fun cdv A outer s H vs Q E hr hg h => ?_
  obtain ⟨_, _, _, rfl, d, G, n, wd, D, ys, ws, rfl, rfl, rfl, g, gd, ld, hD, hys, hw, hc, hdg, q⟩ := h
  refine ⟨_, PSs.nox (pss_cons (ps_par (i := 3) (j := 4) rfl sc_law_done.nd rfl rfl (by decide) rfl rfl (pa_cons (pe_ix ix_list (pv 2) pe_int (fun _ _ => rfl)) (pa_cons (pe_ix ix_list (pv 2) (pe_un un_neg pe_int) (fun _ _ => rfl)) pa_nil)) (by rfl)) (pss_cons (ps_if (pt_cmpR op_in_seq (pv 1) (pe_tup (pa_cons pe_str (pa_cons pe_str (pa_cons pe_str (pa_cons pe_str pa_nil))))) rfl) (pss_cons (ps_if (pt_cmpR (op_neD (hu64 hr)) (pe_lst (pa_cons (pe_b B_law_kind hr (by omega) rfl passL (pa_cons (pv 3) pa_nil)) (pa_cons (pe_b B_law_kind hr (by omega) rfl passL (pa_cons (pv 4) pa_nil)) pa_nil))) (pe_lst (pa_cons pe_str (pa_cons pe_str pa_nil))) (nomark _)) (pss_one (ps_ret (pe_b B_law_stop hr (by omega) rfl passL (pa_cons (pv 0) (pa_cons pe_str pa_nil))))) pss_nil) (pss_cons (ps_set (i := 5) sc_law_done.nd rfl (Or.inl rfl) (pe_dget (hu_of hr) (pe_disp (pps_cons pe_str (pe_op op_add (pv 3) (pv 4)) (pps_cons pe_str (pe_op op_sub (pv 3) (pv 4)) (pps_cons pe_str (pe_op op_mul (pv 3) (pv 4)) (pps_cons pe_str (pe_cmpR op_lt (pv 3) (pv 4) (nomark _)) pps_nil)))) (by rfl) (by rfl) (fun z => by cases z) (by decide)) (pv 1) (fun _ _ => rfl))) (pss_one (ps_ret (pe_ifExp (pt_cmpR op_le (pe_callB call_absB rfl T.z_abs PyProof.Rows.boot_abs (pa_cons (pv 5) pa_nil)) (pe_op op_pow pe_int pe_int) (nomark _)) (pv 5) (pe_b B_law_stop hr (by omega) rfl passL (pa_cons (pv 0) (pa_cons pe_str pa_nil)))))))) pss_nil) (pss_cons (ps_if (pt_cmpR op_eq (pv 1) pe_str (nomark _)) (pss_cons (ps_set (i := 6) sc_law_done.nd rfl (Or.inl rfl) (pe_and (pe_b B_law_is_plain hr (by omega) rfl passL (pa_cons (pv 3) pa_nil)) (pe_one (pe_b B_law_is_plain hr (by omega) rfl passL (pa_cons (pv 4) pa_nil))))) (pss_one (ps_ret (pe_ifExp (pt_val (pv 6)) (pe_cmpR op_eq (pe_callB (call_reprD hr hg) rfl T.z_repr PyProof.Rows.boot_repr (pa_cons (pv 3) pa_nil)) (pe_callB (call_reprD hr hg) rfl T.z_repr PyProof.Rows.boot_repr (pa_cons (pv 4) pa_nil)) (nomark _)) (pe_b B_law_stop hr (by omega) rfl passL (pa_cons (pv 0) (pa_cons pe_str pa_nil))))))) pss_nil) (pss_cons (ps_if (pt_cmpR op_eq (pv 1) pe_str (nomark _)) (pss_one (ps_ret (pe_b B_law_kind hr (by omega) rfl passL (pa_cons (pv 3) pa_nil)))) pss_nil) (pss_cons (ps_if (pt_cmpR op_eq (pv 1) pe_str (nomark _)) (pss_one (ps_ret (pe_and (pe_cmpR op_eq (pe_b B_law_kind hr (by omega) rfl passL (pa_cons (pv 3) pa_nil)) pe_str (nomark _)) (pe_one (pe_cmpR op_eq (pe_callB call_len_seq rfl T.z_len PySem.boot_len (pa_cons (pv 3) pa_nil)) pe_int (nomark _)))))) pss_nil) (pss_cons (ps_if (pt_cmpR op_eq (pv 1) pe_str (nomark _)) (pss_one (ps_ret (pe_ifExp (pt_cmpR op_eq (pe_b B_law_kind hr (by omega) rfl passL (pa_cons (pv 4) pa_nil)) pe_str (nomark _)) (pe_op op_catA (pe_tup (pa_cons (pv 3) pa_nil)) (pv 4)) (pe_b B_law_stop hr (by omega) rfl passL (pa_cons (pv 0) (pa_cons pe_str pa_nil)))))) pss_nil) (pss_cons (ps_if (PW.pt (pw_or (pt_cmpR op_ne (pe_b B_law_kind hr (by omega) rfl passL (pa_cons (pv 3) pa_nil)) pe_str (nomark _)) (pw_or1 (pt_cmpR op_eq (pe_callB call_len_seq rfl T.z_len PySem.boot_len (pa_cons (pv 3) pa_nil)) pe_int (nomark _))))) (pss_one (ps_ret (pe_b B_law_stop hr (by omega) rfl passL (pa_cons (pv 0) (pa_cons pe_str pa_nil))))) pss_nil) (pss_one (ps_ret (pe_ifExp (pt_cmpR op_eq (pv 1) pe_str (nomark _)) (pe_ix ix_tup (pv 3) pe_int (fun _ _ => rfl)) (pe_slice sl_tupA (pv 3) (po_some pe_int) po_none))))))))))), ?_⟩
  have ln := hys.len
  have st0 := Stp.refl (d := d) g
  have stop : ∀ e, doneBy wd ws = .stop e → ∀ u H', Stp d G H G H' → Ld d n e H' → Q u H' := fun e he u H' s' l' => by
    rw [he] at q
    exact q u G H' s' l'
  have value : ∀ t, doneBy wd ws = .val t → ∀ u G' H', Stp d G H G' H' → Ld d n "" H' → Wo none G' u t → Q u H' := fun t ht u G' H' s' l' w' => by
    rw [ht] at q
    exact q u G' H' s' l' w'
  have l1 : 1 ≤ ws.length := by
    have z : ∀ x ∈ doneWs, 1 ≤ (formCount x).getD 0 := by decide +kernel
    have := z wd hw
    rw [hc] at this
    exact this
  obtain ⟨t0, e0⟩ : ∃ t0, ws[0]? = some t0 := ⟨_, List.getElem?_eq_getElem (show 0 < ws.length by omega)⟩
  obtain ⟨y0, f0, g0⟩ := hys.getT e0
  obtain ⟨t1, e1⟩ : ∃ t1, ws[ws.length - 1]? = some t1 := ⟨_, List.getElem?_eq_getElem (show ws.length - 1 < ws.length by omega)⟩
  obtain ⟨y1, f1, g1⟩ := hys.getT e1
  have one : ws.getD 0 .non = t0 := getD_of e0
  have two : ws.length = 2 → ws.getD 1 .non = t1 := fun z => getD_of (by rw [z] at e1; exact e1)
  refine ⟨_, rfl, D, _, _, _, rfl, rfl, SqL.of hD, atI_nat f0, _, rfl, _, rfl, D, _, _, _, rfl, rfl, SqL.of hD, atI_neg (by omega) (by rw [ln]; exact f1), _, _, rfl, ?_⟩
  refine ⟨_, rfl, (by decide), fun p np => ⟨p, _, rfl, .inr (SqT.of upd_same), rfl, rfl, _, rfl, ?_⟩⟩
  have st1 := stp_same (d := d) g (same_new np (.tup [.str "add", .str "less", .str "times", .str "below"]))
  have sl1 := same_new np (.tup [V.str "add", .str "less", .str "times", .str "below"])
  have l1' := sl1 _ _ ld
  generalize upd H p (.tup [.str "add", .str "less", .str "times", .str "below"]) = H1 at st1 sl1 l1' ⊢
  have gH1 := st1.gh
  refine ite2 (fun c => ?_) (fun c => ?_)
  · have cn : isNumW wd = true := by
      rw [inV4] at c
      exact c
    have l2 : ws.length = 2 := by
      have z : ∀ x ∈ doneWs, isNumW x = true → formCount x = some 2 := by decide +kernel
      have := z wd hw cn
      rw [hc] at this
      exact Option.some.inj this
    have db : doneBy wd ws = ofNums wd t0 t1 := by
      unfold doneBy
      simp only
      rw [if_pos cn, one, two l2]
    refine ⟨_, rfl, _, rfl, G, t0, g0, gH1, _, rfl, _, rfl, G, t1, g1, gH1, s2, fun p2 np2 => ⟨s2, fun p3 np3 => ?_⟩⟩
    have sl2 := (same_new np2 (.lst [V.str t0.kind, .str t1.kind])).trans (same_new np3 (.lst [V.str "number", .str "number"]))
    refine ⟨.list [.str t0.kind, .str t1.kind], .list [.str "number", .str "number"], .lst (SqL.of ((same_new np3 _) _ _ upd_same)) (.cons (.str _) (.cons (.str _) .nil)), .lst (SqL.of upd_same) (.cons (.str _) (.cons (.str _) .nil)), shaped_kk _ _, by decide +kernel, _, rfl, ?_⟩
    rw [eqv_kk]
    have st3 := st1.trans (stp_same gH1 sl2)
    have l3' := sl2 _ _ l1'
    generalize upd (upd H1 p2 (.lst [V.str t0.kind, .str t1.kind])) p3 (.lst [V.str "number", .str "number"]) = H3 at st3 l3' ⊢
    by_cases kk : t0.kind = "number" ∧ t1.kind = "number"
    · rw [decide_eq_true kk.1, decide_eq_true kk.2]
      refine iteF ?_
      obtain ⟨a, rfl⟩ := num_kind kk.1
      obtain ⟨b, rfl⟩ := num_kind kk.2
      obtain ⟨rfl, na⟩ := wo_int g0 rfl
      obtain ⟨rfl, nb⟩ := wo_int g1 rfl
      have mb := numB_mul nb
      refine fun p4 np4 => ⟨_, rfl, _, rfl, _, _, rfl, rfl, _, rfl, _, rfl, _, _, rfl, rfl, _, rfl, _, rfl, _, _, rfl, rfl, .inr mb, _, rfl, _, rfl, _, _, rfl, rfl, upd_same, foundL a b, rfl, (by show 4 ≤ 15; decide), ?_⟩
      have st5 : Stp d G H G (upd (upd H3 p4 (.dK [])) p4 (.dK (mergeK [] (foundL a b)))) := st3.trans (stp_same st3.gh (same_mut (same_new np4 _) np4))
      have l5 : Ld d n "" (upd (upd H3 p4 (.dK [])) p4 (.dK (mergeK [] (foundL a b)))) := (same_mut (same_new np4 _) np4) _ _ l3'
      have e5 : (upd (upd H3 p4 (.dK [])) p4 (.dK (mergeK [] (foundL a b)))) p4 = some (.dK (mergeK [] (foundL a b))) := upd_same
      generalize upd (upd H3 p4 (.dK [])) p4 (.dK (mergeK [] (foundL a b))) = H5 at st5 l5 e5 ⊢
      obtain ⟨x, hx, hx2⟩ : ∃ x, valV (mergeK [] (foundL a b)) (Sum.inr wd) = some x ∧ ((∃ c, x = .int c ∧ ofNums wd (.int a) (.int b) = if numB c then .val (.int c) else .stop "far") ∨ (x = .bl (decide (a < b)) ∧ ofNums wd (.int a) (.int b) = .val (.bl (decide (a < b))))) := by
        unfold isNumW at cn
        rw [Bool.or_eq_true, Bool.or_eq_true, Bool.or_eq_true] at cn
        rcases cn with z | z | z | z <;> rw [eq_of_beq z]
        · exact ⟨_, found_add a b, .inl ⟨_, rfl, rfl⟩⟩
        · exact ⟨_, found_less a b, .inl ⟨_, rfl, rfl⟩⟩
        · exact ⟨_, found_times a b, .inl ⟨_, rfl, rfl⟩⟩
        · exact ⟨_, found_below a b, .inr ⟨rfl, rfl⟩⟩
      refine ⟨_, rfl, p4, x, rfl, by rw [← hx]; exact DGet.k (k := Sum.inr wd) e5, ?_⟩
      rcases hx2 with ⟨c, rfl, ho⟩ | ⟨rfl, ho⟩
      · refine ⟨_, rfl, .inl ⟨c, rfl, _, _, rfl, rfl, pow9, _, _, rfl, rfl, _, rfl, ?_⟩⟩
        rw [numB_abs']
        cases nc : numB c with
        | true =>
          refine iteT ⟨_, rfl, value (.int c) ?_ _ G H5 st5 l5 (.int c nc)⟩
          rw [db, ho, nc]
          rfl
        | false =>
          refine iteF ⟨_, rfl, _, _, rfl, d, n, "", "far", G, rfl, rfl, l5, st5.gh, gd, fun u H' s' l' => ?_⟩
          refine stop "far" ?_ u H' (st5.trans s') l'
          rw [db, ho, nc]
          rfl
      · refine ⟨_, rfl, .inr ⟨_, rfl, _, _, rfl, rfl, pow9, _, _, rfl, rfl, _, rfl, ?_⟩⟩
        refine ite_tt ?_ ⟨_, rfl, value _ (by rw [db, ho]) _ G H5 st5 l5 (.bl _)⟩
        cases decide (a < b) <;> decide
    · have z : (decide (t0.kind = "number") && decide (t1.kind = "number")) = false := by
        rw [← Bool.decide_and]
        exact decide_eq_false kk
      rw [z]
      refine iteT ⟨_, rfl, _, _, rfl, d, n, "", "kind", G, rfl, rfl, l3', st3.gh, gd, fun u H' s' l' => ?_⟩
      refine stop "kind" ?_ u H' (st3.trans s') l'
      rw [db]
      unfold ofNums
      split
      · exact absurd ⟨rfl, rfl⟩ kk
      · rfl
  have nn : isNumW wd = false := by
    rw [inV4] at c
    exact Bool.eq_false_iff.mpr c
  refine ⟨_, rfl, rfl, _, rfl, ite2 (fun k => ?_) (fun k1 => ?_)⟩
  · obtain rfl := of_str k
    have l2 : ws.length = 2 := (Option.some.inj (show some 2 = some ws.length from hc)).symm
    have db : doneBy "same" ws = (if t0.worth false && t1.worth false then .val (.bl (t0.same t1)) else .stop "kind") := by
      rw [← one, ← two l2]
      rfl
    obtain ⟨⟨nn0, dd0⟩, nn1, dd1⟩ : (t0.nodes ≤ 30000 ∧ t0.depth ≤ 40) ∧ t1.nodes ≤ 30000 ∧ t1.depth ≤ 40 := by
      unfold doneG at hdg
      rw [Bool.and_eq_true, one, two l2] at hdg
      have z := hdg.1
      have e : ("same" == ("same" : Str)) = true := by decide
      rw [e] at z
      simp only [small, sameOn, Bool.not_true, Bool.false_or, Bool.true_and, Bool.and_eq_true, Nat.ble_eq] at z
      exact z
    refine ⟨_, rfl, _, rfl, G, t0, g0, gH1, by omega, by omega, fun H2 s2' => ⟨_, rfl, ?_⟩⟩
    have stb : ∀ {H3 : Hp}, Same H1 H3 → (t0.worth false && t1.worth false) = false → ∀ u H', Stp d G H3 G H' → Ld d n "kind" H' → Q u H' := fun s3 e u H' s' l' =>
      stop "kind" (by rw [db, e]; rfl) u H' ((st1.trans (stp_same gH1 s3)).trans s') l'
    cases p0 : t0.worth false with
    | false => exact iteF ⟨_, rfl, _, rfl, iteF ⟨_, rfl, _, _, rfl, d, n, "", "kind", G, rfl, rfl, s2' _ _ l1', gH1.trans s2', gd, stb s2' (by rw [p0]; rfl)⟩⟩
    | true =>
      refine iteT ⟨_, rfl, _, rfl, G, t1, g1, gH1.trans s2', by omega, by omega, fun H3 s3' => ?_⟩
      have s13 := s2'.trans s3'
      cases p1 : t1.worth false with
      | false => exact ⟨_, rfl, _, rfl, iteF ⟨_, rfl, _, _, rfl, d, n, "", "kind", G, rfl, rfl, s13 _ _ l1', gH1.trans s13, gd, stb s13 (by rw [p0, p1]; rfl)⟩⟩
      | true =>
        obtain ⟨x1, x2, x3, x4, x5⟩ := repr_shw (K := K) ((g0.plain (M' := some 0) p0).is.same (gH1.trans s13)) (showy_of t0 p0) nn0 (by omega)
        obtain ⟨z1, z2, z3, z4, z5⟩ := repr_shw (K := K) ((g1.plain (M' := some 0) p1).is.same (gH1.trans s13)) (showy_of t1 p1) nn1 (by omega)
        refine ⟨_, rfl, _, rfl, iteT ⟨_, rfl, _, _, rfl, x1, x2, x3, x4, x5, _, rfl, _, _, rfl, z1, z2, z3, z4, z5, rfl, ?_⟩⟩
        rw [shown_same p0 p1]
        exact value _ (by rw [db, p0, p1]; rfl) _ G H3 (st1.trans (stp_same gH1 s13)) (s13 _ _ l1') (.bl _)
  refine ⟨_, rfl, rfl, _, rfl, ite2 (fun k => ?_) (fun k2 => ?_)⟩
  · obtain rfl := of_str k
    refine ⟨_, rfl, _, rfl, G, t0, g0, gH1, value (.str t0.kind) ?_ _ G H1 st1 l1' (.str _ (kind_word t0))⟩
    rw [← one]
    rfl
  refine ⟨_, rfl, rfl, _, rfl, ite2 (fun k => ?_) (fun k3 => ?_)⟩
  · obtain rfl := of_str k
    have db : doneBy "row" ws = .val (.bl (isNilT t0)) := by
      rw [← one]
      rfl
    refine ⟨_, rfl, _, rfl, G, t0, g0, gH1, rfl, _, rfl, ite2 (fun k => ?_) (fun k => ?_)⟩
    · obtain ⟨p5, xs5, l5, rfl, rfl, h5, w5⟩ := wo_row g0 (of_str k)
      refine ⟨_, rfl, p5, _, rfl, .inr (SqT.of (gH1 _ _ h5)), rfl, ?_⟩
      have e : decide (V.int ((xs5.length : Nat) : Int) = V.int 0) = isNilT (.tup l5) := by
        cases w5 with
        | nil => rfl
        | cons _ _ => exact decide_eq_false fun z => by injection z with z; rw [List.length_cons] at z; omega
      show Q (.bl (decide (V.int ((xs5.length : Nat) : Int) = V.int 0))) H1
      rw [e]
      exact value _ db _ G H1 st1 l1' (.bl _)
    · have e : isNilT t0 = false := by
        unfold isNilT
        split
        · exact absurd rfl (row_kind (not_str k) [])
        · rfl
      rw [e] at db
      exact value _ db _ G H1 st1 l1' (.bl _)
  refine ⟨_, rfl, rfl, _, rfl, ite2 (fun k => ?_) (fun k4 => ?_)⟩
  · obtain rfl := of_str k
    have l2 : ws.length = 2 := (Option.some.inj (show some 2 = some ws.length from hc)).symm
    have db : doneBy "join" ws = joinT t0 t1 := by
      rw [← one, ← two l2]
      rfl
    refine ⟨_, rfl, _, rfl, G, t1, g1, gH1, rfl, _, rfl, ite2 (fun k => ?_) (fun k => ?_)⟩
    · obtain ⟨p5, xs5, l5, rfl, rfl, h5, w5⟩ := wo_row g1 (of_str k)
      have lb : l5.length ≤ 100000 := by
        unfold doneG at hdg
        rw [two l2] at hdg
        have z : ("join" : Str) == "join" := rfl
        rw [Bool.and_eq_true] at hdg
        exact Nat.le_of_ble_eq_true (by simpa [Th.row] using hdg.2)
      refine ⟨_, rfl, s1, fun p6 np6 => ⟨_, rfl, ?_⟩⟩
      have st6 := stp_new (d := d) gH1 np6 (.tup [y0])
      have lx := w5.len
      refine rd_catG (d := d) st6.gh upd_same (st6.gg _ _ h5) (by rw [sizeLine_eq]; simp only [List.length_singleton]; omega) fun p7 G7 H7 s7 st7 e7 => ?_
      exact value _ db _ G7 H7 ((st1.trans st6).trans st7) (s7 _ _ ((same_new np6 _) _ _ l1')) (.tup e7 (.cons (g0.same (st6.gg.trans st7.gg)) (w5.same (st6.gg.trans st7.gg))))
    · refine ⟨_, rfl, _, _, rfl, d, n, "", "kind", G, rfl, rfl, l1', gH1, gd, fun u H' s' l' => stop "kind" ?_ u H' (st1.trans s') l'⟩
      rw [db]
      unfold joinT
      split
      · exact absurd rfl (row_kind (not_str k) _)
      · rfl
  have w2 : wd = "first" ∨ wd = "rest" := by
    have z : ∀ x ∈ doneWs, isNumW x = false → x ≠ "same" → x ≠ "kind" → x ≠ "row" → x ≠ "join" → x = "first" ∨ x = "rest" := by decide +kernel
    exact z wd hw nn (not_str k1) (not_str k2) (not_str k3) (not_str k4)
  have db : doneBy wd ws = partT wd t0 := by
    rw [← one]
    rcases w2 with rfl | rfl <;> rfl
  have bad : (∀ a r, t0 ≠ .tup (a :: r)) → doneBy wd ws = .stop "kind" := fun z => by
    rw [db]
    unfold partT
    split
    · exact absurd rfl (z _ _)
    · rfl
  refine ⟨_, rfl, _, rfl, G, t0, g0, gH1, rfl, _, rfl, ite2 (fun k => ?_) (fun k => ?_)⟩
  · refine iteT ⟨_, rfl, _, _, rfl, d, n, "", "kind", G, rfl, rfl, l1', gH1, gd, fun u H' s' l' => stop "kind" (bad fun a r z => ?_) u H' (st1.trans s') l'⟩
    have k' : ¬ t0.kind = "row" := by
      have z2 : (!decide (V.str t0.kind = V.str "row")) = true := k
      rw [Bool.not_eq_true'] at z2
      exact fun z3 => absurd (str_eq z3) (by rw [z2]; decide)
    exact row_kind k' _ z
  have k' : t0.kind = "row" := by
    refine Classical.byContradiction fun z => k ?_
    show (!decide (V.str t0.kind = V.str "row")) = true
    rw [str_ne z]
    rfl
  obtain ⟨p5, xs5, l5, rfl, rfl, h5, w5⟩ := wo_row g0 k'
  refine ⟨_, rfl, p5, _, rfl, .inr (SqT.of (gH1 _ _ h5)), rfl, _, rfl, ?_⟩
  cases w5 with
  | nil =>
    refine iteT ⟨_, rfl, _, _, rfl, d, n, "", "kind", G, rfl, rfl, l1', gH1, gd, fun u H' s' l' => stop "kind" (bad fun a r z => ?_) u H' (st1.trans s') l'⟩
    cases z
  | cons h6 w6 =>
    rename_i v5 vs5 t5 ts5
    rw [decide_eq_false (fun z => by injection z with z; rw [List.length_cons] at z; omega)]
    refine iteF ⟨_, rfl, rfl, _, rfl, ?_⟩
    have dbv : doneBy wd ws = .val (if wd == "first" then t5 else .tup ts5) := db
    rcases w2 with rfl | rfl
    · refine ite_tt (str_eq rfl) ⟨_, rfl, p5, _, _, _, rfl, rfl, SqT.of (gH1 _ _ h5), atI_nat (j := 0) (v := v5) (xs := v5 :: vs5) rfl, ?_⟩
      exact value _ dbv _ G H1 st1 l1' h6
    · refine ite_ff (str_ne (by decide)) ⟨_, rfl, _, rfl, ?_⟩
      exact rd_dropG (d := d) (i := 1) gH1 h5 (by decide) fun p7 G7 H7 s7 st7 e7 => value _ dbv _ G7 H7 (st1.trans st7) (s7 _ _ l1') (.tup e7 (w6.same st7.gg))
end
end Fl
namespace Fl
open PySem PySem.Spec PyProof.Rows L2
theorem len2 {α : Type} {l : List α} (h : l.length = 2) : ∃ a b, l = [a, b] := match l, h with
  | [a, b], _ => ⟨a, b, rfl⟩
theorem len3 {α : Type} {l : List α} (h : l.length = 3) : ∃ a b c, l = [a, b, c] := match l, h with
  | [a, b, c], _ => ⟨a, b, c, rfl⟩
theorem len1 {α : Type} {l : List α} (h : l.length = 1) : ∃ a, l = [a] := match l, h with
  | [a], _ => ⟨a, rfl⟩
theorem formed_len {w : Str} {r : List Th} (h : isFormed w r = true) : formCount w = some r.length := by
  unfold isFormed at h
  rw [Bool.and_eq_true] at h
  exact of_decide_eq_true h.1
theorem names_strs : ∀ {l : List Th}, l.all isName = true → l.all isStrT = true
  | [], _ => rfl
  | t :: r, h => by
    rw [List.all_cons, Bool.and_eq_true] at h ⊢
    refine ⟨?_, names_strs h.2⟩
    cases t <;> first | rfl | exact h.1
theorem names_of {t : Th} (h : areNames t = true) : ∃ l, t = .tup l ∧ l.all isName = true := by
  cases t with
  | tup l =>
    rw [areNames, Bool.and_eq_true] at h
    exact ⟨l, rfl, h.1⟩
  | non => cases h
  | bl _ => cases h
  | int _ => cases h
  | str _ => cases h
  | fn _ => cases h
  | oth => cases h
theorem evs_len {f : Nat} {sc : List Th} {lim : Int} : ∀ {ts : List Th} {n m : Int} {ws : List Th}, evs f ts sc lim n = some (.vals ws m) → ws.length = ts.length
  | [], _, _, _, h => by
    rw [evs] at h
    cases h
    rfl
  | p :: ps, n, m, ws, h => by
    rw [evs_cons] at h
    cases e : ev f p sc lim n with
    | none => rw [e] at h; cases h
    | some q =>
      rw [e] at h
      cases q with
      | stop _ _ => cases h
      | val t m1 =>
        simp only at h
        cases e2 : evs f ps sc lim m1 with
        | none => rw [e2] at h; cases h
        | some q2 =>
          rw [e2] at h
          cases q2 with
          | stop _ _ => cases h
          | vals l m2 =>
            cases h
            rw [List.length_cons, List.length_cons, evs_len e2]
theorem s4 : 4 ≤ sizeLine := by decide
theorem stp_lst {d p : Addr} {G H : Hp} (g : Same G H) (n : H p = none) (o : HO) : Stp d G H (upd G p o) (upd H p o) := stp_new g n o
theorem Okk.same {d : Addr} {G H : Hp} {n lim : Int} (o : Okk d G H n lim) {G' H' : Hp} (s : Stp d G H G' H') (e : Same H H') : Okk d G' H' n lim := o.stp s (e _ _ o.ld) (Int.le_refl _) o.nl
theorem PostR.stopq {d : Addr} {G H : Hp} {Q : VK} {e : Str} {m : Int} (p : PostR d G H Q (.stop e m)) : ∀ u G' H', Stp d G H G' H' → Ld d m e H' → Q u H' := p
theorem PostR.valq {d : Addr} {G H : Hp} {Q : VK} {t : Th} {m : Int} (p : PostR d G H Q (.val t m)) : ∀ u G' H', Stp d G H G' H' → Ld d m "" H' → Wo none G' u t → Q u H' := p
section
variable {P : Program} {w : World} {K : PySem.W.Frag} {mg : Str → Option Value} {base : Heap}
theorem ok_law_form {L f : Nat} (hL : 3 ≤ L) (F : FnP K mg "_law_form" s_law_form) (T : Tl mg) (B_law_is_form : Cl P w K mg base 3 "_law_is_form" ["_law_word", "_law_rest"] spIsForm) (B_law_stop : Cl P w K mg base 1 "_law_stop" ["_law_state_here", "_law_word"] spStop) (B_law_kind : Cl P w K mg base 1 "_law_kind" ["_law_worth"] spKind)
    (B_law_done : Cg P w K mg base L "_law_done" ["_law_state_here", "_law_word", "_law_worths"] spDone) (B_law_reckon : Cg P w K mg base L "_law_reckon" ["_law_state_here", "_law_part_here", "_law_scope", "_law_limit"] (spReckon f)) (B_law_all : Cg P w K mg base (L + 1) "_law_all" ["_law_state_here", "_law_parts", "_law_scope", "_law_limit"] (spAll f)) (B_law_floor : Cg P w K mg base (L + 1) "_law_floor" ["_law_state_here", "_law_program", "_law_limit"] (spFloor f)) : Cg P w K mg base (L + 2) "_law_form" ["_law_state_here", "_law_word", "_law_rest", "_law_scope", "_law_limit"] (spForm f) := by
  refine cg_mk F sc_law_form (fun _ _ _ _ _ _ us hl => match us, hl with | [_, _, _, _, _], _ => rfl) (fun vs H Q E h => by obtain ⟨_, _, _, _, _, _, _, _, _, _, _, rfl, _⟩ := h; rfl) fun cdv A outer s H vs Q E hr hg h => ?_
  obtain ⟨d, G, n, lim, wd, a, xs, ts, sv, sc, r, rfl, ok, ha, hx, hs, hf, he, q⟩ := h
  refine ⟨_, PSs.nox (pss_cons (ps_if (pt_not (pt_val (pe_b B_law_is_form hr (by omega) rfl passL (pa_cons (pv 1) (pa_cons (pv 2) pa_nil))))) (pss_one (ps_ret (pe_b B_law_stop hr (by omega) rfl passL (pa_cons (pv 0) (pa_cons pe_str pa_nil))))) pss_nil) (pss_cons (ps_if (pt_cmpR op_eq (pv 1) pe_str (nomark _)) (pss_one (ps_ret (pe_ix ix_tup (pv 2) pe_int (fun _ _ => rfl)))) pss_nil) (pss_cons (ps_if (pt_cmpR op_in_seq (pv 1) (pe_tup (pa_cons pe_str (pa_cons pe_str pa_nil))) rfl) (pss_one (ps_ret (pe_lst (pa_cons (pe_ix ix_tup (pv 2) (pe_un un_neg pe_int) (fun _ _ => rfl)) (pa_cons (pe_ix ix_tup (pv 2) (pe_un un_neg pe_int) (fun _ _ => rfl)) (pa_cons (pv 3) (pa_cons (pe_ifExp (pt_cmpR op_eq (pv 1) pe_str (nomark _)) (pe_ix ix_tup (pv 2) pe_int (fun _ _ => rfl)) pe_non) pa_nil))))))) pss_nil) (pss_cons (ps_if (pt_cmpR op_in_seq (pv 1) (pe_tup (pa_cons pe_str (pa_cons pe_str pa_nil))) rfl) (pss_cons (ps_set (i := 5) sc_law_form.nd rfl (Or.inl rfl) (pe_g B_law_reckon hr hg (by omega) rfl passL (pa_cons (pv 0) (pa_cons (pe_ix ix_tup (pv 2) (pe_callTy call_int1 rfl T.z_int PyProof.Rows.boot_int (pa_cons (pe_cmpR op_eq (pv 1) pe_str (nomark _)) pa_nil)) (fun _ _ => rfl)) (pa_cons (pv 3) (pa_cons (pv 4) pa_nil)))))) (pss_cons (ps_if (pt_cmpR op_ne (pe_dget (hu_of hr) (pv 0) pe_str (fun _ _ => rfl)) pe_str (nomark _)) (pss_one (ps_ret (pe_tup pa_nil))) pss_nil) (pss_cons (ps_if (pt_cmpR op_eq (pv 1) pe_str (nomark _)) (pss_one (ps_ret (pe_g B_law_reckon hr hg (by omega) rfl passL (pa_cons (pv 0) (pa_cons (pe_ix ix_tup (pv 2) pe_int (fun _ _ => rfl)) (pa_cons (pe_op op_catA (pe_tup (pa_cons (pe_tup (pa_cons (pe_ix ix_tup (pv 2) pe_int (fun _ _ => rfl)) (pa_cons (pv 5) pa_nil))) pa_nil)) (pv 3)) (pa_cons (pv 4) pa_nil))))))) pss_nil) (pss_cons (ps_if (pt_cmpR op_ne (pe_b B_law_kind hr (by omega) rfl passL (pa_cons (pv 5) pa_nil)) pe_str (nomark _)) (pss_one (ps_ret (pe_b B_law_stop hr (by omega) rfl passL (pa_cons (pv 0) (pa_cons pe_str pa_nil))))) pss_nil) (pss_one (ps_ret (pe_g B_law_reckon hr hg (by omega) rfl passL (pa_cons (pv 0) (pa_cons (pe_ifExp (pt_val (pv 5)) (pe_ix ix_tup (pv 2) pe_int (fun _ _ => rfl)) (pe_ix ix_tup (pv 2) pe_int (fun _ _ => rfl))) (pa_cons (pv 3) (pa_cons (pv 4) pa_nil))))))))))) pss_nil) (pss_cons (ps_set (i := 6) sc_law_form.nd rfl (Or.inl rfl) (pe_g B_law_all hr hg (by omega) rfl passL (pa_cons (pv 0) (pa_cons (pv 2) (pa_cons (pv 3) (pa_cons (pv 4) pa_nil)))))) (pss_cons (ps_if (pt_cmpR op_ne (pe_dget (hu_of hr) (pv 0) pe_str (fun _ _ => rfl)) pe_str (nomark _)) (pss_one (ps_ret (pe_tup pa_nil))) pss_nil) (pss_cons (ps_if (pt_cmpR op_eq (pv 1) pe_str (nomark _)) (pss_cons (ps_if (PW.pt (pw_or (pt_cmpR op_ne (pe_b B_law_kind hr (by omega) rfl passL (pa_cons (pe_ix ix_list (pv 6) pe_int (fun _ _ => rfl)) pa_nil)) pe_str (nomark _)) (pw_or1 (pt_not (pt_chain op_le op_le pe_int (pe_ix ix_list (pv 6) pe_int (fun _ _ => rfl)) pe_int))))) (pss_one (ps_ret (pe_b B_law_stop hr (by omega) rfl passL (pa_cons (pv 0) (pa_cons pe_str pa_nil))))) pss_nil) (pss_one (ps_ret (pe_g B_law_floor hr hg (by omega) rfl passL (pa_cons (pv 0) (pa_cons (pe_ix ix_list (pv 6) pe_int (fun _ _ => rfl)) (pa_cons (pe_callB (call_min2 rfl) rfl T.z_min PyProof.Rows.boot_min (pa_cons (pv 4) (pa_cons (pe_op op_add (pe_dget (hu_of hr) (pv 0) pe_str (fun _ _ => rfl)) (pe_ix ix_list (pv 6) pe_int (fun _ _ => rfl))) pa_nil))) pa_nil))))))) pss_nil) (pss_one (ps_ret (pe_g B_law_done hr hg (by omega) rfl passL (pa_cons (pv 0) (pa_cons (pv 1) (pa_cons (pv 6) pa_nil))))))))))))), ?_⟩
  have ln := hx.len
  have ng : namesG wd ts = true := by
    cases z : namesG wd ts with
    | true => rfl
    | false => rw [evForm, z] at he; cases he
  refine ⟨_, rfl, _, rfl, _, _, rfl, G, wd, a, xs, ts, rfl, rfl, ha, hx, ok.g, hf, ng, fun H1 s1 => ⟨_, rfl, ?_⟩⟩
  rw [evForm, ng] at he
  have st1 := stp_same (d := d) ok.g s1
  have ok1 := ok.same st1 s1
  replace q := PostR.back st1 q
  have ha1 := st1.gh _ _ ha
  clear s1 st1
  cases fm : isFormed wd ts with
  | false =>
    rw [fm] at he
    cases he
    refine iteT ⟨_, rfl, _, _, rfl, d, n, "", "form", G, rfl, rfl, ok1.ld, ok1.g, ok1.gd, fun u H' s' l' => q u G H' s' l'⟩
  | true =>
  rw [fm] at he
  replace he : evGood f wd ts sc lim n = some r := he
  refine iteF ?_
  have fl := formed_len fm
  refine ⟨_, rfl, rfl, _, rfl, ite2 (fun k => ?_) (fun k1 => ?_)⟩
  · obtain rfl := of_str k
    rw [good_quote] at he
    cases he
    have l1 : ts.length = 1 := (Option.some.inj (show some 1 = some ts.length from fl)).symm
    obtain ⟨t0, rfl⟩ := len1 l1
    obtain ⟨x0, f0, g0⟩ := hx.getT (i := 0) rfl
    exact ⟨_, rfl, a, _, _, _, rfl, rfl, SqT.of ha1, atI_nat f0, q _ G H1 (.refl ok1.g) ok1.ld g0⟩
  refine ⟨_, rfl, (by decide), fun p np => ⟨p, _, rfl, .inr (SqT.of upd_same), rfl, rfl, _, rfl, ?_⟩⟩
  have s2' := same_new np (.tup [V.str "fn", .str "rec"])
  have st2 := stp_same (d := d) ok1.g s2'
  have ok2 := ok1.same st2 s2'
  replace q := PostR.back st2 q
  have ha2 := s2' _ _ ha1
  generalize upd H1 p (.tup [V.str "fn", .str "rec"]) = H2 at s2' st2 ok2 q ha2 ⊢
  clear s2' st2 ok1 ha1
  refine ite2 (fun c => ?_) (fun c2 => ?_)
  · have c' : (wd == "fn" || wd == "rec") = true := by
      rw [← inV2]
      exact c
    rw [Bool.or_eq_true] at c'
    rcases c' with z | z
    · obtain rfl := eq_of_beq z
      rw [good_fn] at he
      cases he
      obtain ⟨t0, t1, rfl⟩ := len2 (Option.some.inj (show some 2 = some ts.length from fl)).symm
      cases hx with
      | cons h0 hx =>
        cases hx with
        | cons h1 hx =>
          cases hx
          have nm : areNames t0 = true := by
            unfold isFormed at fm
            rw [Bool.and_eq_true, Bool.and_eq_true] at fm
            exact fm.2.2
          obtain ⟨l, rfl, al⟩ := names_of nm
          obtain ⟨sa, sx, rfl, hsa, hsx, hsp, hsl⟩ := hs
          refine ⟨_, rfl, _, rfl, a, _, _, _, rfl, rfl, SqT.of ha2, rfl, _, rfl, _, rfl, a, _, _, _, rfl, rfl, SqT.of ha2, rfl, _, rfl, _, rfl, rfl, _, rfl, ite_ff (str_ne (by decide)) ⟨s4, fun p3 np3 => ?_⟩⟩
          have gg : ∀ o, Same G (upd G p3 o) := fun o => same_new (ok2.g.free np3) o
          exact q _ _ _ (stp_new (d := d) ok2.g np3 _) ((same_new np3 _) _ _ ok2.ld) (.fn (tb := []) (show FnAt none _ p3 _ _ _ _ from upd_same) (.cons (h0.same (gg _)) (.cons (h1.same (gg _)) (.one (.tup (gg _ _ _ hsa) (hsx.same (gg _)))))) (names_strs al) hsp)
    · obtain rfl := eq_of_beq z
      rw [good_rec] at he
      cases he
      obtain ⟨t0, t1, t2, rfl⟩ := len3 (Option.some.inj (show some 3 = some ts.length from fl)).symm
      cases hx with
      | cons h0 hx =>
        cases hx with
        | cons h1 hx =>
          cases hx with
          | cons h2 hx =>
            cases hx
            have nm : isName t0 = true ∧ areNames t1 = true := by
              unfold isFormed at fm
              rw [Bool.and_eq_true, Bool.and_eq_true] at fm
              exact fm.2
            obtain ⟨l, rfl, al⟩ := names_of nm.2
            obtain ⟨sa, sx, rfl, hsa, hsx, hsp, hsl⟩ := hs
            refine ⟨_, rfl, _, rfl, a, _, _, _, rfl, rfl, SqT.of ha2, rfl, _, rfl, _, rfl, a, _, _, _, rfl, rfl, SqT.of ha2, rfl, _, rfl, _, rfl, rfl, _, rfl, ite_tt (str_eq rfl) ⟨_, rfl, a, _, _, _, rfl, rfl, SqT.of ha2, rfl, s4, fun p3 np3 => ?_⟩⟩
            cases h0 with
            | str x hx0 =>
              have gg : ∀ o, Same G (upd G p3 o) := fun o => same_new (ok2.g.free np3) o
              exact q _ _ _ (stp_new (d := d) ok2.g np3 _) ((same_new np3 _) _ _ ok2.ld) (.rcf (tb := []) (show FnAt none _ p3 _ _ _ _ from upd_same) hx0 (.cons (h1.same (gg _)) (.cons (h2.same (gg _)) (.one (.tup (gg _ _ _ hsa) (hsx.same (gg _)))))) (names_strs al) hsp)
            | bl _ => cases nm.1
            | int _ => cases nm.1
            | tup _ _ => cases nm.1
            | fn _ => cases nm.1
            | rcf _ => cases nm.1
  have c2' : (wd == "fn" || wd == "rec") = false := by
    rw [← inV2]
    exact Bool.eq_false_iff.mpr c2
  refine ⟨_, rfl, (by decide), fun p np => ⟨p, _, rfl, .inr (SqT.of upd_same), rfl, rfl, _, rfl, ?_⟩⟩
  have s3' := same_new np (.tup [V.str "if", .str "let"])
  have st3 := stp_same (d := d) ok2.g s3'
  have ok3 := ok2.same st3 s3'
  replace q := PostR.back st3 q
  have ha3 := s3' _ _ ha2
  generalize upd H2 p (.tup [V.str "if", .str "let"]) = H3 at s3' st3 ok3 q ha3 ⊢
  clear s3' st3 ok2 ha2
  refine ite2 (fun c => ?_) (fun c3 => ?_)
  · have c' : (wd == "if" || wd == "let") = true := by
      rw [← inV2]
      exact c
    -- what is reckoned first
    have first : ∃ (j : Nat) (x : V) (t : Th) (k : Th → Int → Option Res), (if decide (V.str wd = V.str "let") = true then (1 : Int) else 0) = (j : Int) ∧ xs[j]? = some x ∧ Wo none G x t ∧ evGood f wd ts sc lim n = Res.then (ev f t sc lim n) k ∧
        ((wd = "let" ∧ k = fun v m => if scG sc then ev f (ts.getD 2 .non) (.tup [ts.getD 0 .non, v] :: sc) lim m else none) ∨ (wd = "if" ∧ k = evIf f ts sc lim)) := by
      rw [Bool.or_eq_true] at c'
      rcases c' with z | z
      · obtain rfl := eq_of_beq z
        obtain ⟨t0, t1, t2, rfl⟩ := len3 (Option.some.inj (show some 3 = some ts.length from fl)).symm
        obtain ⟨x0, f0, g0⟩ := hx.getT (i := 0) rfl
        exact ⟨0, x0, t0, _, by rw [str_ne (by decide)]; rfl, f0, g0, good_if, .inr ⟨rfl, rfl⟩⟩
      · obtain rfl := eq_of_beq z
        obtain ⟨t0, t1, t2, rfl⟩ := len3 (Option.some.inj (show some 3 = some ts.length from fl)).symm
        obtain ⟨x0, f0, g0⟩ := hx.getT (i := 1) rfl
        exact ⟨1, x0, t1, _, by rw [str_eq rfl]; rfl, f0, g0, good_let, .inl ⟨rfl, rfl⟩⟩
    obtain ⟨j, x, t, k, ej, fj, gj, ek, kk⟩ := first
    rw [ek] at he
    refine ⟨_, rfl, _, rfl, _, rfl, rfl, .inr ⟨_, rfl, a, _, _, _, rfl, rfl, SqT.of ha3, by rw [ej]; exact atI_nat fj, _, rfl, _, rfl, _, _, _, _, rfl, ?_⟩⟩
    cases ev1 : ev f t sc lim n with
    | none => rw [ev1] at he; cases he
    | some q1 =>
      rw [ev1] at he
      have fit := ev_fits f _ _ _ _ _ ok.nl ev1
      refine ⟨d, G, n, lim, t, sc, q1, rfl, rfl, ok3, gj, hs, ev1, ?_⟩
      cases q1 with
      | stop e m =>
        cases he
        intro u G' H' s' l'
        refine ⟨_, rfl, d, _, rfl, DGet.k (k := kEnd) l', rfl, _, rfl, ?_⟩
        refine ite_tt (by show (!decide (V.str e = V.str "")) = true; rw [str_ne (endWs_ne fit.2.2)]; rfl) ⟨by decide, fun p9 np9 => ?_⟩
        exact q _ G' _ (s'.trans (stp_same s'.gh (same_new np9 _))) ((same_new np9 _) _ _ l')
      | val v m =>
        replace he : k v m = some r := he
        intro u G' H' s' l' w'
        refine ⟨_, rfl, d, _, rfl, DGet.k (k := kEnd) l', rfl, _, rfl, ?_⟩
        refine ite_ff (by show (!decide (V.str "" = V.str "")) = false; rw [str_eq rfl]; rfl) ?_
        have ok4 := ok3.stp s' l' fit.1 fit.2
        replace q := PostR.back s' q
        have ha4 := ok4.g _ _ (s'.gg _ _ ha)
        rcases kk with ⟨rfl, rfl⟩ | ⟨rfl, rfl⟩
        · obtain ⟨t0, t1, t2, rfl⟩ := len3 (Option.some.inj (show some 3 = some ts.length from fl)).symm
          obtain ⟨x0, f0, g0⟩ := hx.getT (i := 0) rfl
          obtain ⟨x2, f2, g2⟩ := hx.getT (i := 2) rfl
          have nm : isName t0 = true := by
            unfold isFormed at fm
            rw [Bool.and_eq_true, Bool.and_eq_true] at fm
            exact fm.2.1
          have sg : scG sc = true := by
            cases z : scG sc with
            | true => rfl
            | false =>
              rw [z] at he
              cases he
          rw [sg] at he
          replace he : ev f t2 (.tup [t0, v] :: sc) lim m = some r := he
          obtain ⟨sa, sx, rfl, hsa, hsx, hsp, hsl⟩ := hs
          have lsx := hsx.len
          have lsc : sc.length ≤ 100000 := Nat.le_of_ble_eq_true sg
          refine ⟨_, rfl, rfl, _, rfl, ite_tt (str_eq rfl) ⟨_, rfl, _, rfl, a, _, _, _, rfl, rfl, SqT.of ha4, atI_nat f2, ?_⟩⟩
          refine ⟨_, rfl, a, _, _, _, rfl, rfl, SqT.of ha4, atI_nat f0, _, rfl, s2, fun p5 np5 => ⟨s1, fun p6 np6 => ⟨_, rfl, ?_⟩⟩⟩
          have st5 := stp_new (d := d) ok4.g np5 (.tup [x0, u])
          have st6 := stp_new (d := d) st5.gh np6 (.tup [.ref p5])
          refine rd_catG (d := d) st6.gh upd_same ((s'.gg.trans (st5.gg.trans st6.gg)) _ _ hsa) (by rw [sizeLine_eq]; simp only [List.length_singleton]; omega) fun p7 G7 H7 s7 st7 e7 => ?_
          have stA := (st5.trans st6).trans st7
          have okA := ok4.same stA ((same_new np5 _).trans ((same_new np6 _).trans s7))
          refine ⟨_, rfl, _, _, _, _, rfl, d, G7, m, lim, t2, _, r, rfl, rfl, okA, g2.same (s'.gg.trans stA.gg), ⟨p7, _, rfl, e7, .cons (.tup ((st6.gg.trans st7.gg) _ _ upd_same) (.cons (g0.same (s'.gg.trans stA.gg)) (.one (w'.same stA.gg)))) (hsx.same (s'.gg.trans stA.gg)), ?_, by rw [List.length_cons]; omega⟩, he, PostR.back stA q⟩
          rw [List.all_cons, hsp, Bool.and_true]
          cases t0 <;> first | rfl | cases nm
        · obtain ⟨t0, t1, t2, rfl⟩ := len3 (Option.some.inj (show some 3 = some ts.length from fl)).symm
          obtain ⟨x1, f1, g1⟩ := hx.getT (i := 1) rfl
          obtain ⟨x2, f2, g2⟩ := hx.getT (i := 2) rfl
          refine ⟨_, rfl, rfl, _, rfl, ite_ff (str_ne (by decide)) ⟨_, rfl, _, rfl, G', v, w', ok4.g, rfl, _, rfl, ite2 (fun c5 => ?_) (fun c5 => ?_)⟩⟩
          · have nb : ∀ b, v ≠ .bl b := fun b z => by
              have z2 : (!decide (V.str v.kind = V.str "truth")) = true := c5
              rw [z, show (Th.kind (.bl b) : Str) = "truth" from rfl, str_eq rfl] at z2
              cases z2
            have he2 : r = .stop "kind" m := by
              unfold evIf at he
              split at he
              · exact absurd rfl (nb _)
              · exact (Option.some.inj he).symm
            subst he2
            refine ⟨_, rfl, _, _, rfl, d, m, "", "kind", G', rfl, rfl, l', ok4.g, ok4.gd, fun u2 H2 s2 l2 => ?_⟩
            exact q u2 G' H2 s2 l2
          · have tb : ∃ b, v = .bl b := by
              have z2 : ¬ (!decide (V.str v.kind = V.str "truth")) = true := c5
              cases v with
              | bl b => exact ⟨b, rfl⟩
              | int _ => exact absurd (by rw [show (Th.kind (.int _) : Str) = "number" from rfl, str_ne (by decide)]; rfl) z2
              | str _ => exact absurd (by rw [show (Th.kind (.str _) : Str) = "word" from rfl, str_ne (by decide)]; rfl) z2
              | tup _ => exact absurd (by rw [show (Th.kind (.tup _) : Str) = "row" from rfl, str_ne (by decide)]; rfl) z2
              | fn _ => exact absurd (by rw [show (Th.kind (.fn _) : Str) = "function" from rfl, str_ne (by decide)]; rfl) z2
              | non => exact absurd (by rw [show (Th.kind .non : Str) = "function" from rfl, str_ne (by decide)]; rfl) z2
              | oth => exact absurd (by rw [show (Th.kind .oth : Str) = "function" from rfl, str_ne (by decide)]; rfl) z2
            obtain ⟨b, rfl⟩ := tb
            cases w'
            cases b with
            | true =>
              refine ⟨_, rfl, _, rfl, _, rfl, iteT ⟨_, rfl, a, _, _, _, rfl, rfl, SqT.of ha4, atI_nat f1, _, rfl, _, rfl, _, _, _, _, rfl, d, G', m, lim, t1, sc, r, rfl, rfl, ok4, g1.same s'.gg, hs.same s'.gg, he, q⟩⟩
            | false =>
              refine ⟨_, rfl, _, rfl, _, rfl, iteF ⟨_, rfl, a, _, _, _, rfl, rfl, SqT.of ha4, atI_nat f2, _, rfl, _, rfl, _, _, _, _, rfl, d, G', m, lim, t2, sc, r, rfl, rfl, ok4, g2.same s'.gg, hs.same s'.gg, he, q⟩⟩
  have c3' : (wd == "if" || wd == "let") = false := by
    rw [← inV2]
    exact Bool.eq_false_iff.mpr c3
  have w7 : wd = "run" ∨ wd ∈ doneWs := by
    have z : ∀ x ∈ formWords, x ≠ "quote" → (x == "fn" || x == "rec") = false → (x == "if" || x == "let") = false → x = "run" ∨ x ∈ doneWs := by decide +kernel
    exact z wd (form_mem hf) (not_str k1) c2' c3'
  have ek : ∃ k, evGood f wd ts sc lim n = Ress.then (evs f ts sc lim n) k ∧ ((wd = "run" ∧ k = evRun f lim) ∨ (wd ∈ doneWs ∧ k = fun ws m => if doneG wd ws then some ((doneBy wd ws).at m) else none)) := by
    rcases w7 with rfl | z
    · exact ⟨_, good_run, .inl ⟨rfl, rfl⟩⟩
    · exact ⟨_, good_done z, .inr ⟨z, rfl⟩⟩
  obtain ⟨k, ek, kk⟩ := ek
  rw [ek] at he
  have tl : ts.length ≤ 100001 := by
    have z : ∀ x ∈ formWords, (formCount x).getD 0 ≤ 100001 := by decide +kernel
    have := z wd (form_mem hf)
    rw [fl] at this
    exact this
  refine ⟨_, rfl, _, rfl, _, rfl, _, rfl, _, _, _, _, rfl, ?_⟩
  cases ev1 : evs f ts sc lim n with
  | none => rw [ev1] at he; cases he
  | some q1 =>
    rw [ev1] at he
    have fit := evs_fits (ev_fits f) _ _ _ _ _ ok.nl ev1
    refine ⟨d, G, n, lim, a, xs, ts, sc, q1, rfl, rfl, ok3, rfl, ha, hx, hs, tl, ev1, ?_⟩
    cases q1 with
    | stop e m =>
      cases he
      intro u G' H' s' l'
      refine ⟨_, rfl, d, _, rfl, DGet.k (k := kEnd) l', rfl, _, rfl, ?_⟩
      refine ite_tt (by show (!decide (V.str e = V.str "")) = true; rw [str_ne (endWs_ne fit.2.2)]; rfl) ⟨by decide, fun p9 np9 => ?_⟩
      exact q _ G' _ (s'.trans (stp_same s'.gh (same_new np9 _))) ((same_new np9 _) _ _ l')
    | vals ws m =>
      replace he : k ws m = some r := he
      intro D ys G' H' s' l' hD gD nDd w'
      refine ⟨_, rfl, d, _, rfl, DGet.k (k := kEnd) l', rfl, _, rfl, ?_⟩
      refine ite_ff (by show (!decide (V.str "" = V.str "")) = false; rw [str_eq rfl]; rfl) ?_
      have ok4 := ok3.stp s' l' fit.1 fit.2
      replace q := PostR.back s' q
      have lw : ws.length = ts.length := evs_len ev1
      rcases kk with ⟨rfl, rfl⟩ | ⟨wm, rfl⟩
      · obtain ⟨t0, t1, rfl⟩ := len2 (l := ws) (by rw [lw]; exact (Option.some.inj (show some 2 = some ts.length from fl)).symm)
        obtain ⟨x0, f0, g0⟩ := w'.getT (i := 0) rfl
        obtain ⟨x1, f1, g1⟩ := w'.getT (i := 1) rfl
        refine ⟨_, rfl, rfl, _, rfl, ite_tt (str_eq rfl) ?_⟩
        refine seq_if (fun k => ∀ b, (b = true → r = .stop "kind" m) → (b = false → ∃ i, t1 = .int i ∧ x1 = .int i ∧ 0 ≤ i ∧ i ≤ 100000) → k b H') (fun b h1 h2 => ?_) (fun k hk => ?_)
        · cases b with
          | true =>
            obtain rfl := h1 rfl
            refine iteT ⟨_, rfl, _, _, rfl, d, m, "", "kind", G', rfl, rfl, l', ok4.g, ok4.gd, fun u2 H2 s2 l2 => ?_⟩
            exact q u2 G' H2 s2 l2
          | false =>
            obtain ⟨i, rfl, rfl, i0, i1⟩ := h2 rfl
            refine iteF ?_
            have he2 : Res.told m (ev f t0 [] (min (m + i) lim) m) = some r := by
              have z : evRun f lim [t0, .int i] m = some r := he
              unfold evRun at z
              simpa [i0, i1] using z
            have mn : (if m + i < lim then m + i else lim) = min (m + i) lim := by
              rw [Int.min_def]
              split <;> split <;> omega
            refine ⟨_, rfl, _, rfl, D, _, _, _, rfl, rfl, SqL.of hD, atI_nat f0, _, rfl, _, rfl, d, _, rfl, DGet.k (k := kSteps) l', _, rfl, D, _, _, _, rfl, rfl, SqL.of hD, atI_nat f1, _, _, rfl, rfl, _, _, rfl, _, _, _, rfl, d, G', m, _, t0, r, rfl, rfl, ⟨ok4.g, ok4.gd, l', ok4.n0, ?_, ?_⟩, g0, ?_, q⟩
            · have := fit.2
              split <;> omega
            · have := ok4.ll
              split <;> omega
            · rw [mn]
              exact he2
        · have nokind : (∀ i, t1 ≠ .int i) → r = .stop "kind" m := fun z => by
            have he3 : evRun f lim [t0, t1] m = some r := he
            unfold evRun at he3
            split at he3
            · rename_i i e
              exact absurd e (z i)
            · exact (Option.some.inj he3).symm
          refine ⟨_, rfl, D, _, _, _, rfl, rfl, SqL.of hD, atI_nat f1, _, rfl, G', t1, g1, ok4.g, rfl, _, rfl, ite2 (fun c5 => ?_) (fun c5 => ?_)⟩
          · refine hk true (fun _ => nokind fun i z => ?_) (fun z => nomatch z)
            have z2 : (!decide (V.str t1.kind = V.str "number")) = true := c5
            rw [z, show (Th.kind (.int i) : Str) = "number" from rfl, str_eq rfl] at z2
            cases z2
          · have kn : t1.kind = "number" := by
              refine Classical.byContradiction fun z => c5 ?_
              show (!decide (V.str t1.kind = V.str "number")) = true
              rw [str_ne z]
              rfl
            obtain ⟨i, rfl⟩ := num_kind kn
            obtain ⟨rfl, ni⟩ := wo_int g1 rfl
            have he3 : (if 0 ≤ i ∧ i ≤ 100000 then Res.told m (ev f t0 [] (min (m + i) lim) m) else some (.stop "kind" m)) = some r := he
            refine ⟨_, rfl, D, _, _, _, rfl, rfl, SqL.of hD, atI_nat f1, _, _, rfl, rfl, _, rfl, ite2 (fun c6 => ?_) (fun c6 => ?_)⟩
            · have c6' : 0 ≤ i := of_decide_eq_true c6
              refine ⟨_, _, rfl, rfl, _, rfl, ?_⟩
              by_cases c7 : i ≤ 100000
              · rw [decide_eq_true c7]
                exact hk false (fun z => nomatch z) (fun _ => ⟨i, rfl, rfl, c6', c7⟩)
              · rw [decide_eq_false c7]
                rw [if_neg (fun z => c7 z.2)] at he3
                exact hk true (fun _ => (Option.some.inj he3).symm) (fun z => nomatch z)
            · have c6' : ¬ 0 ≤ i := fun z => c6 (decide_eq_true z)
              rw [if_neg (fun z => c6' z.1)] at he3
              exact ⟨_, rfl, hk true (fun _ => (Option.some.inj he3).symm) (fun z => nomatch z)⟩
      · have dg : doneG wd ws = true := by
          cases z : doneG wd ws with
          | true => rfl
          | false =>
            simp only [z] at he
            cases he
        simp only [dg] at he
        have he2 : (doneBy wd ws).at m = r := Option.some.inj he
        have nr : wd ≠ "run" := by
          have z : ∀ x ∈ doneWs, x ≠ "run" := by decide +kernel
          exact z wd wm
        refine ⟨_, rfl, rfl, _, rfl, ite_ff (str_ne nr) ⟨_, rfl, _, rfl, _, rfl, _, _, _, rfl, d, G', m, wd, D, ys, ws, rfl, rfl, rfl, ok4.g, ok4.gd, l', hD, w', wm, by rw [lw]; exact fl, dg, ?_⟩⟩
        rw [he2]
        exact q
end
end Fl
namespace Fl
open PySem PySem.Spec PyProof.Rows L2
theorem cut_one (y : V) (ys : List V) : cutV (y :: ys) (some 1) none = ys := by
  unfold cutV
  rw [show HT.sIx (y :: ys).length 0 (some 1) = 1 by rw [sIx_pos (by decide)]; simp, show HT.sIx (y :: ys).length (y :: ys).length none = (y :: ys).length from rfl]
  rw [List.drop_succ_cons, List.drop_zero, List.length_cons, Nat.add_sub_cancel, List.take_length]
section
variable {P : Program} {w : World} {K : PySem.W.Frag} {mg : Str → Option Value} {base : Heap}
theorem ok_law_reckon_none (F : FnP K mg "_law_reckon" s_law_reckon) {L : Nat} : Cg P w K mg base (L + 1) "_law_reckon" ["_law_state_here", "_law_part_here", "_law_scope", "_law_limit"] (spReckon 0) := by
  refine cg_mk F sc_law_reckon (fun _ _ _ _ _ _ us hl => match us, hl with | [_, _, _, _], _ => rfl) (fun vs H Q E h => by obtain ⟨_, _, _, _, rfl, _⟩ := h; rfl) fun cdv A outer s H vs Q E hr hg h => ?_
  obtain ⟨_, _, _, _, rfl, d, G, n, lim, t, sc, r, rfl, rfl, ok, hp, hs, he, q⟩ := h
  rw [ev] at he
  cases he
theorem ok_law_reckon {L f : Nat} (hL : 3 ≤ L) (F : FnP K mg "_law_reckon" s_law_reckon) (T : Tl mg) (B_law_words : Cl P w K mg base 1 "_law_words" [] spWords) (B_law_stop : Cl P w K mg base 1 "_law_stop" ["_law_state_here", "_law_word"] spStop)
    (B_law_form : Cg P w K mg base (L + 2) "_law_form" ["_law_state_here", "_law_word", "_law_rest", "_law_scope", "_law_limit"] (spForm f)) (B_law_all : Cg P w K mg base (L + 1) "_law_all" ["_law_state_here", "_law_parts", "_law_scope", "_law_limit"] (spAll f)) (B_law_call : Cg P w K mg base (L + 1) "_law_call" ["_law_state_here", "_law_function", "_law_worths", "_law_limit"] (spCallL f)) : Cg P w K mg base (L + 3) "_law_reckon" ["_law_state_here", "_law_part_here", "_law_scope", "_law_limit"] (spReckon (f + 1)) := by
  refine cg_mk F sc_law_reckon (fun _ _ _ _ _ _ us hl => match us, hl with | [_, _, _, _], _ => rfl) (fun vs H Q E h => by obtain ⟨_, _, _, _, rfl, _⟩ := h; rfl) fun cdv A outer s H vs Q E hr hg h => ?_
  obtain ⟨_, pv0, sv, _, rfl, d, G, n, lim, t, sc, r, rfl, rfl, ok, hp, hs, he, q⟩ := h
  refine ⟨_, PSs.nox (pss_cons (ps_if (pt_cmpR op_eq (pe_dget (hu_of hr) (pv 0) pe_str (fun _ _ => rfl)) (pv 3) (nomark _)) (pss_one (ps_ret (pe_b B_law_stop hr (by omega) rfl passL (pa_cons (pv 0) (pa_cons pe_str pa_nil))))) pss_nil) (pss_cons (ps_dput (hu_of hr) (pv 0) pe_str (pe_op op_add (pe_dget (hu_of hr) (pv 0) pe_str (fun _ _ => rfl)) pe_int) rfl) (pss_cons (ps_if (pt_val (pe_callB call_isi rfl T.z_isinstance PyProof.Rows.boot_isinstance (pa_cons (pv 1) (pa_cons (pe_bltn (v := .ty "str") rfl T.z_str (by decide +kernel) rfl) pa_nil)))) (pss_cons (ps_setLc (i := 4) (own := [("_law_name", 6), ("_law_worth", 7)]) (g := gTup K 2 (gCons (gName 6) (gCons (gName 7) gNil))) rfl sc_law_reckon.nd rfl rfl (sw_true rfl rfl rfl (by decide +kernel)) (pi_tup (pv 2)) (blkOk_by (own := [("_law_name", 6), ("_law_worth", 7)]) (N := ["_law_state_here", "_law_part_here", "_law_scope", "_law_limit", "_law_found", "_law_worths", "_law_name", "_law_worth"]) (sc := defScope s_law_reckon) (by decide +kernel)) (fun _ _ _ _ _ => (pg_tup rfl (pgs_cons (pg_name (i := 6) sc_law_reckon.nd rfl (Or.inl rfl)) (pgs_cons (pg_name (i := 7) sc_law_reckon.nd rfl (Or.inl rfl)) pgs_nil)))) (fun _ _ _ _ _ => (pts_one (pt_cmpR op_eq (pv 6) (pv 1) (nomark _)))) (fun _ _ _ _ _ => (pv 7))) (pss_cons (ps_if (PW.pt (pw_or (pt_cmpR op_in_seq (pv 1) (pe_b0 B_law_words hr (by omega) rfl passL) rfl) (pw_or1 (pt_cmpR (op_eqNil hr.units0) (pv 4) (pe_lst pa_nil) (nomark _))))) (pss_one (ps_ret (pe_b B_law_stop hr (by omega) rfl passL (pa_cons (pv 0) (pa_cons (pe_ifExp (pt_cmpR op_in_seq (pv 1) (pe_b0 B_law_words hr (by omega) rfl passL) rfl) pe_str pe_str) pa_nil))))) pss_nil) (pss_one (ps_ret (pe_ix ix_list (pv 4) pe_int (fun _ _ => rfl)))))) pss_nil) (pss_cons (ps_if (PW.pt (pw_or (pt_not (pt_val (pe_callB call_isi rfl T.z_isinstance PyProof.Rows.boot_isinstance (pa_cons (pv 1) (pa_cons (pe_bltn (v := .ty "tuple") rfl T.z_tuple (by decide +kernel) rfl) pa_nil))))) (pw_or1 (pt_cmpR (op_eqTN hr.units0) (pv 1) (pe_tup pa_nil) (nomark _))))) (pss_one (ps_ret (pv 1))) pss_nil) (pss_cons (ps_if (PW.pt (pw_and (pt_val (pe_callB call_isi rfl T.z_isinstance PyProof.Rows.boot_isinstance (pa_cons (pe_ix ix_tup (pv 1) pe_int (fun _ _ => rfl)) (pa_cons (pe_bltn (v := .ty "str") rfl T.z_str (by decide +kernel) rfl) pa_nil)))) (pw_and1 (pt_cmpR op_in_seq (pe_ix ix_tup (pv 1) pe_int (fun _ _ => rfl)) (pe_b0 B_law_words hr (by omega) rfl passL) rfl)))) (pss_one (ps_ret (pe_g B_law_form hr hg (by omega) rfl passL (pa_cons (pv 0) (pa_cons (pe_ix ix_tup (pv 1) pe_int (fun _ _ => rfl)) (pa_cons (pe_slice sl_tupA (pv 1) (po_some pe_int) po_none) (pa_cons (pv 2) (pa_cons (pv 3) pa_nil)))))))) pss_nil) (pss_cons (ps_set (i := 5) sc_law_reckon.nd rfl (Or.inl rfl) (pe_g B_law_all hr hg (by omega) rfl passL (pa_cons (pv 0) (pa_cons (pv 1) (pa_cons (pv 2) (pa_cons (pv 3) pa_nil)))))) (pss_cons (ps_if (pt_cmpR op_ne (pe_dget (hu_of hr) (pv 0) pe_str (fun _ _ => rfl)) pe_str (nomark _)) (pss_one (ps_ret (pe_tup pa_nil))) pss_nil) (pss_one (ps_ret (pe_g B_law_call hr hg (by omega) rfl passL (pa_cons (pv 0) (pa_cons (pe_ix ix_list (pv 5) pe_int (fun _ _ => rfl)) (pa_cons (pe_slice sl_list (pv 5) (po_some pe_int) po_none) (pa_cons (pv 3) pa_nil)))))))))))))), ?_⟩
  rw [ev_succ] at he
  refine ⟨_, rfl, d, _, rfl, DGet.k (k := kSteps) ok.ld, _, rfl, rfl, _, rfl, ite2 (fun k => ?_) (fun k => ?_)⟩
  · have e : n = lim := by
      have z := of_decide_eq_true k
      injection z
    rw [if_pos e] at he
    cases he
    refine ⟨_, rfl, _, _, rfl, d, n, "", "steps", G, rfl, rfl, ok.ld, ok.g, ok.gd, fun u H' s' l' => q u G H' s' l'⟩
  have e : ¬ n = lim := fun z => k (decide_eq_true (by rw [z]))
  rw [if_neg e] at he
  refine ⟨_, rfl, d, _, rfl, DGet.k (k := kSteps) ok.ld, _, _, rfl, rfl, _, rfl, d, _, rfl, DPut.k (k := kSteps) ok.ld (by show 2 < sizeLine; decide), ?_⟩
  rw [put_steps]
  have st1 := stp_put (d := d) ok.g ok.gd (.dK [(kSteps, .int (n + 1)), (kEnd, .str "")]) (H := H)
  have l1 : Ld d (n + 1) "" (upd H d (.dK [(kSteps, .int (n + 1)), (kEnd, .str "")])) := upd_same
  have ok1 := ok.stp st1 l1 (show n ≤ n + 1 by omega) (by have := ok.nl; omega)
  replace q := PostR.back st1 q
  generalize upd H d (.dK [(kSteps, .int (n + 1)), (kEnd, .str "")]) = H1 at st1 l1 ok1 q ⊢
  obtain ⟨u1, y1, k1⟩ := wk_str (K := K) (M := none) trivial ok1.g hp
  obtain ⟨u2, y2, k2⟩ := wk_tup (K := K) (M := none) trivial ok1.g hp
  refine ⟨_, rfl, pv0, _, u1, _, _, rfl, .ty _, y1, k1, _, rfl, ?_⟩
  have leaf : t.isStr = false → t.isTup = false → some (Res.val t (n + 1)) = some r → Q pv0 H1 := fun _ _ he => by
    cases he
    exact q _ G H1 (.refl ok1.g) l1 hp
  cases hp with
  | bl b => exact iteF ⟨_, rfl, _, _, u2, _, _, rfl, .ty _, y2, k2, _, rfl, iteT (iteT ⟨_, rfl, leaf rfl rfl he⟩)⟩
  | int i hi => exact iteF ⟨_, rfl, _, _, u2, _, _, rfl, .ty _, y2, k2, _, rfl, iteT (iteT ⟨_, rfl, leaf rfl rfl he⟩)⟩
  | fn _ => exact iteF ⟨_, rfl, _, _, u2, _, _, rfl, .ty _, y2, k2, _, rfl, iteT (iteT ⟨_, rfl, leaf rfl rfl he⟩)⟩
  | rcf _ => exact iteF ⟨_, rfl, _, _, u2, _, _, rfl, .ty _, y2, k2, _, rfl, iteT (iteT ⟨_, rfl, leaf rfl rfl he⟩)⟩
  | str x hx =>
    refine iteT ?_
    obtain ⟨sa, sx, rfl, hsa, hsx, hsp, hsl⟩ := hs
    have lsx := hsx.len
    have he2 : evWord x sc (n + 1) = r := Option.some.inj he
    have g1 := ok1.g
    have nw : ∀ H2, Same H1 H2 → Stp d G H1 G H2 := fun H2 s => stp_same g1 s
    refine ⟨_, rfl, sa, rfl, ⟨_, SqT.of (g1 _ _ hsa)⟩, fun D nD => ?_⟩
    refine lc_it (walk_tup (K := K) (a := sa) (xs := sx)) (fun i H' => ∃ acc : List V, Same H1 H' ∧ H' D = some (.lst acc) ∧ acc.length ≤ i ∧ Wos none G acc (looks x (sc.take i))) ⟨[], same_new nD _, upd_same, Nat.le_refl _, .nil⟩ (fun _ _ _ z => by obtain ⟨_, z, _⟩ := z; exact SqT.of (z _ _ (g1 _ _ hsa))) ?_ ?_
    · rintro i y H3 H4 hi ⟨acc, r1, r2, r3, r4⟩ ⟨rfl, hy⟩
      obtain ⟨t1, e1, w1⟩ := hsx.get hy
      have ip := List.all_eq_true.mp hsp t1 (List.mem_of_getElem? e1)
      obtain ⟨p, z, u, tv, rfl, hp, rfl, hz, wu⟩ := pair_of w1 ip
      have tk : looks x (sc.take (i + 1)) = looks x (sc.take i) ++ (if z = x then [tv] else []) := by
        rw [take_snoc e1, looks_app]
        congr 1
        unfold looks
        by_cases h : z = x
        · rw [if_pos h]
          simp [hasName, h]
        · rw [if_neg h]
          simp [hasName, h]
      refine ⟨p, _, rfl, SqT.of ((g1.trans r1) _ _ hp), rfl, _, _, rfl, _, _, rfl, rfl, rfl, _, rfl, _, rfl, rfl, _, rfl, ?_⟩
      by_cases h : z = x
      · rw [str_eq h]
        rw [if_pos h] at tk
        refine iteT ⟨_, rfl, acc, r2, ?_, acc ++ [u], same_mut r1 nD, upd_same, ?_, ?_⟩
        · rw [sizeLine_eq]
          omega
        · rw [List.length_append, List.length_singleton]
          omega
        · rw [tk]
          exact r4.app (.one wu)
      · rw [str_ne h]
        rw [if_neg h, List.append_nil] at tk
        refine iteF ⟨acc, r1, r2, by omega, ?_⟩
        rw [tk]
        exact r4
    · rintro H3 ⟨acc, r1, r2, r3, r4⟩
      rw [lsx, List.take_length] at r4
      refine ⟨_, rfl, rfl, fun p H4 s4 n4 e4 => ⟨p, _, rfl, .inl (SqL.of e4), rfl, by decide +kernel, _, rfl, ?_⟩⟩
      rw [inV_str, form_in]
      have s14 := r1.trans s4
      cases hf : isForm x with
      | true =>
        have he3 : r = .stop "form" (n + 1) := by
          rw [← he2, evWord, hf]
          rfl
        subst he3
        refine iteT (iteT ⟨_, rfl, _, rfl, rfl, fun p5 H5 s5 n5 e5 => ⟨p5, _, rfl, .inl (SqL.of e5), rfl, by decide +kernel, _, rfl, ?_⟩⟩)
        rw [inV_str, form_in, hf]
        have s15 := s14.trans s5
        refine iteT ⟨_, _, rfl, d, n + 1, "", "form", G, rfl, rfl, s15 _ _ l1, g1.trans s15, ok1.gd, fun u H' s' l' => ?_⟩
        exact q u G H' ((nw _ s15).trans s') l'
      | false =>
        have he3 : (match looks x sc with
          | v :: _ => Res.val v (n + 1)
          | [] => .stop "name" (n + 1)) = r := by
          rw [← he2, evWord, hf]
          rfl
        refine iteF ⟨_, rfl, by decide, fun p5 np5 => ⟨D, p5, acc, rfl, rfl, SqL.of ((same_new np5 _) _ _ (s4 _ _ r2)), SqL.of upd_same, _, rfl, ?_⟩⟩
        have s15 := s14.trans (same_new np5 (.lst []))
        generalize looks x sc = lk at r4 he3
        cases r4 with
        | nil =>
          subst he3
          refine iteT ⟨_, rfl, _, rfl, rfl, fun p6 H6 s6 n6 e6 => ⟨p6, _, rfl, .inl (SqL.of e6), rfl, by decide +kernel, _, rfl, ?_⟩⟩
          rw [inV_str, form_in, hf]
          have s16 := s15.trans s6
          refine iteF ⟨_, _, rfl, d, n + 1, "", "name", G, rfl, rfl, s16 _ _ l1, g1.trans s16, ok1.gd, fun u H' s' l' => ?_⟩
          exact q u G H' ((nw _ s16).trans s') l'
        | cons w1 w2 =>
          subst he3
          refine iteF ⟨_, rfl, D, _, _, _, rfl, rfl, SqL.of ((same_new np5 _) _ _ (s4 _ _ r2)), atI_nat (j := 0) rfl, ?_⟩
          exact q _ G _ (nw _ s15) (s15 _ _ l1) w1
  | tup ht hts =>
    rename_i a xs ts
    have g1 := ok1.g
    refine iteF ⟨_, rfl, _, _, u2, _, _, rfl, .ty _, y2, k2, _, rfl, iteF ⟨_, rfl, by decide, fun p np => ⟨_, p, _, rfl, rfl, (g1.trans (same_new np _)) _ _ ht, upd_same, _, rfl, ?_⟩⟩⟩
    have s2' := same_new np (.tup [])
    have st2 := stp_same (d := d) g1 s2'
    have ok2 := ok1.same st2 s2'
    replace q := PostR.back st2 q
    generalize upd H1 p (.tup []) = H2 at s2' st2 ok2 q ⊢
    have g2 := ok2.g
    have ha := g2 _ _ ht
    cases hts with
    | nil =>
      cases he
      exact iteT ⟨_, rfl, q _ G H2 (.refl g2) ok2.ld (.tup ht .nil)⟩
    | cons h0 hr0 =>
      rename_i x0 xr t0 tr
      have wall : Wos none G (x0 :: xr) (t0 :: tr) := .cons h0 hr0
      replace he : evRow f t0 tr sc lim (n + 1) = some r := he
      have sg : scG tr = true := by
        cases z : scG tr with
        | true => rfl
        | false =>
          rw [evRow, z] at he
          cases he
      have ltr : tr.length ≤ 100000 := Nat.le_of_ble_eq_true sg
      rw [evRow, sg] at he
      obtain ⟨u3, y3, k3⟩ := wk_str (K := K) (M := none) trivial g2 h0
      refine iteF ?_
      refine stepN ?_
      dsimp only
      refine seq_if (fun k => ∀ b H', Same H2 H' → (b = true → ∃ wd, t0 = .str wd ∧ isForm wd = true) → (b = false → evCalls f (t0 :: tr) sc lim (n + 1) = some r) → k b H') (fun b H3 s3 hb1 hb2 => ?_) (fun k hk => ?_)
      case refine_2 =>
        refine ⟨_, rfl, a, _, _, _, rfl, rfl, SqT.of ha, atI_nat (j := 0) rfl, _, _, u3, _, _, rfl, .ty _, y3, k3, _, rfl, ?_⟩
        have no : strOf t0 = none → evCalls f (t0 :: tr) sc lim (n + 1) = some r := fun z => by
          rw [z] at he
          exact he
        cases h0 with
        | str wd hwd =>
          refine iteT ⟨_, rfl, a, _, _, _, rfl, rfl, SqT.of ha, atI_nat (j := 0) rfl, rfl, fun p3 H3 s3 n3 e3 => ⟨p3, _, rfl, .inl (SqL.of e3), rfl, by decide +kernel, _, rfl, ?_⟩⟩
          rw [inV_str, form_in]
          cases hf : isForm wd with
          | true => exact hk true H3 s3 (fun _ => ⟨wd, rfl, hf⟩) (fun z => nomatch z)
          | false =>
            refine hk false H3 s3 (fun z => nomatch z) fun _ => ?_
            have z : (if isForm wd then evForm f wd tr sc lim (n + 1) else evCalls f (.str wd :: tr) sc lim (n + 1)) = some r := he
            rw [hf] at z
            exact z
        | bl b => exact iteF (hk false H2 (.refl _) (fun z => nomatch z) fun _ => no rfl)
        | int b _ => exact iteF (hk false H2 (.refl _) (fun z => nomatch z) fun _ => no rfl)
        | tup _ _ => exact iteF (hk false H2 (.refl _) (fun z => nomatch z) fun _ => no rfl)
        | fn _ => exact iteF (hk false H2 (.refl _) (fun z => nomatch z) fun _ => no rfl)
        | rcf _ => exact iteF (hk false H2 (.refl _) (fun z => nomatch z) fun _ => no rfl)
      have st3 := stp_same (d := d) g2 s3
      have ok3 := ok2.same st3 s3
      replace q := PostR.back st3 q
      have g3 := ok3.g
      have ha3 := g3 _ _ ht
      cases b with
      | true =>
        obtain ⟨wd, rfl, hf⟩ := hb1 rfl
        have he2 : evForm f wd tr sc lim (n + 1) = some r := by
          have z : (if isForm wd then evForm f wd tr sc lim (n + 1) else evCalls f (.str wd :: tr) sc lim (n + 1)) = some r := he
          rw [hf] at z
          exact z
        cases h0 with
        | str _ hwd =>
          refine iteT ⟨_, rfl, _, rfl, a, _, _, _, rfl, rfl, SqT.of ha3, atI_nat (j := 0) rfl, _, rfl, _, rfl, ?_⟩
          dsimp only [tNoPart]
          refine rd_dropG (d := d) (i := 1) g3 ht (by decide) fun p7 G7 H7 s7 st7 e7 => ?_
          refine ⟨_, rfl, _, rfl, d, G7, n + 1, lim, wd, p7, xr, tr, sv, sc, r, rfl, ok3.same st7 s7, e7, hr0.same st7.gg, hs.same st7.gg, hf, he2, PostR.back st7 q⟩
      | false =>
        have he2 := hb2 rfl
        refine iteF ⟨_, rfl, _, rfl, _, rfl, _, rfl, _, _, _, _, rfl, ?_⟩
        unfold evCalls at he2
        cases ev1 : evs f (t0 :: tr) sc lim (n + 1) with
        | none => rw [ev1] at he2; cases he2
        | some q1 =>
          rw [ev1] at he2
          have fit := evs_fits (ev_fits f) _ _ _ _ _ ok1.nl ev1
          refine ⟨d, G, n + 1, lim, a, _, _, sc, q1, rfl, rfl, ok3, rfl, ht, wall, hs, by rw [List.length_cons]; omega, ev1, ?_⟩
          cases q1 with
          | stop e m =>
            cases he2
            intro u G' H' s' l'
            refine ⟨_, rfl, d, _, rfl, DGet.k (k := kEnd) l', rfl, _, rfl, ?_⟩
            refine ite_tt (by show (!decide (V.str e = V.str "")) = true; rw [str_ne (endWs_ne fit.2.2)]; rfl) ⟨by decide, fun p9 np9 => ?_⟩
            exact q _ G' _ (s'.trans (stp_same s'.gh (same_new np9 _))) ((same_new np9 _) _ _ l')
          | vals ws m =>
            replace he2 : evCall f ws lim m = some r := he2
            intro D ys G' H' s' l' hD gD nDd w'
            refine ⟨_, rfl, d, _, rfl, DGet.k (k := kEnd) l', rfl, _, rfl, ?_⟩
            refine ite_ff (by show (!decide (V.str "" = V.str "")) = false; rw [str_eq rfl]; rfl) ?_
            have ok4 := ok3.stp s' l' fit.1 fit.2
            replace q := PostR.back s' q
            have lw : ws.length = (t0 :: tr).length := evs_len ev1
            cases w' with
            | nil => cases lw
            | cons w1 w2 =>
              rename_i y1 yr v1 vr
              refine ⟨_, rfl, _, rfl, D, _, _, _, rfl, rfl, SqL.of hD, atI_nat (j := 0) rfl, _, rfl, _, rfl, D, _, rfl, SqL.of hD, fun p8 np8 => ⟨_, rfl, ?_⟩⟩
              rw [cut_one]
              have st8 := stp_same (d := d) ok4.g (same_new np8 (.lst yr))
              exact ⟨_, _, _, _, rfl, d, G', m, lim, v1, p8, yr, vr, r, rfl, rfl, ok4.same st8 (same_new np8 _), w1, rfl, upd_same, w2, he2, PostR.back st8 q⟩
end
end Fl
/-! the table of forms and the row of number words, as the top left them -/
namespace Fl
open PySem PySem.Spec PyProof.Rows L2
def entryOf (e : DictEntry) : Option (Str × Int) := match e.key, e.val with
  | .str x _, .int i _ => some (x, i)
  | _, _ => none
theorem find_tab (x : Str) : ∀ (l : List DictEntry) (fs : List (Str × Nat)), l.map entryOf = fs.map (fun p => some (p.1, (p.2 : Int))) →
    (l.any (·.refKey) = false ∧ (match l.find? (·.key.isStr x) with
      | some e => ∃ c, fs.lookup x = some c ∧ RelV (.int (c : Nat)) e.val
      | none => fs.lookup x = none))
  | [], [], _ => ⟨rfl, rfl⟩
  | [], _ :: _, h => by cases h
  | _ :: _, [], h => by cases h
  | e :: r, (y, c) :: fs, h => by
    rw [List.map_cons, List.map_cons] at h
    injection h with h1 h2
    obtain ⟨i1, i2⟩ := find_tab x r fs h2
    unfold entryOf at h1
    obtain ⟨hh, key, val⟩ := e
    split at h1
    · rename_i z t i u hk hv
      simp only at hk hv
      have h3 := Option.some.inj h1
      obtain ⟨h4, h5⟩ := Prod.mk.inj h3
      subst hk hv h4 h5
      refine ⟨by rw [List.any_cons, i1]; rfl, ?_⟩
      rw [List.find?_cons, List.lookup_cons]
      show (match (match z == x with
        | true => some _
        | false => List.find? _ r) with
        | some e => _
        | none => _)
      cases hz : z == x with
      | true =>
        have e1 : (x == z) = true := by rw [eq_of_beq hz]; exact beq_self_eq_true x
        rw [e1]
        exact ⟨c, rfl, ⟨_, rfl⟩⟩
      | false =>
        have e1 : (x == z) = false := by
          cases q : x == z with
          | false => rfl
          | true =>
            rw [eq_of_beq q, beq_self_eq_true] at hz
            cases hz
        rw [e1]
        exact i2
    · cases h1
def tabB (x : Str) (K : PySem.W.Frag) : Bool := match K.lookup (He.ga K x) with
  | some ⟨_, _, .dict es _, _⟩ => decide (es.toList.map entryOf = formList.map (fun p => some (p.1, (p.2 : Int))))
  | _ => false
theorem tab_ok {x : Str} {K : PySem.W.Frag} (h : tabB x K = true) (z : Str) : ∃ r, PySem.W.nsIn K (He.ga K x) z = some r ∧ r.isSome = isForm z ∧ ∀ c, formCount z = some c → ∃ u, r = some u ∧ RelV (.int (c : Nat)) u := by
  unfold tabB at h
  split at h
  · rename_i oc od es n sl hl
    have h2 := of_decide_eq_true h
    obtain ⟨i1, i2⟩ := find_tab z _ _ h2
    unfold PySem.W.nsIn
    rw [hl]
    cases f : es.toList.find? (·.key.isStr z) with
    | some e =>
      rw [f] at i2
      obtain ⟨c, e1, e2⟩ := i2
      have e3 : formCount z = some c := e1
      refine ⟨some e.val, by simp only [f], ?_, fun c' hc => ?_⟩
      · unfold isForm
        rw [e3]
        rfl
      · rw [e3] at hc
        cases hc
        exact ⟨_, rfl, e2⟩
    | none =>
      rw [f] at i2
      have e3 : formCount z = none := i2
      refine ⟨none, by simp only [f]; rw [if_neg (by rw [i1]; decide)], ?_, fun c hc => ?_⟩
      · unfold isForm
        rw [e3]
        rfl
      · rw [e3] at hc
        cases hc
  · cases h
structure FmT (K : PySem.W.Frag) (w : World) (mg : Str → Option Value) : Prop where
  g_FORMS : mg "FORMS" = some (.ref (He.ga K "FORMS"))
  kd : ∃ es n, KDict K w (He.ga K "FORMS") es n
  ns : ∀ z, ∃ r, PySem.W.nsIn K (He.ga K "FORMS") z = some r ∧ r.isSome = isForm z ∧ ∀ c, formCount z = some c → ∃ u, r = some u ∧ RelV (.int (c : Nat)) u
end Fl
/-! the reckoning's machine, plain; none: beyond the bounds -/
namespace Fl
open PySem PySem.Spec PyProof.Rows L2
/-- what waits -/
structure Wt where
  word : Str
  sc : List Th
  parts : List Th
  ws : List Th
/-- waits, floors: the latest first -/
structure Mc where
  n : Int
  fl : List (Int × Int × Nat)
  wt : List Wt
  part : Th
  sc : List Th
  done : Bool
  out : Th
  tell : Option Th
def Mc.come (m : Mc) (t : Th) : Mc := { m with done := true, out := t }
def Mc.next (m : Mc) (p : Th) (sc : List Th) : Mc := { m with done := false, part := p, sc := sc }
def Mc.ends (m : Mc) (e : Str) (t : Th) : Mc := match m.fl with
  | [] => m
  | (b, _, many) :: [] => { m with fl := [], wt := m.wt.drop (m.wt.length - many), tell := some (.tup [.str e, t, .int (m.n - b)]) }
  | (b, _, many) :: c :: fl => { m with fl := c :: fl, wt := m.wt.drop (m.wt.length - many), done := true, out := .tup [.str e, t, .int (m.n - b)] }
def Mc.call (m : Mc) : List Th → Option Mc
  | t :: vs => match t with
    | .fn [ns, body, .tup sc, own] => if !callsOn then none else if ns.row.length = vs.length then
      (if scG sc && scG ns.row then some (m.next body (bindAll ns.row vs (ownTh (.fn [ns, body, .tup sc, own]) own sc))) else none) else some (m.ends "count" (.tup []))
    | .fn _ => none
    | _ => some (m.ends "kind" (.tup []))
  | [] => some (m.ends "kind" (.tup []))
def Mc.below (m : Mc) (p : Th) : Th → Option Mc
  | .int k => if 0 ≤ k ∧ k ≤ 100000 then
      (if m.fl.length ≤ 100000 then some { m with fl := (m.n, min (m.n + k) (m.fl.headD (0, 0, 0)).2.1, m.wt.length) :: m.fl, done := false, part := p, sc := [] } else none) else some (m.ends "kind" (.tup []))
  | _ => some (m.ends "kind" (.tup []))
def Mc.all (m : Mc) (w : Str) (ws : List Th) : Option Mc :=
  if w = "call" then m.call ws
  else if w = "run" then m.below (ws.getD 0 .non) (ws.getD 1 .non)
  else if doneG w ws then some (match doneBy w ws with
    | .val t => m.come t
    | .stop e => m.ends e (.tup [])) else none
def Mc.ifOn (m : Mc) (parts sc : List Th) : Th → Mc
  | .bl b => m.next (if b then parts.getD 1 .non else parts.getD 2 .non) sc
  | _ => m.ends "kind" (.tup [])
def Mc.on (m : Mc) : Option Mc := match m.wt with
  | [] => none
  | w :: r =>
    if w.word = "let" then (if scG w.sc then some (Mc.next { m with wt := r } (w.parts.getD 2 .non) (.tup [w.parts.getD 0 .non, m.out] :: w.sc)) else none)
    else if w.word = "if" then some (Mc.ifOn { m with wt := r } w.parts w.sc m.out)
    else if (w.ws ++ [m.out]).length < w.parts.length then some (Mc.next { m with wt := { w with ws := w.ws ++ [m.out] } :: r } (w.parts.getD (w.ws ++ [m.out]).length .non) w.sc)
      else Mc.all { m with wt := r } w.word (w.ws ++ [m.out])
def Mc.wait (m : Mc) (w : Str) (parts : List Th) (p : Th) : Option Mc := if m.wt.length ≤ 100000 then some (Mc.next { m with wt := ⟨w, m.sc, parts, []⟩ :: m.wt } p m.sc) else none
def Mc.form (m : Mc) (w : Str) (r : List Th) : Option Mc :=
  if w = "quote" then some (m.come (r.getD 0 .non))
  else if w = "fn" then some (m.come (.fn [r.getD 0 .non, r.getD 1 .non, .tup m.sc, .non]))
  else if w = "rec" then some (m.come (.fn [r.getD 1 .non, r.getD 2 .non, .tup m.sc, r.getD 0 .non]))
  else if w = "let" then m.wait "let" r (r.getD 1 .non)
  else m.wait w r (r.getD 0 .non)
def Mc.row (m : Mc) (h : Th) (r : List Th) : Option Mc := if !scG r then none else match strOf h with
  | some w => if isForm w then (if !namesG w r then none else if !isFormed w r then some (m.ends "form" (.tup [])) else m.form w r) else m.wait "call" (h :: r) h
  | none => m.wait "call" (h :: r) h
def Mc.word (m : Mc) (x : Str) : Mc := if isForm x then m.ends "form" (.tup []) else match looks x m.sc with
  | v :: _ => m.come v
  | [] => m.ends "name" (.tup [])
def Mc.begin (m : Mc) : Option Mc := match m.part with
  | .str x => some (m.word x)
  | .tup (h :: r) => m.row h r
  | t => some (m.come t)
def Mc.go (m : Mc) : Option Mc := match m.fl with
  | [] => none
  | (_, lim, many) :: _ =>
    if m.done then (if m.wt.length = many then some (m.ends "over" m.out) else m.on)
    else if m.n = lim then some (m.ends "steps" (.tup [])) else Mc.begin { m with n := m.n + 1 }
/-- so many steps of the machine, the telling not there ahead of each -/
inductive Rn : Nat → Mc → Mc → Prop
  | refl (m : Mc) : Rn 0 m m
  | step {k : Nat} {m m1 m' : Mc} : m.tell = none → m.go = some m1 → Rn k m1 m' → Rn (k + 1) m m'
theorem Rn.trans {j k : Nat} {a b c : Mc} (h : Rn j a b) (g : Rn k b c) : Rn (j + k) a c := by
  induction h with
  | refl m =>
    rw [Nat.zero_add]
    exact g
  | step e1 e2 _ ih =>
    have z := Rn.step e1 e2 (ih g)
    rw [show ∀ j : Nat, j + k + 1 = j + 1 + k from fun j => by omega] at z
    exact z
def Rns (a b : Mc) : Prop := ∃ k, Rn k a b
theorem Rns.refl (m : Mc) : Rns m m := ⟨0, .refl m⟩
theorem Rns.trans {a b c : Mc} : Rns a b → Rns b c → Rns a c
  | ⟨_, h⟩, ⟨_, g⟩ => ⟨_, h.trans g⟩
theorem Rns.one {a b : Mc} (h : a.tell = none) (e : a.go = some b) : Rns a b := ⟨1, .step h e (.refl _)⟩
/-- ready to begin the part p -/
structure At (m : Mc) (p : Th) (sc : List Th) (n b lim : Int) (many : Nat) (fl : List (Int × Int × Nat)) (wt : List Wt) : Prop where
  part : m.part = p
  sc : m.sc = sc
  done : m.done = false
  n : m.n = n
  fl : m.fl = (b, lim, many) :: fl
  wt : m.wt = wt
  tell : m.tell = none
/-- a worth came -/
structure Cm (m : Mc) (t : Th) (n : Int) (fl : List (Int × Int × Nat)) (wt : List Wt) : Prop where
  done : m.done = true
  out : m.out = t
  n : m.n = n
  fl : m.fl = fl
  wt : m.wt = wt
  tell : m.tell = none
/-- the floor ended -/
def En (m : Mc) (e : Str) (t : Th) (n b : Int) (many : Nat) (fl : List (Int × Int × Nat)) (wt : List Wt) : Prop := match fl with
  | [] => m.tell = some (.tup [.str e, t, .int (n - b)])
  | c :: r => Cm m (.tup [.str e, t, .int (n - b)]) n (c :: r) (wt.drop (wt.length - many))
theorem ends_en {m : Mc} {e : Str} {t : Th} {n b lim : Int} {many : Nat} {fl : List (Int × Int × Nat)} {wt : List Wt} (h1 : m.n = n) (h2 : m.fl = (b, lim, many) :: fl) (h3 : m.wt = wt) (h4 : m.tell = none) : En (m.ends e t) e t n b many fl wt := by
  cases fl with
  | nil =>
    show (m.ends e t).tell = _
    unfold Mc.ends
    rw [h2, h1]
  | cons c r =>
    have z : m.ends e t = { m with fl := c :: r, wt := m.wt.drop (m.wt.length - many), done := true, out := .tup [.str e, t, .int (m.n - b)] } := by
      unfold Mc.ends
      rw [h2]
    rw [z]
    exact ⟨rfl, by rw [h1], h1, rfl, by rw [h3], h4⟩
def Fin (m : Mc) (r : Res) (b : Int) (many : Nat) (fl : List (Int × Int × Nat)) (lim : Int) (wt : List Wt) : Prop := match r with
  | .val t k => Cm m t k ((b, lim, many) :: fl) wt
  | .stop e k => En m e (.tup []) k b many fl wt
/-- what ev tells the machine comes to -/
def Sim (f : Nat) : Prop := ∀ p sc lim n r, ev f p sc lim n = some r → ∀ m b many fl wt, At m p sc n b lim many fl wt → many ≤ wt.length → wt.length + f ≤ 100000 → fl.length + f ≤ 100000 → ∃ m', Rns m m' ∧ Fin m' r b many fl lim wt
end Fl
/-! the machine comes to what ev tells -/
namespace Fl
open PySem PySem.Spec PyProof.Rows L2
theorem en_pop {m : Mc} {e : Str} {t : Th} {n b : Int} {many : Nat} {fl : List (Int × Int × Nat)} {x : Wt} {wt : List Wt} (h : En m e t n b many fl (x :: wt)) (hm : many ≤ wt.length) : En m e t n b many fl wt := by
  cases fl with
  | nil => exact h
  | cons c r =>
    unfold En at h ⊢
    simp only at h ⊢
    rw [List.length_cons, show wt.length + 1 - many = (wt.length - many) + 1 by omega, List.drop_succ_cons] at h
    exact h
theorem go_begin {m : Mc} {p : Th} {sc : List Th} {n b lim : Int} {many : Nat} {fl : List (Int × Int × Nat)} {wt : List Wt} (a : At m p sc n b lim many fl wt) (h : n ≠ lim) : m.go = Mc.begin { m with n := m.n + 1 } := by
  unfold Mc.go
  rw [a.fl]
  simp only
  rw [a.done, if_neg (by decide), if_neg (by rw [a.n]; exact h)]
theorem go_steps {m : Mc} {p : Th} {sc : List Th} {n b lim : Int} {many : Nat} {fl : List (Int × Int × Nat)} {wt : List Wt} (a : At m p sc n b lim many fl wt) (h : n = lim) : m.go = some (m.ends "steps" (.tup [])) := by
  unfold Mc.go
  rw [a.fl]
  simp only
  rw [a.done, if_neg (by decide), if_pos (by rw [a.n]; exact h)]
theorem go_on {m : Mc} {t : Th} {n b lim : Int} {many : Nat} {fl : List (Int × Int × Nat)} {wt : List Wt} (c : Cm m t n ((b, lim, many) :: fl) wt) (h : wt.length ≠ many) : m.go = m.on := by
  unfold Mc.go
  rw [c.fl]
  simp only
  rw [c.done, if_pos rfl, if_neg (by rw [c.wt]; exact h)]
theorem go_over {m : Mc} {t : Th} {n b lim : Int} {many : Nat} {fl : List (Int × Int × Nat)} {wt : List Wt} (c : Cm m t n ((b, lim, many) :: fl) wt) (h : wt.length = many) : m.go = some (m.ends "over" t) := by
  unfold Mc.go
  rw [c.fl]
  simp only
  rw [c.done, if_pos rfl, if_pos (by rw [c.wt]; exact h), c.out]
def FinS (m : Mc) (r : Ress) (b lim : Int) (many : Nat) (fl : List (Int × Int × Nat)) (wt : List Wt) (w : Str) (ws : List Th) : Prop := match r with
  | .vals l k => m.tell = none ∧ m.n = k ∧ m.fl = (b, lim, many) :: fl ∧ m.go = Mc.all { m with wt := wt } w (ws ++ l)
  | .stop e k => En m e (.tup []) k b many fl wt
theorem drop_at {α : Type} {l : List α} {i : Nat} {x : α} {r : List α} (h : l.drop i = x :: r) : i < l.length ∧ l[i]? = some x ∧ l.drop (i + 1) = r := by
  have h1 : i < l.length := by
    refine Classical.byContradiction fun z => ?_
    rw [List.drop_eq_nil_of_le (by omega)] at h
    cases h
  rw [List.drop_eq_getElem_cons h1] at h
  injection h with h2 h3
  exact ⟨h1, by rw [List.getElem?_eq_getElem h1, h2], h3⟩
theorem sims {f : Nat} (S : Sim f) : ∀ rest p ws sc lim n r parts (w : Str), evs f (p :: rest) sc lim n = some r → parts.drop ws.length = p :: rest → w ≠ "let" → w ≠ "if" →
    ∀ m b many fl wt, At m p sc n b lim many fl (⟨w, sc, parts, ws⟩ :: wt) → many ≤ wt.length → wt.length + 1 + f ≤ 100000 → fl.length + f ≤ 100000 → ∃ m', Rns m m' ∧ FinS m' r b lim many fl wt w ws := by
  intro rest
  induction rest with
  | nil =>
    intro p ws sc lim n r parts w he hp w1 w2 m b many fl wt a hm hb hf
    obtain ⟨h1, h2, h3⟩ := drop_at hp
    rw [evs] at he
    cases e : ev f p sc lim n with
    | none => rw [e] at he; cases he
    | some q =>
      rw [e] at he
      obtain ⟨m1, g1, g2⟩ := S p sc lim n q e m b many fl _ a (by rw [List.length_cons]; omega) (by rw [List.length_cons]; omega) hf
      cases q with
      | stop x k =>
        cases he
        exact ⟨m1, g1, en_pop g2 hm⟩
      | val t k =>
        simp only at he
        rw [evs] at he
        cases he
        refine ⟨m1, g1, g2.tell, g2.n, g2.fl, ?_⟩
        rw [go_on g2 (by rw [List.length_cons]; omega)]
        unfold Mc.on
        rw [g2.wt]
        simp only
        rw [if_neg w1, if_neg w2, if_neg, g2.out]
        have z : parts.length = ws.length + 1 := by
          have := congrArg List.length h3
          rw [List.length_drop, List.length_nil] at this
          omega
        rw [List.length_append, List.length_singleton]
        omega
  | cons p2 rest ih =>
    intro p ws sc lim n r parts w he hp w1 w2 m b many fl wt a hm hb hf
    obtain ⟨h1, h2, h3⟩ := drop_at hp
    rw [evs] at he
    cases e : ev f p sc lim n with
    | none => rw [e] at he; cases he
    | some q =>
      rw [e] at he
      obtain ⟨m1, g1, g2⟩ := S p sc lim n q e m b many fl _ a (by rw [List.length_cons]; omega) (by rw [List.length_cons]; omega) hf
      cases q with
      | stop x k =>
        cases he
        exact ⟨m1, g1, en_pop g2 hm⟩
      | val t k =>
        simp only at he
        cases e2 : evs f (p2 :: rest) sc lim k with
        | none => rw [e2] at he; cases he
        | some q2 =>
          rw [e2] at he
          obtain ⟨k1, k2, k3⟩ := drop_at h3
          have gl : m1.go = some (Mc.next { m1 with wt := ⟨w, sc, parts, ws ++ [t]⟩ :: wt } p2 sc) := by
            rw [go_on g2 (by rw [List.length_cons]; omega)]
            unfold Mc.on
            rw [g2.wt]
            simp only
            rw [if_neg w1, if_neg w2, g2.out, if_pos (by rw [List.length_append, List.length_singleton]; omega)]
            rw [List.length_append, List.length_singleton, List.getD_eq_getElem?_getD, k2]
            rfl
          obtain ⟨m2, j1, j2⟩ := ih p2 (ws ++ [t]) sc lim k q2 parts w e2 (by rw [List.length_append, List.length_singleton]; exact h3) w1 w2 (Mc.next { m1 with wt := ⟨w, sc, parts, ws ++ [t]⟩ :: wt } p2 sc) b many fl wt ⟨rfl, rfl, rfl, g2.n, g2.fl, rfl, g2.tell⟩ hm hb hf
          refine ⟨m2, g1.trans ((Rns.one g2.tell gl).trans j1), ?_⟩
          cases q2 with
          | stop x k' => cases he; exact j2
          | vals l k' =>
            cases he
            obtain ⟨z1, z2, z3, z4⟩ := j2
            refine ⟨z1, z2, z3, ?_⟩
            rw [z4, List.append_assoc]
            rfl
theorem evs_len' {f : Nat} {sc : List Th} {lim : Int} : ∀ {ts : List Th} {n m : Int} {ws : List Th}, evs f ts sc lim n = some (.vals ws m) → ws.length = ts.length
  | [], _, _, _, h => by
    rw [evs] at h
    cases h
    rfl
  | p :: ps, n, m, ws, h => by
    rw [evs] at h
    cases e : ev f p sc lim n with
    | none => rw [e] at h; cases h
    | some q =>
      rw [e] at h
      cases q with
      | stop _ _ => cases h
      | val t m1 =>
        simp only at h
        cases e2 : evs f ps sc lim m1 with
        | none => rw [e2] at h; cases h
        | some q2 =>
          rw [e2] at h
          cases q2 with
          | stop _ _ => cases h
          | vals l m2 =>
            cases h
            rw [List.length_cons, List.length_cons, evs_len' e2]
theorem call_sim {f : Nat} (S : Sim f) {ws : List Th} {lim n : Int} {r : Res} (he : evCall f ws lim n = some r) {m : Mc} {b : Int} {many : Nat} {fl : List (Int × Int × Nat)} {wt : List Wt} (hn : m.n = n) (hfl : m.fl = (b, lim, many) :: fl) (hw : m.wt = wt) (ht : m.tell = none)
    (hm : many ≤ wt.length) (hb : wt.length + f ≤ 100000) (hf : fl.length + f ≤ 100000) : ∃ m1 m', Mc.call m ws = some m1 ∧ Rns m1 m' ∧ Fin m' r b many fl lim wt := by
  have stop : ∀ e, ∃ m', Rns (m.ends e (.tup [])) m' ∧ Fin m' (.stop e n) b many fl lim wt := fun e => ⟨_, Rns.refl _, ends_en hn hfl hw ht⟩
  unfold evCall at he
  unfold Mc.call
  cases ws with
  | nil =>
    cases he
    obtain ⟨m', h1, h2⟩ := stop "kind"
    exact ⟨_, m', rfl, h1, h2⟩
  | cons t vs =>
    simp only at he ⊢
    split at he
    · try simp only
      split at he
      · cases he
      · rename_i c
        rw [if_neg c]
        split at he
        · rename_i c2
          rw [if_pos c2]
          split at he
          · rename_i c3
            rw [if_pos c3]
            obtain ⟨m', h1, h2⟩ := S _ _ _ _ _ he (m.next _ _) b many fl wt ⟨rfl, rfl, rfl, hn, hfl, hw, ht⟩ hm hb hf
            exact ⟨_, m', rfl, h1, h2⟩
          · cases he
        · rename_i c2
          rw [if_neg c2]
          cases he
          obtain ⟨m', h1, h2⟩ := stop "count"
          exact ⟨_, m', rfl, h1, h2⟩
    · cases he
    · rename_i q1 q2
      cases he
      obtain ⟨m', h1, h2⟩ := stop "kind"
      refine ⟨_, m', ?_, h1, h2⟩
      first
        | rfl
        | (split
           · exact absurd rfl (q1 _ _ _ _)
           · exact absurd rfl (q2 _)
           · rfl)
theorem len2' {α : Type} {l : List α} (h : l.length = 2) : ∃ a b, l = [a, b] := match l, h with
  | [a, b], _ => ⟨a, b, rfl⟩
def formNames : List Str := formList.map fun p => p.1
theorem lookup_mem {x : Str} {c : Nat} (h : formCount x = some c) : x ∈ formNames := by
  have z : ∀ l : List (Str × Nat), l.lookup x = some c → x ∈ l.map (·.1) := by
    intro l
    induction l with
    | nil => intro h; cases h
    | cons a l ih =>
      obtain ⟨y, n⟩ := a
      intro h
      rw [List.lookup_cons] at h
      rw [List.map_cons]
      cases q : x == y with
      | true =>
        rw [eq_of_beq q]
        exact .head _
      | false =>
        rw [q] at h
        exact .tail _ (ih h)
  exact z _ h
theorem push_at {m : Mc} {p0 : Th} {sc : List Th} {n b lim : Int} {many : Nat} {fl : List (Int × Int × Nat)} {wt : List Wt} (a : At m p0 sc (n - 1) b lim many fl wt) (w : Str) (parts : List Th) (p : Th) (hb : wt.length ≤ 100000) :
    ∃ m1, Mc.wait { m with n := m.n + 1 } w parts p = some m1 ∧ At m1 p sc n b lim many fl (⟨w, sc, parts, []⟩ :: wt) := by
  refine ⟨Mc.next { ({ m with n := m.n + 1 } : Mc) with wt := ⟨w, m.sc, parts, []⟩ :: m.wt } p m.sc, ?_, ?_⟩
  · unfold Mc.wait
    rw [if_pos (by show m.wt.length ≤ 100000; rw [a.wt]; exact hb)]
  · refine ⟨rfl, a.sc, rfl, ?_, a.fl, ?_, a.tell⟩
    · show m.n + 1 = n
      rw [a.n]
      omega
    · show (⟨w, m.sc, parts, []⟩ : Wt) :: m.wt = _
      rw [a.sc, a.wt]
theorem sim_all : ∀ f, Sim f
  | 0 => fun p sc lim n r h => by
    rw [ev] at h
    cases h
  | f + 1 => fun p sc lim n r h m b many fl wt a hm hb hf => by
    have S := sim_all f
    rw [ev_succ] at h
    by_cases hn : n = lim
    · rw [if_pos hn] at h
      cases h
      exact ⟨_, Rns.one a.tell (go_steps a hn), ends_en a.n a.fl a.wt a.tell⟩
    rw [if_neg hn] at h
    have gb := go_begin a hn
    have n1 : ({ m with n := m.n + 1 } : Mc).n = n + 1 := by
      show m.n + 1 = n + 1
      rw [a.n]
    -- at once
    have come : ∀ t, m.go = some (Mc.come { m with n := m.n + 1 } t) → ∃ m', Rns m m' ∧ Fin m' (.val t (n + 1)) b many fl lim wt := fun t e => ⟨_, Rns.one a.tell e, ⟨rfl, rfl, n1, a.fl, a.wt, a.tell⟩⟩
    have stop : ∀ e, m.go = some (Mc.ends { m with n := m.n + 1 } e (.tup [])) → ∃ m', Rns m m' ∧ Fin m' (.stop e (n + 1)) b many fl lim wt := fun e z => ⟨_, Rns.one a.tell z, ends_en n1 a.fl a.wt a.tell⟩
    have a' : At m p sc (n + 1 - 1) b lim many fl wt := by
      rw [show n + 1 - 1 = n by omega]
      exact a
    -- a row that waits for its parts
    have rowed : ∀ (w : Str) parts p1 rest k, w ≠ "let" → w ≠ "if" → parts = p1 :: rest → m.go = Mc.wait { m with n := m.n + 1 } w parts p1 → Ress.then (evs f parts sc lim (n + 1)) k = some r →
        (∀ ws k' m1, m1.n = k' → m1.fl = (b, lim, many) :: fl → m1.wt = wt → m1.tell = none → ws.length = parts.length → k ws k' = some r → ∃ m2 m', Mc.all m1 w ws = some m2 ∧ Rns m2 m' ∧ Fin m' r b many fl lim wt) → ∃ m', Rns m m' ∧ Fin m' r b many fl lim wt := by
      intro w parts p1 rest k w1 w2 hp hg he hk
      subst hp
      obtain ⟨m1, e1, a1⟩ := push_at a' w (p1 :: rest) p1 (by omega)
      rw [e1] at hg
      unfold Ress.then at he
      cases ee : evs f (p1 :: rest) sc lim (n + 1) with
      | none => rw [ee] at he; cases he
      | some q =>
        rw [ee] at he
        obtain ⟨m2, g1, g2⟩ := sims S rest p1 [] sc lim (n + 1) q (p1 :: rest) w ee rfl w1 w2 m1 b many fl wt a1 hm (by omega) (by omega)
        cases q with
        | stop e k' =>
          cases he
          exact ⟨m2, (Rns.one a.tell hg).trans g1, g2⟩
        | vals l k' =>
          obtain ⟨z1, z2, z3, z4⟩ := g2
          obtain ⟨m3, m4, h1, h2, h3⟩ := hk l k' { m2 with wt := wt } z2 z3 rfl z1 (evs_len' ee) he
          rw [List.nil_append, h1] at z4
          exact ⟨m4, (Rns.one a.tell hg).trans (g1.trans ((Rns.one z1 z4).trans h2)), h3⟩
    have called : ∀ h0 tr, p = .tup (h0 :: tr) → m.go = Mc.wait { m with n := m.n + 1 } "call" (h0 :: tr) h0 → evCalls f (h0 :: tr) sc lim (n + 1) = some r → ∃ m', Rns m m' ∧ Fin m' r b many fl lim wt := by
      intro h0 tr hp hg he
      refine rowed "call" (h0 :: tr) h0 tr _ (by decide) (by decide) rfl hg he fun ws k' m1 h1 h2 h3 h4 h5 h6 => ?_
      obtain ⟨m2, m', g1, g2, g3⟩ := call_sim S h6 h1 h2 h3 h4 hm (by omega) (by omega)
      exact ⟨m2, m', by unfold Mc.all; rw [if_pos rfl]; exact g1, g2, g3⟩
    cases p with
    | non =>
      cases h
      exact come _ (by rw [gb]; unfold Mc.begin; simp only; rw [a.part])
    | bl _ =>
      cases h
      exact come _ (by rw [gb]; unfold Mc.begin; simp only; rw [a.part])
    | int _ =>
      cases h
      exact come _ (by rw [gb]; unfold Mc.begin; simp only; rw [a.part])
    | fn _ =>
      cases h
      exact come _ (by rw [gb]; unfold Mc.begin; simp only; rw [a.part])
    | oth =>
      cases h
      exact come _ (by rw [gb]; unfold Mc.begin; simp only; rw [a.part])
    | str x =>
      have h2 : evWord x sc (n + 1) = r := Option.some.inj h
      have g2 : m.go = some (Mc.word { m with n := m.n + 1 } x) := by
        rw [gb]
        unfold Mc.begin
        simp only
        rw [a.part]
      unfold Mc.word at g2
      unfold evWord at h2
      replace g2 : m.go = some (if isForm x then Mc.ends { m with n := m.n + 1 } "form" (.tup []) else match looks x m.sc with
        | v :: _ => Mc.come { m with n := m.n + 1 } v
        | [] => Mc.ends { m with n := m.n + 1 } "name" (.tup [])) := g2
      rw [← a.sc] at h2
      cases hf2 : isForm x with
      | true =>
        rw [hf2, if_pos rfl] at h2 g2
        subst h2
        exact stop _ g2
      | false =>
        rw [hf2, if_neg (by decide)] at h2 g2
        cases lk : looks x m.sc with
        | nil =>
          rw [lk] at h2 g2
          subst h2
          exact stop _ g2
        | cons v vs =>
          rw [lk] at h2 g2
          subst h2
          exact come _ g2
    | tup l =>
      cases l with
      | nil =>
        cases h
        exact come _ (by rw [gb]; unfold Mc.begin; simp only; rw [a.part])
      | cons h0 tr =>
        have g2 : m.go = Mc.row { m with n := m.n + 1 } h0 tr := by
          rw [gb]
          unfold Mc.begin
          simp only
          rw [a.part]
        replace h : evRow f h0 tr sc lim (n + 1) = some r := h
        unfold evRow at h
        unfold Mc.row at g2
        cases sg : scG tr with
        | false => rw [sg] at h; cases h
        | true =>
        rw [sg] at h g2
        rw [if_neg (by decide)] at h g2
        cases st : strOf h0 with
        | none =>
          rw [st] at h g2
          exact called h0 tr rfl g2 h
        | some w =>
          rw [st] at h g2
          simp only at h g2
          cases fm : isForm w with
          | false =>
            rw [fm, if_neg (by decide)] at h g2
            exact called h0 tr rfl g2 h
          | true =>
            rw [fm, if_pos rfl] at h g2
            unfold evForm at h
            cases ng : namesG w tr with
            | false => rw [ng] at h; cases h
            | true =>
            rw [ng, if_neg (by decide)] at h g2
            cases fd : isFormed w tr with
            | false =>
              rw [fd, if_pos (by decide)] at h g2
              cases h
              exact stop _ g2
            | true =>
            rw [fd, if_neg (by decide)] at h g2
            have fl1 : formCount w = some tr.length := by
              have z := fd
              unfold isFormed at z
              rw [Bool.and_eq_true] at z
              exact of_decide_eq_true z.1
            have wm : w ∈ formNames := lookup_mem fl1
            have w16 : w = "quote" ∨ w = "fn" ∨ w = "rec" ∨ w = "let" ∨ w = "if" ∨ w = "run" ∨ w ∈ doneWs := by
              have z : ∀ x ∈ formNames, x = "quote" ∨ x = "fn" ∨ x = "rec" ∨ x = "let" ∨ x = "if" ∨ x = "run" ∨ x ∈ doneWs := by decide +kernel
              exact z w wm
            rcases w16 with rfl | rfl | rfl | rfl | rfl | rfl | wd
            · rw [good_quote] at h
              cases h
              exact come _ g2
            · rw [good_fn] at h
              cases h
              rw [← a.sc]
              exact come _ g2
            · rw [good_rec] at h
              cases h
              rw [← a.sc]
              exact come _ g2
            · rw [good_let] at h
              have g3 : m.go = Mc.wait { m with n := m.n + 1 } "let" tr (tr.getD 1 .non) := g2
              obtain ⟨m1, e1, a1⟩ := push_at a' "let" tr (tr.getD 1 .non) (by omega)
              rw [e1] at g3
              unfold Res.then at h
              cases ee : ev f (tr.getD 1 .non) sc lim (n + 1) with
              | none => rw [ee] at h; cases h
              | some q =>
                rw [ee] at h
                obtain ⟨m2, j1, j2⟩ := S _ _ _ _ _ ee m1 b many fl _ a1 (by rw [List.length_cons]; omega) (by rw [List.length_cons]; omega) (by omega)
                cases q with
                | stop e k =>
                  cases h
                  exact ⟨m2, (Rns.one a.tell g3).trans j1, en_pop j2 hm⟩
                | val v k =>
                  simp only at h
                  cases sg2 : scG sc with
                  | false => rw [sg2] at h; cases h
                  | true =>
                  rw [sg2, if_pos rfl] at h
                  have g4 : m2.go = some (Mc.next { m2 with wt := wt } (tr.getD 2 .non) (.tup [tr.getD 0 .non, v] :: sc)) := by
                    rw [go_on j2 (by rw [List.length_cons]; omega)]
                    unfold Mc.on
                    rw [j2.wt]
                    simp only
                    rw [if_pos trivial, if_pos sg2, j2.out]
                  obtain ⟨m3, k1, k2⟩ := S _ _ _ _ _ h (Mc.next { m2 with wt := wt } (tr.getD 2 .non) (.tup [tr.getD 0 .non, v] :: sc)) b many fl wt ⟨rfl, rfl, rfl, j2.n, j2.fl, rfl, j2.tell⟩ hm (by omega) (by omega)
                  exact ⟨m3, (Rns.one a.tell g3).trans (j1.trans ((Rns.one j2.tell g4).trans k1)), k2⟩
            · rw [good_if] at h
              have g3 : m.go = Mc.wait { m with n := m.n + 1 } "if" tr (tr.getD 0 .non) := g2
              obtain ⟨m1, e1, a1⟩ := push_at a' "if" tr (tr.getD 0 .non) (by omega)
              rw [e1] at g3
              unfold Res.then at h
              cases ee : ev f (tr.getD 0 .non) sc lim (n + 1) with
              | none => rw [ee] at h; cases h
              | some q =>
                rw [ee] at h
                obtain ⟨m2, j1, j2⟩ := S _ _ _ _ _ ee m1 b many fl _ a1 (by rw [List.length_cons]; omega) (by rw [List.length_cons]; omega) (by omega)
                cases q with
                | stop e k =>
                  cases h
                  exact ⟨m2, (Rns.one a.tell g3).trans j1, en_pop j2 hm⟩
                | val v k =>
                  replace h : evIf f tr sc lim v k = some r := h
                  have g4 : m2.go = some (Mc.ifOn { m2 with wt := wt } tr sc v) := by
                    rw [go_on j2 (by rw [List.length_cons]; omega)]
                    unfold Mc.on
                    rw [j2.wt]
                    simp only
                    rw [if_neg (by decide), if_pos trivial, j2.out]
                  unfold evIf at h
                  split at h
                  · rename_i c
                    obtain ⟨m3, k1, k2⟩ := S _ _ _ _ _ h (Mc.next { m2 with wt := wt } (if c then tr.getD 1 .non else tr.getD 2 .non) sc) b many fl wt ⟨rfl, rfl, rfl, j2.n, j2.fl, rfl, j2.tell⟩ hm (by omega) (by omega)
                    exact ⟨m3, (Rns.one a.tell g3).trans (j1.trans ((Rns.one j2.tell g4).trans k1)), k2⟩
                  · rename_i q
                    cases h
                    have g5 : m2.go = some (Mc.ends { m2 with wt := wt } "kind" (.tup [])) := by
                      rw [g4]
                      unfold Mc.ifOn
                      split
                      · exact absurd rfl (q _)
                      · rfl
                    exact ⟨_, (Rns.one a.tell g3).trans (j1.trans (Rns.one j2.tell g5)), ends_en j2.n j2.fl rfl j2.tell⟩
            · rw [good_run] at h
              obtain ⟨x0, x1, rfl⟩ := len2' (Option.some.inj (show some 2 = some tr.length from fl1)).symm
              refine rowed "run" [x0, x1] x0 [x1] _ (by decide) (by decide) rfl g2 h fun ws k' m1 h1 h2 h3 h4 h5 h6 => ?_
              obtain ⟨t0, t1, rfl⟩ := len2' h5
              have kind : r = .stop "kind" k' → ∃ m', Rns (m1.ends "kind" (.tup [])) m' ∧ Fin m' r b many fl lim wt := fun e => ⟨_, Rns.refl _, by rw [e]; exact ends_en h1 h2 h3 h4⟩
              have hall : Mc.all m1 "run" [t0, t1] = m1.below t0 t1 := by
                unfold Mc.all
                rw [if_neg (by decide), if_pos rfl]
                rfl
              rw [hall]
              unfold evRun at h6
              cases t1 with
              | int k =>
                replace h6 : (if 0 ≤ k ∧ k ≤ 100000 then Res.told k' (ev f t0 [] (min (k' + k) lim) k') else some (.stop "kind" k')) = some r := h6
                by_cases kk : 0 ≤ k ∧ k ≤ 100000
                · rw [if_pos kk] at h6
                  have hb2 : m1.below t0 (.int k) = some { m1 with fl := (k', min (k' + k) lim, wt.length) :: (b, lim, many) :: fl, done := false, part := t0, sc := [] } := by
                    unfold Mc.below
                    simp only
                    rw [if_pos kk, if_pos (by rw [h2, List.length_cons]; omega), h1, h2, h3]
                    rfl
                  cases ee : ev f t0 [] (min (k' + k) lim) k' with
                  | none => rw [ee] at h6; cases h6
                  | some q =>
                    rw [ee] at h6
                    obtain ⟨m3, j1, j2⟩ := S _ _ _ _ _ ee { m1 with fl := (k', min (k' + k) lim, wt.length) :: (b, lim, many) :: fl, done := false, part := t0, sc := [] } k' wt.length ((b, lim, many) :: fl) wt ⟨rfl, rfl, rfl, h1, rfl, h3, h4⟩ (Nat.le_refl _) (by omega) (by rw [List.length_cons]; omega)
                    cases q with
                    | val t k2 =>
                      cases h6
                      have go := go_over j2 rfl
                      have en := ends_en (e := "over") (t := t) j2.n j2.fl j2.wt j2.tell
                      refine ⟨_, _, hb2, j1.trans (Rns.one j2.tell go), ?_⟩
                      unfold En at en
                      simp only [Nat.sub_self, List.drop_zero] at en
                      exact en
                    | stop e k2 =>
                      cases h6
                      refine ⟨_, _, hb2, j1, ?_⟩
                      unfold Fin En at j2
                      simp only [Nat.sub_self, List.drop_zero] at j2
                      exact j2
                · rw [if_neg kk] at h6
                  obtain ⟨m', z1, z2⟩ := kind (Option.some.inj h6).symm
                  refine ⟨_, m', ?_, z1, z2⟩
                  unfold Mc.below
                  simp only
                  rw [if_neg kk]
              | non => obtain ⟨m', z1, z2⟩ := kind (Option.some.inj h6).symm; exact ⟨_, m', rfl, z1, z2⟩
              | bl _ => obtain ⟨m', z1, z2⟩ := kind (Option.some.inj h6).symm; exact ⟨_, m', rfl, z1, z2⟩
              | str _ => obtain ⟨m', z1, z2⟩ := kind (Option.some.inj h6).symm; exact ⟨_, m', rfl, z1, z2⟩
              | tup _ => obtain ⟨m', z1, z2⟩ := kind (Option.some.inj h6).symm; exact ⟨_, m', rfl, z1, z2⟩
              | fn _ => obtain ⟨m', z1, z2⟩ := kind (Option.some.inj h6).symm; exact ⟨_, m', rfl, z1, z2⟩
              | oth => obtain ⟨m', z1, z2⟩ := kind (Option.some.inj h6).symm; exact ⟨_, m', rfl, z1, z2⟩
            · rw [good_done wd] at h
              have nn : w ≠ "let" ∧ w ≠ "if" ∧ w ≠ "quote" ∧ w ≠ "fn" ∧ w ≠ "rec" ∧ w ≠ "call" ∧ w ≠ "run" ∧ 1 ≤ (formCount w).getD 0 := by
                have z : ∀ x ∈ doneWs, x ≠ "let" ∧ x ≠ "if" ∧ x ≠ "quote" ∧ x ≠ "fn" ∧ x ≠ "rec" ∧ x ≠ "call" ∧ x ≠ "run" ∧ 1 ≤ (formCount x).getD 0 := by decide +kernel
                exact z w wd
              obtain ⟨n1', n2, n3, n4, n5, n6, n7, n8⟩ := nn
              rw [fl1] at n8
              cases tr with
              | nil => exact absurd n8 (by decide)
              | cons p1 rest =>
                have g3 : m.go = Mc.wait { m with n := m.n + 1 } w (p1 :: rest) p1 := by
                  rw [g2]
                  unfold Mc.form
                  rw [if_neg n3, if_neg n4, if_neg n5, if_neg n1']
                  rfl
                refine rowed w (p1 :: rest) p1 rest _ n1' n2 rfl g3 h fun ws k' m1 h1 h2 h3 h4 h5 h6 => ?_
                cases dg : doneG w ws with
                | false => rw [dg] at h6; cases h6
                | true =>
                  rw [dg, if_pos rfl] at h6
                  have e6 : (doneBy w ws).at k' = r := Option.some.inj h6
                  subst e6
                  refine ⟨_, _, by unfold Mc.all; rw [if_neg n6, if_neg n7, dg, if_pos rfl], Rns.refl _, ?_⟩
                  cases db : doneBy w ws with
                  | val t => exact ⟨rfl, rfl, h1, h2, h3, h4⟩
                  | stop e => exact ends_en h1 h2 h3 h4
/-- a program from its begin: the telling -/
def begin0 (p : Th) (lim : Int) : Mc := ⟨0, [(0, lim, 0)], [], p, [], false, .tup [], none⟩
theorem run_all {f : Nat} {p : Th} {lim : Int} {t : Th} {k : Int} (hf : f ≤ 90000) (h : Res.told 0 (ev f p [] lim 0) = some (.val t k)) : ∃ j m', Rn j (begin0 p lim) m' ∧ m'.tell = some t := by
  cases ee : ev f p [] lim 0 with
  | none => rw [ee] at h; cases h
  | some q =>
    rw [ee] at h
    obtain ⟨m3, ⟨j, j1⟩, j2⟩ := sim_all f _ _ _ _ _ ee (begin0 p lim) 0 0 [] [] ⟨rfl, rfl, rfl, rfl, rfl, rfl, rfl⟩ (Nat.le_refl _) (by simp; omega) (by simp; omega)
    cases q with
    | val v k2 =>
      cases h
      have go := go_over j2 rfl
      have en := ends_en (e := "over") (t := v) j2.n j2.fl j2.wt j2.tell
      exact ⟨_, _, j1.trans (.step j2.tell go (.refl _)), en⟩
    | stop e k2 =>
      cases h
      exact ⟨j, m3, j1, j2⟩
end Fl
namespace Fl
open PySem PySem.Spec PyProof.Rows L2
abbrev s_is_limit : Stmt := top 23
theorem sc_is_limit : FnScope ["thing"] ["thing"] (defScope s_is_limit) := ⟨rfl, rfl, rfl, by decide +kernel, rfl, by decide +kernel, by decide +kernel⟩
abbrev s_is_a_name : Stmt := top 24
theorem sc_is_a_name : FnScope ["thing"] ["thing"] (defScope s_is_a_name) := ⟨rfl, rfl, rfl, by decide +kernel, rfl, by decide +kernel, by decide +kernel⟩
abbrev s_are_names : Stmt := top 25
theorem sc_are_names : FnScope ["thing", "one"] ["thing"] (defScope s_are_names) := ⟨rfl, rfl, rfl, by decide +kernel, rfl, by decide +kernel, by decide +kernel⟩
abbrev s_is_formed : Stmt := top 26
theorem sc_is_formed : FnScope ["part", "word"] ["part"] (defScope s_is_formed) := ⟨rfl, rfl, rfl, by decide +kernel, rfl, by decide +kernel, by decide +kernel⟩
abbrev s_sort_of : Stmt := top 15
theorem sc_sort_of : FnScope ["worth"] ["worth"] (defScope s_sort_of) := ⟨rfl, rfl, rfl, by decide +kernel, rfl, by decide +kernel, by decide +kernel⟩
abbrev s_are_same : Stmt := top 16
theorem sc_are_same : FnScope ["one", "other", "pile", "mine", "yours"] ["one", "other"] (defScope s_are_same) := ⟨rfl, rfl, rfl, by decide +kernel, rfl, by decide +kernel, by decide +kernel⟩
abbrev s_reckoned : Stmt := top 27
theorem sc_reckoned : FnScope ["word", "one", "other", "found"] ["word", "one", "other"] (defScope s_reckoned) := ⟨rfl, rfl, rfl, by decide +kernel, rfl, by decide +kernel, by decide +kernel⟩
abbrev s_done_by : Stmt := top 28
theorem sc_done_by : FnScope ["word", "worths", "one", "good"] ["word", "worths"] (defScope s_done_by) := ⟨rfl, rfl, rfl, by decide +kernel, rfl, by decide +kernel, by decide +kernel⟩
structure Tp (K : PySem.W.Frag) (w : World) (mg : Str → Option Value) : Prop where
  kf : Kf K (He.ga K "Function")
  fm : FmT K w mg
  z_isinstance : mg "isinstance" = none
  z_int : mg "int" = none
  z_bool : mg "bool" = none
  z_str : mg "str" = none
  z_tuple : mg "tuple" = none
  z_all : mg "all" = none
  z_len : mg "len" = none
  z_set : mg "set" = none
  z_min : mg "min" = none
  z_zip : mg "zip" = none
  z_list : mg "list" = none
  c_MOST_STEPS : ∃ u, mg "MOST_STEPS" = some u ∧ RelV (.int 100000) u
  c_MOST_NUMBER : ∃ u, mg "MOST_NUMBER" = some u ∧ RelV (.int 1000000000) u
  g_FORMS : mg "FORMS" = some (.ref (He.ga K "FORMS"))
  g_NUMBERS : mg "NUMBERS" = some (.ref (He.ga K "NUMBERS"))
  t_NUMBERS : ∀ H, SqT K H (He.ga K "NUMBERS") [.str "add", .str "less", .str "times", .str "below"]
def Th.lim : Th → Bool
  | .int i => decide (0 ≤ i) && decide (i ≤ 100000)
  | _ => false
def spLimit (K : PySem.W.Frag) : Sp := sp1 fun v H Q _ => ∃ t, Is (CF K) H v t ∧ Q (.bl t.lim) H
def spAName (K : PySem.W.Frag) : Sp := sp1 fun v H Q _ => ∃ G t, Wo (some (CF K)) G v t ∧ Same G H ∧ ∀ H', Same H H' → Q (.bl (isName t)) H'
def spNames (K : PySem.W.Frag) : Sp := sp1 fun v H Q _ => ∃ G t, Wo (some (CF K)) G v t ∧ Same G H ∧ t.row.length ≤ 4000 ∧ ∀ H', Same H H' → Q (.bl (areNames t)) H'
def spFormedP (K : PySem.W.Frag) : Sp := sp1 fun v H Q _ => ∃ G w a xs r, v = .ref a ∧ G a = some (.tup xs) ∧ Wos (some (CF K)) G xs (.str w :: r) ∧ Same G H ∧ isForm w = true ∧ namesG w r = true ∧ ∀ H', Same H H' → Q (.bl (isFormed w r)) H'
def spSort (K : PySem.W.Frag) : Sp := sp1 fun v H Q _ => ∃ G t, Wo (some (CF K)) G v t ∧ Same G H ∧ Q (.str t.kind) H
section
variable {P : Program} {w : World} {K : PySem.W.Frag} {mg : Str → Option Value} {base : Heap}
theorem ok_is_limit (F : FnP K mg "is_limit" s_is_limit) (T : Tp K w mg) : Cl P w K mg base 1 "is_limit" ["thing"] (spLimit K) := by
  refine cl_1 F sc_is_limit (fun _ _ _ _ _ _ us hl => match us, hl with | [_], _ => rfl) fun cdv A outer s H v Q E hr h => ?_
  obtain ⟨t, h, q⟩ := h
  refine ⟨_, PSs.nox (pss_one (ps_ret (pe_and (pe_callB call_isi rfl T.z_isinstance PyProof.Rows.boot_isinstance (pa_cons (pv 0) (pa_cons (pe_bltn (v := .ty "int") rfl T.z_int (by decide +kernel) rfl) pa_nil))) (pe_and (pe_not (pe_callB call_isi rfl T.z_isinstance PyProof.Rows.boot_isinstance (pa_cons (pv 0) (pa_cons (pe_bltn (v := .ty "bool") rfl T.z_bool (by decide +kernel) rfl) pa_nil)))) (pe_one (pe_chain op_le op_le pe_int (pv 0) (pe_gk rfl T.c_MOST_STEPS))))))), ?_⟩
  obtain ⟨u1, y1, k1⟩ := is_int T.kf h
  obtain ⟨u2, y2, k2⟩ := is_bool T.kf h
  refine ⟨v, rfl, v, _, u1, _, _, rfl, .ty _, y1, k1, _, rfl, ?_⟩
  cases h with
  | int i =>
    refine iteT ⟨_, rfl, _, _, u2, _, _, rfl, .ty _, y2, k2, _, rfl, _, rfl, iteT ?_⟩
    refine ⟨_, rfl, _, _, rfl, rfl, _, rfl, ?_⟩
    have e : Th.lim (.int i) = (decide (0 ≤ i) && decide (i ≤ 100000)) := rfl
    rw [e] at q
    cases c : decide (0 ≤ i) with
    | true =>
      rw [c] at q
      exact iteT ⟨_, _, rfl, rfl, q⟩
    | false =>
      rw [c] at q
      exact iteF q
  | bl b => exact iteT ⟨_, rfl, _, _, u2, _, _, rfl, .ty _, y2, k2, _, rfl, _, rfl, iteF q⟩
  | non => exact iteF q
  | str x _ => exact iteF q
  | tup _ _ => exact iteF q
  | fn _ => exact iteF q
  | lst _ => exact iteF q
  | dct _ => exact iteF q
theorem ok_is_a_name (F : FnP K mg "is_a_name" s_is_a_name) (T : Tp K w mg) (B_is_word : Cl P w K mg base 1 "is_word" ["thing"] (spWord K)) : Cl P w K mg base 2 "is_a_name" ["thing"] (spAName K) := by
  refine cl_1 F sc_is_a_name (fun _ _ _ _ _ _ us hl => match us, hl with | [_], _ => rfl) fun cdv A outer s H v Q E hr h => ?_
  obtain ⟨G, t, h, g, q⟩ := h
  obtain ⟨es, n, Df⟩ := T.fm.kd
  refine ⟨_, PSs.nox (pss_one (ps_ret (pe_and (pe_b B_is_word hr (by omega) rfl passL (pa_cons (pv 0) pa_nil)) (pe_one (pe_cmpR (op_notIn_kd Df) (pv 0) (pe_glob (v := .ref (He.ga K "FORMS")) rfl T.g_FORMS rfl) rfl))))), ?_⟩
  refine ⟨_, rfl, _, rfl, t, h.is.same g, fun H1 s1 => ⟨_, rfl, ?_⟩⟩
  have no : t.wrd = false → isName t = false → (∀ A : Prop, if t.wrd = true then A else Q (.bl false) H1) := fun e1 e2 A => by
    rw [e1]
    refine iteF ?_
    rw [← e2]
    exact q _ s1
  cases h with
  | str x hx =>
    refine ite_tt (show wordB x = true from hx) ?_
    obtain ⟨r, e1, e2, _⟩ := T.fm.ns x
    refine ⟨_, rfl, x, r, rfl, rfl, e1, ?_⟩
    rw [e2]
    exact q _ s1
  | bl b => exact no rfl rfl _
  | int i hi => exact no rfl rfl _
  | tup _ _ => exact no rfl rfl _
  | fn _ => exact no rfl rfl _
  | rcf _ => exact no rfl rfl _
theorem ok_are_names (F : FnP K mg "are_names" s_are_names) (T : Tp K w mg) (B_is_a_name : Cl P w K mg base 2 "is_a_name" ["thing"] (spAName K)) : Cl P w K mg base 3 "are_names" ["thing"] (spNames K) := by
  refine cl_1 F sc_are_names (fun _ _ _ _ _ _ us hl => match us, hl with | [_], _ => rfl) fun cdv A outer s H v Q E hr h => ?_
  obtain ⟨G, t, h, g, hl1, q⟩ := h
  refine ⟨_, PSs.nox (pss_cons (ps_if (PW.pt (pw_or (pt_not (pt_val (pe_callB call_isi rfl T.z_isinstance PyProof.Rows.boot_isinstance (pa_cons (pv 0) (pa_cons (pe_bltn (v := .ty "tuple") rfl T.z_tuple (by decide +kernel) rfl) pa_nil))))) (pw_or1 (pt_not (pt_val (pe_callB (cr_all rfl) rfl T.z_all PyProof.Rows.boot_all (pa_cons (pe_lc (own := [("one", 1)]) (g := gName 1) (tt := tYes) rfl sc_are_names.nd (pi_tup (pv 0)) (blkOk_by (own := [("one", 1)]) (N := ["thing", "one"]) (sc := defScope s_are_names) (by decide +kernel)) (fun _ _ _ _ _ => (pg_name (i := 1) sc_are_names.nd rfl (Or.inl rfl))) (fun _ _ _ _ _ => pts_nil) (fun _ _ _ _ _ => (pe_b B_is_a_name hr (by omega) rfl passL (pa_cons (pv 1) pa_nil)))) pa_nil))))))) (pss_one (ps_ret pe_bl)) pss_nil) (pss_one (ps_ret (pe_cmpR op_eq (pe_lenSetN rfl rfl T.z_len rfl T.z_set (pv 0)) (pe_callB call_len_seq rfl T.z_len PySem.boot_len (pa_cons (pv 0) pa_nil)) (nomark _))))), ?_⟩
  obtain ⟨u1, y1, k1⟩ := wk_tup (K := K) (M := some (CF K)) T.kf g h
  refine ⟨_, rfl, v, _, u1, _, _, rfl, .ty _, y1, k1, _, rfl, ?_⟩
  cases h with
  | bl b => exact iteT (iteT (q _ (.refl _)))
  | int i hi => exact iteT (iteT (q _ (.refl _)))
  | str x hx => exact iteT (iteT (q _ (.refl _)))
  | fn _ => exact iteT (iteT (q _ (.refl _)))
  | rcf _ => exact iteT (iteT (q _ (.refl _)))
  | tup ht hts =>
    rename_i q0 zs l
    have hl := hts.len
    replace hl1 : l.length ≤ 4000 := hl1
    refine iteF ⟨_, rfl, q0, rfl, ⟨_, SqT.of (g _ _ ht)⟩, fun D nD => ?_⟩
    refine lc_it (walk_tup (K := K) (a := q0) (xs := zs)) (fun i H' => ∃ acc : List Bool, Same H H' ∧ H' D = some (.lst (acc.map V.bl)) ∧ acc.length ≤ i ∧ acc.all id = (l.take i).all isName) ⟨[], same_new nD _, upd_same, Nat.le_refl _, rfl⟩ (fun _ _ _ z => by obtain ⟨_, z, _⟩ := z; exact SqT.of (z _ _ (g _ _ ht))) ?_ ?_
    · rintro i y H5 H6 hi ⟨acc, r1, r2, r3, r4⟩ ⟨rfl, hy⟩
      obtain ⟨t1, e1, g1⟩ := hts.get hy
      refine ⟨rfl, _, rfl, _, rfl, G, t1, g1, g.trans r1, fun H7 s7 => ⟨_, s7 _ _ r2, ?_, acc ++ [isName t1], same_mut (r1.trans s7) nD, ?_, ?_, ?_⟩⟩
      · rw [List.length_map, sizeLine_eq]
        omega
      · rw [upd_same, List.map_append]
        rfl
      · rw [List.length_append, List.length_singleton]
        omega
      · rw [take_snoc e1, List.all_append, List.all_append, r4]
        rfl
    · rintro H5 ⟨acc, r1, r2, r3, r4⟩
      rw [hl, List.take_length] at r4
      refine ⟨D, acc, rfl, SqL.of r2, _, rfl, ?_⟩
      cases al : l.all isName with
      | false =>
        have e : acc.all id = false := by rw [r4, al]
        refine ite_tt (by show (!acc.all id) = true; rw [e]; rfl) ?_
        have z := q _ r1
        rw [areNames, al] at z
        exact z
      | true =>
        have e : acc.all id = true := by rw [r4, al]
        obtain ⟨ys, ey1, ey2⟩ := strs_of hts al
        have h6 := r1 _ _ (g _ _ ht)
        rw [ey1] at h6
        have yl : ys.length ≤ 4000 := by
          rw [ey2, List.length_map] at hl1
          exact hl1
        refine ite_ff (by show (!acc.all id) = false; rw [e]; rfl) ⟨_, rfl, q0, ys, rfl, SqT.of h6, yl, _, rfl, q0, _, rfl, .inr (SqT.of h6), rfl, ?_⟩
        rw [unl_dec ey2]
        have z := q _ r1
        rw [areNames, al, Bool.true_and] at z
        exact z
theorem ok_sort_of (F : FnP K mg "sort_of" s_sort_of) (T : Tp K w mg) : Cl P w K mg base 1 "sort_of" ["worth"] (spSort K) := by
  refine cl_1 F sc_sort_of (fun _ _ _ _ _ _ us hl => match us, hl with | [_], _ => rfl) fun cdv A outer s H v Q E hr h => ?_
  obtain ⟨G, t, h, g, q⟩ := h
  refine ⟨_, PSs.nox (pss_cons (ps_if (pt_val (pe_callB call_isi rfl T.z_isinstance PyProof.Rows.boot_isinstance (pa_cons (pv 0) (pa_cons (pe_bltn (v := .ty "bool") rfl T.z_bool (by decide +kernel) rfl) pa_nil)))) (pss_one (ps_ret pe_str)) pss_nil) (pss_cons (ps_if (pt_val (pe_callB call_isi rfl T.z_isinstance PyProof.Rows.boot_isinstance (pa_cons (pv 0) (pa_cons (pe_bltn (v := .ty "int") rfl T.z_int (by decide +kernel) rfl) pa_nil)))) (pss_one (ps_ret pe_str)) pss_nil) (pss_cons (ps_if (pt_val (pe_callB call_isi rfl T.z_isinstance PyProof.Rows.boot_isinstance (pa_cons (pv 0) (pa_cons (pe_bltn (v := .ty "str") rfl T.z_str (by decide +kernel) rfl) pa_nil)))) (pss_one (ps_ret pe_str)) pss_nil) (pss_one (ps_ret (pe_ifExp (pt_val (pe_callB call_isi rfl T.z_isinstance PyProof.Rows.boot_isinstance (pa_cons (pv 0) (pa_cons (pe_bltn (v := .ty "tuple") rfl T.z_tuple (by decide +kernel) rfl) pa_nil)))) pe_str pe_str)))))), ?_⟩
  obtain ⟨u1, y1, k1⟩ := wk_bool (K := K) (M := some (CF K)) T.kf g h
  obtain ⟨u2, y2, k2⟩ := wk_int (K := K) (M := some (CF K)) T.kf g h
  obtain ⟨u3, y3, k3⟩ := wk_str (K := K) (M := some (CF K)) T.kf g h
  obtain ⟨u4, y4, k4⟩ := wk_tup (K := K) (M := some (CF K)) T.kf g h
  refine ⟨_, rfl, v, _, u1, _, _, rfl, .ty _, y1, k1, _, rfl, ?_⟩
  cases h with
  | bl b => exact iteT q
  | int i => exact iteF ⟨_, rfl, _, _, u2, _, _, rfl, .ty _, y2, k2, _, rfl, iteT q⟩
  | str x hx => exact iteF ⟨_, rfl, _, _, u2, _, _, rfl, .ty _, y2, k2, _, rfl, iteF ⟨_, rfl, _, _, u3, _, _, rfl, .ty _, y3, k3, _, rfl, iteT q⟩⟩
  | tup _ _ => exact iteF ⟨_, rfl, _, _, u2, _, _, rfl, .ty _, y2, k2, _, rfl, iteF ⟨_, rfl, _, _, u3, _, _, rfl, .ty _, y3, k3, _, rfl, iteF ⟨_, rfl, _, _, u4, _, _, rfl, .ty _, y4, k4, _, rfl, iteT q⟩⟩⟩
  | fn _ => exact iteF ⟨_, rfl, _, _, u2, _, _, rfl, .ty _, y2, k2, _, rfl, iteF ⟨_, rfl, _, _, u3, _, _, rfl, .ty _, y3, k3, _, rfl, iteF ⟨_, rfl, _, _, u4, _, _, rfl, .ty _, y4, k4, _, rfl, iteF q⟩⟩⟩
  | rcf _ => exact iteF ⟨_, rfl, _, _, u2, _, _, rfl, .ty _, y2, k2, _, rfl, iteF ⟨_, rfl, _, _, u3, _, _, rfl, .ty _, y3, k3, _, rfl, iteF ⟨_, rfl, _, _, u4, _, _, rfl, .ty _, y4, k4, _, rfl, iteF q⟩⟩⟩
theorem ok_is_formed (F : FnP K mg "is_formed" s_is_formed) (T : Tp K w mg) (B_is_a_name : Cl P w K mg base 2 "is_a_name" ["thing"] (spAName K)) (B_are_names : Cl P w K mg base 3 "are_names" ["thing"] (spNames K)) : Cl P w K mg base 4 "is_formed" ["part"] (spFormedP K) := by
  refine cl_1 F sc_is_formed (fun _ _ _ _ _ _ us hl => match us, hl with | [_], _ => rfl) fun cdv A outer s H v Q E hr h => ?_
  obtain ⟨G, wd, a, xs, r, rfl, ha, hx, g, hf, hg, q⟩ := h
  obtain ⟨es, n, Df⟩ := T.fm.kd
  refine ⟨_, PSs.nox (pss_cons (ps_set (i := 1) sc_is_formed.nd rfl (Or.inl rfl) (pe_ix ix_tup (pv 0) pe_int (fun _ _ => rfl))) (pss_cons (ps_if (pt_cmpR op_ne (pe_op op_sub (pe_callB call_len_seq rfl T.z_len PySem.boot_len (pa_cons (pv 0) pa_nil)) pe_int) (pe_ix ix_kdict (pe_glob (v := .ref (He.ga K "FORMS")) rfl T.g_FORMS rfl) (pv 1) (fun _ _ => rfl)) (nomark _)) (pss_one (ps_ret pe_bl)) pss_nil) (pss_cons (ps_if (PW.pt (pw_and (pt_cmpR op_in_seq (pv 1) (pe_tup (pa_cons pe_str (pa_cons pe_str pa_nil))) rfl) (pw_and1 (pt_not (pt_val (pe_b B_is_a_name hr (by omega) rfl passL (pa_cons (pe_ix ix_tup (pv 0) pe_int (fun _ _ => rfl)) pa_nil))))))) (pss_one (ps_ret pe_bl)) pss_nil) (pss_cons (ps_if (pt_cmpR op_in_seq (pv 1) (pe_tup (pa_cons pe_str (pa_cons pe_str pa_nil))) rfl) (pss_one (ps_ret (pe_b B_are_names hr (by omega) rfl passL (pa_cons (pe_ix ix_tup (pv 0) (pe_un un_neg pe_int) (fun _ _ => rfl)) pa_nil)))) pss_nil) (pss_one (ps_ret pe_bl)))))), ?_⟩
  have ln := hx.len
  rw [List.length_cons] at ln
  obtain ⟨_, c2, c3, c4⟩ := count_of hf
  have c5 := count_some hf
  obtain ⟨r0, e1, e2, e3⟩ := T.fm.ns wd
  obtain ⟨u, rfl, ru⟩ := e3 _ c5
  cases hx with
  | cons h0 hr1 =>
    cases h0 with
    | str _ hwd =>
    rename_i xr
    have ha' := g _ _ ha
    refine ⟨_, rfl, a, _, _, _, rfl, rfl, SqT.of ha', atI_nat (j := 0) rfl, ?_⟩
    refine ⟨_, rfl, a, _, rfl, .inr (SqT.of ha'), _, _, rfl, rfl, _, rfl, _, _, _, rfl, rfl, ⟨es, n, u, Df.at_, Df.lit, e1, ru⟩, rfl, _, rfl, ite2 (fun k1 => ?_) (fun k1 => ?_)⟩
    · have e : isFormed wd r = false := by
        unfold isFormed
        rw [decide_eq_false, Bool.false_and]
        intro z
        rw [c5] at z
        have z2 := Option.some.inj z
        have k1' : (!decide (V.int ((((V.str wd :: xr).length : Nat) : Int) - 1) = V.int (((formCount wd).getD 0 : Nat)))) = true := k1
        rw [decide_eq_true (by rw [List.length_cons] at ln ⊢; rw [z2]; congr 1; omega)] at k1'
        cases k1'
      rw [← e]
      exact q _ (.refl _)
    have lr : r.length = (formCount wd).getD 0 := by
      have z : ¬ (!decide (V.int ((((V.str wd :: xr).length : Nat) : Int) - 1) = V.int (((formCount wd).getD 0 : Nat)))) = true := k1
      rw [Bool.not_eq_true', decide_eq_false_iff_not, Classical.not_not] at z
      injection z with z
      rw [List.length_cons] at ln z
      omega
    have d1 : decide (formCount wd = some r.length) = true := decide_eq_true (by rw [lr]; exact c5)
    have fin : ∀ b : Bool, b = ((!(wd == "let" || wd == "rec") || isName (r.getD 0 .non)) && (!(wd == "fn" || wd == "rec") || areNames (r.getD (r.length - 2) .non))) → ∀ H', Same H H' → Q (.bl b) H' := fun b e H' s => by
      have z := q H' s
      unfold isFormed at z
      rw [d1, Bool.true_and, ← e] at z
      exact z
    have lx := hr1.len
    refine stepN ?_
    dsimp only
    refine seq_if (fun k => ∀ H', Same H H' → ∀ b, b = ((wd == "let" || wd == "rec") && !isName (r.getD 0 .non)) → k b H') (fun H3 s3 b eb => ?_) (fun k hk => ?_)
    case refine_2 =>
      refine ⟨_, rfl, (by decide), fun p np => ⟨p, _, rfl, .inr (SqT.of upd_same), rfl, rfl, _, rfl, ?_⟩⟩
      have s2' := same_new np (.tup [V.str "let", .str "rec"])
      refine ite2 (fun c => ?_) (fun c => ?_)
      · have c' : (wd == "let" || wd == "rec") = true := by
          rw [← inV2]
          exact c
        have l3 := c3 c'
        obtain ⟨t0, e0⟩ : ∃ t0, r[0]? = some t0 := ⟨_, List.getElem?_eq_getElem (show 0 < r.length by omega)⟩
        obtain ⟨x0, f0, g0⟩ := hr1.getT e0
        refine ⟨_, rfl, a, _, _, _, rfl, rfl, SqT.of (s2' _ _ ha'), atI_nat (j := 1) (by rw [List.getElem?_cons_succ]; exact f0), _, rfl, G, t0, g0, g.trans s2', fun H4 s4 => ⟨_, rfl, ?_⟩⟩
        refine hk _ (s2'.trans s4) _ ?_
        rw [c', getD_of e0, Bool.true_and]
      · refine hk _ s2' _ ?_
        have c' : (wd == "let" || wd == "rec") = false := by
          rw [← inV2]
          exact Bool.eq_false_iff.mpr c
        rw [c', Bool.false_and]
    subst eb
    refine ite2 (fun k2 => ?_) (fun k2 => ?_)
    · rw [Bool.and_eq_true] at k2
      have z := fin false (by rw [k2.1]; cases z : isName (r.getD 0 .non) with
        | false => rfl
        | true => rw [z] at k2; cases k2.2) H3 s3
      exact z
    have n1 : (!(wd == "let" || wd == "rec") || isName (r.getD 0 .non)) = true := by
      cases z1 : (wd == "let" || wd == "rec") with
      | false => rfl
      | true =>
        cases z2 : isName (r.getD 0 .non) with
        | false => rw [z1, z2] at k2; exact absurd rfl k2
        | true => rfl
    rw [n1, Bool.true_and] at fin
    refine ⟨_, rfl, (by decide), fun p np => ⟨p, _, rfl, .inr (SqT.of upd_same), rfl, rfl, _, rfl, ?_⟩⟩
    have s4 := s3.trans (same_new np (.tup [V.str "fn", .str "rec"]))
    refine ite2 (fun k3 => ?_) (fun k3 => ?_)
    · have c' : (wd == "fn" || wd == "rec") = true := by
        rw [← inV2]
        exact k3
      have l2 := c4 c'
      rw [c', Bool.not_true, Bool.false_or] at fin
      obtain ⟨t0, e0⟩ : ∃ t0, r[r.length - 2]? = some t0 := ⟨_, List.getElem?_eq_getElem (show r.length - 2 < r.length by omega)⟩
      obtain ⟨x0, f0, g0⟩ := hr1.getT e0
      rw [getD_of e0] at fin
      have hg0 : t0.row.length ≤ 4000 := by
        unfold namesG at hg
        rw [c', getD_of e0] at hg
        exact Nat.le_of_ble_eq_true (by simpa [namesMost] using hg)
      refine ⟨_, rfl, _, rfl, a, _, _, _, rfl, rfl, SqT.of (s4 _ _ ha'), atI_two (by rw [List.length_cons]; omega) ?_, _, rfl, G, t0, g0, g.trans s4, hg0, fun H5 s5 => fin _ rfl _ (s4.trans s5)⟩
      rw [List.length_cons, show xr.length + 1 - 2 = (r.length - 2) + 1 by omega, List.getElem?_cons_succ]
      exact f0
    · have c' : (wd == "fn" || wd == "rec") = false := by
        rw [← inV2]
        exact Bool.eq_false_iff.mpr k3
      exact fin true (by rw [c']; rfl) _ s4
end
end Fl
/-! worths.py: are_same -/
namespace Fl
open PySem PySem.Spec PyProof.Rows L2
/-- pairs that wait, as tuples -/
inductive Pa (M : Option Addr) (G H : Hp) : List V → List (Th × Th) → Prop
  | nil : Pa M G H [] []
  | cons {T : Addr} {x y : V} {t u : Th} {vs : List V} {ps : List (Th × Th)} : H T = some (.tup [x, y]) → Wo M G x t → Wo M G y u → Pa M G H vs ps → Pa M G H (.ref T :: vs) ((t, u) :: ps)
section
variable {M : Option Addr} {G H H' : Hp}
theorem Pa.same (s : Same H H') : ∀ {vs : List V} {ps : List (Th × Th)}, Pa M G H vs ps → Pa M G H' vs ps
  | _, _, .nil => .nil
  | _, _, .cons h a b r => .cons (s _ _ h) a b (r.same s)
theorem Pa.app : ∀ {vs ws : List V} {ps qs : List (Th × Th)}, Pa M G H vs ps → Pa M G H ws qs → Pa M G H (vs ++ ws) (ps ++ qs)
  | _, _, _, _, .nil, s => s
  | _, _, _, _, .cons h a b r, s => .cons h a b (r.app s)
theorem Pa.len : ∀ {vs : List V} {ps : List (Th × Th)}, Pa M G H vs ps → vs.length = ps.length
  | _, _, .nil => rfl
  | _, _, .cons _ _ _ r => congrArg Nat.succ r.len
theorem Pa.last : ∀ {vs : List V} {ps : List (Th × Th)}, Pa M G H vs ps → vs ≠ [] → ∃ ws T x y t u qs, vs = ws ++ [.ref T] ∧ ps = qs ++ [(t, u)] ∧ H T = some (.tup [x, y]) ∧ Wo M G x t ∧ Wo M G y u ∧ Pa M G H ws qs
  | _, _, .nil, h => absurd rfl h
  | _, _, .cons (vs := []) h a b r, _ => by
    cases r
    exact ⟨[], _, _, _, _, _, [], rfl, rfl, h, a, b, .nil⟩
  | _, _, .cons (vs := c :: d) h a b r, _ => by
    obtain ⟨ws, T, x, y, t, u, qs, e1, e2, e3, e4, e5, e6⟩ := r.last (List.cons_ne_nil _ _)
    exact ⟨_ :: ws, T, x, y, t, u, _ :: qs, by rw [e1]; rfl, by rw [e2]; rfl, e3, e4, e5, .cons h a b e6⟩
theorem Pa.mut {p : Addr} {xs ys : List V} (hp : H p = some (.lst xs)) : ∀ {vs : List V} {ps : List (Th × Th)}, Pa M G H vs ps → Pa M G (upd H p (.lst ys)) vs ps
  | _, _, .nil => .nil
  | _, _, .cons h a b r => .cons (by rw [upd_ne (fun z => by rw [z, hp] at h; cases h)]; exact h) a b (r.mut hp)
/-- the pairs of a zip -/
theorem Pa.zip : ∀ {xs ys : List V} {l m : List Th} {Ts : List Addr}, Wos M G xs l → Wos M G ys m → Ts.length = xs.length → xs.length = ys.length → (∀ (k : Nat) (T : Addr), Ts[k]? = some T → ∃ x y, xs[k]? = some x ∧ ys[k]? = some y ∧ H T = some (.tup [x, y])) → Pa M G H (Ts.map V.ref) (l.zip m)
  | [], [], _, _, [], .nil, .nil, _, _, _ => .nil
  | x :: xs, y :: ys, _, _, T :: Ts, .cons hx rx, .cons hy ry, h1, h2, h => by
    obtain ⟨a, b, e1, e2, e3⟩ := h 0 T rfl
    cases e1
    cases e2
    exact .cons e3 hx hy (Pa.zip rx ry (by simpa using h1) (by simpa using h2) fun k T' e => h (k + 1) T' e)
end
def psN (ps : List (Th × Th)) : Nat := Th.nodesL (ps.map fun p => p.1)
def psS (ps : List (Th × Th)) : Bool := ps.all fun p => p.1.same p.2
def psP (ps : List (Th × Th)) : Bool := ps.all fun p => p.1.worth false && p.2.worth false
theorem sames_zip : ∀ (l m : List Th), Th.sames l m = (decide (l.length = m.length) && psS (l.zip m))
  | [], [] => by rw [Th.sames]; rfl
  | [], _ :: _ => by rw [Th.sames] <;> first | rfl | (intros; simp_all)
  | _ :: _, [] => by rw [Th.sames] <;> first | rfl | (intros; simp_all)
  | t :: l, u :: m => by
    rw [Th.sames, sames_zip l m, List.zip_cons_cons]
    unfold psS
    rw [List.all_cons, List.length_cons, List.length_cons]
    have e : decide (l.length + 1 = m.length + 1) = decide (l.length = m.length) := decide_eq_decide.mpr ⟨fun h => by omega, fun h => by omega⟩
    rw [e]
    cases t.same u <;> cases decide (l.length = m.length) <;> rfl
theorem zip_plain : ∀ (l m : List Th), Th.worths false l = true → Th.worths false m = true → psP (l.zip m) = true
  | [], _, _, _ => by rw [List.zip_nil_left]; rfl
  | _ :: _, [], _, _ => by rw [List.zip_nil_right]; rfl
  | t :: l, u :: m, hl, hm => by
    rw [Th.worths, Bool.and_eq_true] at hl hm
    rw [List.zip_cons_cons]
    unfold psP
    rw [List.all_cons, hl.1, hm.1]
    exact zip_plain l m hl.2 hm.2
theorem zip_nodes : ∀ (l m : List Th), psN (l.zip m) ≤ Th.nodesL l
  | [], _ => by rw [List.zip_nil_left]; exact Nat.le_refl _
  | _ :: _, [] => by rw [List.zip_nil_right]; exact Nat.zero_le _
  | t :: l, u :: m => by
    have := zip_nodes l m
    unfold psN at this ⊢
    rw [List.zip_cons_cons, List.map_cons, Th.nodesL, Th.nodesL]
    show t.nodes + _ ≤ _
    omega
theorem same_kind {t u : Th} (wt : t.worth false = true) (h : t.kind ≠ u.kind) : t.same u = false := by
  cases e : t.same u with
  | false => rfl
  | true => exact absurd (congrArg Th.kind ((same_eq t u wt).mp e)) h
theorem leaf_same {M : Option Addr} {G : Hp} {x y : V} {t u : Th} (h1 : Wo M G x t) (h2 : Wo M G y u) (hk : t.kind = u.kind) (ht : t.isTup = false) (p1 : t.worth false = true) (p2 : u.worth false = true) : scal x y = true ∧ decide (x = y) = t.same u := by
  cases h1 with
  | tup _ _ => cases ht
  | fn _ => cases p1
  | rcf _ => cases p1
  | bl a =>
    cases h2 with
    | bl b => exact ⟨rfl, by rw [Th.same, dec_bl]⟩
    | int _ => exact absurd hk (show ¬ (("truth" : Str) = "number") by decide)
    | str _ => exact absurd hk (show ¬ (("truth" : Str) = "word") by decide)
    | tup _ _ => exact absurd hk (show ¬ (("truth" : Str) = "row") by decide)
    | fn _ => cases p2
    | rcf _ => cases p2
  | int a =>
    cases h2 with
    | int b => exact ⟨rfl, by rw [Th.same, dec_int]⟩
    | bl _ => exact absurd hk (show ¬ (("number" : Str) = "truth") by decide)
    | str _ => exact absurd hk (show ¬ (("number" : Str) = "word") by decide)
    | tup _ _ => exact absurd hk (show ¬ (("number" : Str) = "row") by decide)
    | fn _ => cases p2
    | rcf _ => cases p2
  | str a =>
    cases h2 with
    | str b => exact ⟨rfl, by rw [Th.same]; exact decide_eq_decide.mpr ⟨fun z => by injection z, fun z => by rw [z]⟩⟩
    | bl _ => exact absurd hk (show ¬ (("word" : Str) = "truth") by decide)
    | int _ => exact absurd hk (show ¬ (("word" : Str) = "number") by decide)
    | tup _ _ => exact absurd hk (show ¬ (("word" : Str) = "row") by decide)
    | fn _ => cases p2
    | rcf _ => cases p2
theorem row_two {M : Option Addr} {G : Hp} {x y : V} {t u : Th} (h1 : Wo M G x t) (h2 : Wo M G y u) (hk : t.kind = u.kind) (ht : t.isTup = true) (p2 : u.worth false = true) :
    ∃ a b xs ys l m, x = .ref a ∧ y = .ref b ∧ G a = some (.tup xs) ∧ G b = some (.tup ys) ∧ t = .tup l ∧ u = .tup m ∧ Wos M G xs l ∧ Wos M G ys m := by
  cases h1 with
  | tup e1 r1 =>
    cases h2 with
    | tup e2 r2 => exact ⟨_, _, _, _, _, _, rfl, rfl, e1, e2, rfl, rfl, r1, r2⟩
    | bl _ => exact absurd hk (show ¬ (("row" : Str) = "truth") by decide)
    | int _ => exact absurd hk (show ¬ (("row" : Str) = "number") by decide)
    | str _ => exact absurd hk (show ¬ (("row" : Str) = "word") by decide)
    | fn _ => cases p2
    | rcf _ => cases p2
  | bl _ => cases ht
  | int _ => cases ht
  | str _ => cases ht
  | fn _ => cases ht
  | rcf _ => cases ht
def SameW (M : Option Addr) (G H : Hp) (a b : V) (p : Addr) (r : Bool) (m : Nat) (σ : L2.St) (H' : Hp) : Prop := ∃ xs ps o3 o4, σ = [some a, some b, some (.ref p), o3, o4] ∧ Same H H' ∧ H' p = some (.lst xs) ∧ Pa M G H' xs ps ∧ m = psN ps ∧ psN ps ≤ 1000000 ∧ psP ps = true ∧ r = psS ps
def spSame (K : PySem.W.Frag) : Sp := sp2 fun a b H Q _ => ∃ G t u, Wo (some (CF K)) G a t ∧ Wo (some (CF K)) G b u ∧ Same G H ∧ t.worth false = true ∧ u.worth false = true ∧ t.nodes ≤ 1000000 ∧ ∀ H', Same H H' → Q (.bl (t.same u)) H'
section
variable {P : Program} {w : World} {K : PySem.W.Frag} {mg : Str → Option Value} {base : Heap}
theorem ok_are_same (F : FnP K mg "are_same" s_are_same) (T : Tp K w mg) (B_sort_of : Cl P w K mg base 1 "sort_of" ["worth"] (spSort K)) : Cl P w K mg base 2 "are_same" ["one", "other"] (spSame K) := by
  refine cl_2 F sc_are_same (fun _ _ _ _ _ _ us hl => match us, hl with | [_, _], _ => rfl) fun cdv A outer s H a b Q E hr h => ?_
  obtain ⟨G, t, u, ha, hb, g, pt, pu, hn, q⟩ := h
  refine ⟨_, PSs.nox (pss_cons (ps_set (i := 2) sc_are_same.nd rfl (Or.inl rfl) (pe_lst (pa_cons (pe_tup (pa_cons (pv 0) (pa_cons (pv 1) pa_nil))) pa_nil))) (pss_cons (ps_while PassesOwn.never (pt_cmpR (op_neNil hr.units0) (pv 2) (pe_lst pa_nil) (nomark _)) (pss_cons (ps_asg (pe_bm0 PySem.F.plainAttrs_list PySem.F.slot_list_pop PySem.F.type_list_pop mt_pop (pv 2)) (pg_tup rfl (pgs_cons (pg_name (i := 3) sc_are_same.nd rfl (Or.inl rfl)) (pgs_cons (pg_name (i := 4) sc_are_same.nd rfl (Or.inl rfl)) pgs_nil)))) (pss_cons (ps_if (pt_cmpR op_ne (pe_b B_sort_of hr (by omega) rfl passL (pa_cons (pv 3) pa_nil)) (pe_b B_sort_of hr (by omega) rfl passL (pa_cons (pv 4) pa_nil)) (nomark _)) (pss_one (ps_ret pe_bl)) pss_nil) (pss_one (ps_if (pt_val (pe_callB call_isi rfl T.z_isinstance PyProof.Rows.boot_isinstance (pa_cons (pv 3) (pa_cons (pe_bltn (v := .ty "tuple") rfl T.z_tuple (by decide +kernel) rfl) pa_nil)))) (pss_cons (ps_if (pt_cmpR op_ne (pe_callB call_len_seq rfl T.z_len PySem.boot_len (pa_cons (pv 3) pa_nil)) (pe_callB call_len_seq rfl T.z_len PySem.boot_len (pa_cons (pv 4) pa_nil)) (nomark _)) (pss_one (ps_ret pe_bl)) pss_nil) (pss_one (ps_expr (pe_bm PySem.F.plainAttrs_list PySem.F.slot_list_extend PySem.F.type_list_extend (mt_extend) (pv 2) (pa_cons (pe_listZip rfl T.z_list rfl T.z_zip (pa_cons (pv 3) (pa_cons (pv 4) pa_nil))) pa_nil))))) (pss_one (ps_if (pt_cmpR op_ne (pv 3) (pv 4) (nomark _)) (pss_one (ps_ret pe_bl)) pss_nil))))))) (pss_one (ps_ret pe_bl)))), ?_⟩
  refine ⟨_, rfl, _, rfl, s2, fun p0 np0 => ⟨(by show 1 ≤ sizeLine; decide), fun p np => ?_⟩⟩
  have sH0 := (same_new np0 (.tup [a, b])).trans (same_new np (.lst [.ref p0]))
  have np' : H p = none := (same_new np0 (.tup [a, b])).free np
  refine ⟨SameW (some (CF K)) G H a b p (t.same u), ⟨_, [.ref p0], [(t, u)], none, none, rfl, sH0, upd_same, .cons ((same_new np _) _ _ upd_same) ha hb .nil, rfl, by simpa [psN, Th.nodesL] using hn, by simp [psP, pt, pu], by simp [psS]⟩, ?_⟩
  rintro m σ H1 ⟨xs, ps, o3, o4, rfl, s1, hp, hi, rfl, hm, hpl, hrs⟩
  refine ⟨_, rfl, (by show 0 ≤ sizeLine; decide), fun d nd => ⟨p, d, xs, rfl, rfl, SqL.of (by rw [upd_ne (ne_of_none hp nd)]; exact hp), SqL.of upd_same, _, rfl, ?_⟩⟩
  have s2' : Same H (upd H1 d (.lst [])) := s1.trans (same_new nd _)
  have hp2 : upd H1 d (.lst []) p = some (.lst xs) := by
    rw [upd_ne (ne_of_none hp nd)]
    exact hp
  by_cases hx : xs = []
  · subst hx
    cases hi
    refine iteF ?_
    have e : t.same u = true := hrs
    rw [e] at q
    exact q _ s2'
  obtain ⟨ys, Ta, x, y, t1, u1, qs, rfl, rfl, hT, w1, w2, hi2⟩ := hi.last hx
  have hne : (!(ys ++ [V.ref Ta]).isEmpty) = true := by cases ys <;> rfl
  show (if (!(ys ++ [V.ref Ta]).isEmpty) = true then _ else _)
  rw [hne]
  refine iteT ?_
  have eN : psN (qs ++ [(t1, u1)]) = psN qs + t1.nodes := by
    unfold psN
    rw [List.map_append, nodesL_app]
    show Th.nodesL _ + Th.nodesL [t1] = _
    rw [Th.nodesL, Th.nodesL]
    omega
  have eS : psS (qs ++ [(t1, u1)]) = (psS qs && t1.same u1) := by
    unfold psS
    rw [List.all_append, List.all_cons, List.all_nil, Bool.and_true]
  have eP : psP (qs ++ [(t1, u1)]) = (psP qs && (t1.worth false && u1.worth false)) := by
    unfold psP
    rw [List.all_append, List.all_cons, List.all_nil, Bool.and_true]
  rw [eN] at hm
  rw [eS] at hrs
  rw [eP, Bool.and_eq_true, Bool.and_eq_true] at hpl
  obtain ⟨pq, p1, p2⟩ := hpl
  have tp := t1.nodes_pos
  have hyl : ys.length ≤ psN qs := by
    rw [hi2.len]
    have := len_nodesL (qs.map fun p => p.1)
    rw [List.length_map] at this
    exact this
  refine ⟨_, fun σ' H' z => z, ?_⟩
  have hpT : Ta ≠ p := fun z => by rw [z, hp] at hT; cases hT
  have dT : Ta ≠ d := ne_of_none hT nd
  refine ⟨_, rfl, .inl ⟨rfl, _, .inl (.inl hp2)⟩, p, _, V.ref Ta, rfl, rfl, hp2, (by simp), ?_⟩
  rw [List.dropLast_concat]
  have s3 : Same H (upd (upd H1 d (.lst [])) p (.lst ys)) := same_mut s2' np'
  have hp3 : upd (upd H1 d (.lst [])) p (.lst ys) p = some (.lst ys) := upd_same
  have hT3 : upd (upd H1 d (.lst [])) p (.lst ys) Ta = some (.tup [x, y]) := by
    rw [upd_ne hpT, upd_ne dT]
    exact hT
  have hi3 : Pa (some (CF K)) G (upd (upd H1 d (.lst [])) p (.lst ys)) ys qs := (hi2.same (same_new nd _)).mut hp2
  have g3 := g.trans s3
  generalize upd (upd H1 d (.lst [])) p (.lst ys) = H3 at s3 hp3 hT3 hi3 g3 ⊢
  refine ⟨Ta, _, rfl, SqT.of hT3, rfl, _, _, rfl, _, _, rfl, rfl, ?_⟩
  have bad : t1.same u1 = false → Q (.bl false) H3 := fun e => by
    have e2 : t.same u = false := by rw [hrs, e, Bool.and_false]
    rw [e2] at q
    exact q _ s3
  refine ⟨_, rfl, _, rfl, G, t1, w1, g3, _, rfl, _, rfl, G, u1, w2, g3, rfl, _, rfl, ?_⟩
  by_cases kk : t1.kind = u1.kind
  · rw [kk, decide_eq_true rfl]
    refine iteF (stepN ?_)
    dsimp only
    obtain ⟨k1, y1, z1⟩ := wk_tup (K := K) (M := some (CF K)) T.kf g3 w1
    refine ⟨_, rfl, _, _, k1, _, _, rfl, .ty _, y1, z1, _, rfl, ?_⟩
    have fin : ∀ H4, Same H H4 → H4 p = some (.lst ys) → Pa (some (CF K)) G H4 ys qs → t1.same u1 = true → ∃ m', m' < psN (qs ++ [(t1, u1)]) ∧ SameW (some (CF K)) G H a b p (t.same u) m' [some a, some b, some (.ref p), some x, some y] H4 := fun H4 s4 hp4 hi4 e =>
      ⟨psN qs, by rw [eN]; omega, ys, qs, _, _, rfl, s4, hp4, hi4, rfl, by omega, pq, by rw [hrs, e, Bool.and_true]⟩
    cases it : t1.isTup with
    | false =>
      obtain ⟨l1, l2⟩ := leaf_same w1 w2 kk it p1 p2
      refine iteF ⟨_, rfl, _, rfl, l1, _, rfl, ?_⟩
      rw [l2]
      cases e : t1.same u1 with
      | true => exact iteF (fin H3 s3 hp3 hi3 e)
      | false => exact iteT (bad e)
    | true =>
      obtain ⟨a1, b1, xs1, ys1, l, m, rfl, rfl, e1, e2, rfl, rfl, v1, v2⟩ := row_two w1 w2 kk it p2
      have l1 := v1.len
      have l2 := v2.len
      have pl : Th.worths false l = true := by simpa [Th.worth] using p1
      have pm : Th.worths false m = true := by simpa [Th.worth] using p2
      have sz : Th.same (.tup l) (.tup m) = (decide (l.length = m.length) && psS (l.zip m)) := by rw [Th.same, sames_zip]
      refine iteT ⟨_, rfl, a1, _, rfl, .inr (SqT.of (g3 _ _ e1)), _, rfl, b1, _, rfl, .inr (SqT.of (g3 _ _ e2)), rfl, _, rfl, ?_⟩
      by_cases ll : l.length = m.length
      · rw [show xs1.length = ys1.length by omega, decide_eq_true rfl]
        refine iteF (stepN ?_)
        dsimp only
        have zn := zip_nodes l m
        have zl : (l.zip m).length = l.length := by rw [List.length_zip]; omega
        simp only [Th.nodes] at eN hm
        have ln := len_nodesL l
        refine ⟨_, rfl, .inl ⟨rfl, _, .inl (.inl hp3)⟩, _, rfl, _, rfl, a1, b1, xs1, ys1, rfl, SqT.of (g3 _ _ e1), SqT.of (g3 _ _ e2), by omega, fun S Ts H4 s4 nS prs => ?_⟩
        have hS : p ≠ S := ne_of_none (s4 _ _ hp3) nS
        have s5 := s4.trans (same_new nS (.lst (Ts.map V.ref)))
        refine ⟨p, S, ys, Ts.map V.ref, rfl, rfl, s5 _ _ hp3, upd_same, by rw [List.length_map, prs.1, sizeLine_eq]; omega, ?_⟩
        have pz : Pa (some (CF K)) G H4 (Ts.map V.ref) (l.zip m) := Pa.zip v1 v2 prs.1 (by omega) prs.2
        refine ⟨psN (qs ++ l.zip m), ?_, ys ++ Ts.map V.ref, qs ++ l.zip m, _, _, rfl, same_mut (s3.trans s5) np', upd_same, ((hi3.same s5).app (pz.same (same_new nS _))).mut (s5 _ _ hp3), rfl, ?_, ?_, ?_⟩
        · rw [eN]
          unfold psN at zn ⊢
          rw [List.map_append, nodesL_app]
          omega
        · unfold psN at zn hm ⊢
          rw [List.map_append, nodesL_app]
          omega
        · unfold psP at pq ⊢
          rw [List.all_append, pq]
          exact zip_plain l m pl pm
        · rw [hrs, sz, decide_eq_true ll, Bool.true_and]
          unfold psS
          rw [List.all_append]
      · have e : (!decide (V.int ((xs1.length : Nat) : Int) = V.int ((ys1.length : Nat) : Int))) = true := by
          rw [decide_eq_false (fun z => by injection z with z; omega)]
          rfl
        rw [e]
        exact iteT (bad (by rw [sz, decide_eq_false ll]; rfl))
  · have e : (!decide (V.str t1.kind = V.str u1.kind)) = true := by
      rw [decide_eq_false fun z => kk (by injection z)]
      rfl
    rw [e]
    exact iteT (bad (same_kind p1 kk))
end
end Fl
namespace Fl
open PySem PySem.Spec PyProof.Rows L2
def OutR (M : Option Addr) (G : Hp) (u : V) (e : Str) : Out → Prop
  | .val t => e = "" ∧ Wo M G u t
  | .stop x => e = x
def spReck (K : PySem.W.Frag) : Sp := sp3 fun b v1 v2 H Q _ => ∃ G w t1 t2, b = .str w ∧ Same G H ∧ Wo (some (CF K)) G v1 t1 ∧ Wo (some (CF K)) G v2 t2 ∧ isNumW w = true ∧
  ∀ p e u G' H', Same H H' → Same G G' → Same G' H' → (∀ b, G b = none → H b ≠ none → G' b = none) → H' p = some (.tup [.str e, u]) → OutR (some (CF K)) G' u e (ofNums w t1 t2) → Q (.ref p) H'
def spDoneP (K : PySem.W.Frag) : Sp := sp2 fun b p H Q _ => ∃ G w D ys ws, b = .str w ∧ p = .ref D ∧ Same G H ∧ H D = some (.lst ys) ∧ Wos (some (CF K)) G ys ws ∧ w ∈ doneWs ∧ formCount w = some ws.length ∧ doneG w ws = true ∧
  ∀ p e u G' H', Same H H' → Same G G' → Same G' H' → (∀ b, G b = none → H b ≠ none → G' b = none) → H' p = some (.tup [.str e, u]) → OutR (some (CF K)) G' u e (doneBy w ws) → Q (.ref p) H'
def spNo : Sp := fun _ _ _ _ => False
theorem ok_never {P : Program} {w : World} {K : PySem.W.Frag} {mg : Str → Option Value} {base : Heap} {x : Str} {st : Stmt} {N ps : List Str} (k : Nat) (F : FnP K mg x st) (S : FnScope N ps (defScope st)) (hb : bindOk st x ps) : Cl P w K mg base (k + 1) x ps spNo :=
  cl_mk F S hb (fun _ _ _ _ h => h.elim) fun _ _ _ _ _ _ _ _ _ h => h.elim
theorem seq_asg {te : TE} {g : TG} {tr : TS} {D : Ends} {σ : L2.St} {H : Hp} (J : (V → Hp → Prop) → Prop) (h1 : J fun x H1 => g x σ H1 fun σ' H' => tr D σ' H') (h2 : ∀ k, J k → te σ H k) : tSeq (tAsg te g) tr D σ H := h2 _ h1
theorem wo_num {M : Option Addr} {G : Hp} {v : V} {t : Th} (h : Wo M G v t) : (t.num = true ∧ ∃ i, t = .int i ∧ v = .int i ∧ numB i = true) ∨ (t.num = false ∧ ∀ i, t ≠ .int i) := by
  cases h with
  | int i hi => exact .inl ⟨hi, i, rfl, rfl, hi⟩
  | bl b => exact .inr ⟨rfl, fun i z => nomatch z⟩
  | str _ _ => exact .inr ⟨rfl, fun i z => nomatch z⟩
  | tup _ _ => exact .inr ⟨rfl, fun i z => nomatch z⟩
  | fn _ => exact .inr ⟨rfl, fun i z => nomatch z⟩
  | rcf _ => exact .inr ⟨rfl, fun i z => nomatch z⟩
theorem nums_kind {w : Str} {t1 t2 : Th} (h : (∀ i, t1 ≠ .int i) ∨ ∀ i, t2 ≠ .int i) : ofNums w t1 t2 = .stop "kind" := by
  unfold ofNums
  split
  · rcases h with h | h
    · exact absurd rfl (h _)
    · exact absurd rfl (h _)
  · rfl
theorem neg9 : (-(1000000000 : Int)) = -1000000000 := rfl
section
variable {P : Program} {w : World} {K : PySem.W.Frag} {mg : Str → Option Value} {base : Heap}
theorem ok_reckoned (F : FnP K mg "reckoned" s_reckoned) (T : Tp K w mg) (B_is_number : Cl P w K mg base 1 "is_number" ["thing"] (spNumber K)) : Cl P w K mg base 2 "reckoned" ["word", "one", "other"] (spReck K) := by
  refine cl_3 F sc_reckoned (fun _ _ _ _ _ _ us hl => match us, hl with | [_, _, _], _ => rfl) fun cdv A outer s H b v1 v2 Q E hr h => ?_
  obtain ⟨G, wd, t1, t2, rfl, g, h1, h2, hw, q⟩ := h
  refine ⟨_, PSs.nox (pss_cons (ps_if (PW.pt (pw_or (pt_not (pt_val (pe_b B_is_number hr (by omega) rfl passL (pa_cons (pv 1) pa_nil)))) (pw_or1 (pt_not (pt_val (pe_b B_is_number hr (by omega) rfl passL (pa_cons (pv 2) pa_nil))))))) (pss_one (ps_ret (pe_tup (pa_cons pe_str (pa_cons (pe_tup pa_nil) pa_nil))))) pss_nil) (pss_cons (ps_if (pt_cmpR op_eq (pv 0) pe_str (nomark _)) (pss_one (ps_ret (pe_tup (pa_cons pe_str (pa_cons (pe_cmpR op_lt (pv 1) (pv 2) (nomark _)) pa_nil))))) pss_nil) (pss_cons (ps_set (i := 3) sc_reckoned.nd rfl (Or.inl rfl) (pe_ifExp (pt_cmpR op_eq (pv 0) pe_str (nomark _)) (pe_op op_add (pv 1) (pv 2)) (pe_ifExp (pt_cmpR op_eq (pv 0) pe_str (nomark _)) (pe_op op_sub (pv 1) (pv 2)) (pe_op op_mul (pv 1) (pv 2))))) (pss_one (ps_ret (pe_ifExp (pt_chain op_le op_le (pe_un un_neg (pe_gk rfl T.c_MOST_NUMBER)) (pv 3) (pe_gk rfl T.c_MOST_NUMBER)) (pe_tup (pa_cons pe_str (pa_cons (pv 3) pa_nil))) (pe_tup (pa_cons pe_str (pa_cons (pe_tup pa_nil) pa_nil))))))))), ?_⟩
  have new := fun {p : Addr} {o : HO} {Hh : Hp} (s : Same H Hh) (n : Hh p = none) => s.trans (same_new n o)
  refine ⟨_, rfl, _, rfl, t1, h1.is.same g, _, rfl, ?_⟩
  have bad : ∀ Hh, Same H Hh → ofNums wd t1 t2 = .stop "kind" → 0 ≤ sizeLine ∧ ∀ p, Hh p = none → 2 ≤ sizeLine ∧ ∀ p2, upd Hh p (.tup []) p2 = none → Q (.ref p2) (upd (upd Hh p (.tup [])) p2 (.tup [.str "kind", .ref p])) := fun Hh s e =>
    ⟨by decide, fun p np => ⟨s2, fun p2 np2 => q p2 "kind" _ G _ (new (new s np) np2) (.refl _) (g.trans (new (new s np) np2)) (fun _ e _ => e) upd_same (by rw [e]; rfl)⟩⟩
  rcases wo_num h1 with ⟨n1, a, rfl, rfl, na⟩ | ⟨n1, x1⟩
  case inr =>
    rw [n1]
    exact iteT (iteT (bad H (.refl _) (nums_kind (.inl x1))))
  rw [n1]
  refine iteF ⟨_, rfl, _, rfl, t2, h2.is.same g, _, rfl, ?_⟩
  rcases wo_num h2 with ⟨n2, b, rfl, rfl, nb⟩ | ⟨n2, x2⟩
  case inr =>
    rw [n2]
    exact iteT (bad H (.refl _) (nums_kind (.inr x2)))
  rw [n2]
  have mb := numB_mul nb
  refine iteF ⟨_, rfl, rfl, _, rfl, ite2 (fun k => ?_) (fun k1 => ?_)⟩
  · obtain rfl := of_str k
    exact ⟨_, rfl, _, rfl, _, _, rfl, rfl, s2, fun p np => q p "" _ G _ (same_new np _) (.refl _) (g.trans (same_new np _)) (fun _ e _ => e) upd_same ⟨rfl, .bl _⟩⟩
  have nb2 : (wd == "below") = false := beq_eq_false_iff_ne.mpr (not_str k1)
  have on : ofNums wd (.int a) (.int b) = if numB (if wd == "add" then a + b else if wd == "less" then a - b else a * b) then .val (.int (if wd == "add" then a + b else if wd == "less" then a - b else a * b)) else .stop "far" := by
    unfold ofNums
    simp only
    rw [nb2, if_neg (by decide)]
  generalize hc : (if wd == "add" then a + b else if wd == "less" then a - b else a * b) = c at on
  refine stepN ?_
  dsimp only
  refine seq_asg (fun k => k (.int c) H) ?_ (fun k hk => ?_)
  case refine_2 =>
    have w3 : wd = "add" ∨ wd = "less" ∨ wd = "times" := by
      unfold isNumW at hw
      rw [nb2, Bool.or_false, Bool.or_eq_true, Bool.or_eq_true] at hw
      rcases hw with z | z | z
      · exact .inl (eq_of_beq z)
      · exact .inr (.inl (eq_of_beq z))
      · exact .inr (.inr (eq_of_beq z))
    rcases w3 with rfl | rfl | rfl
    · refine ⟨_, rfl, rfl, _, rfl, ite_tt (str_eq rfl) ⟨_, rfl, _, rfl, _, _, rfl, rfl, ?_⟩⟩
      rw [← hc] at hk
      exact hk
    · refine ⟨_, rfl, rfl, _, rfl, ite_ff (str_ne (by decide)) ⟨_, rfl, rfl, _, rfl, ite_tt (str_eq rfl) ⟨_, rfl, _, rfl, _, _, rfl, rfl, ?_⟩⟩⟩
      rw [← hc] at hk
      exact hk
    · refine ⟨_, rfl, rfl, _, rfl, ite_ff (str_ne (by decide)) ⟨_, rfl, rfl, _, rfl, ite_ff (str_ne (by decide)) ⟨_, rfl, _, rfl, _, _, rfl, rfl, .inr mb, ?_⟩⟩⟩
      rw [← hc] at hk
      exact hk
  have far : numB c = false → 0 ≤ sizeLine ∧ ∀ p, H p = none → 2 ≤ sizeLine ∧ ∀ p2, upd H p (.tup []) p2 = none → Q (.ref p2) (upd (upd H p (.tup [])) p2 (.tup [.str "far", .ref p])) := fun e =>
    ⟨by decide, fun p np => ⟨s2, fun p2 np2 => q p2 "far" _ G _ (new (new (.refl _) np) np2) (.refl _) (g.trans (new (new (.refl _) np) np2)) (fun _ e _ => e) upd_same (by rw [on, e]; rfl)⟩⟩
  have nb : numB c = (decide (-1000000000 ≤ c) && decide (c ≤ 1000000000)) := rfl
  refine ⟨_, rfl, _, rfl, _, _, rfl, rfl, _, rfl, ite2 (fun k => ?_) (fun k => ?_)⟩
  · have k' : decide (-1000000000 ≤ c) = true := k
    rw [k', Bool.true_and] at nb
    refine ⟨_, _, rfl, rfl, _, rfl, ?_⟩
    rw [← nb]
    cases nc : numB c with
    | true => exact iteT ⟨_, rfl, s2, fun p np => q p "" _ G _ (same_new np _) (.refl _) (g.trans (same_new np _)) (fun _ e _ => e) upd_same (by rw [on, nc]; exact ⟨rfl, .int c nc⟩)⟩
    | false => exact iteF (far nc)
  · have k' : decide (-1000000000 ≤ c) = false := Bool.eq_false_iff.mpr k
    rw [k', Bool.false_and] at nb
    exact ⟨_, rfl, iteF (far nb)⟩
theorem ok_done_by {L : Nat} (hL : 3 ≤ L) (F : FnP K mg "done_by" s_done_by) (T : Tp K w mg) (B_reckoned : Cl P w K mg base 2 "reckoned" ["word", "one", "other"] (spReck K)) (B_is_plain : Cl P w K mg base 3 "is_plain" ["thing"] (spIs K false))
    (B_are_same : Cl P w K mg base 2 "are_same" ["one", "other"] (spSame K)) (B_sort_of : Cl P w K mg base 1 "sort_of" ["worth"] (spSort K)) : Cl P w K mg base (L + 1) "done_by" ["word", "worths"] (spDoneP K) := by
  refine cl_2 F sc_done_by (fun _ _ _ _ _ _ us hl => match us, hl with | [_, _], _ => rfl) fun cdv A outer s H b p Q E hr h => ?_
  obtain ⟨G, wd, D, ys, ws, rfl, rfl, g, hD, hys, hw, hc, hdg, q⟩ := h
  refine ⟨_, PSs.nox (pss_cons (ps_set (i := 2) sc_done_by.nd rfl (Or.inl rfl) (pe_ix ix_list (pv 1) pe_int (fun _ _ => rfl))) (pss_cons (ps_if (pt_cmpR op_in_seq (pv 0) (pe_glob (v := .ref (He.ga K "NUMBERS")) rfl T.g_NUMBERS rfl) rfl) (pss_one (ps_ret (pe_b B_reckoned hr (by omega) rfl passL (pa_cons (pv 0) (pa_cons (pv 2) (pa_cons (pe_ix ix_list (pv 1) pe_int (fun _ _ => rfl)) pa_nil)))))) pss_nil) (pss_cons (ps_if (pt_cmpR op_eq (pv 0) pe_str (nomark _)) (pss_cons (ps_set (i := 3) sc_done_by.nd rfl (Or.inl rfl) (pe_and (pe_b B_is_plain hr (by omega) rfl passL (pa_cons (pv 2) pa_nil)) (pe_one (pe_b B_is_plain hr (by omega) rfl passL (pa_cons (pe_ix ix_list (pv 1) pe_int (fun _ _ => rfl)) pa_nil))))) (pss_one (ps_ret (pe_ifExp (pt_val (pv 3)) (pe_tup (pa_cons pe_str (pa_cons (pe_b B_are_same hr (by omega) rfl passL (pa_cons (pv 2) (pa_cons (pe_ix ix_list (pv 1) pe_int (fun _ _ => rfl)) pa_nil))) pa_nil))) (pe_tup (pa_cons pe_str (pa_cons (pe_tup pa_nil) pa_nil))))))) pss_nil) (pss_cons (ps_if (pt_cmpR op_eq (pv 0) pe_str (nomark _)) (pss_one (ps_ret (pe_ifExp (pt_val (pe_callB call_isi rfl T.z_isinstance PyProof.Rows.boot_isinstance (pa_cons (pe_ix ix_list (pv 1) pe_int (fun _ _ => rfl)) (pa_cons (pe_bltn (v := .ty "tuple") rfl T.z_tuple (by decide +kernel) rfl) pa_nil)))) (pe_tup (pa_cons pe_str (pa_cons (pe_op op_catA (pe_tup (pa_cons (pv 2) pa_nil)) (pe_ix ix_list (pv 1) pe_int (fun _ _ => rfl))) pa_nil))) (pe_tup (pa_cons pe_str (pa_cons (pe_tup pa_nil) pa_nil)))))) pss_nil) (pss_cons (ps_if (pt_cmpR op_eq (pv 0) pe_str (nomark _)) (pss_one (ps_ret (pe_tup (pa_cons pe_str (pa_cons (pe_b B_sort_of hr (by omega) rfl passL (pa_cons (pv 2) pa_nil)) pa_nil))))) pss_nil) (pss_cons (ps_if (pt_cmpR op_eq (pv 0) pe_str (nomark _)) (pss_one (ps_ret (pe_tup (pa_cons pe_str (pa_cons (pe_and (pe_callB call_isi rfl T.z_isinstance PyProof.Rows.boot_isinstance (pa_cons (pv 2) (pa_cons (pe_bltn (v := .ty "tuple") rfl T.z_tuple (by decide +kernel) rfl) pa_nil))) (pe_one (pe_cmpR (op_eqTN hr.units0) (pv 2) (pe_tup pa_nil) (nomark _)))) pa_nil))))) pss_nil) (pss_cons (ps_if (PW.pt (pw_or (pt_not (pt_val (pe_callB call_isi rfl T.z_isinstance PyProof.Rows.boot_isinstance (pa_cons (pv 2) (pa_cons (pe_bltn (v := .ty "tuple") rfl T.z_tuple (by decide +kernel) rfl) pa_nil))))) (pw_or1 (pt_cmpR (op_eqTN hr.units0) (pv 2) (pe_tup pa_nil) (nomark _))))) (pss_one (ps_ret (pe_tup (pa_cons pe_str (pa_cons (pe_tup pa_nil) pa_nil))))) pss_nil) (pss_one (ps_ret (pe_tup (pa_cons pe_str (pa_cons (pe_ifExp (pt_cmpR op_eq (pv 0) pe_str (nomark _)) (pe_ix ix_tup (pv 2) pe_int (fun _ _ => rfl)) (pe_slice sl_tupA (pv 2) (po_some pe_int) po_none)) pa_nil)))))))))))), ?_⟩
  have ln := hys.len
  have new := fun {p : Addr} {o : HO} {Hh : Hp} (s : Same H Hh) (n : Hh p = none) => s.trans (same_new n o)
  have l1 : 1 ≤ ws.length := by
    have z : ∀ x ∈ doneWs, 1 ≤ (formCount x).getD 0 := by decide +kernel
    have := z wd hw
    rw [hc] at this
    exact this
  obtain ⟨t0, e0⟩ : ∃ t0, ws[0]? = some t0 := ⟨_, List.getElem?_eq_getElem (show 0 < ws.length by omega)⟩
  obtain ⟨y0, f0, g0⟩ := hys.getT e0
  have one : ws.getD 0 .non = t0 := getD_of e0
  have two : ws.length = 2 → ∃ y1 t1, ys[1]? = some y1 ∧ Wo (some (CF K)) G y1 t1 ∧ ws.getD 1 .non = t1 := fun z => by
    obtain ⟨t1, e1⟩ : ∃ t1, ws[1]? = some t1 := ⟨_, List.getElem?_eq_getElem (show 1 < ws.length by omega)⟩
    obtain ⟨y1, f1, g1⟩ := hys.getT e1
    exact ⟨y1, t1, f1, g1, getD_of e1⟩
  have bad : ∀ Hh, Same H Hh → doneBy wd ws = .stop "kind" → 0 ≤ sizeLine ∧ ∀ p, Hh p = none → 2 ≤ sizeLine ∧ ∀ p2, upd Hh p (.tup []) p2 = none → Q (.ref p2) (upd (upd Hh p (.tup [])) p2 (.tup [.str "kind", .ref p])) := fun Hh s e =>
    ⟨by decide, fun p np => ⟨s2, fun p2 np2 => q p2 "kind" _ G _ (new (new s np) np2) (.refl _) (g.trans (new (new s np) np2)) (fun _ e _ => e) upd_same (by rw [e]; rfl)⟩⟩
  have good : ∀ t u Hh, Same H Hh → doneBy wd ws = .val t → Wo (some (CF K)) G u t → 2 ≤ sizeLine ∧ ∀ p2, Hh p2 = none → Q (.ref p2) (upd Hh p2 (.tup [.str "", u])) := fun t u Hh s e w' =>
    ⟨s2, fun p2 np2 => q p2 "" u G _ (new s np2) (.refl _) (g.trans (new s np2)) (fun _ e _ => e) upd_same (by rw [e]; exact ⟨rfl, w'⟩)⟩
  refine ⟨_, rfl, D, _, _, _, rfl, rfl, SqL.of hD, atI_nat (j := 0) f0, ?_⟩
  refine ⟨_, rfl, _, _, rfl, .inr (T.t_NUMBERS _), rfl, rfl, _, rfl, ?_⟩
  rw [inV4]
  refine ite2 (fun c => ?_) (fun c => ?_)
  · have cn : isNumW wd = true := c
    have l2 : ws.length = 2 := by
      have z : ∀ x ∈ doneWs, isNumW x = true → formCount x = some 2 := by decide +kernel
      have := z wd hw cn
      rw [hc] at this
      exact Option.some.inj this
    obtain ⟨y1, t1, f1, g1, tw⟩ := two l2
    have db : doneBy wd ws = ofNums wd t0 t1 := by
      unfold doneBy
      simp only
      rw [if_pos cn, one, tw]
    refine ⟨_, rfl, _, rfl, _, rfl, D, _, _, _, rfl, rfl, SqL.of hD, atI_nat (j := 1) f1, _, _, _, rfl, G, wd, t0, t1, rfl, g, g0, g1, cn, fun p e u G' H' s' gg' gh' nw' ep o => ?_⟩
    exact q p e u G' H' s' gg' gh' nw' ep (by rw [db]; exact o)
  have nn : isNumW wd = false := Bool.eq_false_iff.mpr c
  refine ⟨_, rfl, rfl, _, rfl, ite2 (fun k => ?_) (fun k1 => ?_)⟩
  · obtain rfl := of_str k
    have l2 : ws.length = 2 := (Option.some.inj (show some 2 = some ws.length from hc)).symm
    obtain ⟨y1, t1, f1, g1, tw⟩ := two l2
    have db : doneBy "same" ws = (if t0.worth false && t1.worth false then .val (.bl (t0.same t1)) else .stop "kind") := by
      rw [← one, ← tw]
      rfl
    obtain ⟨⟨nn0, dd0⟩, nn1, dd1⟩ : (t0.nodes ≤ 30000 ∧ t0.depth ≤ 40) ∧ t1.nodes ≤ 30000 ∧ t1.depth ≤ 40 := by
      unfold doneG at hdg
      rw [Bool.and_eq_true, one, tw] at hdg
      have z := hdg.1
      have e : ("same" == ("same" : Str)) = true := by decide
      rw [e] at z
      simp only [small, sameOn, Bool.not_true, Bool.false_or, Bool.true_and, Bool.and_eq_true, Nat.ble_eq] at z
      exact z
    refine ⟨_, rfl, _, rfl, t0, g0.is.same g, by omega, fun H2 s2' => ⟨_, rfl, ?_⟩⟩
    cases p0 : t0.worth false with
    | false => exact iteF ⟨_, rfl, _, rfl, iteF (bad H2 s2' (by rw [db, p0]; rfl))⟩
    | true =>
      refine iteT ⟨_, rfl, D, _, _, _, rfl, rfl, SqL.of (s2' _ _ hD), atI_nat (j := 1) f1, _, rfl, t1, g1.is.same (g.trans s2'), by omega, fun H3 s3' => ?_⟩
      have s13 := s2'.trans s3'
      cases p1 : t1.worth false with
      | false => exact ⟨_, rfl, _, rfl, iteF (bad H3 s13 (by rw [db, p0, p1]; rfl))⟩
      | true =>
        exact ⟨_, rfl, _, rfl, iteT ⟨_, rfl, _, rfl, D, _, _, _, rfl, rfl, SqL.of (s13 _ _ hD), atI_nat (j := 1) f1, _, _, rfl, G, t0, t1, g0, g1, g.trans s13, p0, p1, by omega, fun H4 s4' =>
          good _ _ H4 (s13.trans s4') (by rw [db, p0, p1]; rfl) (.bl _)⟩⟩
  refine ⟨_, rfl, rfl, _, rfl, ite2 (fun k => ?_) (fun k4 => ?_)⟩
  · obtain rfl := of_str k
    have l2 : ws.length = 2 := (Option.some.inj (show some 2 = some ws.length from hc)).symm
    obtain ⟨y1, t1, f1, g1, tw⟩ := two l2
    have db : doneBy "join" ws = joinT t0 t1 := by
      rw [← one, ← tw]
      rfl
    obtain ⟨u4, y4, k4⟩ := wk_tup (K := K) (M := some (CF K)) T.kf g g1
    refine ⟨_, rfl, D, _, _, _, rfl, rfl, SqL.of hD, atI_nat (j := 1) f1, _, _, u4, _, _, rfl, .ty _, y4, k4, _, rfl, ?_⟩
    cases g1 with
    | bl b => exact iteF (bad H (.refl _) db)
    | int i hi => exact iteF (bad H (.refl _) db)
    | str x hx => exact iteF (bad H (.refl _) db)
    | fn _ => exact iteF (bad H (.refl _) db)
    | rcf _ => exact iteF (bad H (.refl _) db)
    | tup h5 w5 =>
      rename_i p5 xs5 l5
      have lb : l5.length ≤ 100000 := by
        unfold doneG at hdg
        rw [tw, Bool.and_eq_true] at hdg
        exact Nat.le_of_ble_eq_true (by simpa [Th.row] using hdg.2)
      have lx := w5.len
      refine iteT ⟨_, rfl, s1, fun p6 np6 => ⟨_, rfl, D, _, _, _, rfl, rfl, SqL.of ((same_new np6 _) _ _ hD), atI_nat (j := 1) f1, ?_⟩⟩
      have st6 := stp_new (d := 0) g np6 (.tup [y0])
      refine rd_catG (d := 0) st6.gh upd_same (st6.gg _ _ h5) (by rw [sizeLine_eq]; simp only [List.length_singleton]; omega) fun p7 G7 H7 s7 st7 e7 => ⟨s2, fun p8 np8 => ?_⟩
      refine q p8 "" _ G7 _ (((same_new np6 _).trans s7).trans (same_new np8 _)) (st6.gg.trans st7.gg) (st7.gh.trans (same_new np8 _)) (st6.trans st7).nw upd_same ?_
      rw [db]
      exact ⟨rfl, .tup e7 (.cons (g0.same (st6.gg.trans st7.gg)) (w5.same (st6.gg.trans st7.gg)))⟩
  refine ⟨_, rfl, rfl, _, rfl, ite2 (fun k => ?_) (fun k2 => ?_)⟩
  · obtain rfl := of_str k
    exact ⟨_, rfl, _, rfl, G, t0, g0, g, good (.str t0.kind) _ H (.refl _) (by rw [← one]; rfl) (.str _ (kind_word t0))⟩
  obtain ⟨u4, y4, k4'⟩ := wk_tup (K := K) (M := some (CF K)) T.kf g g0
  refine ⟨_, rfl, rfl, _, rfl, ite2 (fun k => ?_) (fun k3 => ?_)⟩
  · obtain rfl := of_str k
    have db : doneBy "row" ws = .val (.bl (isNilT t0)) := by
      rw [← one]
      rfl
    refine ⟨_, rfl, _, _, u4, _, _, rfl, .ty _, y4, k4', _, rfl, ?_⟩
    cases g0 with
    | bl b => exact iteF (good _ _ H (.refl _) db (.bl _))
    | int i hi => exact iteF (good _ _ H (.refl _) db (.bl _))
    | str x hx => exact iteF (good _ _ H (.refl _) db (.bl _))
    | fn _ => exact iteF (good _ _ H (.refl _) db (.bl _))
    | rcf _ => exact iteF (good _ _ H (.refl _) db (.bl _))
    | tup h5 w5 =>
      refine iteT ⟨_, rfl, by decide, fun p5 np5 => ⟨_, p5, _, rfl, rfl, (g.trans (same_new np5 _)) _ _ h5, upd_same, ?_⟩⟩
      cases w5 with
      | nil => exact good _ _ _ (same_new np5 _) db (.bl _)
      | cons _ _ => exact good _ _ _ (same_new np5 _) db (.bl _)
  have w2 : wd = "first" ∨ wd = "rest" := by
    have z : ∀ x ∈ doneWs, isNumW x = false → x ≠ "same" → x ≠ "kind" → x ≠ "row" → x ≠ "join" → x = "first" ∨ x = "rest" := by decide +kernel
    exact z wd hw nn (not_str k1) (not_str k2) (not_str k3) (not_str k4)
  have db : doneBy wd ws = partT wd t0 := by
    rw [← one]
    rcases w2 with rfl | rfl <;> rfl
  refine ⟨_, rfl, _, _, u4, _, _, rfl, .ty _, y4, k4', _, rfl, ?_⟩
  cases g0 with
  | bl b => exact iteT (iteT (bad H (.refl _) db))
  | int i hi => exact iteT (iteT (bad H (.refl _) db))
  | str x hx => exact iteT (iteT (bad H (.refl _) db))
  | fn _ => exact iteT (iteT (bad H (.refl _) db))
  | rcf _ => exact iteT (iteT (bad H (.refl _) db))
  | tup h5 w5 =>
    refine iteF ⟨_, rfl, by decide, fun p5 np5 => ⟨_, p5, _, rfl, rfl, (g.trans (same_new np5 _)) _ _ h5, upd_same, _, rfl, ?_⟩⟩
    have sm := same_new np5 (.tup [])
    cases w5 with
    | nil => exact iteT (bad _ sm db)
    | cons h6 w6 =>
      rename_i p0 v5 vs5 t5 ts5
      have dbv : doneBy wd ws = .val (if wd == "first" then t5 else .tup ts5) := db
      refine iteF ⟨_, rfl, rfl, _, rfl, ?_⟩
      rcases w2 with rfl | rfl
      · exact ite_tt (str_eq rfl) ⟨_, rfl, p0, _, _, _, rfl, rfl, SqT.of ((g.trans sm) _ _ h5), atI_nat (j := 0) (v := v5) (xs := v5 :: vs5) rfl, good _ _ _ sm dbv h6⟩
      · refine ite_ff (str_ne (by decide)) ⟨_, rfl, _, rfl, ?_⟩
        dsimp only [tNoPart]
        refine rd_dropG (d := 0) (i := 1) (g.trans sm) h5 (by decide) fun p7 G7 H7 s7 st7 e7 => ⟨s2, fun p8 np8 => ?_⟩
        refine q p8 "" _ G7 _ ((sm.trans s7).trans (same_new np8 _)) st7.gg (st7.gh.trans (same_new np8 _)) (fun b e h => st7.nw b e (ex_same sm b h)) upd_same ?_
        rw [dbv]
        exact ⟨rfl, .tup e7 (w6.same st7.gg)⟩
end
end Fl
/-! methods by name -/
namespace Fl
open PySem PySem.Spec PyProof.Rows L2
structure Mt (P : Program) (w : World) (K : PySem.W.Frag) (mg : Str → Option Value) (base : Heap) (k : Nat) (C : Addr) (m : Str) (ps : List Str) (sp : Sp) : Prop where
  ex : ∃ f fd, Cls K C ∧ Meth K C m f ∧ FnOk P w K mg base (L2.CX P w) k f fd ps sp ∧ Binds K fd ps []
section
variable {X : Cx} {k j : Nat} {C : Addr} {m : Str} {ps : List Str} {sp : Sp} {E : XK} {p pos apos : Pos} {e o : Expr} {es : List Expr} {ta : TE} {t : TA}
theorem pe_mb0 {pl : Sem Bool} (c : Mt X.prog X.w X.K X.mg X.base k C m ps sp) (hr : Room j X.A) (hk : k ≤ j) (hx : Passes (L2.CX X.prog X.w) X E) (he : PE X o ta)
    (ht : eval (.Call (.Attribute o m apos) [] [] pos) X.env = (do
      let ov ← eval o X.env; standAt apos.atName
      let (f, first) ← holding [ov] (getMethod ov m pl); callWith pos f first (backTo pos (starEach [] X.env)) (backToKw pos (keywordEach [] X.env))) := by rfl) : PE X (.Call (.Attribute o m apos) [] [] pos) (tMeth C m sp [] E ta tNil) := by
  obtain ⟨f, fd, cl, M, F, b⟩ := c.ex
  exact pe_meth0 he cl M F (hr.mono hk) b .nil hx ht
theorem pe_mb {pl : Sem Bool} (c : Mt X.prog X.w X.K X.mg X.base k C m ps sp) (hr : Room j X.A) (hk : k ≤ j) (hx : Passes (L2.CX X.prog X.w) X E) (he : PE X o ta) (ha : PA X (e :: es) t)
    (hst : starEach (e :: es) X.env = (false, eval e X.env) :: starEach es X.env := by rfl) (hpl : (backTo pos (starEach es X.env)).any (·.1) = false := by rfl)
    (ht : eval (.Call (.Attribute o m apos) (e :: es) [] pos) X.env = (do
      let ov ← eval o X.env; standAt apos.atName
      let (f, first) ← holding [ov] (getMethod ov m pl); callWith pos f first (backTo pos (starEach (e :: es) X.env)) (backToKw pos (keywordEach [] X.env))) := by rfl) : PE X (.Call (.Attribute o m apos) (e :: es) [] pos) (tMeth C m sp [] E ta t) := by
  obtain ⟨f, fd, cl, M, F, b⟩ := c.ex
  exact pe_meth he cl M F (hr.mono hk) b .nil hx ha hst hpl ht
end
theorem meth_ok {K : PySem.W.Frag} {x m : Str} (c : (He.Fa.meth x m).ok K = true) : Meth K (He.ga K x) m (He.ma K (He.ga K x) m) := by
  obtain ⟨h1, h2⟩ := He.ba c
  obtain ⟨h2, h3⟩ := He.ba h2
  exact ⟨He.eqO_ok h1, h2, h3⟩
end Fl
namespace Fl
open PySem PySem.Spec PyProof.Rows L2
abbrev s_Function___init__ : Stmt := inClass (top 8) 0
theorem sc_Function___init__ : FnScope ["self", "names", "body", "scope", "own"] ["self", "names", "body", "scope", "own"] (defScope s_Function___init__) := ⟨rfl, rfl, rfl, by decide +kernel, rfl, by decide +kernel, by decide +kernel⟩
abbrev s_Waiting___init__ : Stmt := inClass (top 29) 0
theorem sc_Waiting___init__ : FnScope ["self", "word", "scope", "left"] ["self", "word", "scope", "left"] (defScope s_Waiting___init__) := ⟨rfl, rfl, rfl, by decide +kernel, rfl, by decide +kernel, by decide +kernel⟩
abbrev s_Reckoning___init__ : Stmt := inClass (top 30) 0
theorem sc_Reckoning___init__ : FnScope ["self", "program", "limit"] ["self", "program", "limit"] (defScope s_Reckoning___init__) := ⟨rfl, rfl, rfl, by decide +kernel, rfl, by decide +kernel, by decide +kernel⟩
abbrev s_Reckoning_comes_to : Stmt := inClass (top 30) 1
theorem sc_Reckoning_comes_to : FnScope ["self", "worth"] ["self", "worth"] (defScope s_Reckoning_comes_to) := ⟨rfl, rfl, rfl, by decide +kernel, rfl, by decide +kernel, by decide +kernel⟩
abbrev s_Reckoning_next_is : Stmt := inClass (top 30) 2
theorem sc_Reckoning_next_is : FnScope ["self", "part", "scope"] ["self", "part", "scope"] (defScope s_Reckoning_next_is) := ⟨rfl, rfl, rfl, by decide +kernel, rfl, by decide +kernel, by decide +kernel⟩
abbrev s_Reckoning_ends : Stmt := inClass (top 30) 3
theorem sc_Reckoning_ends : FnScope ["self", "word", "worth", "begun", "limit", "many", "found"] ["self", "word", "worth"] (defScope s_Reckoning_ends) := ⟨rfl, rfl, rfl, by decide +kernel, rfl, by decide +kernel, by decide +kernel⟩
abbrev s_Reckoning_named : Stmt := inClass (top 30) 6
theorem sc_Reckoning_named : FnScope ["self", "word", "scope", "name", "worth"] ["self", "word", "scope"] (defScope s_Reckoning_named) := ⟨rfl, rfl, rfl, by decide +kernel, rfl, by decide +kernel, by decide +kernel⟩
abbrev s_Reckoning_waits_for : Stmt := inClass (top 30) 7
theorem sc_Reckoning_waits_for : FnScope ["self", "word", "scope", "parts"] ["self", "word", "scope", "parts"] (defScope s_Reckoning_waits_for) := ⟨rfl, rfl, rfl, by decide +kernel, rfl, by decide +kernel, by decide +kernel⟩
abbrev CW (K : PySem.W.Frag) : Addr := He.ga K "Waiting"
abbrev CR (K : PySem.W.Frag) : Addr := He.ga K "Reckoning"
def waF (w s p d : V) : List (Str × V) := putF "worths" d (putF "own_parts" p (putF "around" s (putF "word" w [])))
def reF (n f w p s d o t : V) : List (Str × V) := putF "telling" t (putF "outcome" o (putF "is_done" d (putF "around" s (putF "part" p (putF "waits" w (putF "floor_rows" f (putF "so_far" n [])))))))
structure Tm (K : PySem.W.Frag) (w : World) (mg : Str → Option Value) : Prop extends Tp K w mg where
  g_Function : mg "Function" = some (.ref (He.ga K "Function"))
  cw : Cls K (CW K)
  cr : Cls K (CR K)
  w1 : NoAttr K (CW K) "word"
  w2 : NoAttr K (CW K) "around"
  w3 : NoAttr K (CW K) "own_parts"
  w4 : NoAttr K (CW K) "worths"
  r1 : NoAttr K (CR K) "so_far"
  r2 : NoAttr K (CR K) "floor_rows"
  r3 : NoAttr K (CR K) "waits"
  r4 : NoAttr K (CR K) "part"
  r5 : NoAttr K (CR K) "around"
  r6 : NoAttr K (CR K) "is_done"
  r7 : NoAttr K (CR K) "outcome"
  r8 : NoAttr K (CR K) "telling"
section
variable {n f w p s d o t x : V}
theorem re1 : putF "so_far" x (reF n f w p s d o t) = reF x f w p s d o t := by rfl
theorem re2 : putF "floor_rows" x (reF n f w p s d o t) = reF n x w p s d o t := by rfl
theorem re3 : putF "waits" x (reF n f w p s d o t) = reF n f x p s d o t := by rfl
theorem re4 : putF "part" x (reF n f w p s d o t) = reF n f w x s d o t := by rfl
theorem re5 : putF "around" x (reF n f w p s d o t) = reF n f w p x d o t := by rfl
theorem re6 : putF "is_done" x (reF n f w p s d o t) = reF n f w p s x o t := by rfl
theorem re7 : putF "outcome" x (reF n f w p s d o t) = reF n f w p s d x t := by rfl
theorem re8 : putF "telling" x (reF n f w p s d o t) = reF n f w p s d o x := by rfl
theorem gr1 : (reF n f w p s d o t).lookup ("so_far" : Str) = some n := by rfl
theorem gr2 : (reF n f w p s d o t).lookup ("floor_rows" : Str) = some f := by rfl
theorem gr3 : (reF n f w p s d o t).lookup ("waits" : Str) = some w := by rfl
theorem gr4 : (reF n f w p s d o t).lookup ("part" : Str) = some p := by rfl
theorem gr5 : (reF n f w p s d o t).lookup ("around" : Str) = some s := by rfl
theorem gr6 : (reF n f w p s d o t).lookup ("is_done" : Str) = some d := by rfl
theorem gr7 : (reF n f w p s d o t).lookup ("outcome" : Str) = some o := by rfl
theorem gr8 : (reF n f w p s d o t).lookup ("telling" : Str) = some t := by rfl
theorem lr : (reF n f w p s d o t).length < 1000 := by show 8 < 1000; decide
theorem gw1 : (waF w s p d).lookup ("word" : Str) = some w := by rfl
theorem gw2 : (waF w s p d).lookup ("around" : Str) = some s := by rfl
theorem gw3 : (waF w s p d).lookup ("own_parts" : Str) = some p := by rfl
theorem gw4 : (waF w s p d).lookup ("worths" : Str) = some d := by rfl
end
/-- floors, the latest first -/
inductive Fls (G : Hp) : List V → List (Int × Int × Nat) → Prop
  | nil : Fls G [] []
  | cons {a : Addr} {b l : Int} {k : Nat} {vs : List V} {fs : List (Int × Int × Nat)} : G a = some (.tup [.int b, .int l, .int (k : Nat)]) → Fls G vs fs → Fls G (.ref a :: vs) ((b, l, k) :: fs)
/-- what waits, well -/
def WtOk (w : Wt) : Prop := w.parts.length ≤ 100001 ∧ w.ws.length < w.parts.length ∧ (w.word = "let" → w.parts.length = 3 ∧ isName (w.parts.getD 0 .non) = true) ∧ (w.word = "if" → w.parts.length = 3) ∧
  (w.word ≠ "let" → w.word ≠ "if" → w.word ≠ "call" → (w.word = "run" ∨ w.word ∈ doneWs) ∧ formCount w.word = some w.parts.length)
/-- what waits, the latest first; Ds: where their worths are -/
inductive Wts (K : PySem.W.Frag) (G H : Hp) : List V → List Addr → List Wt → Prop
  | nil : Wts K G H [] [] []
  | cons {a dx pa D : Addr} {sv : V} {xs ys : List V} {w : Wt} {vs : List V} {Ds : List Addr} {ws : List Wt} : G a = some (.ins (CW K) dx (waF (.str w.word) sv (.ref pa) (.ref D))) → ScW (some (CF K)) G sv w.sc → G pa = some (.tup xs) → Wos (some (CF K)) G xs w.parts →
      H D = some (.lst ys) → Wos (some (CF K)) G ys w.ws → G D = none → WtOk w → Wts K G H vs Ds ws → Wts K G H (.ref a :: vs) (D :: Ds) (w :: ws)
theorem Fls.same {G G' : Hp} (s : Same G G') : ∀ {vs : List V} {fs : List (Int × Int × Nat)}, Fls G vs fs → Fls G' vs fs
  | _, _, .nil => .nil
  | _, _, .cons h r => .cons (s _ _ h) (r.same s)
theorem Fls.len {G : Hp} : ∀ {vs : List V} {fs : List (Int × Int × Nat)}, Fls G vs fs → vs.length = fs.length
  | _, _, .nil => rfl
  | _, _, .cons _ r => congrArg Nat.succ r.len
theorem Wts.len {K : PySem.W.Frag} {G H : Hp} : ∀ {vs : List V} {Ds : List Addr} {fs : List Wt}, Wts K G H vs Ds fs → vs.length = fs.length ∧ Ds.length = fs.length
  | _, _, _, .nil => ⟨rfl, rfl⟩
  | _, _, _, .cons _ _ _ _ _ _ _ _ r => ⟨congrArg Nat.succ r.len.1, congrArg Nat.succ r.len.2⟩
/-- more stays; the lists of worths are as they were -/
theorem Wts.same {K : PySem.W.Frag} {G H G' H' : Hp} (s : Same G G') : ∀ {vs : List V} {Ds : List Addr} {fs : List Wt}, Wts K G H vs Ds fs → (∀ D ∈ Ds, H' D = H D ∧ G' D = none) → Wts K G' H' vs Ds fs
  | _, _, _, .nil, _ => .nil
  | _, _, _, .cons a b c d e f g h r, k => .cons (s _ _ a) (b.same s) (s _ _ c) (d.same s) (by rw [(k _ (.head _)).1]; exact e) (f.same s) (k _ (.head _)).2 h (r.same s fun D hD => k D (.tail _ hD))
theorem Wts.lst {K : PySem.W.Frag} {G H : Hp} : ∀ {vs : List V} {Ds : List Addr} {fs : List Wt}, Wts K G H vs Ds fs → ∀ D ∈ Ds, (∃ ys, H D = some (.lst ys)) ∧ G D = none
  | _, _, _, .cons _ _ _ _ e _ g _ _, _, .head _ => ⟨⟨_, e⟩, g⟩
  | _, _, _, .cons _ _ _ _ _ _ _ _ r, D, .tail _ h => r.lst D h
theorem Wts.drop {K : PySem.W.Frag} {G H : Hp} : ∀ (i : Nat) {vs : List V} {Ds : List Addr} {fs : List Wt}, Wts K G H vs Ds fs → Wts K G H (vs.drop i) (Ds.drop i) (fs.drop i)
  | 0, _, _, _, h => h
  | _ + 1, _, _, _, .nil => .nil
  | i + 1, _, _, _, .cons _ _ _ _ _ _ _ _ r => r.drop i
/-- the machine m stands at R -/
structure MrS (K : PySem.W.Frag) (R dx fa wa : Addr) (vf vw : List V) (Ds : List Addr) (pq sv ov tv : V) (G H : Hp) (m : Mc) : Prop where
  self : H R = some (.ins (CR K) dx (reF (.int m.n) (.ref fa) (.ref wa) pq sv (.bl m.done) ov tv))
  gR : G R = none
  hf : H fa = some (.lst vf.reverse)
  gf : G fa = none
  fls : Fls G vf m.fl
  hw : H wa = some (.lst vw.reverse)
  gw : G wa = none
  wts : Wts K G H vw Ds m.wt
  nd : (fa :: wa :: Ds).Nodup
  part : Wo (some (CF K)) G pq m.part
  sc : ScW (some (CF K)) G sv m.sc
  out : Wo (some (CF K)) G ov m.out
  tell : (m.tell = none ∧ tv = .non) ∨ ∃ t, m.tell = some t ∧ Wo (some (CF K)) G tv t
  gh : Same G H
def Mr (K : PySem.W.Frag) (R : Addr) (G H : Hp) (m : Mc) : Prop := ∃ dx fa wa vf vw Ds pq sv ov tv, MrS K R dx fa wa vf vw Ds pq sv ov tv G H m
section
variable {K : PySem.W.Frag} {R dx fa wa : Addr} {vf vw : List V} {Ds : List Addr} {pq sv ov tv : V} {G H : Hp} {m : Mc}
theorem same_upd {a : Addr} {o : HO} (g : Same G H) (n : G a = none) : Same G (upd H a o) := fun b u e => by
  rw [upd_ne (ne_of_none e n)]
  exact g _ _ e
/-- the fields alone change -/
theorem MrS.fld (r : MrS K R dx fa wa vf vw Ds pq sv ov tv G H m) {pq' sv' ov' tv' : V} {m' : Mc} (hfl : m'.fl = m.fl) (hwt : m'.wt = m.wt) (hp : Wo (some (CF K)) G pq' m'.part) (hs : ScW (some (CF K)) G sv' m'.sc) (ho : Wo (some (CF K)) G ov' m'.out)
    (ht : (m'.tell = none ∧ tv' = .non) ∨ ∃ t, m'.tell = some t ∧ Wo (some (CF K)) G tv' t) : MrS K R dx fa wa vf vw Ds pq' sv' ov' tv' G (upd H R (.ins (CR K) dx (reF (.int m'.n) (.ref fa) (.ref wa) pq' sv' (.bl m'.done) ov' tv'))) m' := by
  have ne : ∀ {a : Addr} {xs : List V}, H a = some (.lst xs) → a ≠ R := fun h z => by
    rw [z, r.self] at h
    cases h
  refine ⟨upd_same, r.gR, by rw [upd_ne (ne r.hf)]; exact r.hf, r.gf, by rw [hfl]; exact r.fls, by rw [upd_ne (ne r.hw)]; exact r.hw, r.gw, ?_, r.nd, hp, hs, ho, ht, same_upd r.gh r.gR⟩
  rw [hwt]
  refine r.wts.same (.refl _) fun D hD => ⟨?_, (r.wts.lst D hD).2⟩
  obtain ⟨ys, e⟩ := (r.wts.lst D hD).1
  rw [upd_ne (ne e)]
/-- more stays, new things -/
theorem MrS.more {G' H' : Hp} (r : MrS K R dx fa wa vf vw Ds pq sv ov tv G H m) (gg : Same G G') (hh : Same H H') (gh : Same G' H') (nw : ∀ b, G b = none → H b ≠ none → G' b = none) : MrS K R dx fa wa vf vw Ds pq sv ov tv G' H' m := by
  have no : ∀ {b : Addr} {o : HO}, H b = some o → G b = none → G' b = none := fun e g => nw _ g (by rw [e]; exact fun z => nomatch z)
  refine ⟨hh _ _ r.self, no r.self r.gR, hh _ _ r.hf, no r.hf r.gf, r.fls.same gg, hh _ _ r.hw, no r.hw r.gw, ?_, r.nd, r.part.same gg, r.sc.same gg, r.out.same gg, ?_, gh⟩
  · refine r.wts.same gg fun D hD => ?_
    obtain ⟨⟨ys, e⟩, g⟩ := r.wts.lst D hD
    exact ⟨by rw [hh _ _ e, e], no e g⟩
  · rcases r.tell with h | ⟨t, h1, h2⟩
    · exact .inl h
    · exact .inr ⟨t, h1, h2.same gg⟩
/-- a new thing that nobody keeps -/
theorem MrS.new (r : MrS K R dx fa wa vf vw Ds pq sv ov tv G H m) {p : Addr} (n : H p = none) (o : HO) : MrS K R dx fa wa vf vw Ds pq sv ov tv G (upd H p o) m :=
  r.more (.refl _) (same_new n o) (r.gh.trans (same_new n o)) fun b e _ => e
/-- a new thing that stays -/
theorem MrS.newG (r : MrS K R dx fa wa vf vw Ds pq sv ov tv G H m) {p : Addr} (n : H p = none) (o : HO) : MrS K R dx fa wa vf vw Ds pq sv ov tv (upd G p o) (upd H p o) m := by
  have st := stp_new (d := 0) r.gh n o
  exact r.more st.gg (same_new n o) st.gh st.nw
end
def spCome (K : PySem.W.Frag) : Sp := sp2 fun s v H Q _ => ∃ R G m t, s = .ref R ∧ Mr K R G H m ∧ Wo (some (CF K)) G v t ∧ ∀ H', Mr K R G H' (m.come t) → Q .non H'
def spNext' (K : PySem.W.Frag) : Sp := sp3 fun s p c H Q _ => ∃ R G m t sc, s = .ref R ∧ Mr K R G H m ∧ Wo (some (CF K)) G p t ∧ ScW (some (CF K)) G c sc ∧ ∀ H', Mr K R G H' (m.next t sc) → Q .non H'
/-- the steps so far, within the bounds -/
def McOk (m : Mc) : Prop := 0 ≤ m.n ∧ m.n ≤ 100000 ∧ ∀ x ∈ m.fl, 0 ≤ x.1 ∧ x.1 ≤ m.n ∧ m.n ≤ x.2.1 ∧ x.2.1 ≤ 100000
def spEnds (K : PySem.W.Frag) : Sp := sp3 fun s b v H Q _ => ∃ R G m e t, s = .ref R ∧ b = .str e ∧ Mr K R G H m ∧ McOk m ∧ m.fl ≠ [] ∧ wordB e = true ∧ Wo (some (CF K)) G v t ∧ ∀ G' H', Same G G' → Mr K R G' H' (m.ends e t) → Q .non H'
section
variable {P : Program} {w : World} {K : PySem.W.Frag} {mg : Str → Option Value} {base : Heap}
theorem mk_m {m x : Str} {st : Stmt} {N ps : List Str} {k : Nat} {sp : Sp} {C : Addr} (F : MtP K C m x st) (cl : Cls K C) (M : Meth K C m (He.ma K C m)) (S : FnScope N ps (defScope st)) (hb : bindOkM st m x ps) (len : ∀ vs H Q E, sp vs H Q E → vs.length = ps.length)
    (body : ∀ (cdv : Value) (A : Around) (outer : List Env) (s : Shared) (H : Hp) (vs : List V) (Q : VK) (E : XK), Room k (A.deeper (envOfC x (defScope st) s.heap.objs.size (He.ma K C m) cdv)) → sp vs H Q E →
      ∃ t, PSs (cxOf (L2.CX P w) P w K mg base N x (defScope st) (He.ma K C m) cdv A outer s H E) (defBody st) t ∧ t { nx := fun _ H' => Q .non H', rt := Q } (start N vs) H) : Mt P w K mg base (k + 1) C m ps sp := by
  obtain ⟨fd, h1, h2⟩ := mt_mk F S hb len body
  exact ⟨_, fd, cl, M, h1, h2⟩
theorem mt_comes_to (F : MtP K (CR K) "comes_to" "Reckoning.comes_to" s_Reckoning_comes_to) (T : Tm K w mg) (M : Meth K (CR K) "comes_to" (He.ma K (CR K) "comes_to")) : Mt P w K mg base 1 (CR K) "comes_to" ["self", "worth"] (spCome K) := by
  refine mk_m F T.cr M sc_Reckoning_comes_to (fun _ _ _ _ _ _ us hl => match us, hl with | [_, _], _ => rfl) (fun vs H Q E h => by obtain ⟨_, _, rfl, _⟩ := h; rfl) fun cdv A outer s H vs Q E hr h => ?_
  obtain ⟨_, v, rfl, R, G, m, t, rfl, ⟨dx, fa, wa, vf, vw, Ds, pq, sv, ov, tv, r⟩, hv, q⟩ := h
  refine ⟨_, PSs.nox (pss_cons (ps_fld (pv 0) pe_bl rfl) (pss_one (ps_fld (pv 0) (pv 1) rfl))), ?_⟩
  refine ⟨_, rfl, R, _, dx, _, rfl, r.self, T.cr, T.r6, lr, ?_⟩
  refine ⟨_, rfl, _, rfl, R, _, dx, _, rfl, upd_same, T.cr, T.r7, lr, ?_⟩
  show Q .non (upd (upd H R _) R _)
  rw [upd_upd]
  exact q _ ⟨dx, fa, wa, vf, vw, Ds, _, _, _, _, r.fld (m' := m.come t) rfl rfl r.part r.sc hv r.tell⟩
theorem mt_next_is (F : MtP K (CR K) "next_is" "Reckoning.next_is" s_Reckoning_next_is) (T : Tm K w mg) (M : Meth K (CR K) "next_is" (He.ma K (CR K) "next_is")) : Mt P w K mg base 1 (CR K) "next_is" ["self", "part", "scope"] (spNext' K) := by
  refine mk_m F T.cr M sc_Reckoning_next_is (fun _ _ _ _ _ _ us hl => match us, hl with | [_, _, _], _ => rfl) (fun vs H Q E h => by obtain ⟨_, _, _, rfl, _⟩ := h; rfl) fun cdv A outer s H vs Q E hr h => ?_
  obtain ⟨_, p, c, rfl, R, G, m, t, sc, rfl, ⟨dx, fa, wa, vf, vw, Ds, pq, sv, ov, tv, r⟩, hp, hc, q⟩ := h
  refine ⟨_, PSs.nox (pss_cons (ps_fld (pv 0) pe_bl rfl) (pss_cons (ps_fld (pv 0) (pv 1) rfl) (pss_one (ps_fld (pv 0) (pv 2) rfl)))), ?_⟩
  refine ⟨_, rfl, R, _, dx, _, rfl, r.self, T.cr, T.r6, lr, ?_⟩
  refine ⟨_, rfl, _, rfl, R, _, dx, _, rfl, upd_same, T.cr, T.r4, lr, ?_⟩
  refine ⟨_, rfl, _, rfl, R, _, dx, _, rfl, upd_same, T.cr, T.r5, lr, ?_⟩
  show Q .non (upd (upd (upd H R _) R _) R _)
  rw [upd_upd, upd_upd]
  exact q _ ⟨dx, fa, wa, vf, vw, Ds, _, _, _, _, r.fld (m' := m.next t sc) rfl rfl hp hc r.out r.tell⟩
theorem rev_last {α : Type} (x : α) (l : List α) : (x :: l).reverse[(x :: l).reverse.length - 1]? = some x := by
  rw [List.reverse_cons, List.length_append, List.length_singleton, Nat.add_sub_cancel]
  simp
theorem rev_drop {α : Type} (x : α) (l : List α) : (x :: l).reverse.dropLast = l.reverse := by
  rw [List.reverse_cons, List.dropLast_concat]
theorem rev_take {α : Type} (l : List α) (k : Nat) (h : k ≤ l.length) : l.reverse.take k = (l.drop (l.length - k)).reverse := by
  rw [List.reverse_drop]
  congr 1
  omega
theorem seq_fld {K : PySem.W.Frag} {ta tv : TE} {f : Str} {tr : TS} {D : Ends} {σ : L2.St} {H : Hp} (J : (V → Hp → Prop) → Prop) (h1 : J fun y H1 => ta σ H1 fun x H2 => ∃ a C dx fs, x = .ref a ∧ H2 a = some (.ins C dx fs) ∧ Cls K C ∧ NoAttr K C f ∧ fs.length < 1000 ∧ tr D σ (upd H2 a (.ins C dx (putF f y fs))))
    (h2 : ∀ k, J k → tv σ H k) : tSeq (sFld K ta tv f) tr D σ H := h2 _ h1
theorem mt_ends (F : MtP K (CR K) "ends" "Reckoning.ends" s_Reckoning_ends) (T : Tm K w mg) (M : Meth K (CR K) "ends" (He.ma K (CR K) "ends")) (M_comes_to : Mt P w K mg base 1 (CR K) "comes_to" ["self", "worth"] (spCome K)) : Mt P w K mg base 2 (CR K) "ends" ["self", "word", "worth"] (spEnds K) := by
  refine mk_m F T.cr M sc_Reckoning_ends (fun _ _ _ _ _ _ us hl => match us, hl with | [_, _, _], _ => rfl) (fun vs H Q E h => by obtain ⟨_, _, _, rfl, _⟩ := h; rfl) fun cdv A outer s H vs Q E hr h => ?_
  obtain ⟨_, _, v, rfl, R, G, m, e, t, rfl, rfl, ⟨dx, fa, wa, vf, vw, Ds, pq, sv, ov, tv, r⟩, ok, hne, he, hv, q⟩ := h
  obtain ⟨n, fl, wt, part, sc, done, out, tell⟩ := m
  refine ⟨_, PSs.nox (pss_cons (ps_asg (pe_bm0 PySem.F.plainAttrs_list PySem.F.slot_list_pop PySem.F.type_list_pop mt_pop (pe_fld (pv 0) rfl)) (pg_tup rfl (pgs_cons (pg_name (i := 3) sc_Reckoning_ends.nd rfl (Or.inl rfl)) (pgs_cons (pg_name (i := 4) sc_Reckoning_ends.nd rfl (Or.inl rfl)) (pgs_cons (pg_name (i := 5) sc_Reckoning_ends.nd rfl (Or.inl rfl)) pgs_nil))))) (pss_cons (ps_set (i := 6) sc_Reckoning_ends.nd rfl (Or.inl rfl) (pe_tup (pa_cons (pv 1) (pa_cons (pv 2) (pa_cons (pe_op op_sub (pe_fld (pv 0) rfl) (pv 3)) pa_nil))))) (pss_cons (ps_fld (pv 0) (pe_ifExp (pt_cmpR op_gt (pe_callB call_len_seq rfl T.z_len PySem.boot_len (pa_cons (pe_fld (pv 0) rfl) pa_nil)) (pv 5) (nomark _)) (pe_slice sl_list (pe_fld (pv 0) rfl) po_none (po_some (pv 5))) (pe_fld (pv 0) rfl)) rfl) (pss_one (ps_if (pt_cmpR (op_eqNil hr.units0) (pe_fld (pv 0) rfl) (pe_lst pa_nil) (nomark _)) (pss_one (ps_fld (pv 0) (pv 6) rfl)) (pss_one (ps_expr (pe_mb M_comes_to hr (by omega) passL (pv 0) (pa_cons (pv 6) pa_nil))))))))), ?_⟩
  cases hfls : fl with
  | nil => exact absurd hfls hne
  | cons fl0 fl1 =>
  obtain ⟨b, l, k⟩ := fl0
  subst hfls
  have rf := r.fls
  cases rf with
  | cons ha hfl =>
  rename_i af vf1
  obtain ⟨n0, n1, okf⟩ := ok
  have ok1 := okf (b, l, k) (.head _)
  have hn : numB (n - b) = true := by
    unfold numB
    simp only at n0 n1 ok1
    rw [decide_eq_true (by omega), decide_eq_true (by omega)]
    rfl
  have fR : fa ≠ R := fun z => by
    have := r.self
    rw [← z, r.hf] at this
    cases this
  have wR : wa ≠ R := fun z => by
    have := r.self
    rw [← z, r.hw] at this
    cases this
  have fw : fa ≠ wa := fun z => (List.nodup_cons.mp r.nd).1 (by rw [z]; exact .head _)
  refine ⟨_, rfl, R, _, dx, _, _, rfl, r.self, T.cr, T.r2, rfl, .inl ⟨rfl, _, .inl (.inl r.hf)⟩, fa, _, _, rfl, rfl, r.hf, rev_last _ _, ?_⟩
  rw [rev_drop]
  have g1 : Same G (upd H fa (.lst vf1.reverse)) := same_upd r.gh r.gf
  have self1 : (upd H fa (.lst vf1.reverse)) R = some (.ins (CR K) dx (reF (.int n) (.ref fa) (.ref wa) pq sv (.bl done) ov tv)) := by rw [upd_ne fR.symm]; exact r.self
  have hf1 : (upd H fa (.lst vf1.reverse)) fa = some (.lst vf1.reverse) := upd_same
  have hw1 : (upd H fa (.lst vf1.reverse)) wa = some (.lst vw.reverse) := by rw [upd_ne fw.symm]; exact r.hw
  have hD1 : ∀ D ∈ Ds, (upd H fa (.lst vf1.reverse)) D = H D := fun D hD => upd_ne fun z => (List.nodup_cons.mp r.nd).1 (by rw [← z]; exact .tail _ hD)
  generalize upd H fa (.lst vf1.reverse) = H1 at g1 self1 hf1 hw1 hD1 ⊢
  refine ⟨af, _, rfl, SqT.of (g1 _ _ ha), rfl, _, _, rfl, _, _, rfl, _, _, rfl, rfl, ?_⟩
  refine ⟨_, rfl, _, rfl, _, rfl, R, _, dx, _, _, rfl, self1, T.cr, T.r1, rfl, _, rfl, _, _, rfl, rfl, s3, fun p np => ?_⟩
  have st2 := stp_new (d := 0) g1 np (.tup [.str e, v, .int (n - b)])
  have s2' := same_new np (.tup [.str e, v, .int (n - b)])
  have gg := st2.gg
  have wof : Wo (some (CF K)) (upd G p (.tup [.str e, v, .int (n - b)])) (.ref p) (.tup [.str e, t, .int (n - b)]) := .tup upd_same (.cons (.str _ he) (.cons (hv.same gg) (.one (.int _ hn))))
  have g2 := st2.gh
  have self2 := s2' _ _ self1
  have hf2 := s2' _ _ hf1
  have hw2 := s2' _ _ hw1
  have gfree : ∀ {x : Addr} {o : HO}, H1 x = some o → G x = none → (upd G p (.tup [.str e, v, .int (n - b)])) x = none := fun e1 e2 => st2.nw _ e2 (by rw [e1]; exact fun z => nomatch z)
  have gR2 := gfree self1 r.gR
  have gf2 := gfree hf1 r.gf
  have gw2 := gfree hw1 r.gw
  have hD2 : ∀ D ∈ Ds, (upd H1 p (.tup [.str e, v, .int (n - b)])) D = H D ∧ (upd G p (.tup [.str e, v, .int (n - b)])) D = none := fun D hD => by
    obtain ⟨⟨ys, e1⟩, e2⟩ := r.wts.lst D hD
    have e3 : H1 D = some (.lst ys) := by rw [hD1 D hD]; exact e1
    exact ⟨by rw [s2' _ _ e3, e1], gfree e3 e2⟩
  generalize upd H1 p (.tup [.str e, v, .int (n - b)]) = H2 at st2 s2' g2 self2 hf2 hw2 hD2 ⊢
  generalize upd G p (.tup [.str e, v, .int (n - b)]) = G2 at st2 gg wof g2 gfree gR2 gf2 gw2 hD2 ⊢
  have ll := r.wts.len
  simp only at ll
  -- the waits behind it
  refine stepG ?_
  dsimp only
  refine seq_fld (fun q => ∀ wa3 H3, Same H2 H3 → G2 wa3 = none → H3 wa3 = some (.lst (vw.drop (wt.length - k)).reverse) → wa3 ≠ fa → wa3 ≠ R → (∀ D ∈ Ds, D ≠ wa3) → q (.ref wa3) H3) (fun wa3 H3 s3' gw3 hw3 nf3 nR3 nD3 => ?_) (fun q hq => ?_)
  case refine_2 =>
    refine ⟨_, rfl, R, _, dx, _, _, rfl, self2, T.cr, T.r3, rfl, wa, _, rfl, .inl (SqL.of hw2), _, rfl, _, _, rfl, rfl, _, rfl, ite2 (fun c => ?_) (fun c => ?_)⟩
    · have c' : (k : Int) < ((vw.reverse.length : Nat) : Int) := of_decide_eq_true c
      rw [List.length_reverse] at c'
      refine ⟨_, rfl, R, _, dx, _, _, rfl, self2, T.cr, T.r3, rfl, ?_⟩
      dsimp only [tNoPart]
      refine ⟨_, rfl, _, rfl, wa, _, rfl, SqL.of hw2, fun p3 np3 => ?_⟩
      have ct : cutV vw.reverse none (some (k : Int)) = (vw.drop (wt.length - k)).reverse := by
        unfold cutV
        rw [sIx_none0, sIx_pos (by omega), List.drop_zero, Nat.sub_zero, List.length_reverse, Int.toNat_natCast, Nat.min_eq_left (by omega), rev_take _ _ (by omega), ll.1]
      rw [ct]
      refine hq p3 _ (same_new np3 _) (g2.free np3) upd_same (ne_of_none hf2 np3).symm (ne_of_none self2 np3).symm fun D hD z => ?_
      obtain ⟨⟨ys, e1⟩, e2⟩ := r.wts.lst D hD
      have e3 : H2 D = some (.lst ys) := by rw [(hD2 D hD).1]; exact e1
      rw [z, np3] at e3
      cases e3
    · have c' : ¬ (k : Int) < ((vw.reverse.length : Nat) : Int) := fun z => c (decide_eq_true z)
      rw [List.length_reverse] at c'
      refine ⟨_, rfl, R, _, dx, _, _, rfl, self2, T.cr, T.r3, rfl, hq wa H2 (.refl _) gw2 ?_ fw.symm wR fun D hD z => (List.nodup_cons.mp (List.nodup_cons.mp r.nd).2).1 (by rw [← z]; exact hD)⟩
      rw [show wt.length - k = 0 by omega, List.drop_zero]
      exact hw2
  have self3 := s3' _ _ self2
  refine ⟨_, rfl, R, _, dx, _, rfl, self3, T.cr, T.r3, lr, ?_⟩
  have gR3 := gR2
  have hf3 := s3' _ _ hf2
  have ndx : (fa :: wa3 :: Ds.drop (wt.length - k)).Nodup := by
    have z := List.nodup_cons.mp r.nd
    have z2 := List.nodup_cons.mp z.2
    have dm : ∀ D ∈ Ds.drop (wt.length - k), D ∈ Ds := fun D h => List.mem_of_mem_drop h
    refine List.nodup_cons.mpr ⟨fun h => ?_, List.nodup_cons.mpr ⟨fun h => nD3 _ (dm _ h) rfl, z2.2.sublist (List.drop_sublist _ _)⟩⟩
    rcases List.mem_cons.mp h with h | h
    · exact nf3 h.symm
    · exact z.1 (.tail _ (dm _ h))
  have wts3 : ∀ H4, (∀ D ∈ Ds, H4 D = H3 D) → Wts K G2 H4 (vw.drop (wt.length - k)) (Ds.drop (wt.length - k)) (wt.drop (wt.length - k)) := fun H4 h4 => by
    refine Wts.drop _ (r.wts.same gg fun D hD => ?_)
    obtain ⟨⟨ys, e1⟩, e2⟩ := r.wts.lst D hD
    have e3 : H2 D = some (.lst ys) := by rw [(hD2 D hD).1]; exact e1
    exact ⟨by rw [h4 D hD, s3' _ _ e3, e1], (hD2 D hD).2⟩
  have DR : ∀ D ∈ Ds, D ≠ R := fun D hD z => by
    obtain ⟨⟨ys, e1⟩, e2⟩ := r.wts.lst D hD
    have := r.self
    rw [← z, e1] at this
    cases this
  have g3 := g2.trans s3'
  have lf := hfl.len
  have r4 : MrS K R dx fa wa3 vf1 (vw.drop (wt.length - k)) (Ds.drop (wt.length - k)) pq sv ov tv G2 (upd H3 R (.ins (CR K) dx (putF "waits" (.ref wa3) (reF (.int n) (.ref fa) (.ref wa) pq sv (.bl done) ov tv)))) ⟨n, fl1, wt.drop (wt.length - k), part, sc, done, out, tell⟩ := by
    refine ⟨upd_same, gR2, by rw [upd_ne fR]; exact hf3, gf2, hfl.same gg, by rw [upd_ne nR3]; exact hw3, gw3, wts3 _ fun D hD => upd_ne (DR D hD), ndx, r.part.same gg, r.sc.same gg, r.out.same gg, ?_, same_upd g3 gR2⟩
    rcases r.tell with h | ⟨t', h1, h2⟩
    · exact .inl h
    · exact .inr ⟨t', h1, h2.same gg⟩
  generalize upd H3 R (.ins (CR K) dx (putF "waits" (.ref wa3) (reF (.int n) (.ref fa) (.ref wa) pq sv (.bl done) ov tv))) = H4 at r4 ⊢
  refine ⟨_, rfl, R, _, dx, _, _, rfl, r4.self, T.cr, T.r2, rfl, by decide, fun p5 np5 => ⟨fa, p5, _, rfl, rfl, SqL.of ((same_new np5 _) _ _ r4.hf), SqL.of upd_same, _, rfl, ?_⟩⟩
  have r5 := r4.new np5 (.lst [])
  generalize upd H4 p5 (.lst []) = H5 at r5 ⊢
  cases fl1 with
  | nil =>
    cases vf1 with
    | cons _ _ => cases lf
    | nil =>
      refine iteT ⟨_, rfl, _, rfl, R, _, dx, _, rfl, r5.self, T.cr, T.r8, lr, ?_⟩
      exact q G2 _ gg ⟨dx, fa, wa3, _, _, _, _, _, _, _, r5.fld (m' := ⟨n, [], wt.drop (wt.length - k), part, sc, done, out, some (.tup [.str e, t, .int (n - b)])⟩) rfl rfl r5.part r5.sc r5.out (.inr ⟨_, rfl, wof⟩)⟩
  | cons c1 fl2 =>
    cases vf1 with
    | nil => cases lf
    | cons v1 vf2 =>
      refine ite_ff ?_ ⟨_, rfl, R, dx, _, rfl, r5.self, rfl, _, rfl, _, _, rfl, R, G2, _, _, rfl, ⟨dx, fa, wa3, _, _, _, _, _, _, _, r5⟩, wof, fun H' m' => q G2 H' gg m'⟩
      rw [List.reverse_cons]
      cases vf2.reverse <;> rfl
end
end Fl
namespace Fl
open PySem PySem.Spec PyProof.Rows L2
theorem Mr.newG {K : PySem.W.Frag} {R p : Addr} {G H : Hp} {m : Mc} (r : Mr K R G H m) (n : H p = none) (o : HO) : Mr K R (upd G p o) (upd H p o) m := by
  obtain ⟨dx, fa, wa, vf, vw, Ds, pq, sv, ov, tv, r⟩ := r
  exact ⟨dx, fa, wa, vf, vw, Ds, pq, sv, ov, tv, r.newG n o⟩
theorem Mr.new {K : PySem.W.Frag} {R p : Addr} {G H : Hp} {m : Mc} (r : Mr K R G H m) (n : H p = none) (o : HO) : Mr K R G (upd H p o) m := by
  obtain ⟨dx, fa, wa, vf, vw, Ds, pq, sv, ov, tv, r⟩ := r
  exact ⟨dx, fa, wa, vf, vw, Ds, pq, sv, ov, tv, r.new n o⟩
theorem Mr.more {K : PySem.W.Frag} {R : Addr} {G H G' H' : Hp} {m : Mc} (r : Mr K R G H m) (gg : Same G G') (hh : Same H H') (gh : Same G' H') (nw : ∀ b, G b = none → H b ≠ none → G' b = none) : Mr K R G' H' m := by
  obtain ⟨dx, fa, wa, vf, vw, Ds, pq, sv, ov, tv, r⟩ := r
  exact ⟨dx, fa, wa, vf, vw, Ds, pq, sv, ov, tv, r.more gg hh gh nw⟩
theorem Mr.gh {K : PySem.W.Frag} {R : Addr} {G H : Hp} {m : Mc} (r : Mr K R G H m) : Same G H := by
  obtain ⟨_, _, _, _, _, _, _, _, _, _, r⟩ := r
  exact r.gh
theorem Mr.at {K : PySem.W.Frag} {R : Addr} {G H : Hp} {m : Mc} (r : Mr K R G H m) : ∃ dx fs, H R = some (.ins (CR K) dx fs) ∧ (∀ x ∈ (["comes_to", "next_is", "ends", "go", "begins", "named", "waits_for", "formed", "goes_on", "all_come", "called", "run_below"] : List Str), fs.lookup x = none) := by
  obtain ⟨dx, fa, wa, vf, vw, Ds, pq, sv, ov, tv, r⟩ := r
  refine ⟨dx, _, r.self, fun x hx => ?_⟩
  have z : ∀ x ∈ (["comes_to", "next_is", "ends", "go", "begins", "named", "waits_for", "formed", "goes_on", "all_come", "called", "run_below"] : List Str), x ≠ "so_far" ∧ x ≠ "floor_rows" ∧ x ≠ "waits" ∧ x ≠ "part" ∧ x ≠ "around" ∧ x ≠ "is_done" ∧ x ≠ "outcome" ∧ x ≠ "telling" := by decide +kernel
  obtain ⟨a, b, c, d, e, f, g, h⟩ := z x hx
  unfold reF
  rw [lookup_putF, if_neg h, lookup_putF, if_neg g, lookup_putF, if_neg f, lookup_putF, if_neg e, lookup_putF, if_neg d, lookup_putF, if_neg c, lookup_putF, if_neg b, lookup_putF, if_neg a]
  rfl
abbrev s_Reckoning_formed : Stmt := inClass (top 30) 8
theorem sc_Reckoning_formed : FnScope ["self", "part", "scope", "word"] ["self", "part", "scope"] (defScope s_Reckoning_formed) := ⟨rfl, rfl, rfl, by decide +kernel, rfl, by decide +kernel, by decide +kernel⟩
abbrev s_Reckoning_begins : Stmt := inClass (top 30) 5
theorem sc_Reckoning_begins : FnScope ["self", "part", "scope"] ["self", "part", "scope"] (defScope s_Reckoning_begins) := ⟨rfl, rfl, rfl, by decide +kernel, rfl, by decide +kernel, by decide +kernel⟩
theorem looks_at {x : Str} {v : Th} : ∀ {sc : List Th} {i : Nat}, sc[i]? = some (.tup [.str x, v]) → looks x (sc.take i) = [] → ∃ r, looks x sc = v :: r
  | [], i, h, _ => by simp at h
  | a :: l, 0, h, _ => by
    have e : a = .tup [.str x, v] := Option.some.inj h
    rw [e]
    exact ⟨looks x l, by simp [looks, hasName]⟩
  | a :: l, i + 1, h, e => by
    rw [List.take_succ_cons] at e
    unfold looks at e ⊢
    rw [List.filterMap_cons] at e ⊢
    cases q : hasName x a with
    | some y => rw [q] at e; cases e
    | none =>
      rw [q] at e
      simp only at e ⊢
      exact looks_at (sc := l) (i := i) h e
theorem looks_off {x y : Str} {v : Th} (h : y ≠ x) : looks x [.tup [.str y, v]] = [] := by simp [looks, hasName, h]
abbrev spM (K : PySem.W.Frag) (R : Addr) (G : Hp) (m' : Mc) (Q : VK) : Prop := ∀ G' H', Same G G' → Mr K R G' H' m' → Q .non H'
def spNamed (K : PySem.W.Frag) : Sp := sp3 fun s b c H Q _ => ∃ R G m x, s = .ref R ∧ b = .str x ∧ Mr K R G H m ∧ McOk m ∧ m.fl ≠ [] ∧ wordB x = true ∧ ScW (some (CF K)) G c m.sc ∧ spM K R G (m.word x) Q
section
variable {P : Program} {w : World} {K : PySem.W.Frag} {mg : Str → Option Value} {base : Heap}
theorem mt_named (F : MtP K (CR K) "named" "Reckoning.named" s_Reckoning_named) (T : Tm K w mg) (M : Meth K (CR K) "named" (He.ma K (CR K) "named")) (M_comes_to : Mt P w K mg base 1 (CR K) "comes_to" ["self", "worth"] (spCome K)) (M_ends : Mt P w K mg base 2 (CR K) "ends" ["self", "word", "worth"] (spEnds K)) :
    Mt P w K mg base 3 (CR K) "named" ["self", "word", "scope"] (spNamed K) := by
  refine mk_m F T.cr M sc_Reckoning_named (fun _ _ _ _ _ _ us hl => match us, hl with | [_, _, _], _ => rfl) (fun vs H Q E h => by obtain ⟨_, _, _, rfl, _⟩ := h; rfl) fun cdv A outer s H vs Q E hr h => ?_
  obtain ⟨_, _, c, rfl, R, G, m, x, rfl, rfl, r, ok, hne, hx, hs, q⟩ := h
  obtain ⟨es, n, Df⟩ := T.fm.kd
  refine ⟨_, PSs.nox (pss_cons (ps_if (pt_cmpR (op_in_kd Df) (pv 1) (pe_glob (v := .ref (He.ga K "FORMS")) rfl T.g_FORMS rfl) rfl) (pss_cons (ps_expr (pe_mb M_ends hr (by omega) passL (pv 0) (pa_cons pe_str (pa_cons (pe_tup pa_nil) pa_nil)))) (pss_one ps_retN)) pss_nil) (pss_cons (ps_for PassesOwn.never rfl (pi_tup (pv 2)) (pg_tup rfl (pgs_cons (pg_name (i := 3) sc_Reckoning_named.nd rfl (Or.inl rfl)) (pgs_cons (pg_name (i := 4) sc_Reckoning_named.nd rfl (Or.inl rfl)) pgs_nil))) (pss_one (ps_if (pt_cmpR op_eq (pv 3) (pv 1) (nomark _)) (pss_cons (ps_expr (pe_mb M_comes_to hr (by omega) passL (pv 0) (pa_cons (pv 4) pa_nil))) (pss_one ps_retN)) pss_nil))) (pss_one (ps_expr (pe_mb M_ends hr (by omega) passL (pv 0) (pa_cons pe_str (pa_cons (pe_tup pa_nil) pa_nil))))))), ?_⟩
  obtain ⟨r0, e1, e2, _⟩ := T.fm.ns x
  obtain ⟨dx, fs, hR, nm⟩ := r.at
  refine ⟨_, rfl, x, r0, rfl, rfl, e1, _, rfl, ?_⟩
  rw [e2]
  unfold Mc.word at q
  cases hf : isForm x with
  | true =>
    rw [hf] at q
    refine iteT ⟨_, rfl, R, dx, _, rfl, hR, nm "ends" (by decide), by decide, fun p np => ⟨_, _, _, rfl, R, _, m, "form", _, rfl, rfl, r.newG np _, ok, hne, by decide +kernel, .tup upd_same .nil, fun G' H' gg mr => ?_⟩⟩
    exact q G' H' ((same_new (r.gh.free np) _).trans gg) mr
  | false =>
    rw [hf] at q
    refine iteF (stepN ?_)
    obtain ⟨sa, sx, rfl, hsa, hsx, hsp, hsl⟩ := hs
    have lsx := hsx.len
    refine ⟨_, rfl, sa, rfl, ⟨_, SqT.of (r.gh _ _ hsa)⟩, ?_⟩
    refine for_it walk_tup (fun i σ H' => ∃ o3 o4, σ = [some (.ref R), some (.str x), some (.ref sa), o3, o4] ∧ H' = H ∧ looks x (m.sc.take i) = []) ⟨none, none, rfl, rfl, rfl⟩ (fun _ _ _ _ z => by obtain ⟨_, _, _, rfl, _⟩ := z; exact SqT.of (r.gh _ _ hsa)) ?_ ?_
    · rintro i y σ H1 H2 hi ⟨o3, o4, rfl, rfl, r1⟩ ⟨rfl, hy⟩
      obtain ⟨t1, f1, w1⟩ := hsx.get hy
      have ip := List.all_eq_true.mp hsp t1 (List.mem_of_getElem? f1)
      obtain ⟨p, z, u, tv, rfl, hp, rfl, hz, wu⟩ := pair_of w1 ip
      refine ⟨p, _, rfl, SqT.of (r.gh _ _ hp), rfl, _, _, rfl, _, _, rfl, rfl, _, rfl, _, rfl, rfl, _, rfl, ?_⟩
      by_cases h : z = x
      · rw [str_eq h]
        obtain ⟨rr, lk⟩ := looks_at (x := x) (v := tv) (by rw [h] at f1; exact f1) r1
        rw [lk] at q
        exact iteT ⟨_, rfl, R, dx, _, rfl, hR, nm "comes_to" (by decide), _, rfl, _, _, rfl, R, G, m, tv, rfl, r, wu, fun H' mr => q G H' (.refl _) mr⟩
      · rw [str_ne h]
        refine iteF ⟨_, _, rfl, rfl, ?_⟩
        rw [take_snoc f1, looks_app, r1, List.nil_append]
        exact looks_off h
    · rintro σ H1 ⟨o3, o4, rfl, rfl, r1⟩
      rw [lsx, List.take_length] at r1
      rw [r1] at q
      refine ⟨_, rfl, R, dx, _, rfl, hR, nm "ends" (by decide), by decide, fun p np => ⟨_, _, _, rfl, R, _, m, "name", _, rfl, rfl, r.newG np _, ok, hne, by decide +kernel, .tup upd_same .nil, fun G' H' gg mr => ?_⟩⟩
      exact q G' H' ((same_new (r.gh.free np) _).trans gg) mr
end
def spWInit (K : PySem.W.Frag) : Sp := fun vs H Q _ => ∃ (x dx : Addr) (w s l : V), vs = [.ref x, w, s, l] ∧ H x = some (.ins (CW K) dx []) ∧
  ∀ D H', D ≠ x → H D = none → H' x = some (.ins (CW K) dx (waF w s l (.ref D))) → H' D = some (.lst []) → (∀ b, b ≠ x → b ≠ D → H' b = H b) → Q .non H'
section
variable {K : PySem.W.Frag} {R dx fa wa : Addr} {vf vw : List V} {Ds : List Addr} {pq sv ov tv : V} {G H : Hp} {m : Mc}
theorem MrS.push (r : MrS K R dx fa wa vf vw Ds pq sv ov tv G H m) {x dx' pa D : Addr} {c : V} {w : Str} {xs : List V} {parts : List Th} (hx : G x = some (.ins (CW K) dx' (waF (.str w) c (.ref pa) (.ref D)))) (hc : ScW (some (CF K)) G c m.sc) (hp : G pa = some (.tup xs)) (hxs : Wos (some (CF K)) G xs parts)
    (hD : H D = some (.lst [])) (gD : G D = none) (nD : D ∉ fa :: wa :: Ds) (ok : WtOk ⟨w, m.sc, parts, []⟩) : Mr K R G (upd H wa (.lst (vw.reverse ++ [.ref x]))) { m with wt := ⟨w, m.sc, parts, []⟩ :: m.wt } := by
  have z := List.nodup_cons.mp r.nd
  have z2 := List.nodup_cons.mp z.2
  have fw : fa ≠ wa := fun e => z.1 (by rw [e]; exact .head _)
  have wR : wa ≠ R := fun e => by
    have := r.self
    rw [← e, r.hw] at this
    cases this
  have DD : ∀ E ∈ Ds, E ≠ wa := fun E hE e => z2.1 (by rw [← e]; exact hE)
  have Dw : D ≠ wa := fun e => nD (by rw [e]; exact .tail _ (.head _))
  refine ⟨dx, fa, wa, vf, .ref x :: vw, D :: Ds, pq, sv, ov, tv, ⟨by rw [upd_ne wR.symm]; exact r.self, r.gR, by rw [upd_ne fw]; exact r.hf, r.gf, r.fls, by rw [upd_same, List.reverse_cons], r.gw, ?_, ?_, r.part, r.sc, r.out, r.tell, same_upd r.gh r.gw⟩⟩
  · refine .cons (w := ⟨w, m.sc, parts, []⟩) hx hc hp hxs (by rw [upd_ne Dw]; exact hD) .nil gD ok (r.wts.same (.refl _) fun E hE => ⟨upd_ne (DD E hE), (r.wts.lst E hE).2⟩)
  · have n1 : fa ∉ wa :: D :: Ds := fun h => by
      rcases List.mem_cons.mp h with h | h
      · exact fw h
      · rcases List.mem_cons.mp h with h | h
        · exact nD (by rw [← h]; exact .head _)
        · exact z.1 (.tail _ h)
    have n2 : wa ∉ D :: Ds := fun h => by
      rcases List.mem_cons.mp h with h | h
      · exact Dw h.symm
      · exact z2.1 h
    have n3 : D ∉ Ds := fun h => nD (.tail _ (.tail _ h))
    exact List.nodup_cons.mpr ⟨n1, List.nodup_cons.mpr ⟨n2, List.nodup_cons.mpr ⟨n3, z2.2⟩⟩⟩
theorem push_new (r : MrS K R dx fa wa vf vw Ds pq sv ov tv G H m) {pa : Addr} {c : V} {w : Str} {xs : List V} {parts : List Th} (hc : ScW (some (CF K)) G c m.sc) (hp : G pa = some (.tup xs)) (hxs : Wos (some (CF K)) G xs parts) (ok : WtOk ⟨w, m.sc, parts, []⟩) (hl : m.wt.length ≤ 100000)
    {Q2 : VK} {E : XK} (q : ∀ G' H', Same G G' → Mr K R G' H' { m with wt := ⟨w, m.sc, parts, []⟩ :: m.wt } → Q2 .non H') :
    ∀ x dx', H x = none → H dx' = none → dx' ≠ x → spWInit K [.ref x, .str w, c, .ref pa] (upd (upd H dx' (.own x)) x (.ins (CW K) dx' [])) (fun v H2 => v = .non ∧ rAppend (.ref wa) [.ref x] H2 Q2) E := by
  intro x dx' nx ndx nex
  refine ⟨x, dx', _, _, _, rfl, upd_same, fun D H' nDx nD eX eD eo => ⟨rfl, ?_⟩⟩
  rw [upd_ne nDx] at nD
  have Ddx : D ≠ dx' := fun e => by
    rw [e, upd_same] at nD
    cases nD
  rw [upd_ne Ddx] at nD
  have hh : Same H H' := fun b u e => by
    have b1 : b ≠ x := ne_of_none e nx
    have b2 : b ≠ dx' := ne_of_none e ndx
    have b3 : b ≠ D := ne_of_none e nD
    rw [eo b b1 b3, upd_ne b1, upd_ne b2]
    exact e
  have gx := r.gh.free nx
  have gD := r.gh.free nD
  have gg := same_new gx (.ins (CW K) dx' (waF (.str w) c (.ref pa) (.ref D)))
  have gh : Same (upd G x (.ins (CW K) dx' (waF (.str w) c (.ref pa) (.ref D)))) H' := fun b u e => by
    by_cases hb : b = x
    · rw [hb, upd_same] at e
      rw [hb, eX]
      exact e
    · rw [upd_ne hb] at e
      exact hh _ _ (r.gh _ _ e)
  have r1 := r.more gg hh gh fun b e1 e2 => by
    rw [upd_ne (fun z => e2 (by rw [z]; exact nx))]
    exact e1
  have ll := r.wts.len
  refine ⟨wa, _, _, rfl, rfl, r1.hw, by rw [List.length_reverse, sizeLine_eq, ll.1]; omega, q _ _ gg ?_⟩
  refine r1.push upd_same (hc.same gg) (gg _ _ hp) (hxs.same gg) eD (by rw [upd_ne nDx]; exact gD) (fun h => ?_) ok
  rcases List.mem_cons.mp h with h | h
  · rw [h, r.hf] at nD
    cases nD
  · rcases List.mem_cons.mp h with h | h
    · rw [h, r.hw] at nD
      cases nD
    · obtain ⟨⟨ys, e1⟩, _⟩ := r.wts.lst D h
      rw [nD] at e1
      cases e1
end
def spWaitsFor (K : PySem.W.Frag) : Sp := sp4 fun s b c p H Q _ => ∃ R G m w pa xs p0 parts, s = .ref R ∧ b = .str w ∧ p = .ref pa ∧ Mr K R G H m ∧ G pa = some (.tup xs) ∧ Wos (some (CF K)) G xs (p0 :: parts) ∧ ScW (some (CF K)) G c m.sc ∧ WtOk ⟨w, m.sc, p0 :: parts, []⟩ ∧ m.wt.length ≤ 100000 ∧
  spM K R G (Mc.next { m with wt := ⟨w, m.sc, p0 :: parts, []⟩ :: m.wt } p0 m.sc) Q
section
variable {P : Program} {w : World} {K : PySem.W.Frag} {mg : Str → Option Value} {base : Heap}
theorem nw_Waiting (F : MtP K (CW K) "__init__" "Waiting.__init__" s_Waiting___init__) (T : Tm K w mg) (M : Mk K (CW K) (He.ma K (CW K) "__init__")) (g : mg "Waiting" = some (.ref (CW K))) : Nw P w K mg base 1 "Waiting" (CW K) ["self", "word", "scope", "left"] (spWInit K) := by
  obtain ⟨fd, h1, h2⟩ := mt_mk (P := P) (w := w) (mg := mg) (base := base) (k := 0) (sp := spWInit K) F sc_Waiting___init__ (fun _ _ _ _ _ _ us hl => match us, hl with | [_, _, _, _], _ => rfl) (fun vs H Q E h => by obtain ⟨_, _, _, _, _, rfl, _⟩ := h; rfl) fun cdv A outer s H vs Q E hr h => by
    obtain ⟨x, dx, v, c, l, rfl, hx, q⟩ := h
    refine ⟨_, PSs.nox (pss_cons (ps_fld (pv 0) (pv 1) rfl) (pss_cons (ps_fld (pv 0) (pv 2) rfl) (pss_cons (ps_fld (pv 0) (pv 3) rfl) (pss_one (ps_fld (pv 0) (pe_lst pa_nil) rfl))))), ?_⟩
    refine ⟨_, rfl, _, rfl, x, _, dx, _, rfl, hx, T.cw, T.w1, (by show 0 < 1000; decide), ?_⟩
    refine ⟨_, rfl, _, rfl, x, _, dx, _, rfl, upd_same, T.cw, T.w2, (by show 1 < 1000; decide), ?_⟩
    refine ⟨_, rfl, _, rfl, x, _, dx, _, rfl, upd_same, T.cw, T.w3, (by show 2 < 1000; decide), ?_⟩
    refine ⟨by decide, fun D nD => ?_⟩
    have nDx : D ≠ x := fun e => by
      rw [e, upd_same] at nD
      cases nD
    refine ⟨_, rfl, x, _, dx, _, rfl, by rw [upd_ne nDx.symm]; exact upd_same, T.cw, T.w4, (by show 3 < 1000; decide), ?_⟩
    refine q D _ nDx ?_ upd_same ?_ ?_
    · rw [upd_ne nDx, upd_ne nDx, upd_ne nDx] at nD
      exact nD
    · rw [upd_ne nDx, upd_same]
    · intro b b1 b2
      rw [upd_ne b1, upd_ne b2, upd_ne b1, upd_ne b1, upd_ne b1]
  exact ⟨_, fd, M, h1, h2, g⟩
theorem mt_waits_for (F : MtP K (CR K) "waits_for" "Reckoning.waits_for" s_Reckoning_waits_for) (T : Tm K w mg) (M : Meth K (CR K) "waits_for" (He.ma K (CR K) "waits_for")) (B_Waiting : Nw P w K mg base 1 "Waiting" (CW K) ["self", "word", "scope", "left"] (spWInit K)) (M_next_is : Mt P w K mg base 1 (CR K) "next_is" ["self", "part", "scope"] (spNext' K)) :
    Mt P w K mg base 3 (CR K) "waits_for" ["self", "word", "scope", "parts"] (spWaitsFor K) := by
  refine mk_m F T.cr M sc_Reckoning_waits_for (fun _ _ _ _ _ _ us hl => match us, hl with | [_, _, _, _], _ => rfl) (fun vs H Q E h => by obtain ⟨_, _, _, _, rfl, _⟩ := h; rfl) fun cdv A outer s H vs Q E hr h => ?_
  obtain ⟨_, _, c, _, rfl, R, G, m, wd, pa, xs, p0, parts, rfl, rfl, rfl, ⟨dx, fa, wa, vf, vw, Ds, pq, sv, ov, tv, r⟩, hp, hxs, hc, ok, hl, q⟩ := h
  refine ⟨_, PSs.nox (pss_cons (ps_expr (pe_bm PySem.F.plainAttrs_list PySem.F.slot_list_append PySem.F.type_list_append mt_append (pe_fld (pv 0) rfl) (pa_cons (pe_new B_Waiting hr (by omega) rfl passL (pa_cons (pv 1) (pa_cons (pv 2) (pa_cons (pv 3) pa_nil)))) pa_nil))) (pss_one (ps_expr (pe_mb M_next_is hr (by omega) passL (pv 0) (pa_cons (pe_ix ix_tup (pv 3) pe_int (fun _ _ => rfl)) (pa_cons (pv 2) pa_nil)))))), ?_⟩
  refine ⟨_, rfl, R, _, dx, _, _, rfl, r.self, T.cr, T.r3, rfl, .inl ⟨rfl, _, .inl (.inl r.hw)⟩, _, rfl, _, rfl, _, rfl, ?_⟩
  intro x dx' nx ndx nex
  dsimp only [tNil]
  refine push_new r hc hp hxs ok hl (fun G' H' gg mr => ?_) x dx' nx ndx nex
  obtain ⟨dx2, fs2, hR2, nm⟩ := mr.at
  have hp' := mr.gh _ _ (gg _ _ hp)
  cases hxs with
  | cons h0 hr0 =>
    rename_i x0 xr
    refine ⟨_, rfl, R, dx2, _, rfl, hR2, nm "next_is" (by decide), _, rfl, pa, _, _, _, rfl, rfl, SqT.of hp', atI_nat (j := 0) (v := x0) (xs := x0 :: xr) rfl, _, rfl, _, _, _, rfl, R, G', _, p0, m.sc, rfl, mr, h0.same gg, hc.same gg, fun H2 mr2 => q G' H2 gg mr2⟩
end
end Fl
namespace Fl
open PySem PySem.Spec PyProof.Rows L2
structure Tc (K : PySem.W.Frag) : Prop where
  kf : Kf K (He.ga K "Function")
  n1 : NoAttr K (He.ga K "Function") "params"
  n2 : NoAttr K (He.ga K "Function") "part"
  n3 : NoAttr K (He.ga K "Function") "known"
  n4 : NoAttr K (He.ga K "Function") "mine"
def spInit (K : PySem.W.Frag) : Sp := fun vs H Q _ => ∃ (x dx : Addr) (n b s o : V), vs = [.ref x, n, b, s, o] ∧ H x = some (.ins (CF K) dx []) ∧ Q .non (upd H x (.ins (CF K) dx (fnF n b s o)))
theorem same_made {K : PySem.W.Frag} {H : Hp} {x dx : Addr} {o : HO} (nx : H x = none) (nd : H dx = none) : Same H (upd (upd (upd H dx (.own x)) x (.ins (CF K) dx [])) x o) := fun b u e => by
  rw [upd_ne (ne_of_none e nx), upd_ne (ne_of_none e nx), upd_ne (ne_of_none e nd)]
  exact e
def spFormed (K : PySem.W.Frag) : Sp := sp3 fun s p c H Q _ => ∃ R G m w a xs r m', s = .ref R ∧ p = .ref a ∧ Mr K R G H m ∧ G a = some (.tup xs) ∧ Wos (some (CF K)) G xs (.str w :: r) ∧ ScW (some (CF K)) G c m.sc ∧ isForm w = true ∧ isFormed w r = true ∧ r.length ≤ 100000 ∧ m.form w r = some m' ∧ spM K R G m' Q
def spBegins (K : PySem.W.Frag) : Sp := sp3 fun s p c H Q _ => ∃ R G m m', s = .ref R ∧ Mr K R G H m ∧ McOk m ∧ m.fl ≠ [] ∧ Wo (some (CF K)) G p m.part ∧ ScW (some (CF K)) G c m.sc ∧ m.begin = some m' ∧ spM K R G m' Q
theorem wait_some {m m' : Mc} {w : Str} {parts : List Th} {p : Th} (h : m.wait w parts p = some m') : m.wt.length ≤ 100000 ∧ m' = Mc.next { m with wt := ⟨w, m.sc, parts, []⟩ :: m.wt } p m.sc := by
  unfold Mc.wait at h
  split at h
  · exact ⟨by assumption, (Option.some.inj h).symm⟩
  · cases h
/-- a new function -/
theorem fn_new {K : PySem.W.Frag} {G H : Hp} {x dx : Addr} {n b s o : V} (g : Same G H) (nx : H x = none) (ndx : H dx = none) : Same G (upd G x (.ins (CF K) dx (fnF n b s o))) ∧ Same H (upd (upd (upd H dx (.own x)) x (.ins (CF K) dx [])) x (.ins (CF K) dx (fnF n b s o))) ∧
    Same (upd G x (.ins (CF K) dx (fnF n b s o))) (upd (upd (upd H dx (.own x)) x (.ins (CF K) dx [])) x (.ins (CF K) dx (fnF n b s o))) ∧ ∀ y, G y = none → H y ≠ none → (upd G x (.ins (CF K) dx (fnF n b s o))) y = none := by
  have hh := same_made (K := K) (o := .ins (CF K) dx (fnF n b s o)) nx ndx
  refine ⟨same_new (g.free nx) _, hh, fun y u e => ?_, fun y e1 e2 => ?_⟩
  · by_cases hy : y = x
    · rw [hy, upd_same] at e
      rw [hy, upd_same]
      exact e
    · rw [upd_ne hy] at e
      exact hh _ _ (g _ _ e)
  · rw [upd_ne (fun z => e2 (by rw [z]; exact nx))]
    exact e1
section
variable {P : Program} {w : World} {K : PySem.W.Frag} {mg : Str → Option Value} {base : Heap}
theorem nw_Function (F : MtP K (CF K) "__init__" "Function.__init__" s_Function___init__) (T : Tc K) (M : Mk K (CF K) (He.ma K (CF K) "__init__")) (g : mg "Function" = some (.ref (CF K))) :
    Nw P w K mg base 1 "Function" (CF K) ["self", "names", "body", "scope", "own"] (spInit K) := by
  obtain ⟨fd, h1, h2⟩ := mt_mk (P := P) (w := w) (mg := mg) (base := base) (k := 0) (sp := spInit K) F sc_Function___init__ (fun _ _ _ _ _ _ us hl => match us, hl with | [_, _, _, _, _], _ => rfl) (fun vs H Q E h => by obtain ⟨_, _, _, _, _, _, rfl, _⟩ := h; rfl) fun cdv A outer s H vs Q E hr h => by
    obtain ⟨x, dx, n, b, sc, o, rfl, hx, q⟩ := h
    refine ⟨_, PSs.nox (pss_cons (ps_fld (pv 0) (pv 1) rfl) (pss_cons (ps_fld (pv 0) (pv 2) rfl) (pss_cons (ps_fld (pv 0) (pv 3) rfl) (pss_one (ps_fld (pv 0) (pv 4) rfl))))), ?_⟩
    refine ⟨_, rfl, _, rfl, x, _, dx, _, rfl, hx, T.kf.cl, T.n1, (by show 0 < 1000; decide), ?_⟩
    refine ⟨_, rfl, _, rfl, x, _, dx, _, rfl, upd_same, T.kf.cl, T.n2, (by show 1 < 1000; decide), ?_⟩
    refine ⟨_, rfl, _, rfl, x, _, dx, _, rfl, upd_same, T.kf.cl, T.n3, (by show 2 < 1000; decide), ?_⟩
    refine ⟨_, rfl, _, rfl, x, _, dx, _, rfl, upd_same, T.kf.cl, T.n4, (by show 3 < 1000; decide), ?_⟩
    rw [upd_upd, upd_upd, upd_upd]
    exact q
  exact ⟨_, fd, M, h1, h2, g⟩
theorem mt_formed (F : MtP K (CR K) "formed" "Reckoning.formed" s_Reckoning_formed) (T : Tm K w mg) (M : Meth K (CR K) "formed" (He.ma K (CR K) "formed")) (B_Waiting : Nw P w K mg base 1 "Waiting" (CW K) ["self", "word", "scope", "left"] (spWInit K)) (B_Function : Nw P w K mg base 1 "Function" (CF K) ["self", "names", "body", "scope", "own"] (spInit K))
    (M_comes_to : Mt P w K mg base 1 (CR K) "comes_to" ["self", "worth"] (spCome K)) (M_next_is : Mt P w K mg base 1 (CR K) "next_is" ["self", "part", "scope"] (spNext' K)) (M_waits_for : Mt P w K mg base 3 (CR K) "waits_for" ["self", "word", "scope", "parts"] (spWaitsFor K)) : Mt P w K mg base 4 (CR K) "formed" ["self", "part", "scope"] (spFormed K) := by
  refine mk_m F T.cr M sc_Reckoning_formed (fun _ _ _ _ _ _ us hl => match us, hl with | [_, _, _], _ => rfl) (fun vs H Q E h => by obtain ⟨_, _, _, rfl, _⟩ := h; rfl) fun cdv A outer s H vs Q E hr h => ?_
  obtain ⟨_, _, c, rfl, R, G, m, wd, a, xs, ts, m', rfl, rfl, r, ha, hx, hc, hf, fm, tl, hm, q⟩ := h
  refine ⟨_, PSs.nox (pss_cons (ps_set (i := 3) sc_Reckoning_formed.nd rfl (Or.inl rfl) (pe_ix ix_tup (pv 1) pe_int (fun _ _ => rfl))) (pss_one (ps_if (pt_cmpR op_eq (pv 3) pe_str (nomark _)) (pss_one (ps_expr (pe_mb M_comes_to hr (by omega) passL (pv 0) (pa_cons (pe_ix ix_tup (pv 1) pe_int (fun _ _ => rfl)) pa_nil)))) (pss_one (ps_if (pt_cmpR op_eq (pv 3) pe_str (nomark _)) (pss_one (ps_expr (pe_mb M_comes_to hr (by omega) passL (pv 0) (pa_cons (pe_new B_Function hr (by omega) rfl passL (pa_cons (pe_ix ix_tup (pv 1) pe_int (fun _ _ => rfl)) (pa_cons (pe_ix ix_tup (pv 1) pe_int (fun _ _ => rfl)) (pa_cons (pv 2) (pa_cons pe_non pa_nil))))) pa_nil)))) (pss_one (ps_if (pt_cmpR op_eq (pv 3) pe_str (nomark _)) (pss_one (ps_expr (pe_mb M_comes_to hr (by omega) passL (pv 0) (pa_cons (pe_new B_Function hr (by omega) rfl passL (pa_cons (pe_ix ix_tup (pv 1) pe_int (fun _ _ => rfl)) (pa_cons (pe_ix ix_tup (pv 1) pe_int (fun _ _ => rfl)) (pa_cons (pv 2) (pa_cons (pe_ix ix_tup (pv 1) pe_int (fun _ _ => rfl)) pa_nil))))) pa_nil)))) (pss_one (ps_if (pt_cmpR op_eq (pv 3) pe_str (nomark _)) (pss_cons (ps_expr (pe_bm PySem.F.plainAttrs_list PySem.F.slot_list_append PySem.F.type_list_append mt_append (pe_fld (pv 0) rfl) (pa_cons (pe_new B_Waiting hr (by omega) rfl passL (pa_cons pe_str (pa_cons (pv 2) (pa_cons (pe_slice sl_tupA (pv 1) (po_some pe_int) po_none) pa_nil)))) pa_nil))) (pss_one (ps_expr (pe_mb M_next_is hr (by omega) passL (pv 0) (pa_cons (pe_ix ix_tup (pv 1) pe_int (fun _ _ => rfl)) (pa_cons (pv 2) pa_nil)))))) (pss_one (ps_if (pt_cmpR op_eq (pv 3) pe_str (nomark _)) (pss_cons (ps_expr (pe_bm PySem.F.plainAttrs_list PySem.F.slot_list_append PySem.F.type_list_append mt_append (pe_fld (pv 0) rfl) (pa_cons (pe_new B_Waiting hr (by omega) rfl passL (pa_cons pe_str (pa_cons (pv 2) (pa_cons (pe_slice sl_tupA (pv 1) (po_some pe_int) po_none) pa_nil)))) pa_nil))) (pss_one (ps_expr (pe_mb M_next_is hr (by omega) passL (pv 0) (pa_cons (pe_ix ix_tup (pv 1) pe_int (fun _ _ => rfl)) (pa_cons (pv 2) pa_nil)))))) (pss_one (ps_expr (pe_mb M_waits_for hr (by omega) passL (pv 0) (pa_cons (pv 3) (pa_cons (pv 2) (pa_cons (pe_slice sl_tupA (pv 1) (po_some pe_int) po_none) pa_nil))))))))))))))))), ?_⟩
  have fl := formed_len fm
  have ha' := r.gh _ _ ha
  obtain ⟨dx, fs, hR, nm⟩ := r.at
  cases hx with
  | cons h0 hx =>
    rename_i v0 xr
    cases h0 with
    | str _ hwd =>
    refine ⟨_, rfl, a, _, _, _, rfl, rfl, SqT.of ha', atI_nat (j := 0) rfl, ?_⟩
    unfold Mc.form at hm
    refine ⟨_, rfl, rfl, _, rfl, ite2 (fun k => ?_) (fun k1 => ?_)⟩
    · obtain rfl := of_str k
      rw [if_pos rfl] at hm
      cases hm
      obtain ⟨t0, rfl⟩ := len1 (Option.some.inj (show some 1 = some ts.length from fl)).symm
      cases hx with
      | cons g0 hx =>
        cases hx
        exact ⟨_, rfl, R, dx, _, rfl, hR, nm "comes_to" (by decide), _, rfl, a, _, _, _, rfl, rfl, SqT.of ha', rfl, _, _, rfl, R, G, m, t0, rfl, r, g0, fun H' mr => q G H' (.refl _) mr⟩
    rw [if_neg (not_str k1)] at hm
    refine ⟨_, rfl, rfl, _, rfl, ite2 (fun k => ?_) (fun k2 => ?_)⟩
    · obtain rfl := of_str k
      rw [if_pos rfl] at hm
      cases hm
      obtain ⟨t0, t1, rfl⟩ := len2 (Option.some.inj (show some 2 = some ts.length from fl)).symm
      cases hx with
      | cons g0 hx =>
        cases hx with
        | cons g1 hx =>
          cases hx
          have nmm : areNames t0 = true := by
            unfold isFormed at fm
            rw [Bool.and_eq_true, Bool.and_eq_true] at fm
            exact fm.2.2
          obtain ⟨l, rfl, al⟩ := names_of nmm
          obtain ⟨sa, sx, rfl, hsa, hsx, hsp, hsl⟩ := hc
          refine ⟨_, rfl, R, dx, _, rfl, hR, nm "comes_to" (by decide), _, rfl, a, _, _, _, rfl, rfl, SqT.of ha', rfl, _, rfl, a, _, _, _, rfl, rfl, SqT.of ha', rfl, _, rfl, fun x dx' nx ndx nex => ⟨x, dx', _, _, _, _, rfl, upd_same, rfl, ?_⟩⟩
          obtain ⟨gg, hh, gh, nw⟩ := fn_new (K := K) (n := _) (b := _) (s := _) (o := .non) r.gh nx ndx
          exact ⟨_, _, rfl, R, _, m, _, rfl, r.more gg hh gh nw, .fn (tb := []) (show FnAt (some (CF K)) _ x _ _ _ _ from ⟨dx', upd_same⟩) (.cons (g0.same gg) (.cons (g1.same gg) (.one (.tup (gg _ _ hsa) (hsx.same gg))))) (names_strs al) hsp, fun H' mr => q _ H' gg mr⟩
    rw [if_neg (not_str k2)] at hm
    refine ⟨_, rfl, rfl, _, rfl, ite2 (fun k => ?_) (fun k3 => ?_)⟩
    · obtain rfl := of_str k
      rw [if_pos rfl] at hm
      cases hm
      obtain ⟨t0, t1, t2, rfl⟩ := len3 (Option.some.inj (show some 3 = some ts.length from fl)).symm
      cases hx with
      | cons g0 hx =>
        cases hx with
        | cons g1 hx =>
          cases hx with
          | cons g2 hx =>
            cases hx
            have nmm : isName t0 = true ∧ areNames t1 = true := by
              unfold isFormed at fm
              rw [Bool.and_eq_true, Bool.and_eq_true] at fm
              exact fm.2
            obtain ⟨l, rfl, al⟩ := names_of nmm.2
            obtain ⟨sa, sx, rfl, hsa, hsx, hsp, hsl⟩ := hc
            cases g0 with
            | str x0 hx0 =>
              refine ⟨_, rfl, R, dx, _, rfl, hR, nm "comes_to" (by decide), _, rfl, a, _, _, _, rfl, rfl, SqT.of ha', rfl, _, rfl, a, _, _, _, rfl, rfl, SqT.of ha', rfl, _, rfl, _, rfl, a, _, _, _, rfl, rfl, SqT.of ha', rfl, fun x dx' nx ndx nex => ⟨x, dx', _, _, _, _, rfl, upd_same, rfl, ?_⟩⟩
              obtain ⟨gg, hh, gh, nw⟩ := fn_new (K := K) (n := _) (b := _) (s := _) (o := .str x0) r.gh nx ndx
              exact ⟨_, _, rfl, R, _, m, _, rfl, r.more gg hh gh nw, .rcf (tb := []) (show FnAt (some (CF K)) _ x _ _ _ _ from ⟨dx', upd_same⟩) hx0 (.cons (g1.same gg) (.cons (g2.same gg) (.one (.tup (gg _ _ hsa) (hsx.same gg))))) (names_strs al) hsp, fun H' mr => q _ H' gg mr⟩
            | bl _ => cases nmm.1
            | int _ => cases nmm.1
            | tup _ _ => cases nmm.1
            | fn _ => cases nmm.1
            | rcf _ => cases nmm.1
    rw [if_neg (not_str k3)] at hm
    obtain ⟨dx0, fa, wa, vf, vw, Ds, pq, sv, ov, tv, rs⟩ := r
    -- a form that waits with what is behind its word
    have formw : ∀ (W : Str) (p1 : Th), wd = W → WtOk ⟨W, m.sc, ts, []⟩ → m.wait W ts p1 = some m' → m.wt.length ≤ 100000 ∧ m' = Mc.next { m with wt := ⟨W, m.sc, ts, []⟩ :: m.wt } p1 m.sc := fun W p1 _ _ h => wait_some h
    refine ⟨_, rfl, rfl, _, rfl, ite2 (fun k => ?_) (fun k4 => ?_)⟩
    · obtain rfl := of_str k
      rw [if_pos rfl] at hm
      obtain ⟨wl, rfl⟩ := wait_some hm
      obtain ⟨t0, t1, t2, rfl⟩ := len3 (Option.some.inj (show some 3 = some ts.length from fl)).symm
      have nmm : isName t0 = true := by
        unfold isFormed at fm
        rw [Bool.and_eq_true, Bool.and_eq_true] at fm
        exact fm.2.1
      refine ⟨_, rfl, R, _, dx0, _, _, rfl, rs.self, T.cr, T.r3, rfl, .inl ⟨rfl, _, .inl (.inl rs.hw)⟩, _, rfl, _, rfl, _, rfl, ?_⟩
      dsimp only [tNoPart]
      refine rd_dropG (d := 0) (i := 1) rs.gh ha (by decide) fun p7 G7 H7 s7 st7 e7 => ?_
      have r7 := rs.more st7.gg s7 st7.gh st7.nw
      intro x dx' nx ndx nex
      dsimp only [tNil]
      refine push_new r7 (hc.same st7.gg) e7 (hx.same st7.gg) ⟨by simp, by simp, fun _ => ⟨rfl, nmm⟩, fun z => absurd (show ("let" : Str) = "if" from z) (by decide), fun z => absurd rfl z⟩ wl (fun G' H' gg mr => ?_) x dx' nx ndx nex
      obtain ⟨dx2, fs2, hR2, nm2⟩ := mr.at
      have ha2 := mr.gh _ _ ((st7.gg.trans gg) _ _ ha)
      cases hx with
      | cons g0 hx =>
        cases hx with
        | cons g1 hx =>
          cases hx with
          | cons g2 hx =>
            cases hx
            exact ⟨_, rfl, R, dx2, _, rfl, hR2, nm2 "next_is" (by decide), _, rfl, a, _, _, _, rfl, rfl, SqT.of ha2, rfl, _, rfl, _, _, _, rfl, R, G', _, t1, m.sc, rfl, mr, g1.same (st7.gg.trans gg), hc.same (st7.gg.trans gg), fun H2 mr2 => q G' H2 (st7.gg.trans gg) mr2⟩
    rw [if_neg (not_str k4)] at hm
    refine ⟨_, rfl, rfl, _, rfl, ite2 (fun k => ?_) (fun k5 => ?_)⟩
    · obtain rfl := of_str k
      obtain ⟨wl, rfl⟩ := wait_some hm
      obtain ⟨t0, t1, t2, rfl⟩ := len3 (Option.some.inj (show some 3 = some ts.length from fl)).symm
      refine ⟨_, rfl, R, _, dx0, _, _, rfl, rs.self, T.cr, T.r3, rfl, .inl ⟨rfl, _, .inl (.inl rs.hw)⟩, _, rfl, _, rfl, _, rfl, ?_⟩
      dsimp only [tNoPart]
      refine rd_dropG (d := 0) (i := 1) rs.gh ha (by decide) fun p7 G7 H7 s7 st7 e7 => ?_
      have r7 := rs.more st7.gg s7 st7.gh st7.nw
      intro x dx' nx ndx nex
      dsimp only [tNil]
      refine push_new r7 (hc.same st7.gg) e7 (hx.same st7.gg) ⟨by simp, by simp, fun z => absurd (show ("if" : Str) = "let" from z) (by decide), fun _ => rfl, fun _ z => absurd rfl z⟩ wl (fun G' H' gg mr => ?_) x dx' nx ndx nex
      obtain ⟨dx2, fs2, hR2, nm2⟩ := mr.at
      have ha2 := mr.gh _ _ ((st7.gg.trans gg) _ _ ha)
      cases hx with
      | cons g0 hx =>
        cases hx with
        | cons g1 hx =>
          cases hx with
          | cons g2 hx =>
            cases hx
            exact ⟨_, rfl, R, dx2, _, rfl, hR2, nm2 "next_is" (by decide), _, rfl, a, _, _, _, rfl, rfl, SqT.of ha2, rfl, _, rfl, _, _, _, rfl, R, G', _, t0, m.sc, rfl, mr, g0.same (st7.gg.trans gg), hc.same (st7.gg.trans gg), fun H2 mr2 => q G' H2 (st7.gg.trans gg) mr2⟩
    obtain ⟨wl, rfl⟩ := wait_some hm
    have w7 : wd = "run" ∨ wd ∈ doneWs := by
      have z : ∀ x ∈ formWords, x ≠ "quote" → x ≠ "fn" → x ≠ "rec" → x ≠ "let" → x ≠ "if" → x = "run" ∨ x ∈ doneWs := by decide +kernel
      exact z wd (form_mem hf) (not_str k1) (not_str k2) (not_str k3) (not_str k4) (not_str k5)
    have l1 : 1 ≤ ts.length := by
      have z : ∀ x ∈ formWords, 1 ≤ (formCount x).getD 0 := by decide +kernel
      have := z wd (form_mem hf)
      rw [fl] at this
      exact this
    cases hx with
    | nil => exact absurd l1 (by decide)
    | cons g0 hx =>
      refine ⟨_, rfl, R, dx, _, rfl, hR, nm "waits_for" (by decide), _, rfl, _, rfl, _, rfl, _, rfl, ?_⟩
      dsimp only [tNoPart]
      refine rd_dropG (d := 0) (i := 1) rs.gh ha (by decide) fun p7 G7 H7 s7 st7 e7 => ?_
      have r7 := rs.more st7.gg s7 st7.gh st7.nw
      refine ⟨_, _, _, _, rfl, R, G7, m, wd, p7, _, _, _, rfl, rfl, rfl, ⟨_, _, _, _, _, _, _, _, _, _, r7⟩, e7, .cons (g0.same st7.gg) (hx.same st7.gg), hc.same st7.gg, ⟨?_, ?_, fun z => absurd z (not_str k4), fun z => absurd z (not_str k5), fun _ _ _ => ⟨w7, fl⟩⟩, wl, fun G' H' gg mr => q G' H' (st7.gg.trans gg) mr⟩
      · show (_ :: _ : List Th).length ≤ 100001
        omega
      · show ([] : List Th).length < (_ :: _ : List Th).length
        exact Nat.succ_pos _
theorem mt_begins (F : MtP K (CR K) "begins" "Reckoning.begins" s_Reckoning_begins) (T : Tm K w mg) (M : Meth K (CR K) "begins" (He.ma K (CR K) "begins")) (B_is_formed : Cl P w K mg base 4 "is_formed" ["part"] (spFormedP K)) (M_comes_to : Mt P w K mg base 1 (CR K) "comes_to" ["self", "worth"] (spCome K)) (M_ends : Mt P w K mg base 2 (CR K) "ends" ["self", "word", "worth"] (spEnds K))
    (M_named : Mt P w K mg base 3 (CR K) "named" ["self", "word", "scope"] (spNamed K)) (M_waits_for : Mt P w K mg base 3 (CR K) "waits_for" ["self", "word", "scope", "parts"] (spWaitsFor K)) (M_formed : Mt P w K mg base 4 (CR K) "formed" ["self", "part", "scope"] (spFormed K)) : Mt P w K mg base 5 (CR K) "begins" ["self", "part", "scope"] (spBegins K) := by
  refine mk_m F T.cr M sc_Reckoning_begins (fun _ _ _ _ _ _ us hl => match us, hl with | [_, _, _], _ => rfl) (fun vs H Q E h => by obtain ⟨_, _, _, rfl, _⟩ := h; rfl) fun cdv A outer s H vs Q E hr h => ?_
  obtain ⟨_, p, c, rfl, R, G, m, m', rfl, r, ok, hne, hp, hc, hm, q⟩ := h
  obtain ⟨es, n, Df⟩ := T.fm.kd
  refine ⟨_, PSs.nox (pss_one (ps_if (pt_val (pe_callB call_isi rfl T.z_isinstance PyProof.Rows.boot_isinstance (pa_cons (pv 1) (pa_cons (pe_bltn (v := .ty "str") rfl T.z_str (by decide +kernel) rfl) pa_nil)))) (pss_one (ps_expr (pe_mb M_named hr (by omega) passL (pv 0) (pa_cons (pv 1) (pa_cons (pv 2) pa_nil))))) (pss_one (ps_if (PW.pt (pw_or (pt_not (pt_val (pe_callB call_isi rfl T.z_isinstance PyProof.Rows.boot_isinstance (pa_cons (pv 1) (pa_cons (pe_bltn (v := .ty "tuple") rfl T.z_tuple (by decide +kernel) rfl) pa_nil))))) (pw_or1 (pt_cmpR (op_eqTN hr.units0) (pv 1) (pe_tup pa_nil) (nomark _))))) (pss_one (ps_expr (pe_mb M_comes_to hr (by omega) passL (pv 0) (pa_cons (pv 1) pa_nil)))) (pss_one (ps_if (PW.pt (pw_or (pt_not (pt_val (pe_callB call_isi rfl T.z_isinstance PyProof.Rows.boot_isinstance (pa_cons (pe_ix ix_tup (pv 1) pe_int (fun _ _ => rfl)) (pa_cons (pe_bltn (v := .ty "str") rfl T.z_str (by decide +kernel) rfl) pa_nil))))) (pw_or1 (pt_cmpR (op_notIn_kd Df) (pe_ix ix_tup (pv 1) pe_int (fun _ _ => rfl)) (pe_glob (v := .ref (He.ga K "FORMS")) rfl T.g_FORMS rfl) rfl)))) (pss_one (ps_expr (pe_mb M_waits_for hr (by omega) passL (pv 0) (pa_cons pe_str (pa_cons (pv 2) (pa_cons (pv 1) pa_nil)))))) (pss_one (ps_if (pt_not (pt_val (pe_b B_is_formed hr (by omega) rfl passL (pa_cons (pv 1) pa_nil)))) (pss_one (ps_expr (pe_mb M_ends hr (by omega) passL (pv 0) (pa_cons pe_str (pa_cons (pe_tup pa_nil) pa_nil))))) (pss_one (ps_expr (pe_mb M_formed hr (by omega) passL (pv 0) (pa_cons (pv 1) (pa_cons (pv 2) pa_nil))))))))))))), ?_⟩
  obtain ⟨dx, fs, hR, nm⟩ := r.at
  obtain ⟨u1, y1, k1⟩ := wk_str (K := K) (M := some (CF K)) T.kf r.gh hp
  obtain ⟨u2, y2, k2⟩ := wk_tup (K := K) (M := some (CF K)) T.kf r.gh hp
  refine ⟨_, rfl, _, _, u1, _, _, rfl, .ty _, y1, k1, _, rfl, ?_⟩
  unfold Mc.begin at hm
  generalize ept : m.part = pt at hp hm k1 k2
  cases hp with
  | str x hx =>
    cases hm
    exact iteT ⟨_, rfl, R, dx, _, rfl, hR, nm "named" (by decide), _, rfl, _, rfl, _, _, _, rfl, R, G, m, x, rfl, rfl, r, ok, hne, hx, hc, q⟩
  | bl b =>
    cases hm
    exact iteF ⟨_, rfl, _, _, u2, _, _, rfl, .ty _, y2, k2, _, rfl, iteT (iteT ⟨_, rfl, R, dx, _, rfl, hR, nm "comes_to" (by decide), _, rfl, _, _, rfl, R, G, m, _, rfl, r, .bl b, fun H' mr => q G H' (.refl _) mr⟩)⟩
  | int i hi =>
    cases hm
    exact iteF ⟨_, rfl, _, _, u2, _, _, rfl, .ty _, y2, k2, _, rfl, iteT (iteT ⟨_, rfl, R, dx, _, rfl, hR, nm "comes_to" (by decide), _, rfl, _, _, rfl, R, G, m, _, rfl, r, .int i hi, fun H' mr => q G H' (.refl _) mr⟩)⟩
  | fn a1 a2 a3 a4 =>
    cases hm
    exact iteF ⟨_, rfl, _, _, u2, _, _, rfl, .ty _, y2, k2, _, rfl, iteT (iteT ⟨_, rfl, R, dx, _, rfl, hR, nm "comes_to" (by decide), _, rfl, _, _, rfl, R, G, m, _, rfl, r, .fn (tb := []) a1 a2 a3 a4, fun H' mr => q G H' (.refl _) mr⟩)⟩
  | rcf a1 a2 a3 a4 a5 =>
    cases hm
    exact iteF ⟨_, rfl, _, _, u2, _, _, rfl, .ty _, y2, k2, _, rfl, iteT (iteT ⟨_, rfl, R, dx, _, rfl, hR, nm "comes_to" (by decide), _, rfl, _, _, rfl, R, G, m, _, rfl, r, .rcf (tb := []) a1 a2 a3 a4 a5, fun H' mr => q G H' (.refl _) mr⟩)⟩
  | tup ht hts =>
    rename_i a xs l
    refine iteF ⟨_, rfl, _, _, u2, _, _, rfl, .ty _, y2, k2, _, rfl, iteF ⟨_, rfl, by decide, fun p5 np5 => ⟨a, p5, _, rfl, rfl, (same_new np5 _) _ _ (r.gh _ _ ht), upd_same, _, rfl, ?_⟩⟩⟩
    have r5 := r.new np5 (.tup [])
    obtain ⟨dx, fs, hR, nm⟩ := r5.at
    generalize upd H p5 (.tup []) = H5 at r5 hR ⊢
    have ha := r5.gh _ _ ht
    cases hts with
    | nil =>
      cases hm
      exact iteT ⟨_, rfl, R, dx, _, rfl, hR, nm "comes_to" (by decide), _, rfl, _, _, rfl, R, G, m, .tup [], rfl, r5, .tup ht .nil, fun H' mr => q G H' (.refl _) mr⟩
    | cons h0 hr0 =>
      rename_i x0 xr t0 tr
      have wall : Wos (some (CF K)) G (x0 :: xr) (t0 :: tr) := .cons h0 hr0
      replace hm : m.row t0 tr = some m' := hm
      unfold Mc.row at hm
      have sg : scG tr = true := by
        cases z : scG tr with
        | true => rfl
        | false =>
          rw [z] at hm
          cases hm
      have ltr : tr.length ≤ 100000 := Nat.le_of_ble_eq_true sg
      rw [sg, if_neg (by decide)] at hm
      refine iteF ?_
      obtain ⟨u3, y3, k3⟩ := wk_str (K := K) (M := some (CF K)) T.kf r5.gh h0
      have call : m.wait "call" (t0 :: tr) t0 = some m' → _ := fun hm => by
        obtain ⟨wl, e⟩ := wait_some hm
        exact (⟨wl, e⟩ : m.wt.length ≤ 100000 ∧ m' = Mc.next { m with wt := ⟨"call", m.sc, t0 :: tr, []⟩ :: m.wt } t0 m.sc)
      have wok : WtOk ⟨"call", m.sc, t0 :: tr, []⟩ := ⟨by show (t0 :: tr).length ≤ 100001; rw [List.length_cons]; omega, Nat.succ_pos _, fun z => absurd (show ("call" : Str) = "let" from z) (by decide), fun z => absurd (show ("call" : Str) = "if" from z) (by decide), fun _ _ z => absurd rfl z⟩
      refine ⟨_, rfl, a, _, _, _, rfl, rfl, SqT.of ha, atI_nat (j := 0) rfl, _, _, u3, _, _, rfl, .ty _, y3, k3, _, rfl, ?_⟩
      cases h0 with
      | bl b =>
        obtain ⟨wl, rfl⟩ := call hm
        exact iteT (iteT ⟨_, rfl, R, dx, _, rfl, hR, nm "waits_for" (by decide), _, rfl, _, rfl, _, _, _, _, rfl, R, G, m, "call", a, _, _, _, rfl, rfl, rfl, r5, ht, wall, hc, wok, wl, q⟩)
      | int i hi =>
        obtain ⟨wl, rfl⟩ := call hm
        exact iteT (iteT ⟨_, rfl, R, dx, _, rfl, hR, nm "waits_for" (by decide), _, rfl, _, rfl, _, _, _, _, rfl, R, G, m, "call", a, _, _, _, rfl, rfl, rfl, r5, ht, wall, hc, wok, wl, q⟩)
      | tup _ _ =>
        obtain ⟨wl, rfl⟩ := call hm
        exact iteT (iteT ⟨_, rfl, R, dx, _, rfl, hR, nm "waits_for" (by decide), _, rfl, _, rfl, _, _, _, _, rfl, R, G, m, "call", a, _, _, _, rfl, rfl, rfl, r5, ht, wall, hc, wok, wl, q⟩)
      | fn _ =>
        obtain ⟨wl, rfl⟩ := call hm
        exact iteT (iteT ⟨_, rfl, R, dx, _, rfl, hR, nm "waits_for" (by decide), _, rfl, _, rfl, _, _, _, _, rfl, R, G, m, "call", a, _, _, _, rfl, rfl, rfl, r5, ht, wall, hc, wok, wl, q⟩)
      | rcf _ =>
        obtain ⟨wl, rfl⟩ := call hm
        exact iteT (iteT ⟨_, rfl, R, dx, _, rfl, hR, nm "waits_for" (by decide), _, rfl, _, rfl, _, _, _, _, rfl, R, G, m, "call", a, _, _, _, rfl, rfl, rfl, r5, ht, wall, hc, wok, wl, q⟩)
      | str wd hwd =>
        obtain ⟨r0, e1, e2, _⟩ := T.fm.ns wd
        replace hm : (if isForm wd then (if !namesG wd tr then none else if !isFormed wd tr then some (m.ends "form" (.tup [])) else m.form wd tr) else m.wait "call" (.str wd :: tr) (.str wd)) = some m' := hm
        refine iteF ⟨_, rfl, a, _, _, _, rfl, rfl, SqT.of ha, atI_nat (j := 0) rfl, wd, r0, rfl, rfl, e1, _, rfl, ?_⟩
        rw [e2]
        cases hf : isForm wd with
        | false =>
          rw [hf, if_neg (by decide)] at hm
          obtain ⟨wl, rfl⟩ := call hm
          exact iteT ⟨_, rfl, R, dx, _, rfl, hR, nm "waits_for" (by decide), _, rfl, _, rfl, _, _, _, _, rfl, R, G, m, "call", a, _, _, _, rfl, rfl, rfl, r5, ht, wall, hc, wok, wl, q⟩
        | true =>
          rw [hf, if_pos rfl] at hm
          cases ng : namesG wd tr with
          | false => rw [ng] at hm; cases hm
          | true =>
          rw [ng, if_neg (by decide)] at hm
          refine iteF ⟨_, rfl, _, rfl, G, wd, a, _, tr, rfl, ht, wall, r5.gh, hf, ng, fun H6 s6 => ⟨_, rfl, ?_⟩⟩
          have r6 := r5.more (.refl _) s6 (r5.gh.trans s6) fun b e _ => e
          obtain ⟨dx, fs, hR, nm⟩ := r6.at
          cases fd : isFormed wd tr with
          | false =>
            rw [fd] at hm
            cases hm
            exact iteT ⟨_, rfl, R, dx, _, rfl, hR, nm "ends" (by decide), by decide, fun p7 np7 => ⟨_, _, _, rfl, R, _, m, "form", _, rfl, rfl, r6.newG np7 _, ok, hne, by decide +kernel, .tup upd_same .nil, fun G' H' gg mr => q G' H' ((same_new (r6.gh.free np7) _).trans gg) mr⟩⟩
          | true =>
            rw [fd, if_neg (by decide)] at hm
            exact iteF ⟨_, rfl, R, dx, _, rfl, hR, nm "formed" (by decide), _, rfl, _, rfl, _, _, _, rfl, R, G, m, wd, a, _, tr, m', rfl, rfl, r6, ht, wall, hc, hf, fd, ltr, hm, q⟩
end
end Fl
namespace Fl
open PySem PySem.Spec PyProof.Rows L2
abbrev s_Function_names : Stmt := inClass (top 8) 1
theorem sc_Function_names : FnScope ["self"] ["self"] (defScope s_Function_names) := ⟨rfl, rfl, rfl, by decide +kernel, rfl, by decide +kernel, by decide +kernel⟩
abbrev s_Function_body : Stmt := inClass (top 8) 2
theorem sc_Function_body : FnScope ["self"] ["self"] (defScope s_Function_body) := ⟨rfl, rfl, rfl, by decide +kernel, rfl, by decide +kernel, by decide +kernel⟩
abbrev s_Function_scope : Stmt := inClass (top 8) 3
theorem sc_Function_scope : FnScope ["self"] ["self"] (defScope s_Function_scope) := ⟨rfl, rfl, rfl, by decide +kernel, rfl, by decide +kernel, by decide +kernel⟩
abbrev s_Function_own : Stmt := inClass (top 8) 4
theorem sc_Function_own : FnScope ["self"] ["self"] (defScope s_Function_own) := ⟨rfl, rfl, rfl, by decide +kernel, rfl, by decide +kernel, by decide +kernel⟩
def spFldF (K : PySem.W.Frag) (g : V → V → V → V → V) : Sp := fun vs H Q _ => ∃ (x dx : Addr) (n b s o : V), vs = [.ref x] ∧ H x = some (.ins (CF K) dx (fnF n b s o)) ∧ Q (g n b s o) H
section
variable {P : Program} {w : World} {K : PySem.W.Frag} {mg : Str → Option Value} {base : Heap}
theorem mt_names (F : MtP K (CF K) "names" "Function.names" s_Function_names) (T : Tc K) (M : Meth K (CF K) "names" (He.ma K (CF K) "names")) : Mt P w K mg base 1 (CF K) "names" ["self"] (spFldF K fun n _ _ _ => n) := by
  obtain ⟨fd, h1, h2⟩ := mt_mk (P := P) (w := w) (mg := mg) (base := base) (k := 0) (sp := spFldF K fun n _ _ _ => n) F sc_Function_names (fun _ _ _ _ _ _ us hl => match us, hl with | [_], _ => rfl) (fun vs H Q E h => by obtain ⟨_, _, _, _, _, _, rfl, _⟩ := h; rfl) fun cdv A outer s H vs Q E hr h => by
    obtain ⟨x, dx, n, b, sc, o, rfl, hx, q⟩ := h
    exact ⟨_, PSs.nox (pss_one (ps_ret (pe_fld (pv 0) rfl))), _, rfl, x, _, dx, _, n, rfl, hx, T.kf.cl, T.n1, rfl, q⟩
  exact ⟨_, fd, T.kf.cl, M, h1, h2⟩
theorem mt_body (F : MtP K (CF K) "body" "Function.body" s_Function_body) (T : Tc K) (M : Meth K (CF K) "body" (He.ma K (CF K) "body")) : Mt P w K mg base 1 (CF K) "body" ["self"] (spFldF K fun _ n _ _ => n) := by
  obtain ⟨fd, h1, h2⟩ := mt_mk (P := P) (w := w) (mg := mg) (base := base) (k := 0) (sp := spFldF K fun _ n _ _ => n) F sc_Function_body (fun _ _ _ _ _ _ us hl => match us, hl with | [_], _ => rfl) (fun vs H Q E h => by obtain ⟨_, _, _, _, _, _, rfl, _⟩ := h; rfl) fun cdv A outer s H vs Q E hr h => by
    obtain ⟨x, dx, n, b, sc, o, rfl, hx, q⟩ := h
    exact ⟨_, PSs.nox (pss_one (ps_ret (pe_fld (pv 0) rfl))), _, rfl, x, _, dx, _, b, rfl, hx, T.kf.cl, T.n2, rfl, q⟩
  exact ⟨_, fd, T.kf.cl, M, h1, h2⟩
theorem mt_scope (F : MtP K (CF K) "scope" "Function.scope" s_Function_scope) (T : Tc K) (M : Meth K (CF K) "scope" (He.ma K (CF K) "scope")) : Mt P w K mg base 1 (CF K) "scope" ["self"] (spFldF K fun _ _ n _ => n) := by
  obtain ⟨fd, h1, h2⟩ := mt_mk (P := P) (w := w) (mg := mg) (base := base) (k := 0) (sp := spFldF K fun _ _ n _ => n) F sc_Function_scope (fun _ _ _ _ _ _ us hl => match us, hl with | [_], _ => rfl) (fun vs H Q E h => by obtain ⟨_, _, _, _, _, _, rfl, _⟩ := h; rfl) fun cdv A outer s H vs Q E hr h => by
    obtain ⟨x, dx, n, b, sc, o, rfl, hx, q⟩ := h
    exact ⟨_, PSs.nox (pss_one (ps_ret (pe_fld (pv 0) rfl))), _, rfl, x, _, dx, _, sc, rfl, hx, T.kf.cl, T.n3, rfl, q⟩
  exact ⟨_, fd, T.kf.cl, M, h1, h2⟩
theorem mt_own (F : MtP K (CF K) "own" "Function.own" s_Function_own) (T : Tc K) (M : Meth K (CF K) "own" (He.ma K (CF K) "own")) : Mt P w K mg base 1 (CF K) "own" ["self"] (spFldF K fun _ _ _ n => n) := by
  obtain ⟨fd, h1, h2⟩ := mt_mk (P := P) (w := w) (mg := mg) (base := base) (k := 0) (sp := spFldF K fun _ _ _ n => n) F sc_Function_own (fun _ _ _ _ _ _ us hl => match us, hl with | [_], _ => rfl) (fun vs H Q E h => by obtain ⟨_, _, _, _, _, _, rfl, _⟩ := h; rfl) fun cdv A outer s H vs Q E hr h => by
    obtain ⟨x, dx, n, b, sc, o, rfl, hx, q⟩ := h
    exact ⟨_, PSs.nox (pss_one (ps_ret (pe_fld (pv 0) rfl))), _, rfl, x, _, dx, _, o, rfl, hx, T.kf.cl, T.n4, rfl, q⟩
  exact ⟨_, fd, T.kf.cl, M, h1, h2⟩
end
end Fl
namespace Fl
open PySem PySem.Spec PyProof.Rows L2
abbrev s_Reckoning_called : Stmt := inClass (top 30) 11
theorem sc_Reckoning_called : FnScope ["self", "function", "worths", "own", "pairs"] ["self", "function", "worths"] (defScope s_Reckoning_called) := ⟨rfl, rfl, rfl, by decide +kernel, rfl, by decide +kernel, by decide +kernel⟩
abbrev s_Reckoning_run_below : Stmt := inClass (top 30) 12
theorem sc_Reckoning_run_below : FnScope ["self", "program", "limit", "most"] ["self", "program", "limit"] (defScope s_Reckoning_run_below) := ⟨rfl, rfl, rfl, by decide +kernel, rfl, by decide +kernel, by decide +kernel⟩
abbrev s_Reckoning_all_come : Stmt := inClass (top 30) 10
theorem sc_Reckoning_all_come : FnScope ["self", "word", "worths", "end", "worth"] ["self", "word", "worths"] (defScope s_Reckoning_all_come) := ⟨rfl, rfl, rfl, by decide +kernel, rfl, by decide +kernel, by decide +kernel⟩
abbrev s_Reckoning_goes_on : Stmt := inClass (top 30) 9
theorem sc_Reckoning_goes_on : FnScope ["self", "waiting", "worth"] ["self", "waiting"] (defScope s_Reckoning_goes_on) := ⟨rfl, rfl, rfl, by decide +kernel, rfl, by decide +kernel, by decide +kernel⟩
abbrev s_Reckoning_go : Stmt := inClass (top 30) 4
theorem sc_Reckoning_go : FnScope ["self"] ["self"] (defScope s_Reckoning_go) := ⟨rfl, rfl, rfl, by decide +kernel, rfl, by decide +kernel, by decide +kernel⟩
def tNo : TE := fun _ _ _ => False
theorem pe_no {X : Cx} {e : Expr} : PE X e tNo := ⟨fun _ _ _ _ _ _ h => h.elim⟩
def spCalled (K : PySem.W.Frag) : Sp := sp3 fun s f p H Q _ => ∃ R G m t D ys ws m', s = .ref R ∧ p = .ref D ∧ Mr K R G H m ∧ McOk m ∧ m.fl ≠ [] ∧ Wo (some (CF K)) G f t ∧ H D = some (.lst ys) ∧ Wos (some (CF K)) G ys ws ∧ m.call (t :: ws) = some m' ∧ spM K R G m' Q
def spRunBelow (K : PySem.W.Frag) : Sp := sp3 fun s p l H Q _ => ∃ R G m t1 t2 m', s = .ref R ∧ Mr K R G H m ∧ McOk m ∧ m.fl ≠ [] ∧ Wo (some (CF K)) G p t1 ∧ Wo (some (CF K)) G l t2 ∧ m.below t1 t2 = some m' ∧ spM K R G m' Q
theorem mcall_cases {m m' : Mc} {t : Th} {ws : List Th} (h : m.call (t :: ws) = some m') : (t.isFn = false ∧ m' = m.ends "kind" (.tup [])) ∨ ∃ ns body sc own, t = .fn [ns, body, .tup sc, own] ∧
    ((ns.row.length ≠ ws.length ∧ m' = m.ends "count" (.tup [])) ∨ (ns.row.length = ws.length ∧ scG sc = true ∧ scG ns.row = true ∧ m' = m.next body (bindAll ns.row ws (ownTh t own sc)))) := by
  unfold Mc.call at h
  cases t with
  | fn l =>
    simp only at h
    split at h
    · rename_i ns body sc own q
      rw [if_neg (by decide)] at h
      cases q
      refine .inr ⟨ns, body, sc, own, rfl, ?_⟩
      by_cases c : ns.row.length = ws.length
      · rw [if_pos c] at h
        by_cases g : (scG sc && scG ns.row) = true
        · rw [if_pos g] at h
          obtain ⟨g1, g2⟩ := Bool.and_eq_true_iff.mp g
          exact .inr ⟨c, g1, g2, (Option.some.inj h).symm⟩
        · rw [if_neg g] at h
          cases h
      · rw [if_neg c] at h
        exact .inl ⟨c, (Option.some.inj h).symm⟩
    · cases h
    · rename_i q
      exact absurd rfl (q _)
  | non => cases h; exact .inl ⟨rfl, rfl⟩
  | bl b => cases h; exact .inl ⟨rfl, rfl⟩
  | int b => cases h; exact .inl ⟨rfl, rfl⟩
  | str b => cases h; exact .inl ⟨rfl, rfl⟩
  | tup b => cases h; exact .inl ⟨rfl, rfl⟩
  | oth => cases h; exact .inl ⟨rfl, rfl⟩
section
variable {K : PySem.W.Frag} {R dx fa wa : Addr} {vf vw : List V} {Ds : List Addr} {pq sv ov tv : V} {G H : Hp} {m : Mc}
theorem MrS.fR (r : MrS K R dx fa wa vf vw Ds pq sv ov tv G H m) : fa ≠ R := fun z => by
  have := r.self
  rw [← z, r.hf] at this
  cases this
theorem MrS.wR (r : MrS K R dx fa wa vf vw Ds pq sv ov tv G H m) : wa ≠ R := fun z => by
  have := r.self
  rw [← z, r.hw] at this
  cases this
theorem MrS.DR (r : MrS K R dx fa wa vf vw Ds pq sv ov tv G H m) : ∀ D ∈ Ds, D ≠ R := fun D hD z => by
  obtain ⟨⟨ys, e1⟩, e2⟩ := r.wts.lst D hD
  have := r.self
  rw [← z, e1] at this
  cases this
theorem MrS.pushF (r : MrS K R dx fa wa vf vw Ds pq sv ov tv G H m) {x : Addr} {b l : Int} {k : Nat} (hx : G x = some (.tup [.int b, .int l, .int (k : Nat)])) : Mr K R G (upd H fa (.lst (vf.reverse ++ [.ref x]))) { m with fl := (b, l, k) :: m.fl } := by
  have z := List.nodup_cons.mp r.nd
  have fw : fa ≠ wa := fun e => z.1 (by rw [e]; exact .head _)
  have Df : ∀ D ∈ Ds, D ≠ fa := fun D hD e => z.1 (by rw [← e]; exact .tail _ hD)
  exact ⟨dx, fa, wa, .ref x :: vf, vw, Ds, pq, sv, ov, tv, ⟨by rw [upd_ne r.fR.symm]; exact r.self, r.gR, by rw [upd_same, List.reverse_cons], r.gf, .cons hx r.fls, by rw [upd_ne fw.symm]; exact r.hw, r.gw,
    r.wts.same (.refl _) (fun D hD => ⟨upd_ne (Df D hD), (r.wts.lst D hD).2⟩), r.nd, r.part, r.sc, r.out, r.tell, same_upd r.gh r.gf⟩⟩
end
section
variable {K : PySem.W.Frag} {R : Addr} {G H : Hp} {m : Mc}
theorem MrS.moreT {dx fa wa : Addr} {vf vw : List V} {Ds : List Addr} {pq sv ov tv : V} {G' H' : Hp} (r : MrS K R dx fa wa vf vw Ds pq sv ov tv G H m) (gg : Same G G') (hh : Same H H') (gh : Same G' H') (nw : ∀ b o, G b = none → H b = some o → (∀ xs, o ≠ .tup xs) → G' b = none) : MrS K R dx fa wa vf vw Ds pq sv ov tv G' H' m := by
  refine ⟨hh _ _ r.self, nw _ _ r.gR r.self (fun _ => nofun), hh _ _ r.hf, nw _ _ r.gf r.hf (fun _ => nofun), r.fls.same gg, hh _ _ r.hw, nw _ _ r.gw r.hw (fun _ => nofun), ?_, r.nd, r.part.same gg, r.sc.same gg, r.out.same gg, ?_, gh⟩
  · refine r.wts.same gg fun D hD => ?_
    obtain ⟨⟨ys, e⟩, g⟩ := r.wts.lst D hD
    exact ⟨by rw [hh _ _ e, e], nw _ _ g e (fun _ => nofun)⟩
  · rcases r.tell with h | ⟨t, h1, h2⟩
    · exact .inl h
    · exact .inr ⟨t, h1, h2.same gg⟩
/-- all that is new stays, tuples among Ts too -/
theorem moreT {H' : Hp} {Ts : List Addr} (r : Mr K R G H m) (hh : Same H H') (ht : ∀ T ∈ Ts, ∃ xs, H' T = some (.tup xs)) : ∃ G', Same G G' ∧ Same G' H' ∧ Mr K R G' H' m ∧ ∀ T ∈ Ts, G' T = H' T := by
  obtain ⟨dx, fa, wa, vf, vw, Ds, pq, sv, ov, tv, r⟩ := r
  classical
  have gh := r.gh
  refine ⟨fun b => if H b = none ∨ b ∈ Ts then H' b else G b, ?_, ?_, ?_, ?_⟩
  · intro b o e
    show (if _ then _ else _) = _
    split
    · exact hh _ _ (gh _ _ e)
    · exact e
  · intro b o e
    replace e : (if H b = none ∨ b ∈ Ts then H' b else G b) = some o := e
    split at e
    · exact e
    · exact hh _ _ (gh _ _ e)
  · refine ⟨dx, fa, wa, vf, vw, _, pq, sv, ov, tv, r.moreT ?_ hh ?_ ?_⟩
    · intro b o e
      show (if _ then _ else _) = _
      split
      · exact hh _ _ (gh _ _ e)
      · exact e
    · intro b o e
      replace e : (if H b = none ∨ b ∈ Ts then H' b else G b) = some o := e
      split at e
      · exact e
      · exact hh _ _ (gh _ _ e)
    · intro b o e1 e2 e3
      show (if _ then _ else _) = _
      rw [if_neg]
      · exact e1
      · rintro (z | z)
        · rw [z] at e2
          cases e2
        · obtain ⟨xs, e4⟩ := ht b z
          rw [hh _ _ e2] at e4
          cases e4
          exact e3 xs rfl
  · intro T hT
    show (if _ then _ else _) = _
    rw [if_pos (.inr hT)]
theorem prs_wos' {M : Option Addr} {G G2 : Hp} : ∀ {xs ys : List V} {ns vs : List Th} {Ts : List Addr}, Same G G2 → Wos M G xs ns → Wos M G ys vs → Ts.length = xs.length → xs.length = ys.length →
    (∀ (k : Nat) (T : Addr), Ts[k]? = some T → ∃ x y, xs[k]? = some x ∧ ys[k]? = some y ∧ G2 T = some (.tup [x, y])) → Wos M G2 (Ts.map V.ref) (pairsTh ns vs) := prs_wos
theorem pairs_all : ∀ {ns vs : List Th}, ns.all isStrT = true → (pairsTh ns vs).all isPair = true
  | [], _, _ => rfl
  | _ :: _, [], _ => rfl
  | n :: ns, v :: vs, h => by
    rw [List.all_cons, Bool.and_eq_true] at h
    show ((Th.tup [n, v]) :: pairsTh ns vs).all isPair = true
    rw [List.all_cons, pairs_all h.2, Bool.and_true]
    have := h.1
    cases n <;> first | rfl | cases this
theorem pairs_len {ns vs : List Th} (h : ns.length = vs.length) : (pairsTh ns vs).length = ns.length := by
  unfold pairsTh
  rw [List.length_zipWith]
  omega
end
section
variable {P : Program} {w : World} {K : PySem.W.Frag} {mg : Str → Option Value} {base : Heap}
theorem mt_called (F : MtP K (CR K) "called" "Reckoning.called" s_Reckoning_called) (T : Tm K w mg) (M : Meth K (CR K) "called" (He.ma K (CR K) "called")) (M_next_is : Mt P w K mg base 1 (CR K) "next_is" ["self", "part", "scope"] (spNext' K)) (M_ends : Mt P w K mg base 2 (CR K) "ends" ["self", "word", "worth"] (spEnds K))
    (M_names : Mt P w K mg base 1 (CF K) "names" ["self"] (spFldF K fun n _ _ _ => n)) (M_body : Mt P w K mg base 1 (CF K) "body" ["self"] (spFldF K fun _ n _ _ => n)) (M_scope : Mt P w K mg base 1 (CF K) "scope" ["self"] (spFldF K fun _ _ n _ => n)) (M_own : Mt P w K mg base 1 (CF K) "own" ["self"] (spFldF K fun _ _ _ n => n)) :
    Mt P w K mg base 3 (CR K) "called" ["self", "function", "worths"] (spCalled K) := by
  refine mk_m F T.cr M sc_Reckoning_called (fun _ _ _ _ _ _ us hl => match us, hl with | [_, _, _], _ => rfl) (fun vs H Q E h => by obtain ⟨_, _, _, rfl, _⟩ := h; rfl) fun cdv A outer s H vs Q E hr h => ?_
  obtain ⟨_, f, _, rfl, R, G, m, t, D, ys, ws, m', rfl, rfl, r, ok, hne, hf, hD, hys, hm, q⟩ := h
  refine ⟨_, PSs.nox (pss_one (ps_if (pt_not (pt_val (pe_callB call_isi rfl T.z_isinstance PyProof.Rows.boot_isinstance (pa_cons (pv 1) (pa_cons (pe_glob (v := .ref (He.ga K "Function")) rfl T.g_Function rfl) pa_nil))))) (pss_one (ps_expr (pe_mb M_ends hr (by omega) passL (pv 0) (pa_cons pe_str (pa_cons (pe_tup pa_nil) pa_nil))))) (pss_one (ps_if (pt_cmpR op_ne (pe_callB call_len_seq rfl T.z_len PySem.boot_len (pa_cons (pe_mb0 M_names hr (by omega) passL (pv 1)) pa_nil)) (pe_callB call_len_seq rfl T.z_len PySem.boot_len (pa_cons (pv 2) pa_nil)) (nomark _)) (pss_one (ps_expr (pe_mb M_ends hr (by omega) passL (pv 0) (pa_cons pe_str (pa_cons (pe_tup pa_nil) pa_nil))))) (pss_cons (ps_set (i := 3) sc_Reckoning_called.nd rfl (Or.inl rfl) (pe_ifExp (pt_cmpR op_isN (pe_mb0 M_own hr (by omega) passL (pv 1)) pe_non (nomark _)) (pe_tup pa_nil) (pe_tup (pa_cons (pe_tup (pa_cons (pe_mb0 M_own hr (by omega) passL (pv 1)) (pa_cons (pv 1) pa_nil))) pa_nil)))) (pss_cons (ps_set (i := 4) sc_Reckoning_called.nd rfl (Or.inl rfl) (pe_revT (pe_tupZip rfl T.z_tuple rfl T.z_zip (pa_cons (pe_mb0 M_names hr (by omega) passL (pv 1)) (pa_cons (pv 2) pa_nil))))) (pss_one (ps_expr (pe_mb M_next_is hr (by omega) passL (pv 0) (pa_cons (pe_mb0 M_body hr (by omega) passL (pv 1)) (pa_cons (pe_op op_catA (pe_op op_catA (pv 4) (pv 3)) (pe_mb0 M_scope hr (by omega) passL (pv 1))) pa_nil))))))))))), ?_⟩
  obtain ⟨u1, y1, k1⟩ := wk_own (K := K) T.kf r.gh hf
  obtain ⟨dx, fs, hR, nm⟩ := r.at
  rcases mcall_cases hm with ⟨nf, rfl⟩ | ⟨ns, body, sc, own, rfl, hc⟩
  · refine ⟨_, rfl, _, _, u1, _, _, rfl, .own _, y1, k1, _, rfl, ?_⟩
    rw [nf]
    refine iteT ⟨_, rfl, R, dx, _, rfl, hR, nm "ends" (by decide), by decide, fun p np => ⟨_, _, _, rfl, R, _, m, "kind", _, rfl, rfl, r.newG np _, ok, hne, by decide +kernel, .tup upd_same .nil, fun G' H' gg mr => ?_⟩⟩
    exact q G' H' ((same_new (r.gh.free np) _).trans gg) mr
  · refine ⟨_, rfl, _, _, u1, _, _, rfl, .own _, y1, k1, _, rfl, ?_⟩
    obtain ⟨x, dxf, n, b, s, o, tn, rfl, hx, rfl, wn, wb, ws', al, an, as'⟩ : ∃ x dxf n b s o tn, f = V.ref x ∧ G x = some (.ins (CF K) dxf (fnF n b s o)) ∧ ns = .tup tn ∧ Wo (some (CF K)) G n (.tup tn) ∧ Wo (some (CF K)) G b body ∧ Wo (some (CF K)) G s (.tup sc) ∧ ((o = .non ∧ own = .non) ∨ ∃ z, o = .str z ∧ own = .str z ∧ wordB z = true) ∧ tn.all isStrT = true ∧ sc.all isPair = true := by
      cases hf with
      | fn h1 h2 h3 h4 =>
        obtain ⟨d, e⟩ := h1
        cases h2 with
        | cons a1 h2 =>
          cases h2 with
          | cons a2 h2 =>
            cases h2 with
            | cons a3 h2 => exact ⟨_, d, _, _, _, _, _, rfl, e, rfl, a1, a2, a3, .inl ⟨rfl, rfl⟩, h3, h4⟩
      | rcf h1 hz h2 h3 h4 =>
        obtain ⟨d, e⟩ := h1
        cases h2 with
        | cons a1 h2 =>
          cases h2 with
          | cons a2 h2 =>
            cases h2 with
            | cons a3 h2 => exact ⟨_, d, _, _, _, _, _, rfl, e, rfl, a1, a2, a3, .inr ⟨_, rfl, rfl, hz⟩, h3, h4⟩
    have hxH := r.gh _ _ hx
    cases wn with
    | tup hn wns =>
    rename_i pn xns
    have ln := wns.len
    have ly := hys.len
    rcases hc with ⟨c, rfl⟩ | ⟨c, g1, g2, rfl⟩
    · refine iteF ?_
      refine ⟨_, rfl, x, dxf, _, rfl, hxH, rfl, x, dxf, _, _, _, _, rfl, hxH, pn, xns, rfl, .inr (SqT.of (r.gh _ _ hn)), _, rfl, D, ys, rfl, .inl (SqL.of hD), rfl, ?_⟩
      have e : (!decide (V.int (xns.length : Nat) = V.int (ys.length : Nat))) = true := by
        rw [dec_int]
        have c' : tn.length ≠ ws.length := c
        have : ((xns.length : Int) == (ys.length : Int)) = false := by
          rw [beq_eq_false_iff_ne]
          omega
        rw [this]
        rfl
      refine ⟨_, rfl, ?_⟩
      rw [e]
      refine iteT ⟨_, rfl, R, dx, _, rfl, hR, nm "ends" (by decide), by decide, fun p np => ⟨_, _, _, rfl, R, _, m, "count", _, rfl, rfl, r.newG np _, ok, hne, by decide +kernel, .tup upd_same .nil, fun G' H' gg mr => ?_⟩⟩
      exact q G' H' ((same_new (r.gh.free np) _).trans gg) mr
    · refine iteF ?_
      refine ⟨_, rfl, x, dxf, _, rfl, hxH, rfl, x, dxf, _, _, _, _, rfl, hxH, pn, xns, rfl, .inr (SqT.of (r.gh _ _ hn)), _, rfl, D, ys, rfl, .inl (SqL.of hD), rfl, ?_⟩
      have e : (!decide (V.int (xns.length : Nat) = V.int (ys.length : Nat))) = false := by
        rw [dec_int]
        have c' : tn.length = ws.length := c
        have : ((xns.length : Int) == (ys.length : Int)) = true := by
          rw [beq_iff_eq]
          omega
        rw [this]
        rfl
      refine ⟨_, rfl, ?_⟩
      rw [e]
      refine iteF ?_
      cases ws' with
      | tup hs wss =>
      rename_i psc xsc
      have lsc : sc.length ≤ 100000 := Nat.le_of_ble_eq_true g1
      have ltn : tn.length ≤ 100000 := Nat.le_of_ble_eq_true g2
      have lsx := wss.len
      have c' : tn.length = ws.length := c
      refine join_seq (fun k => ∀ (ow : Addr) G1 H1 xo owT, Mr K R G1 H1 m → Same G G1 → Same H H1 → G1 ow = some (.tup xo) → Wos (some (CF K)) G1 xo owT → owT ++ sc = ownTh (.fn [.tup tn, body, .tup sc, own]) own sc → owT.all isPair = true → owT.length ≤ 1 →
        k [some (.ref R), some (.ref x), some (.ref D), some (.ref ow), none] H1) (fun ow G1 H1 xo owT r1 gg1 hh1 how wow eow al1 le1 => ?_) (fun D' hk => ?_)
      · have hx1 := hh1 _ _ hxH
        have lo := wow.len
        refine ⟨_, rfl, x, dxf, _, rfl, hx1, rfl, x, dxf, _, _, _, _, rfl, hx1, _, rfl, pn, D, xns, ys, rfl, SqT.of (hh1 _ _ (r.gh _ _ hn)), SqL.of (hh1 _ _ hD), by omega, fun S Ts H2 sm nS prs => ?_⟩
        have r2 : ∃ G2, Same G1 G2 ∧ Same G2 H2 ∧ Mr K R G2 H2 m ∧ ∀ T ∈ Ts, G2 T = H2 T := moreT r1 sm (fun T hT => by
          obtain ⟨k, hk⟩ := List.mem_iff_getElem?.mp hT
          obtain ⟨a, b, _, _, e⟩ := prs.2 k T hk
          exact ⟨_, e⟩)
        obtain ⟨G2, gg2, gh2, mr2, tg⟩ := r2
        have wp := prs_wos' (M := some (CF K)) (gg1.trans gg2) wns hys prs.1 (show xns.length = ys.length by omega) (fun k T e => by
          obtain ⟨a, b, e1, e2, e3⟩ := prs.2 k T e
          exact ⟨a, b, e1, e2, by rw [tg T (List.mem_of_getElem? e)]; exact e3⟩)
        refine ⟨S, _, rfl, SqT.of upd_same, fun p np => ?_⟩
        have mr3 := mr2.newG nS (.tup (Ts.map V.ref))
        have mr4 := mr3.newG np (.tup (Ts.map V.ref).reverse)
        have g3 := same_new (gh2.free nS) (.tup (Ts.map V.ref))
        have n3 : (upd G2 S (.tup (Ts.map V.ref))) p = none := mr3.gh.free np
        have g4 := same_new n3 (.tup (Ts.map V.ref).reverse)
        have h4 := (same_new nS (.tup (Ts.map V.ref))).trans (same_new np (.tup (Ts.map V.ref).reverse))
        have gA := gg2.trans (g3.trans g4)
        have hA := hh1.trans (sm.trans h4)
        generalize hG4 : upd (upd G2 S (.tup (Ts.map V.ref))) p (.tup (Ts.map V.ref).reverse) = G4 at mr4 g4 gA ⊢
        have e4 : G4 p = some (.tup (Ts.map V.ref).reverse) := by rw [← hG4]; exact upd_same
        generalize hH4 : upd (upd H2 S (.tup (Ts.map V.ref))) p (.tup (Ts.map V.ref).reverse) = H4 at mr4 h4 hA ⊢
        have wp4 := wos_rev (wp.same (g3.trans g4))
        obtain ⟨dx4, fs4, hR4, nm4⟩ := mr4.at
        have hx4 := hA _ _ hxH
        have ltT : (Ts.map V.ref).length ≤ 100000 := by rw [List.length_map, prs.1]; omega
        refine ⟨_, rfl, R, dx4, _, rfl, hR4, nm4 "next_is" (by decide), ?_⟩
        refine ⟨_, rfl, x, dxf, _, rfl, hx4, rfl, x, dxf, _, _, _, _, rfl, hx4, ?_⟩
        refine ⟨_, rfl, _, rfl, ?_⟩
        refine rd_catG (d := 0) mr4.gh e4 (gA _ _ how) (by rw [sizeLine_eq, List.length_reverse]; omega) fun p5 G5 H5 s5 st5 e5 => ?_
        have hx5 := s5 _ _ hx4
        refine ⟨_, rfl, x, dxf, _, rfl, hx5, rfl, x, dxf, _, _, _, _, rfl, hx5, ?_⟩
        have mr5 := mr4.more st5.gg s5 st5.gh st5.nw
        refine rd_catG (d := 0) st5.gh e5 ((gg1.trans (gA.trans st5.gg)) _ _ hs) (by rw [sizeLine_eq, List.length_append, List.length_reverse]; omega) fun p6 G6 H6 s6 st6 e6 => ?_
        have mr6 := mr5.more st6.gg s6 st6.gh st6.nw
        have gB := gg1.trans (gA.trans (st5.gg.trans st6.gg))
        refine ⟨_, _, _, rfl, R, G6, m, body, _, rfl, mr6, wb.same gB, ⟨p6, _, rfl, e6, ((wp4.same (st5.gg.trans st6.gg)).app (wow.same (gA.trans (st5.gg.trans st6.gg)))).app (wss.same gB), ?_, ?_⟩, fun H' mr => ?_⟩
        · rw [List.all_append, List.all_append, al1, as', List.all_reverse, pairs_all an]
          rfl
        · rw [List.length_append, List.length_append, List.length_reverse, pairs_len c']
          omega
        · refine q G6 H' gB ?_
          show Mr K R G6 H' (m.next body (bindAll tn ws _))
          rw [bindAll_eq _ _ _ c', ← eow, ← List.append_assoc]
          exact mr
      · rcases al with ⟨rfl, rfl⟩ | ⟨z, rfl, rfl, hz⟩
        · refine ⟨_, rfl, x, dxf, _, rfl, hxH, rfl, x, dxf, _, _, _, _, rfl, hxH, rfl, _, rfl, ?_⟩
          refine iteT ⟨by decide, fun p np => ?_⟩
          exact hk p _ _ _ [] (r.newG np _) (same_new (r.gh.free np) _) (same_new np _) upd_same .nil rfl rfl (by decide)
        · refine ⟨_, rfl, x, dxf, _, rfl, hxH, rfl, x, dxf, _, _, _, _, rfl, hxH, rfl, _, rfl, ?_⟩
          refine iteF ⟨_, rfl, x, dxf, _, rfl, hxH, rfl, x, dxf, _, _, _, _, rfl, hxH, _, rfl, s2, fun p5 np5 => ⟨s1, fun p6 np6 => ?_⟩⟩
          have r5 := r.newG np5 (.tup [.str z, .ref x])
          have r6 := r5.newG np6 (.tup [.ref p5])
          have g5 := same_new (r.gh.free np5) (.tup [.str z, .ref x])
          have g6 := same_new (r5.gh.free np6) (.tup [.ref p5])
          exact hk p6 _ _ _ [.tup [.str z, .fn [.tup tn, body, .tup sc, .str z]]] r6 (g5.trans g6) ((same_new np5 _).trans (same_new np6 _)) upd_same (.one (.tup (g6 _ _ upd_same) (.cons (.str _ hz) (.one (hf.same (g5.trans g6)))))) rfl rfl (Nat.le_refl 1)
theorem mt_run_below (F : MtP K (CR K) "run_below" "Reckoning.run_below" s_Reckoning_run_below) (T : Tm K w mg) (M : Meth K (CR K) "run_below" (He.ma K (CR K) "run_below")) (B_is_limit : Cl P w K mg base 1 "is_limit" ["thing"] (spLimit K)) (M_next_is : Mt P w K mg base 1 (CR K) "next_is" ["self", "part", "scope"] (spNext' K)) (M_ends : Mt P w K mg base 2 (CR K) "ends" ["self", "word", "worth"] (spEnds K)) :
    Mt P w K mg base 3 (CR K) "run_below" ["self", "program", "limit"] (spRunBelow K) := by
  refine mk_m F T.cr M sc_Reckoning_run_below (fun _ _ _ _ _ _ us hl => match us, hl with | [_, _, _], _ => rfl) (fun vs H Q E h => by obtain ⟨_, _, _, rfl, _⟩ := h; rfl) fun cdv A outer s H vs Q E hr h => ?_
  obtain ⟨_, p, l, rfl, R, G, m, t1, t2, m', rfl, r, ok, hne, hp, hl, hm, q⟩ := h
  refine ⟨_, PSs.nox (pss_one (ps_if (pt_not (pt_val (pe_b B_is_limit hr (by omega) rfl passL (pa_cons (pv 2) pa_nil)))) (pss_one (ps_expr (pe_mb M_ends hr (by omega) passL (pv 0) (pa_cons pe_str (pa_cons (pe_tup pa_nil) pa_nil))))) (pss_cons (ps_set (i := 3) sc_Reckoning_run_below.nd rfl (Or.inl rfl) (pe_callB (call_min2 rfl) rfl T.z_min PyProof.Rows.boot_min (pa_cons (pe_op op_add (pe_fld (pv 0) rfl) (pv 2)) (pa_cons (pe_ix ix_tup (pe_ix ix_list (pe_fld (pv 0) rfl) (pe_un un_neg pe_int) (fun _ _ => rfl)) pe_int (fun _ _ => rfl)) pa_nil)))) (pss_cons (ps_expr (pe_bm PySem.F.plainAttrs_list PySem.F.slot_list_append PySem.F.type_list_append mt_append (pe_fld (pv 0) rfl) (pa_cons (pe_tup (pa_cons (pe_fld (pv 0) rfl) (pa_cons (pv 3) (pa_cons (pe_callB call_len_seq rfl T.z_len PySem.boot_len (pa_cons (pe_fld (pv 0) rfl) pa_nil)) pa_nil)))) pa_nil))) (pss_one (ps_expr (pe_mb M_next_is hr (by omega) passL (pv 0) (pa_cons (pv 1) (pa_cons (pe_tup pa_nil) pa_nil))))))))), ?_⟩
  refine ⟨_, rfl, _, rfl, t2, hl.is.same r.gh, _, rfl, ?_⟩
  have bad : t2.lim = false → m' = m.ends "kind" (.tup []) := fun e => by
    cases t2 with
    | int k =>
      have z : (if 0 ≤ k ∧ k ≤ 100000 then (if m.fl.length ≤ 100000 then some ({ m with fl := (m.n, min (m.n + k) (m.fl.headD (0, 0, 0)).2.1, m.wt.length) :: m.fl, done := false, part := t1, sc := [] } : Mc) else none) else some (m.ends "kind" (.tup []))) = some m' := hm
      rw [if_neg] at z
      · exact (Option.some.inj z).symm
      · intro c
        have e' : (decide (0 ≤ k) && decide (k ≤ 100000)) = false := e
        rw [decide_eq_true c.1, decide_eq_true c.2] at e'
        cases e'
    | non => cases hm; rfl
    | bl _ => cases hm; rfl
    | str _ => cases hm; rfl
    | tup _ => cases hm; rfl
    | fn _ => cases hm; rfl
    | oth => cases hm; rfl
  cases el : t2.lim with
  | false =>
    obtain rfl := bad el
    obtain ⟨dx, fs, hR, nm⟩ := r.at
    refine iteT ⟨_, rfl, R, dx, _, rfl, hR, nm "ends" (by decide), by decide, fun p np => ⟨_, _, _, rfl, R, _, m, "kind", _, rfl, rfl, r.newG np _, ok, hne, by decide +kernel, .tup upd_same .nil, fun G' H' gg mr => ?_⟩⟩
    exact q G' H' ((same_new (r.gh.free np) _).trans gg) mr
  | true =>
    have ik : ∃ k, t2 = .int k ∧ 0 ≤ k ∧ k ≤ 100000 := by
      cases t2 with
      | int k =>
        unfold Th.lim at el
        rw [Bool.and_eq_true, decide_eq_true_iff, decide_eq_true_iff] at el
        exact ⟨k, rfl, el⟩
      | _ => cases el
    obtain ⟨k, rfl, k0, k1⟩ := ik
    obtain ⟨rfl, nk⟩ := wo_int hl rfl
    have hm2 : (if m.fl.length ≤ 100000 then some ({ m with fl := (m.n, min (m.n + k) (m.fl.headD (0, 0, 0)).2.1, m.wt.length) :: m.fl, done := false, part := t1, sc := [] } : Mc) else none) = some m' := by
      have z : (if 0 ≤ k ∧ k ≤ 100000 then (if m.fl.length ≤ 100000 then some ({ m with fl := (m.n, min (m.n + k) (m.fl.headD (0, 0, 0)).2.1, m.wt.length) :: m.fl, done := false, part := t1, sc := [] } : Mc) else none) else some (m.ends "kind" (.tup []))) = some m' := hm
      rw [if_pos ⟨k0, k1⟩] at z
      exact z
    have lf : m.fl.length ≤ 100000 := by
      refine Classical.byContradiction fun z => ?_
      rw [if_neg z] at hm2
      cases hm2
    rw [if_pos lf] at hm2
    cases hm2
    obtain ⟨dx, fa, wa, vf, vw, Ds, pq, sv, ov, tv, rs⟩ := r
    obtain ⟨n, fl, wt, part, sc, done, out, tell⟩ := m
    have rf := rs.fls
    cases fl with
    | nil => exact absurd rfl hne
    | cons f0 fl1 =>
    obtain ⟨b, li, kk⟩ := f0
    cases rf with
    | cons ha hfl =>
    rename_i af vf1
    have hfa := rs.hf
    have e1 : atI (V.ref af :: vf1).reverse (-1) = some (.ref af) := atI_neg (by simp) (rev_last _ _)
    refine iteF ⟨_, rfl, R, _, dx, _, _, rfl, rs.self, T.cr, T.r1, rfl, _, rfl, _, _, rfl, rfl, _, rfl, R, _, dx, _, _, rfl, rs.self, T.cr, T.r2, rfl, _, rfl, fa, _, _, _, rfl, rfl, SqL.of hfa, e1, af, _, _, _, rfl, rfl, SqT.of (rs.gh _ _ ha), rfl, ?_⟩
    have mn : (if li < n + k then li else n + k) = min (n + k) li := by
      rw [Int.min_def]
      split <;> split <;> omega
    refine ⟨_, _, rfl, ?_⟩
    rw [mn]
    have ll := rs.wts.len
    refine ⟨_, rfl, R, _, dx, _, _, rfl, rs.self, T.cr, T.r2, rfl, .inl ⟨rfl, _, .inl (.inl hfa)⟩, ?_⟩
    refine ⟨_, rfl, R, _, dx, _, _, rfl, rs.self, T.cr, T.r1, rfl, _, rfl, _, rfl, R, _, dx, _, _, rfl, rs.self, T.cr, T.r3, rfl, wa, _, rfl, .inl (SqL.of rs.hw), s3, fun p1 np1 => ?_⟩
    have r1 := rs.newG np1 (.tup [.int n, .int (min (n + k) li), .int ((vw.reverse.length : Nat) : Int)])
    have gg1 := same_new (rs.gh.free np1) (.tup [.int n, .int (min (n + k) li), .int ((vw.reverse.length : Nat) : Int)])
    have lv := hfl.len
    refine ⟨fa, _, _, rfl, rfl, r1.hf, ?_, ?_⟩
    · rw [List.length_reverse, List.length_cons, sizeLine_eq]
      simp only [List.length_cons] at lf
      omega
    have mr := r1.pushF (x := p1) (b := n) (l := min (n + k) li) (k := vw.reverse.length) upd_same
    generalize upd (upd H p1 (.tup [.int n, .int (min (n + k) li), .int ((vw.reverse.length : Nat) : Int)])) fa (.lst ((V.ref af :: vf1).reverse ++ [.ref p1])) = H2 at mr ⊢
    generalize upd G p1 (.tup [.int n, .int (min (n + k) li), .int ((vw.reverse.length : Nat) : Int)]) = G2 at mr gg1
    obtain ⟨dx2, fs2, hR2, nm2⟩ := mr.at
    refine ⟨_, rfl, R, dx2, _, rfl, hR2, nm2 "next_is" (by decide), _, rfl, by decide, fun p3 np3 => ⟨_, _, _, rfl, R, _, _, t1, [], rfl, mr.newG np3 _, hp.same (gg1.trans (same_new (mr.gh.free np3) _)), ⟨p3, [], rfl, upd_same, .nil, rfl, by decide⟩, fun H' mr2 => ?_⟩⟩
    refine q _ H' (gg1.trans (same_new (mr.gh.free np3) (.tup []))) ?_
    rw [List.length_reverse, ll.1] at mr2
    exact mr2
end
end Fl
namespace Fl
open PySem PySem.Spec PyProof.Rows L2
def spAllCome (K : PySem.W.Frag) : Sp := sp3 fun s b p H Q _ => ∃ R G m w D ys ws m', s = .ref R ∧ b = .str w ∧ p = .ref D ∧ Mr K R G H m ∧ McOk m ∧ m.fl ≠ [] ∧ H D = some (.lst ys) ∧ Wos (some (CF K)) G ys ws ∧ ws ≠ [] ∧ (w ≠ "call" → (w = "run" ∨ w ∈ doneWs) ∧ formCount w = some ws.length) ∧ m.all w ws = some m' ∧ spM K R G m' Q
theorem cut_tl (y : V) (ys : List V) : cutV (y :: ys) (some 1) none = ys := by
  unfold cutV
  rw [show HT.sIx (y :: ys).length 0 (some 1) = 1 by rw [sIx_pos (by decide)]; simp, show HT.sIx (y :: ys).length (y :: ys).length none = (y :: ys).length from rfl]
  rw [List.drop_succ_cons, List.drop_zero, List.length_cons, Nat.add_sub_cancel, List.take_length]
section
variable {P : Program} {w : World} {K : PySem.W.Frag} {mg : Str → Option Value} {base : Heap}
theorem mt_all_come {L : Nat} (hL : 3 ≤ L) (F : MtP K (CR K) "all_come" "Reckoning.all_come" s_Reckoning_all_come) (T : Tm K w mg) (M : Meth K (CR K) "all_come" (He.ma K (CR K) "all_come")) (B_done_by : Cl P w K mg base L "done_by" ["word", "worths"] (spDoneP K))
    (M_comes_to : Mt P w K mg base 1 (CR K) "comes_to" ["self", "worth"] (spCome K)) (M_ends : Mt P w K mg base 2 (CR K) "ends" ["self", "word", "worth"] (spEnds K)) (M_called : Mt P w K mg base 3 (CR K) "called" ["self", "function", "worths"] (spCalled K)) (M_run_below : Mt P w K mg base 3 (CR K) "run_below" ["self", "program", "limit"] (spRunBelow K)) :
    Mt P w K mg base (L + 1) (CR K) "all_come" ["self", "word", "worths"] (spAllCome K) := by
  refine mk_m F T.cr M sc_Reckoning_all_come (fun _ _ _ _ _ _ us hl => match us, hl with | [_, _, _], _ => rfl) (fun vs H Q E h => by obtain ⟨_, _, _, rfl, _⟩ := h; rfl) fun cdv A outer s H vs Q E hr h => ?_
  obtain ⟨_, _, _, rfl, R, G, m, wd, D, ys, ws, m', rfl, rfl, rfl, r, ok, hne, hD, hys, hws, hwd, hm, q⟩ := h
  refine ⟨_, PSs.nox (pss_one (ps_if (pt_cmpR op_eq (pv 1) pe_str (nomark _)) (pss_one (ps_expr (pe_mb M_called hr (by omega) passL (pv 0) (pa_cons (pe_ix ix_list (pv 2) pe_int (fun _ _ => rfl)) (pa_cons (pe_slice sl_list (pv 2) (po_some pe_int) po_none) pa_nil))))) (pss_one (ps_if (pt_cmpR op_eq (pv 1) pe_str (nomark _)) (pss_one (ps_expr (pe_mb M_run_below hr (by omega) passL (pv 0) (pa_cons (pe_ix ix_list (pv 2) pe_int (fun _ _ => rfl)) (pa_cons (pe_ix ix_list (pv 2) pe_int (fun _ _ => rfl)) pa_nil))))) (pss_cons (ps_asg (pe_b B_done_by hr (by omega) rfl passL (pa_cons (pv 1) (pa_cons (pv 2) pa_nil))) (pg_tup rfl (pgs_cons (pg_name (i := 3) sc_Reckoning_all_come.nd rfl (Or.inl rfl)) (pgs_cons (pg_name (i := 4) sc_Reckoning_all_come.nd rfl (Or.inl rfl)) pgs_nil)))) (pss_one (ps_if (pt_cmpR op_ne (pv 3) pe_str (nomark _)) (pss_one (ps_expr (pe_mb M_ends hr (by omega) passL (pv 0) (pa_cons (pv 3) (pa_cons (pe_tup pa_nil) pa_nil))))) (pss_one (ps_expr (pe_mb M_comes_to hr (by omega) passL (pv 0) (pa_cons (pv 4) pa_nil))))))))))), ?_⟩
  obtain ⟨dx, fs, hR, nm⟩ := r.at
  cases hys with
  | nil => exact absurd rfl hws
  | cons h0 hr0 =>
  rename_i y0 yr t0 tr
  unfold Mc.all at hm
  refine ⟨_, rfl, rfl, _, rfl, ite2 (fun k => ?_) (fun k1 => ?_)⟩
  · obtain rfl := of_str k
    rw [if_pos rfl] at hm
    refine ⟨_, rfl, R, dx, _, rfl, hR, nm "called" (by decide), _, rfl, D, _, _, _, rfl, rfl, SqL.of hD, atI_nat (j := 0) rfl, _, rfl, _, rfl, D, _, rfl, SqL.of hD, fun p8 np8 => ?_⟩
    rw [cut_tl]
    exact ⟨_, _, _, rfl, R, G, m, t0, p8, yr, tr, m', rfl, rfl, r.new np8 _, ok, hne, h0, upd_same, hr0, hm, q⟩
  rw [if_neg (not_str k1)] at hm
  obtain ⟨w7, fc⟩ := hwd (not_str k1)
  refine ⟨_, rfl, rfl, _, rfl, ite2 (fun k => ?_) (fun k2 => ?_)⟩
  · obtain rfl := of_str k
    rw [if_pos rfl] at hm
    have l2 : (t0 :: tr).length = 2 := (Option.some.inj (show some 2 = some (t0 :: tr).length from fc)).symm
    obtain ⟨a1, a2, e2⟩ := len2 l2
    cases e2
    cases hr0 with
    | cons h1 hr1 =>
      cases hr1
      exact ⟨_, rfl, R, dx, _, rfl, hR, nm "run_below" (by decide), _, rfl, D, _, _, _, rfl, rfl, SqL.of hD, rfl, _, rfl, D, _, _, _, rfl, rfl, SqL.of hD, rfl, _, _, _, rfl, R, G, m, _, _, m', rfl, r, ok, hne, h0, h1, hm, q⟩
  rw [if_neg (not_str k2)] at hm
  have wd' : wd ∈ doneWs := by
    rcases w7 with z | z
    · exact absurd z (not_str k2)
    · exact z
  cases dg : doneG wd (t0 :: tr) with
  | false => rw [dg] at hm; cases hm
  | true =>
    rw [dg, if_pos rfl] at hm
    refine ⟨_, rfl, _, rfl, _, _, rfl, G, wd, D, _, _, rfl, rfl, r.gh, hD, .cons h0 hr0, wd', fc, dg, fun p e u G2 H2 s2' gg gh nw ep o => ?_⟩
    refine ⟨p, _, rfl, SqT.of ep, rfl, _, _, rfl, _, _, rfl, rfl, ?_⟩
    have r2 := r.more gg s2' gh nw
    obtain ⟨dx, fs, hR, nm⟩ := r2.at
    have hm' := Option.some.inj hm
    cases db : doneBy wd (t0 :: tr) with
    | val t =>
      rw [db] at o hm'
      obtain ⟨rfl, wu⟩ := o
      subst hm'
      refine ⟨_, rfl, rfl, _, rfl, ite_ff (by show (!decide (V.str "" = V.str "")) = false; rw [str_eq rfl]; rfl) ⟨_, rfl, R, dx, _, rfl, hR, nm "comes_to" (by decide), _, rfl, _, _, rfl, R, G2, m, t, rfl, r2, wu, fun H' mr => q G2 H' gg mr⟩⟩
    | stop e2 =>
      rw [db] at o hm'
      have o' : e = e2 := o
      subst o'
      subst hm'
      have en := done_stop db
      refine ⟨_, rfl, rfl, _, rfl, ite_tt (by show (!decide (V.str e = V.str "")) = true; rw [str_ne (endWs_ne en)]; rfl) ⟨_, rfl, R, dx, _, rfl, hR, nm "ends" (by decide), _, rfl, by decide, fun p9 np9 => ⟨_, _, _, rfl, R, _, m, e, _, rfl, rfl, r2.newG np9 _, ok, hne, endWs_word en, .tup upd_same .nil, fun G' H' gg2 mr => ?_⟩⟩⟩
      exact q G' H' (gg.trans ((same_new (r2.gh.free np9) _).trans gg2)) mr
end
end Fl
namespace Fl
open PySem PySem.Spec PyProof.Rows L2
section
variable {K : PySem.W.Frag} {R dx fa wa D : Addr} {vf vw : List V} {Ds : List Addr} {pq sv ov tv v0 : V} {G H : Hp} {m : Mc} {w0 : Wt} {wt : List Wt}
/-- the latest goes; its list of worths may be another then -/
theorem MrS.pop (r : MrS K R dx fa wa vf (v0 :: vw) (D :: Ds) pq sv ov tv G H m) (hm : m.wt = w0 :: wt) {H' : Hp} (hw : H' wa = some (.lst vw.reverse)) (ho : ∀ b, b ≠ wa → b ≠ D → H' b = H b) : MrS K R dx fa wa vf vw Ds pq sv ov tv G H' { m with wt := wt } := by
  have z := List.nodup_cons.mp r.nd
  have z2 := List.nodup_cons.mp z.2
  have z3 := List.nodup_cons.mp z2.2
  have rw' := r.wts
  rw [hm] at rw'
  have gD := (r.wts.lst D (.head _)).2
  cases rw' with
  | cons a1 a2 a3 a4 a5 a6 a7 a8 rest =>
  have keep : ∀ {b : Addr}, b ≠ wa → b ≠ D → H' b = H b := fun h1 h2 => ho _ h1 h2
  have fw : fa ≠ wa := fun e => z.1 (by rw [e]; exact .head _)
  have fD : fa ≠ D := fun e => z.1 (by rw [e]; exact .tail _ (.head _))
  refine ⟨by rw [keep r.wR.symm (r.DR D (.head _)).symm]; exact r.self, r.gR, by rw [keep fw fD]; exact r.hf, r.gf, r.fls, hw, r.gw, rest.same (.refl _) (fun E hE => ⟨keep (fun e => z2.1 (by rw [← e]; exact .tail _ hE)) (fun e => z3.1 (by rw [← e]; exact hE)), (rest.lst E hE).2⟩), ?_, r.part, r.sc, r.out, r.tell, ?_⟩
  · refine List.nodup_cons.mpr ⟨fun h => z.1 ?_, List.nodup_cons.mpr ⟨fun h => z2.1 (.tail _ h), z3.2⟩⟩
    rcases List.mem_cons.mp h with h | h
    · rw [h]; exact .head _
    · exact .tail _ (.tail _ h)
  · intro b u e
    rw [keep (ne_of_none e r.gw) (ne_of_none e gD)]
    exact r.gh _ _ e
/-- one more worth came to the latest -/
theorem MrS.app (r : MrS K R dx fa wa vf (v0 :: vw) (D :: Ds) pq sv ov tv G H m) (hm : m.wt = w0 :: wt) {ys : List V} (hD : H D = some (.lst ys)) {t : Th} {y : V} (hy : Wo (some (CF K)) G y t) (hl : (w0.ws ++ [t]).length < w0.parts.length) :
    MrS K R dx fa wa vf (v0 :: vw) (D :: Ds) pq sv ov tv G (upd H D (.lst (ys ++ [y]))) { m with wt := { w0 with ws := w0.ws ++ [t] } :: wt } := by
  have z := List.nodup_cons.mp r.nd
  have z2 := List.nodup_cons.mp z.2
  have z3 := List.nodup_cons.mp z2.2
  have rw' := r.wts
  rw [hm] at rw'
  have gD := (r.wts.lst D (.head _)).2
  have fD : fa ≠ D := fun e => z.1 (by rw [e]; exact .tail _ (.head _))
  have wD : wa ≠ D := fun e => z2.1 (by rw [e]; exact .head _)
  have RD := r.DR D (.head _)
  cases rw' with
  | cons a1 a2 a3 a4 a5 a6 a7 a8 rest =>
  have e5 := a5.symm.trans hD
  cases e5
  refine ⟨by rw [upd_ne RD.symm]; exact r.self, r.gR, by rw [upd_ne fD]; exact r.hf, r.gf, r.fls, by rw [upd_ne wD]; exact r.hw, r.gw, .cons (w := { w0 with ws := w0.ws ++ [t] }) a1 a2 a3 a4 upd_same (a6.app (.one hy)) a7 ⟨a8.1, hl, a8.2.2⟩ (rest.same (.refl _) fun E hE => ⟨upd_ne (fun e => z3.1 (by rw [← e]; exact hE)), (rest.lst E hE).2⟩), r.nd, r.part, r.sc, r.out, r.tell, same_upd r.gh gD⟩
end
theorem ifOn_bl {m : Mc} {parts sc : List Th} {o : Th} {b : Bool} (h : o = .bl b) : Mc.ifOn m parts sc o = m.next (if b then parts.getD 1 .non else parts.getD 2 .non) sc := by
  subst h
  rfl
theorem ifOn_no {m : Mc} {parts sc : List Th} {o : Th} (h : ∀ b, o ≠ .bl b) : Mc.ifOn m parts sc o = m.ends "kind" (.tup []) := by
  unfold Mc.ifOn
  split
  · exact absurd rfl (h _)
  · rfl
def spGoesOn (K : PySem.W.Frag) : Sp := sp2 fun s x H Q _ => ∃ R G m m' dx fa wa vf vw Ds pq sv ov tv a0, s = .ref R ∧ x = .ref a0 ∧ MrS K R dx fa wa vf (.ref a0 :: vw) Ds pq sv ov tv G H m ∧ McOk m ∧ m.fl ≠ [] ∧ m.on = some m' ∧ spM K R G m' Q
section
variable {P : Program} {w : World} {K : PySem.W.Frag} {mg : Str → Option Value} {base : Heap}
theorem mt_goes_on {L : Nat} (hL : 3 ≤ L) (F : MtP K (CR K) "goes_on" "Reckoning.goes_on" s_Reckoning_goes_on) (T : Tm K w mg) (M : Meth K (CR K) "goes_on" (He.ma K (CR K) "goes_on")) (M_next_is : Mt P w K mg base 1 (CR K) "next_is" ["self", "part", "scope"] (spNext' K)) (M_ends : Mt P w K mg base 2 (CR K) "ends" ["self", "word", "worth"] (spEnds K))
    (M_all_come : Mt P w K mg base L (CR K) "all_come" ["self", "word", "worths"] (spAllCome K)) : Mt P w K mg base (L + 1) (CR K) "goes_on" ["self", "waiting"] (spGoesOn K) := by
  refine mk_m F T.cr M sc_Reckoning_goes_on (fun _ _ _ _ _ _ us hl => match us, hl with | [_, _], _ => rfl) (fun vs H Q E h => by obtain ⟨_, _, rfl, _⟩ := h; rfl) fun cdv A outer s H vs Q E hr h => ?_
  obtain ⟨_, _, rfl, R, G, m, m', dx, fa, wa, vf, vw, Ds, pq, sv, ov, tv, a0, rfl, rfl, r, ok, hne, hm, q⟩ := h
  refine ⟨_, PSs.nox (pss_cons (ps_set (i := 2) sc_Reckoning_goes_on.nd rfl (Or.inl rfl) (pe_fld (pv 0) rfl)) (pss_one (ps_if (pt_cmpR op_eq (pe_fld (pv 1) rfl) pe_str (nomark _)) (pss_cons (ps_expr (pe_bm0 PySem.F.plainAttrs_list PySem.F.slot_list_pop PySem.F.type_list_pop mt_pop (pe_fld (pv 0) rfl))) (pss_one (ps_expr (pe_mb M_next_is hr (by omega) passL (pv 0) (pa_cons (pe_ix ix_tup (pe_fld (pv 1) rfl) pe_int (fun _ _ => rfl)) (pa_cons (pe_op op_catA (pe_tup (pa_cons (pe_tup (pa_cons (pe_ix ix_tup (pe_fld (pv 1) rfl) pe_int (fun _ _ => rfl)) (pa_cons (pv 2) pa_nil))) pa_nil)) (pe_fld (pv 1) rfl)) pa_nil)))))) (pss_one (ps_if (pt_cmpR op_eq (pe_fld (pv 1) rfl) pe_str (nomark _)) (pss_cons (ps_expr (pe_bm0 PySem.F.plainAttrs_list PySem.F.slot_list_pop PySem.F.type_list_pop mt_pop (pe_fld (pv 0) rfl))) (pss_one (ps_if (pt_val (pe_callB call_isi rfl T.z_isinstance PyProof.Rows.boot_isinstance (pa_cons (pv 2) (pa_cons (pe_bltn (v := .ty "bool") rfl T.z_bool (by decide +kernel) rfl) pa_nil)))) (pss_one (ps_expr (pe_mb M_next_is hr (by omega) passL (pv 0) (pa_cons (pe_ix ix_tup (pe_fld (pv 1) rfl) (pe_ifExp (pt_val (pv 2)) pe_int pe_int) (fun _ _ => rfl)) (pa_cons (pe_fld (pv 1) rfl) pa_nil))))) (pss_one (ps_expr (pe_mb M_ends hr (by omega) passL (pv 0) (pa_cons pe_str (pa_cons (pe_tup pa_nil) pa_nil)))))))) (pss_cons (ps_expr (pe_bm PySem.F.plainAttrs_list PySem.F.slot_list_append PySem.F.type_list_append mt_append (pe_fld (pv 1) rfl) (pa_cons (pv 2) pa_nil))) (pss_one (ps_if (pt_cmpR op_lt (pe_callB call_len_seq rfl T.z_len PySem.boot_len (pa_cons (pe_fld (pv 1) rfl) pa_nil)) (pe_callB call_len_seq rfl T.z_len PySem.boot_len (pa_cons (pe_fld (pv 1) rfl) pa_nil)) (nomark _)) (pss_one (ps_expr (pe_mb M_next_is hr (by omega) passL (pv 0) (pa_cons (pe_ix ix_tup (pe_fld (pv 1) rfl) (pe_callB call_len_seq rfl T.z_len PySem.boot_len (pa_cons (pe_fld (pv 1) rfl) pa_nil)) (fun _ _ => rfl)) (pa_cons (pe_fld (pv 1) rfl) pa_nil))))) (pss_cons (ps_expr (pe_bm0 PySem.F.plainAttrs_list PySem.F.slot_list_pop PySem.F.type_list_pop mt_pop (pe_fld (pv 0) rfl))) (pss_one (ps_expr (pe_mb M_all_come hr (by omega) passL (pv 0) (pa_cons (pe_fld (pv 1) rfl) (pa_cons (pe_fld (pv 1) rfl) pa_nil)))))))))))))), ?_⟩
  have rw' := r.wts
  generalize ew : m.wt = wts at rw'
  cases rw' with
  | cons a1 a2 a3 a4 a5 a6 a7 a8 rest =>
  rename_i dxw pa D wsv xs ys w0 Ds wt
  have ha0 := r.gh _ _ a1
  have hpa := r.gh _ _ a3
  refine ⟨_, rfl, R, _, dx, _, _, rfl, r.self, T.cr, T.r7, rfl, ?_⟩
  refine ⟨_, rfl, a0, _, dxw, _, _, rfl, ha0, T.cw, T.w1, rfl, rfl, _, rfl, ?_⟩
  unfold Mc.on at hm
  rw [ew] at hm
  replace hm : (if w0.word = "let" then (if scG w0.sc then some (Mc.next { m with wt := wt } (w0.parts.getD 2 .non) (.tup [w0.parts.getD 0 .non, m.out] :: w0.sc)) else none)
    else if w0.word = "if" then some (Mc.ifOn { m with wt := wt } w0.parts w0.sc m.out)
    else if (w0.ws ++ [m.out]).length < w0.parts.length then some (Mc.next { m with wt := { w0 with ws := w0.ws ++ [m.out] } :: wt } (w0.parts.getD (w0.ws ++ [m.out]).length .non) w0.sc)
      else Mc.all { m with wt := wt } w0.word (w0.ws ++ [m.out])) = some m' := hm
  have nw : wa ≠ D := fun e => by
    have z2 := List.nodup_cons.mp (List.nodup_cons.mp r.nd).2
    exact z2.1 (by rw [e]; exact .head _)
  have popped : MrS K R dx fa wa vf vw Ds pq sv ov tv G (upd H wa (.lst vw.reverse)) { m with wt := wt } := r.pop ew upd_same fun b b1 _ => upd_ne b1
  have lx := a4.len
  obtain ⟨o1, o2, o3, o4, o5⟩ := a8
  refine ite2 (fun k => ?_) (fun k1 => ?_)
  · have kw := of_str k
    rw [if_pos kw] at hm
    obtain ⟨l3, inm⟩ := o3 kw
    have sg : scG w0.sc = true := by
      cases z : scG w0.sc with
      | true => rfl
      | false => rw [z] at hm; cases hm
    rw [if_pos sg] at hm
    cases hm
    have lsc : w0.sc.length ≤ 100000 := Nat.le_of_ble_eq_true sg
    refine ⟨_, rfl, R, _, dx, _, _, rfl, r.self, T.cr, T.r3, rfl, .inl ⟨rfl, _, .inl (.inl r.hw)⟩, wa, _, _, rfl, rfl, r.hw, rev_last _ _, ?_⟩
    rw [rev_drop]
    have mr : Mr K R G (upd H wa (.lst vw.reverse)) { m with wt := wt } := ⟨_, _, _, _, _, _, _, _, _, _, popped⟩
    have wout : Wo (some (CF K)) G ov m.out := r.out
    generalize upd H wa (.lst vw.reverse) = H1 at mr ⊢
    obtain ⟨dx1, fs1, hR1, nm1⟩ := mr.at
    obtain ⟨t0, e0⟩ : ∃ t0, w0.parts[0]? = some t0 := ⟨_, List.getElem?_eq_getElem (show 0 < w0.parts.length by omega)⟩
    obtain ⟨x0, f0, g0⟩ := a4.getT e0
    obtain ⟨t2, e2⟩ : ∃ t2, w0.parts[2]? = some t2 := ⟨_, List.getElem?_eq_getElem (show 2 < w0.parts.length by omega)⟩
    obtain ⟨x2, f2, g2⟩ := a4.getT e2
    rw [getD_of e0] at inm
    have ha1 := mr.gh _ _ a1
    have hp1 := mr.gh _ _ a3
    obtain ⟨sa, sx, rfl, hsa, hsx, hsp, hsl⟩ := a2
    have lsx := hsx.len
    refine ⟨_, rfl, R, dx1, _, rfl, hR1, nm1 "next_is" (by decide), _, rfl, a0, _, dxw, _, _, rfl, ha1, T.cw, T.w3, rfl, pa, _, _, _, rfl, rfl, SqT.of hp1, atI_nat (j := 2) f2, ?_⟩
    refine ⟨_, rfl, a0, _, dxw, _, _, rfl, ha1, T.cw, T.w3, rfl, pa, _, _, _, rfl, rfl, SqT.of hp1, atI_nat (j := 0) f0, _, rfl, s2, fun p5 np5 => ⟨s1, fun p6 np6 => ?_⟩⟩
    have st5 := stp_new (d := 0) mr.gh np5 (.tup [x0, ov])
    have st6 := stp_new (d := 0) st5.gh np6 (.tup [.ref p5])
    refine ⟨_, rfl, a0, _, dxw, _, _, rfl, (same_new np6 _) _ _ ((same_new np5 _) _ _ ha1), T.cw, T.w2, rfl, ?_⟩
    refine rd_catG (d := 0) st6.gh upd_same ((st5.gg.trans st6.gg) _ _ hsa) (by rw [sizeLine_eq]; simp only [List.length_singleton]; omega) fun p7 G7 H7 s7 st7 e7 => ?_
    have stA := (st5.trans st6).trans st7
    have hA := (same_new np5 _).trans ((same_new np6 _).trans s7)
    have mrA := mr.more stA.gg hA stA.gh stA.nw
    refine ⟨_, _, _, rfl, R, G7, _, t2, _, rfl, mrA, g2.same stA.gg, ⟨p7, _, rfl, e7, .cons (.tup ((st6.gg.trans st7.gg) _ _ upd_same) (.cons (g0.same stA.gg) (.one (wout.same stA.gg)))) (hsx.same stA.gg), ?_, ?_⟩, fun H' mr' => ?_⟩
    · rw [List.all_cons, hsp, Bool.and_true]
      cases t0 <;> first | rfl | cases inm
    · rw [List.length_cons]
      omega
    · refine q G7 H' stA.gg ?_
      rw [getD_of e0, getD_of e2]
      exact mr'
  rw [if_neg (not_str k1)] at hm
  refine ⟨_, rfl, a0, _, dxw, _, _, rfl, ha0, T.cw, T.w1, rfl, rfl, _, rfl, ite2 (fun k => ?_) (fun k2 => ?_)⟩
  · have kw := of_str k
    rw [if_pos kw] at hm
    have l3 := o4 kw
    cases hm
    refine ⟨_, rfl, R, _, dx, _, _, rfl, r.self, T.cr, T.r3, rfl, .inl ⟨rfl, _, .inl (.inl r.hw)⟩, wa, _, _, rfl, rfl, r.hw, rev_last _ _, ?_⟩
    rw [rev_drop]
    have mr : Mr K R G (upd H wa (.lst vw.reverse)) { m with wt := wt } := ⟨_, _, _, _, _, _, _, _, _, _, popped⟩
    have wout : Wo (some (CF K)) G ov m.out := r.out
    generalize upd H wa (.lst vw.reverse) = H1 at mr ⊢
    obtain ⟨dx1, fs1, hR1, nm1⟩ := mr.at
    obtain ⟨t1, e1⟩ : ∃ t1, w0.parts[1]? = some t1 := ⟨_, List.getElem?_eq_getElem (show 1 < w0.parts.length by omega)⟩
    obtain ⟨x1, f1, g1⟩ := a4.getT e1
    obtain ⟨t2, e2⟩ : ∃ t2, w0.parts[2]? = some t2 := ⟨_, List.getElem?_eq_getElem (show 2 < w0.parts.length by omega)⟩
    obtain ⟨x2, f2, g2⟩ := a4.getT e2
    have ha1 := mr.gh _ _ a1
    have hp1 := mr.gh _ _ a3
    obtain ⟨u2, y2, k2'⟩ := wk_bool (K := K) (M := some (CF K)) T.kf mr.gh wout
    refine ⟨_, rfl, _, _, u2, _, _, rfl, .ty _, y2, k2', _, rfl, ?_⟩
    generalize em : m.out = mo at wout k2'
    cases wout with
    | bl b =>
      cases b with
      | true =>
        refine iteT ⟨_, rfl, R, dx1, _, rfl, hR1, nm1 "next_is" (by decide), _, rfl, a0, _, dxw, _, _, rfl, ha1, T.cw, T.w3, rfl, _, rfl, _, rfl, iteT ⟨pa, _, _, _, rfl, rfl, SqT.of hp1, atI_nat (j := 1) f1, _, rfl, a0, _, dxw, _, _, rfl, ha1, T.cw, T.w2, rfl, _, _, _, rfl, R, G, _, t1, w0.sc, rfl, mr, g1, a2, fun H' mr' => q G H' (.refl _) ?_⟩⟩
        rw [ifOn_bl em, if_pos rfl, getD_of e1]
        exact mr'
      | false =>
        refine iteT ⟨_, rfl, R, dx1, _, rfl, hR1, nm1 "next_is" (by decide), _, rfl, a0, _, dxw, _, _, rfl, ha1, T.cw, T.w3, rfl, _, rfl, _, rfl, iteF ⟨pa, _, _, _, rfl, rfl, SqT.of hp1, atI_nat (j := 2) f2, _, rfl, a0, _, dxw, _, _, rfl, ha1, T.cw, T.w2, rfl, _, _, _, rfl, R, G, _, t2, w0.sc, rfl, mr, g2, a2, fun H' mr' => q G H' (.refl _) ?_⟩⟩
        rw [ifOn_bl em, if_neg (by decide), getD_of e2]
        exact mr'
    | int _ _ => exact iteF ⟨_, rfl, R, dx1, _, rfl, hR1, nm1 "ends" (by decide), by decide, fun p np => ⟨_, _, _, rfl, R, _, _, "kind", _, rfl, rfl, mr.newG np _, ok, hne, by decide +kernel, .tup upd_same .nil, fun G' H' gg mr' => q G' H' ((same_new (mr.gh.free np) _).trans gg) (by rw [ifOn_no fun b z => by rw [em] at z; cases z]; exact mr')⟩⟩
    | str _ _ => exact iteF ⟨_, rfl, R, dx1, _, rfl, hR1, nm1 "ends" (by decide), by decide, fun p np => ⟨_, _, _, rfl, R, _, _, "kind", _, rfl, rfl, mr.newG np _, ok, hne, by decide +kernel, .tup upd_same .nil, fun G' H' gg mr' => q G' H' ((same_new (mr.gh.free np) _).trans gg) (by rw [ifOn_no fun b z => by rw [em] at z; cases z]; exact mr')⟩⟩
    | tup _ _ => exact iteF ⟨_, rfl, R, dx1, _, rfl, hR1, nm1 "ends" (by decide), by decide, fun p np => ⟨_, _, _, rfl, R, _, _, "kind", _, rfl, rfl, mr.newG np _, ok, hne, by decide +kernel, .tup upd_same .nil, fun G' H' gg mr' => q G' H' ((same_new (mr.gh.free np) _).trans gg) (by rw [ifOn_no fun b z => by rw [em] at z; cases z]; exact mr')⟩⟩
    | fn _ => exact iteF ⟨_, rfl, R, dx1, _, rfl, hR1, nm1 "ends" (by decide), by decide, fun p np => ⟨_, _, _, rfl, R, _, _, "kind", _, rfl, rfl, mr.newG np _, ok, hne, by decide +kernel, .tup upd_same .nil, fun G' H' gg mr' => q G' H' ((same_new (mr.gh.free np) _).trans gg) (by rw [ifOn_no fun b z => by rw [em] at z; cases z]; exact mr')⟩⟩
    | rcf _ => exact iteF ⟨_, rfl, R, dx1, _, rfl, hR1, nm1 "ends" (by decide), by decide, fun p np => ⟨_, _, _, rfl, R, _, _, "kind", _, rfl, rfl, mr.newG np _, ok, hne, by decide +kernel, .tup upd_same .nil, fun G' H' gg mr' => q G' H' ((same_new (mr.gh.free np) _).trans gg) (by rw [ifOn_no fun b z => by rw [em] at z; cases z]; exact mr')⟩⟩
  rw [if_neg (not_str k2)] at hm
  have wout : Wo (some (CF K)) G ov m.out := r.out
  refine ⟨_, rfl, a0, _, dxw, _, _, rfl, ha0, T.cw, T.w4, rfl, .inl ⟨rfl, _, .inl (.inl a5)⟩, _, rfl, D, _, _, rfl, rfl, a5, ?_, ?_⟩
  · have := a6.len
    rw [sizeLine_eq]
    omega
  have gD := a7
  have aD : ∀ {b : Addr} {o : HO}, G b = some o → (upd H D (.lst (ys ++ [ov]))) b = some o := fun e => same_upd r.gh gD _ _ e
  have eD : (upd H D (.lst (ys ++ [ov]))) D = some (.lst (ys ++ [ov])) := upd_same
  have lys := a6.len
  refine ⟨_, rfl, a0, _, dxw, _, _, rfl, aD a1, T.cw, T.w4, rfl, D, _, rfl, .inl (SqL.of eD), _, rfl, a0, _, dxw, _, _, rfl, aD a1, T.cw, T.w3, rfl, pa, _, rfl, .inr (SqT.of (aD a3)), _, _, rfl, rfl, _, rfl, ite2 (fun c => ?_) (fun c => ?_)⟩
  · have c' : (w0.ws ++ [m.out]).length < w0.parts.length := by
      have z := of_decide_eq_true c
      rw [List.length_append, List.length_singleton] at z ⊢
      omega
    rw [if_pos c'] at hm
    cases hm
    have mr : Mr K R G (upd H D (.lst (ys ++ [ov]))) { m with wt := { w0 with ws := w0.ws ++ [m.out] } :: wt } := ⟨_, _, _, _, _, _, _, _, _, _, r.app ew a5 wout c'⟩
    obtain ⟨t1, e1⟩ : ∃ t1, w0.parts[(w0.ws ++ [m.out]).length]? = some t1 := ⟨_, List.getElem?_eq_getElem c'⟩
    obtain ⟨x1, f1, g1⟩ := a4.getT e1
    have lq : (ys ++ [ov]).length = (w0.ws ++ [m.out]).length := by
      rw [List.length_append, List.length_append, lys]
      rfl
    obtain ⟨dx1, fs1, hR1, nm1⟩ := mr.at
    refine ⟨_, rfl, R, dx1, _, rfl, hR1, nm1 "next_is" (by decide), _, rfl, a0, _, dxw, _, _, rfl, aD a1, T.cw, T.w3, rfl, _, rfl, a0, _, dxw, _, _, rfl, aD a1, T.cw, T.w4, rfl, D, _, rfl, .inl (SqL.of eD), pa, _, _, _, rfl, rfl, SqT.of (aD a3), by rw [lq]; exact atI_nat f1, ?_⟩
    refine ⟨_, rfl, a0, _, dxw, _, _, rfl, aD a1, T.cw, T.w2, rfl, _, _, _, rfl, R, G, _, t1, w0.sc, rfl, mr, g1, a2, fun H' mr' => q G H' (.refl _) ?_⟩
    rw [getD_of e1]
    exact mr'
  · have c' : ¬ (w0.ws ++ [m.out]).length < w0.parts.length := fun z => c (decide_eq_true (by rw [List.length_append, List.length_singleton] at z ⊢; omega))
    rw [if_neg c'] at hm
    have hwa : (upd H D (.lst (ys ++ [ov]))) wa = some (.lst (V.ref a0 :: vw).reverse) := by
      rw [upd_ne nw]
      exact r.hw
    have rR := r.DR D (.head _)
    have hself : (upd H D (.lst (ys ++ [ov]))) R = some (.ins (CR K) dx (reF (.int m.n) (.ref fa) (.ref wa) pq sv (.bl m.done) ov tv)) := by
      rw [upd_ne rR.symm]
      exact r.self
    refine ⟨_, rfl, R, _, dx, _, _, rfl, hself, T.cr, T.r3, rfl, .inl ⟨rfl, _, .inl (.inl hwa)⟩, wa, _, _, rfl, rfl, hwa, rev_last _ _, ?_⟩
    rw [rev_drop]
    have mr : Mr K R G (upd (upd H D (.lst (ys ++ [ov]))) wa (.lst vw.reverse)) { m with wt := wt } := ⟨_, _, _, _, _, _, _, _, _, _, r.pop ew upd_same fun b b1 b2 => by rw [upd_ne b1, upd_ne b2]⟩
    have eD2 : (upd (upd H D (.lst (ys ++ [ov]))) wa (.lst vw.reverse)) D = some (.lst (ys ++ [ov])) := by
      rw [upd_ne nw.symm]
      exact eD
    generalize upd (upd H D (.lst (ys ++ [ov]))) wa (.lst vw.reverse) = H2 at mr eD2 ⊢
    obtain ⟨dx1, fs1, hR1, nm1⟩ := mr.at
    have ha1 := mr.gh _ _ a1
    refine ⟨_, rfl, R, dx1, _, rfl, hR1, nm1 "all_come" (by decide), _, rfl, a0, _, dxw, _, _, rfl, ha1, T.cw, T.w1, rfl, _, rfl, a0, _, dxw, _, _, rfl, ha1, T.cw, T.w4, rfl, _, _, _, rfl, R, G, _, w0.word, D, _, _, m', rfl, rfl, rfl, mr, ok, hne, eD2, a6.app (.one wout), by simp, fun nc => ?_, hm, q⟩
    obtain ⟨z1, z2⟩ := o5 (not_str k1) (not_str k2) nc
    refine ⟨z1, ?_⟩
    rw [z2]
    congr 1
    rw [List.length_append, List.length_singleton] at c' ⊢
    omega
end
end Fl
/-! the machine's steps stay within the bounds -/
namespace Fl
open PySem PySem.Spec PyProof.Rows L2
def Kp (m m' : Mc) : Prop := m'.n = m.n ∧ (m'.fl = m.fl ∨ (∃ y, m.fl = y :: m'.fl) ∨ ∃ k y r c, 0 ≤ k ∧ m.fl = y :: r ∧ m'.fl = (m.n, min (m.n + k) y.2.1, c) :: m.fl)
theorem Kp.same {m m' : Mc} (h1 : m'.n = m.n) (h2 : m'.fl = m.fl) : Kp m m' := ⟨h1, .inl h2⟩
theorem Kp.from {m m1 m' : Mc} (h1 : m1.n = m.n) (h2 : m1.fl = m.fl) (k : Kp m1 m') : Kp m m' := ⟨by rw [k.1, h1], by
  have z := k.2
  rw [h1, h2] at z
  exact z⟩
def McSo (m : Mc) : Prop := m.fl.Pairwise fun a b => a.2.1 ≤ b.2.1
theorem kp_ends (m : Mc) (e : Str) (t : Th) : Kp m (m.ends e t) := by
  unfold Mc.ends
  split
  · exact .same rfl rfl
  · rename_i h
    exact ⟨rfl, .inr (.inl ⟨_, h⟩)⟩
  · rename_i h
    exact ⟨rfl, .inr (.inl ⟨_, h⟩)⟩
theorem kp_call {m m' : Mc} {ws : List Th} (h : m.call ws = some m') : Kp m m' := by
  unfold Mc.call at h
  split at h
  · split at h
    · split at h
      · cases h
      · split at h
        · split at h
          · cases h; exact .same rfl rfl
          · cases h
        · cases h; exact kp_ends _ _ _
    · cases h
    · cases h; exact kp_ends _ _ _
  · cases h; exact kp_ends _ _ _
theorem kp_below {m m' : Mc} {p l : Th} (hne : m.fl ≠ []) (h : m.below p l = some m') : Kp m m' := by
  unfold Mc.below at h
  split at h
  · split at h
    · split at h
      · cases h
        rename_i k c _
        cases e : m.fl with
        | nil => exact absurd e hne
        | cons y r => exact ⟨rfl, .inr (.inr ⟨k, y, r, m.wt.length, c.1, e, by simp [e]⟩)⟩
      · cases h
    · cases h; exact kp_ends _ _ _
  · cases h; exact kp_ends _ _ _
theorem kp_all {m m' : Mc} {w : Str} {ws : List Th} (hne : m.fl ≠ []) (h : m.all w ws = some m') : Kp m m' := by
  unfold Mc.all at h
  split at h
  · exact kp_call h
  split at h
  · exact kp_below hne h
  split at h
  · cases h
    split
    · exact .same rfl rfl
    · exact kp_ends _ _ _
  · cases h
theorem kp_ifOn (m : Mc) (ps sc : List Th) (o : Th) : Kp m (m.ifOn ps sc o) := by
  unfold Mc.ifOn
  split
  · exact .same rfl rfl
  · exact kp_ends _ _ _
theorem kp_on {m m' : Mc} (hne : m.fl ≠ []) (h : m.on = some m') : Kp m m' := by
  unfold Mc.on at h
  split at h
  · cases h
  split at h
  · split at h
    · cases h; exact .same rfl rfl
    · cases h
  split at h
  · cases h
    exact .from rfl rfl (kp_ifOn _ _ _ _)
  split at h
  · cases h; exact .same rfl rfl
  · rename_i w r _ _ _ _
    exact .from (m1 := { m with wt := r }) rfl rfl (kp_all hne h)
theorem kp_wait {m m' : Mc} {w : Str} {ps : List Th} {p : Th} (h : m.wait w ps p = some m') : Kp m m' := by
  obtain ⟨_, rfl⟩ := wait_some h
  exact .same rfl rfl
theorem kp_form {m m' : Mc} {w : Str} {r : List Th} (h : m.form w r = some m') : Kp m m' := by
  unfold Mc.form at h
  split at h
  · cases h; exact .same rfl rfl
  split at h
  · cases h; exact .same rfl rfl
  split at h
  · cases h; exact .same rfl rfl
  split at h
  · exact kp_wait h
  · exact kp_wait h
theorem kp_begin {m m' : Mc} (h : m.begin = some m') : Kp m m' := by
  unfold Mc.begin at h
  split at h
  · cases h
    unfold Mc.word
    split
    · exact kp_ends _ _ _
    · split
      · exact .same rfl rfl
      · exact kp_ends _ _ _
  · unfold Mc.row at h
    split at h
    · cases h
    split at h
    · split at h
      · split at h
        · cases h
        split at h
        · cases h; exact kp_ends _ _ _
        · exact kp_form h
      · exact kp_wait h
    · exact kp_wait h
  · cases h; exact .same rfl rfl
theorem Kp.ok {m m' : Mc} (k : Kp m m') (h : McOk m) (s : McSo m) : McOk m' ∧ McSo m' := by
  obtain ⟨h1, h2, h3⟩ := h
  obtain ⟨k1, k2⟩ := k
  unfold McOk McSo at *
  rw [k1]
  rcases k2 with z | ⟨y, e⟩ | ⟨j, y, r, c, j0, e, e1⟩
  · rw [z]
    exact ⟨⟨h1, h2, h3⟩, s⟩
  · rw [e] at h3 s
    exact ⟨⟨h1, h2, fun x hx => h3 x (.tail _ hx)⟩, (List.pairwise_cons.mp s).2⟩
  · rw [e1]
    have hy := h3 y (by rw [e]; exact .head _)
    refine ⟨⟨h1, h2, fun x hx => ?_⟩, List.pairwise_cons.mpr ⟨fun x hx => ?_, s⟩⟩
    · rcases List.mem_cons.mp hx with rfl | hx
      · simp only
        rw [Int.min_def]
        refine ⟨h1, Int.le_refl _, ?_, ?_⟩ <;> split <;> omega
      · exact h3 x hx
    · simp only
      have z : y.2.1 ≤ x.2.1 := by
        rw [e] at hx s
        rcases List.mem_cons.mp hx with rfl | hx
        · exact Int.le_refl _
        · exact (List.pairwise_cons.mp s).1 x hx
      rw [Int.min_def]
      split <;> omega
theorem ok_go {m m' : Mc} (hg : m.go = some m') (h : McOk m) (s : McSo m) : McOk m' ∧ McSo m' := by
  unfold Mc.go at hg
  split at hg
  · cases hg
  · rename_i b lim many fl e
    have hne : m.fl ≠ [] := by rw [e]; exact fun z => nomatch z
    split at hg
    · split at hg
      · cases hg
        exact (kp_ends _ _ _).ok h s
      · exact (kp_on hne hg).ok h s
    · split at hg
      · cases hg
        exact (kp_ends _ _ _).ok h s
      · rename_i c
        refine (kp_begin hg).ok ?_ s
        obtain ⟨h1, h2, h3⟩ := h
        have z := h3 (b, lim, many) (by rw [e]; exact .head _)
        simp only at z
        refine ⟨by show 0 ≤ m.n + 1; omega, ?_, fun x hx => ?_⟩
        · show m.n + 1 ≤ 100000
          omega
        · have y := h3 x hx
          show 0 ≤ x.1 ∧ x.1 ≤ m.n + 1 ∧ m.n + 1 ≤ x.2.1 ∧ x.2.1 ≤ 100000
          have l : lim ≤ x.2.1 := by
            unfold McSo at s
            have hx' : x ∈ m.fl := hx
            rw [e] at hx' s
            rcases List.mem_cons.mp hx' with rfl | hx'
            · exact Int.le_refl _
            · exact (List.pairwise_cons.mp s).1 x hx'
          omega
theorem ok_go1 {m : Mc} {b lim : Int} {many : Nat} {fl : List (Int × Int × Nat)} (h : McOk m) (s : McSo m) (e : m.fl = (b, lim, many) :: fl) (c : m.n ≠ lim) : McOk { m with n := m.n + 1 } := by
  obtain ⟨h1, h2, h3⟩ := h
  have z := h3 (b, lim, many) (by rw [e]; exact .head _)
  simp only at z
  refine ⟨by show 0 ≤ m.n + 1; omega, ?_, fun x hx => ?_⟩
  · show m.n + 1 ≤ 100000
    omega
  · have y := h3 x hx
    show 0 ≤ x.1 ∧ x.1 ≤ m.n + 1 ∧ m.n + 1 ≤ x.2.1 ∧ x.2.1 ≤ 100000
    have l : lim ≤ x.2.1 := by
      unfold McSo at s
      have hx' : x ∈ m.fl := hx
      rw [e] at hx' s
      rcases List.mem_cons.mp hx' with rfl | hx'
      · exact Int.le_refl _
      · exact (List.pairwise_cons.mp s).1 x hx'
    omega
end Fl
namespace Fl
open PySem PySem.Spec PyProof.Rows L2
abbrev s_leaf_told : Stmt := top 17
theorem sc_leaf_told : FnScope ["worth"] ["worth"] (defScope s_leaf_told) := ⟨rfl, rfl, rfl, by decide +kernel, rfl, by decide +kernel, by decide +kernel⟩
abbrev s_told : Stmt := top 18
theorem sc_told : FnScope ["worth", "pile", "row", "done", "part"] ["worth"] (defScope s_told) := ⟨rfl, rfl, rfl, by decide +kernel, rfl, by decide +kernel, by decide +kernel⟩
mutual
def Th.told : Th → Th
  | .fn _ => .str "function"
  | .tup l => .tup (Th.tolds l)
  | .non => .non
  | .bl b => .bl b
  | .int i => .int i
  | .str x => .str x
  | .oth => .oth
def Th.tolds : List Th → List Th
  | [] => []
  | t :: r => t.told :: Th.tolds r
end
theorem tolds_app (a b : List Th) : Th.tolds (a ++ b) = Th.tolds a ++ Th.tolds b := by
  induction a with
  | nil => rfl
  | cons t r ih => rw [List.cons_append, Th.tolds, Th.tolds, ih, List.cons_append]
theorem tolds_len (a : List Th) : (Th.tolds a).length = a.length := by
  induction a with
  | nil => rfl
  | cons t r ih => rw [Th.tolds, List.length_cons, List.length_cons, ih]
theorem wordB_function : wordB "function" = true := by decide +kernel
mutual
theorem told_worth : ∀ t : Th, t.worth true = true → t.told.worth false = true
  | .non, h => by cases h
  | .oth, h => by cases h
  | .bl _, _ => rfl
  | .int i, h => h
  | .str x, h => h
  | .fn _, _ => wordB_function
  | .tup l, h => by
    rw [Th.told, Th.worth]
    exact tolds_worth l (by simpa [Th.worth] using h)
theorem tolds_worth : ∀ l : List Th, Th.worths true l = true → Th.worths false (Th.tolds l) = true
  | [], _ => rfl
  | t :: r, h => by
    rw [Th.worths, Bool.and_eq_true] at h
    rw [Th.tolds, Th.worths, told_worth t h.1, tolds_worth r h.2]
    rfl
end
mutual
theorem told_plain : ∀ t : Th, t.worth false = true → t.told = t
  | .non, h => by cases h
  | .oth, h => by cases h
  | .bl _, _ => rfl
  | .int i, h => rfl
  | .str x, h => rfl
  | .fn _, h => by cases h
  | .tup l, h => by
    rw [Th.told, tolds_plain l (by simpa [Th.worth] using h)]
theorem tolds_plain : ∀ l : List Th, Th.worths false l = true → Th.tolds l = l
  | [], _ => rfl
  | t :: r, h => by
    rw [Th.worths, Bool.and_eq_true] at h
    rw [Th.tolds, told_plain t h.1, tolds_plain r h.2]
end
mutual
theorem told_nodes : ∀ t : Th, t.told.nodes = t.nodes
  | .non => rfl
  | .oth => rfl
  | .bl _ => rfl
  | .int i => rfl
  | .str x => rfl
  | .fn _ => rfl
  | .tup l => by rw [Th.told, Th.nodes, Th.nodes, tolds_nodes l]
theorem tolds_nodes : ∀ l : List Th, Th.nodesL (Th.tolds l) = Th.nodesL l
  | [] => rfl
  | t :: r => by rw [Th.tolds, Th.nodesL, Th.nodesL, told_nodes t, tolds_nodes r]
end
mutual
theorem told_depth : ∀ t : Th, t.told.depth = t.depth
  | .non => rfl
  | .oth => rfl
  | .bl _ => rfl
  | .int i => rfl
  | .str x => rfl
  | .fn _ => rfl
  | .tup l => by rw [Th.told, Th.depth, Th.depth, tolds_depth l]
theorem tolds_depth : ∀ l : List Th, Th.depthL (Th.tolds l) = Th.depthL l
  | [] => rfl
  | t :: r => by rw [Th.tolds, Th.depthL, Th.depthL, told_depth t, tolds_depth r]
end
structure Tt (K : PySem.W.Frag) (mg : Str → Option Value) : Prop where
  kf : Kf K (He.ga K "Function")
  g_Function : mg "Function" = some (.ref (He.ga K "Function"))
  z_isinstance : mg "isinstance" = none
  z_tuple : mg "tuple" = none
  z_len : mg "len" = none
def spLeafTold (K : PySem.W.Frag) : Sp := sp1 fun v H Q _ => ∃ t, Is (CF K) H v t ∧ t.isTup = false ∧ ∀ u, Is (CF K) H u t.told → Q u H
def spTold (K : PySem.W.Frag) : Sp := sp1 fun v H Q E => ∃ t, Is (CF K) H v t ∧ t.nodes ≤ 1000000 ∧ (t.worth true = true → ∀ u H', Same H H' → Is (CF K) H' u t.told → Q u H') ∧ (t.worth true = false → ∀ H', Same H H' → E (.ref (He.ga K "BadWorth")) none H')
/-! ### the pile of frames, the top first -/
structure Frm where
  T : Addr
  D : Addr
  ts : List Th
  ds : List V
  us : List Th
structure FrOk (C : Addr) (H0 H : Hp) (f : Frm) : Prop where
  row : ∃ a xs, H f.T = some (.tup [.ref a, .ref f.D]) ∧ H0 a = some (.tup xs) ∧ Iss C H0 xs f.ts
  dn : H f.D = some (.lst f.ds)
  iss : Iss C H f.ds f.us
  us : f.us = Th.tolds (f.ts.take f.us.length)
  le : f.us.length ≤ f.ts.length
  ws : Th.worths true f.ts = true
  nd : Th.nodesL f.ts ≤ 1000000
def Lnk (t0 : Th) : List Frm → Prop
  | [] => True
  | [f] => .tup f.ts = t0
  | f :: g :: r => g.ts[g.us.length]? = some (.tup f.ts) ∧ Lnk t0 (g :: r)
def MeaB : List Frm → Nat
  | [] => 0
  | f :: r => 2 * Th.nodesL (f.ts.drop (f.us.length + 1)) + 1 + MeaB r
def Mea : List Frm → Nat
  | [] => 0
  | f :: r => 2 * Th.nodesL (f.ts.drop f.us.length) + 1 + MeaB r
theorem meaB_len : ∀ fs : List Frm, fs.length ≤ MeaB fs
  | [] => Nat.le_refl _
  | f :: r => by
    have := meaB_len r
    rw [MeaB, List.length_cons]
    omega
theorem mea_len : ∀ fs : List Frm, fs.length ≤ Mea fs
  | [] => Nat.le_refl _
  | f :: r => by
    have := meaB_len r
    rw [Mea, List.length_cons]
    omega
def pileOf (fs : List Frm) : List V := (fs.map fun f => V.ref f.T).reverse
theorem FrOk.keep {C : Addr} {H0 H H' : Hp} {f : Frm} (o : FrOk C H0 H f) (im : Im H H') (hD : H' f.D = some (.lst f.ds)) : FrOk C H0 H' f := by
  obtain ⟨⟨a, xs, h1, h2, h3⟩, h4, h5, h6, h7, h8, h9⟩ := o
  refine ⟨⟨a, xs, im.1 _ _ h1, h2, h3⟩, hD, h5.im im ?_, h6, h7, h8, h9⟩
  rw [h6]
  refine worths_up (tolds_worth _ ?_)
  have z := List.take_append_drop f.us.length f.ts
  rw [← z, worths_app, Bool.and_eq_true] at h8
  exact h8.1
theorem atI_last {α : Type} (xs : List α) (y : α) : atI (xs ++ [y]) (-1) = some y := by
  have e : ((-1 : Int) + ((xs ++ [y]).length : Nat)).toNat = xs.length := by
    rw [List.length_append, List.length_singleton]
    omega
  unfold atI ixN
  rw [if_neg (by decide), if_pos (by rw [List.length_append, List.length_singleton]; omega)]
  show (xs ++ [y])[((-1 : Int) + ((xs ++ [y]).length : Nat)).toNat]? = some y
  rw [e]
  simp
theorem atI_rev {α : Type} (xs : List α) (y : α) : atI (y :: xs).reverse (-1) = some y := by
  rw [List.reverse_cons]
  exact atI_last _ _
theorem drop_cons {α : Type} : ∀ {l : List α} {i : Nat} {x : α}, l[i]? = some x → l.drop i = x :: l.drop (i + 1)
  | [], i, x, h => by simp at h
  | a :: l, 0, x, h => by
    have e : a = x := Option.some.inj h
    rw [e]
    rfl
  | a :: l, i + 1, x, h => drop_cons (l := l) (i := i) h
theorem pile_cons (f : Frm) (r : List Frm) : pileOf (f :: r) = pileOf r ++ [V.ref f.T] := by
  unfold pileOf
  rw [List.map_cons, List.reverse_cons]
theorem pile_len (r : List Frm) : (pileOf r).length = r.length := by
  unfold pileOf
  rw [List.length_reverse, List.length_map]
theorem lnk_top {t : Th} {f f' : Frm} {r : List Frm} (h : Lnk t (f :: r)) (e : f'.ts = f.ts) : Lnk t (f' :: r) := by
  cases r with
  | nil =>
    rw [Lnk] at h ⊢
    rw [e]
    exact h
  | cons g r =>
    rw [Lnk] at h ⊢
    rw [e]
    exact h
theorem fr_us {f : Frm} {t : Th} (h : f.us = Th.tolds (f.ts.take f.us.length)) (e : f.ts[f.us.length]? = some t) : f.us ++ [t.told] = Th.tolds (f.ts.take (f.us ++ [t.told]).length) := by
  rw [List.length_append, List.length_singleton, take_snoc e, tolds_app, ← h]
  rfl
def ToldW (C : Addr) (H : Hp) (v : V) (p : Addr) (t : Th) : Nat → L2.St → Hp → Prop := fun m σ H1 =>
  ∃ (f : Frm) (r : List Frm) (o2 o3 o4 : Option V), σ = [some v, some (.ref p), o2, o3, o4] ∧ Same H H1 ∧ H1 p = some (.lst (pileOf (f :: r))) ∧ (∀ g ∈ f :: r, FrOk C H H1 g) ∧ Lnk t (f :: r) ∧ (p :: (f :: r).map Frm.D).Nodup ∧ (∀ g ∈ f :: r, H g.D = none) ∧ m = Mea (f :: r) ∧ m ≤ 2 * t.nodes
section
variable {P : Program} {w : World} {K : PySem.W.Frag} {mg : Str → Option Value} {base : Heap}
theorem ok_leaf_told (F : FnP K mg "leaf_told" s_leaf_told) (T : Tt K mg) : Cl P w K mg base 1 "leaf_told" ["worth"] (spLeafTold K) := by
  refine cl_1 F sc_leaf_told (fun _ _ _ _ _ _ us hl => match us, hl with | [_], _ => rfl) fun cdv A outer s H v Q E hr h => ?_
  obtain ⟨t, h, nt, q⟩ := h
  refine ⟨_, PSs.nox (pss_one (ps_ret (pe_ifExp (pt_val (pe_callB call_isi rfl T.z_isinstance PyProof.Rows.boot_isinstance (pa_cons (pv 0) (pa_cons (pe_glob (v := .ref (He.ga K "Function")) rfl T.g_Function rfl) pa_nil)))) pe_str (pv 0)))), ?_⟩
  obtain ⟨u2, y2, k2⟩ := is_fn T.kf h
  refine ⟨_, rfl, _, _, u2, _, _, rfl, .own _, y2, k2, _, rfl, ?_⟩
  cases h with
  | tup ht hts => cases nt
  | fn ha => exact iteT (q _ (.str _ (by decide)))
  | bl c => exact iteF ⟨_, rfl, q _ (.bl c)⟩
  | int i => exact iteF ⟨_, rfl, q _ (.int i)⟩
  | str x hxl => exact iteF ⟨_, rfl, q _ (.str x hxl)⟩
  | non => exact iteF ⟨_, rfl, q _ .non⟩
  | lst ha => exact iteF ⟨_, rfl, q _ (.lst ha)⟩
  | dct ha => exact iteF ⟨_, rfl, q _ (.dct ha)⟩
theorem ok_told (F : FnP K mg "told" s_told) (T : Tt K mg) (B_need_worth : Cl P w K mg base 4 "need_worth" ["thing"] (spNeed K true)) (B_leaf_told : Cl P w K mg base 1 "leaf_told" ["worth"] (spLeafTold K)) : Cl P w K mg base 5 "told" ["worth"] (spTold K) := by
  refine cl_1 F sc_told (fun _ _ _ _ _ _ us hl => match us, hl with | [_], _ => rfl) fun cdv A outer s H v Q E hr h => ?_
  obtain ⟨t, h, hn, q, qe⟩ := h
  refine ⟨_, (pss_cons (ps_expr (pe_bS B_need_worth hr (by omega) rfl (fun σ => passAt (takes_of rfl rfl rfl rfl) σ) (pa_cons (pv 0) pa_nil))) (pss_cons (ps_if (pt_not (pt_val (pe_callB call_isi rfl T.z_isinstance PyProof.Rows.boot_isinstance (pa_cons (pv 0) (pa_cons (pe_bltn (v := .ty "tuple") rfl T.z_tuple (by decide +kernel) rfl) pa_nil))))) (pss_one (ps_ret (pe_b B_leaf_told hr (by omega) rfl passL (pa_cons (pv 0) pa_nil)))) pss_nil) (pss_cons (ps_set (i := 1) sc_told.nd rfl (Or.inl rfl) (pe_lst (pa_cons (pe_tup (pa_cons (pv 0) (pa_cons (pe_lst pa_nil) pa_nil))) pa_nil))) (pss_one (ps_while (passes_of rfl) (pt_val pe_bl) (pss_cons (ps_asg (pe_ix ix_list (pv 1) (pe_un un_neg pe_int) (fun _ _ => rfl)) (pg_tup rfl (pgs_cons (pg_name (i := 2) sc_told.nd rfl (Or.inl rfl)) (pgs_cons (pg_name (i := 3) sc_told.nd rfl (Or.inl rfl)) pgs_nil)))) (pss_one (ps_if (pt_cmpR op_lt (pe_callB call_len_seq rfl T.z_len PySem.boot_len (pa_cons (pv 3) pa_nil)) (pe_callB call_len_seq rfl T.z_len PySem.boot_len (pa_cons (pv 2) pa_nil)) (nomark _)) (pss_cons (ps_set (i := 4) sc_told.nd rfl (Or.inl rfl) (pe_ix ix_tup (pv 2) (pe_callB call_len_seq rfl T.z_len PySem.boot_len (pa_cons (pv 3) pa_nil)) (fun _ _ => rfl))) (pss_one (ps_if (pt_val (pe_callB call_isi rfl T.z_isinstance PyProof.Rows.boot_isinstance (pa_cons (pv 4) (pa_cons (pe_bltn (v := .ty "tuple") rfl T.z_tuple (by decide +kernel) rfl) pa_nil)))) (pss_one (ps_expr (pe_bm PySem.F.plainAttrs_list PySem.F.slot_list_append PySem.F.type_list_append mt_append (pv 1) (pa_cons (pe_tup (pa_cons (pv 4) (pa_cons (pe_lst pa_nil) pa_nil))) pa_nil)))) (pss_one (ps_expr (pe_bm PySem.F.plainAttrs_list PySem.F.slot_list_append PySem.F.type_list_append mt_append (pv 3) (pa_cons (pe_b B_leaf_told hr (by omega) rfl passL (pa_cons (pv 4) pa_nil)) pa_nil))))))) (pss_cons (ps_expr (pe_bm0 PySem.F.plainAttrs_list PySem.F.slot_list_pop PySem.F.type_list_pop mt_pop (pv 1))) (pss_cons (ps_if (pt_cmpR (op_eqNil hr.units0) (pv 1) (pe_lst pa_nil) (nomark _)) (pss_one (ps_ret (pe_tupleOf rfl T.z_tuple (pv 3)))) pss_nil) (pss_one (ps_expr (pe_bm PySem.F.plainAttrs_list PySem.F.slot_list_append PySem.F.type_list_append mt_append (pe_ix ix_tup (pe_ix ix_list (pv 1) (pe_un un_neg pe_int) (fun _ _ => rfl)) pe_int (fun _ _ => rfl)) (pa_cons (pe_tupleOf rfl T.z_tuple (pv 3)) pa_nil)))))))))))))), ?_⟩
  refine ⟨_, rfl, _, rfl, t, h, hn, fun hw H1 sm1 => ?_, qe⟩
  have h1 := h.same sm1
  replace q := q hw
  obtain ⟨u1, y1, k1⟩ := is_tup T.kf h1
  refine ⟨_, rfl, _, _, u1, _, _, rfl, .ty _, y1, k1, _, rfl, ?_⟩
  cases et : t.isTup with
  | false =>
    refine iteT ⟨_, rfl, _, rfl, t, h1, et, fun u hu => q u _ sm1 hu⟩
  | true =>
    cases h1 with
    | tup ht hts =>
      rename_i a zs l
      have hwl : Th.worths true l = true := by simpa [Th.worth] using hw
      refine ⟨_, rfl, (by show 0 ≤ sizeLine; decide), fun D nD => ⟨s2, fun T0 nT => ⟨s1, fun p np => ?_⟩⟩⟩
      have nT' := (same_new nD _).free nT
      have np' := (same_new nD _).free ((same_new nT _).free np)
      have sm2 := (same_new nD (.lst [])).trans ((same_new nT (.tup [.ref a, .ref D])).trans (same_new np (.lst [.ref T0])))
      have dD : p ≠ D := fun e => by
        have z := (same_new nT (.tup [.ref a, .ref D])) D _ upd_same
        rw [e, z] at np
        cases np
      refine ⟨ToldW (CF K) H1 (.ref a) p (.tup l), ⟨_, ⟨T0, D, l, [], []⟩, [], none, none, none, rfl, sm2, upd_same, fun g hg => ?_, rfl, ?_, fun g hg => ?_, rfl, ?_⟩, ?_⟩
      · rw [List.mem_singleton] at hg
        subst hg
        exact ⟨⟨a, zs, (same_new np _) _ _ upd_same, ht, hts⟩, (same_new np _) _ _ ((same_new nT _) _ _ upd_same), .nil, rfl, Nat.zero_le _, hwl, by simp only [Th.nodes] at hn; show Th.nodesL l ≤ 1000000; omega⟩
      · simp only [List.map_cons, List.map_nil, List.nodup_cons, List.mem_singleton, List.not_mem_nil, not_false_eq_true, List.nodup_nil, and_true]
        exact dD
      · rw [List.mem_singleton] at hg
        subst hg
        exact nD
      · simp only [Mea, MeaB, Th.nodes, List.drop_zero, List.length_nil]
        omega
      rintro m σ H2 ⟨f, r, o2, o3, o4, rfl, r1, r2, r3, r4, r5, r6, rfl, r7⟩
      have fo := r3 f (List.mem_cons_self ..)
      obtain ⟨⟨b, xs, g1, g2, g3⟩, g4, g5, g6, g7, g8, g9⟩ := fo
      have dl := g5.len
      have hlx := g3.len
      have tsl := len_nodesL f.ts
      have ml := mea_len (f :: r)
      have pl := pile_len (f :: r)
      have nodP : ∀ g ∈ f :: r, g.D ≠ p := fun g hg e => by
        have := (List.nodup_cons.mp r5).1
        exact this (by rw [← e]; exact List.mem_map_of_mem hg)
      have np2 : H1 p = none := np'
      refine ⟨_, rfl, iteT ⟨_, fun σ' H' z => z, ?_⟩⟩
      refine ⟨_, rfl, _, rfl, p, _, _, _, rfl, rfl, SqL.of r2, atI_rev _ _, f.T, [.ref b, .ref f.D], rfl, SqT.of g1, rfl, _, _, rfl, _, _, rfl, rfl, ?_⟩
      refine ⟨_, rfl, f.D, _, rfl, .inl (SqL.of g4), _, rfl, b, xs, rfl, .inr (SqT.of (r1 _ _ g2)), _, _, rfl, rfl, _, rfl, ite2 (fun c => ?_) (fun c => ?_)⟩
      · have c' : f.ds.length < xs.length := by
          have := of_decide_eq_true c
          omega
        obtain ⟨x, hx⟩ : ∃ x, xs[f.ds.length]? = some x := ⟨_, List.getElem?_eq_getElem c'⟩
        obtain ⟨t1, ht1, hx1⟩ := g3.get hx
        rw [dl] at ht1
        have dc := drop_cons ht1
        have hx2 := hx1.same r1
        obtain ⟨u3, y3, k3⟩ := is_tup T.kf hx2
        have w1 := worth_mem (List.mem_of_getElem? ht1) g8
        have n1 := nodes_mem (List.mem_of_getElem? ht1)
        refine ⟨_, rfl, _, rfl, f.D, _, rfl, .inl (SqL.of g4), b, xs, _, _, rfl, rfl, SqT.of (r1 _ _ g2), atI_nat hx, ?_⟩
        refine ⟨_, rfl, _, _, u3, _, _, rfl, .ty _, y3, k3, _, rfl, ?_⟩
        have leaf : t1.isTup = false → ∀ u, Is (CF K) H2 u t1.told → ∃ m', m' < Mea (f :: r) ∧ ToldW (CF K) H1 (.ref a) p (.tup l) m' [some (.ref a), some (.ref p), some (.ref b), some (.ref f.D), some x] (upd H2 f.D (.lst (f.ds ++ [u]))) := fun nt u hu => by
          have im := im_lst (ys := f.ds ++ [u]) g4
          refine ⟨_, ?_, { f with ds := f.ds ++ [u], us := f.us ++ [t1.told] }, r, _, _, _, rfl, same_mut r1 (r6 f (List.mem_cons_self ..)), ?_, ?_, lnk_top r4 rfl, r5, ?_, rfl, ?_⟩
          · rw [Mea, Mea, dc, Th.nodesL]
            simp only [List.length_append, List.length_singleton]
            have := t1.nodes_pos
            omega
          · rw [upd_ne (nodP f (List.mem_cons_self ..)).symm]
            exact r2
          · intro g hg
            rcases List.mem_cons.mp hg with e | hg
            · subst e
              refine ⟨⟨b, xs, im.1 _ _ g1, g2, g3⟩, upd_same, (g5.im im ?_).app (.one (hu.im im (worth_up (told_worth _ w1)))), fr_us g6 ht1, ?_, g8, g9⟩
              · rw [g6]
                refine worths_up (tolds_worth _ ?_)
                have z := List.take_append_drop f.us.length f.ts
                rw [← z, worths_app, Bool.and_eq_true] at g8
                exact g8.1
              · have := (List.getElem?_eq_some_iff.mp ht1).1
                rw [List.length_append, List.length_singleton]
                exact this
            · have o := r3 g (List.mem_cons_of_mem _ hg)
              refine o.keep im ?_
              rw [upd_ne ?_]
              · exact o.dn
              · intro e
                have z := (List.nodup_cons.mp (List.nodup_cons.mp r5).2).1
                exact z (by rw [← e]; exact List.mem_map_of_mem hg)
          · intro g hg
            rcases List.mem_cons.mp hg with e | hg
            · subst e
              exact r6 f (List.mem_cons_self ..)
            · exact r6 g (List.mem_cons_of_mem _ hg)
          · refine Nat.le_trans ?_ r7
            rw [Mea, Mea, dc, Th.nodesL]
            simp only [List.length_append, List.length_singleton]
            omega
        cases hx1 with
        | tup ht2 hts2 =>
          rename_i q2 zs2 l2
          refine iteT ?_
          refine ⟨_, rfl, .inl ⟨rfl, _, .inl (.inl r2)⟩, _, rfl, (by show 0 ≤ sizeLine; decide), fun D2 nD2 => ⟨s2, fun T2 nT2 => ⟨p, _, _, rfl, rfl, ?_, by rw [pl, sizeLine_eq]; omega, ?_⟩⟩⟩
          · exact (same_new nT2 _) _ _ ((same_new nD2 _) _ _ r2)
          have sm3 := (same_new nD2 (.lst [])).trans (same_new nT2 (.tup [.ref q2, .ref D2]))
          have ep := sm3 _ _ r2
          have eD := (same_new nT2 (.tup [.ref q2, .ref D2])) D2 _ upd_same
          have pD2 : D2 ≠ p := (ne_of_none r2 nD2).symm
          have im := (im_same sm3).trans (im_lst (ys := pileOf (f :: r) ++ [.ref T2]) ep)
          have old : ∀ g ∈ f :: r, g.D ≠ D2 := fun g hg => ne_of_none (r3 g hg).dn nD2
          refine ⟨_, ?_, ⟨T2, D2, l2, [], []⟩, f :: r, _, _, _, rfl, same_mut (r1.trans sm3) np2, ?_, ?_, ⟨ht1, r4⟩, ?_, ?_, rfl, ?_⟩
          · rw [Mea, Mea, MeaB, dc, Th.nodesL, Th.nodes]
            simp only [List.length_nil, List.drop_zero]
            omega
          · rw [upd_same, pile_cons ⟨T2, D2, l2, [], []⟩ (f :: r)]
          · intro g hg
            rcases List.mem_cons.mp hg with e | hg
            · subst e
              refine ⟨⟨q2, zs2, (im_lst (ys := pileOf (f :: r) ++ [.ref T2]) ep).1 _ _ upd_same, ht2, hts2⟩, ?_, .nil, rfl, Nat.zero_le _, ?_, ?_⟩
              · rw [upd_ne pD2]
                exact eD
              · simpa [Th.worth] using w1
              · simp only [Th.nodes] at n1
                show Th.nodesL l2 ≤ 1000000
                omega
            · have o := r3 g hg
              refine o.keep im ?_
              rw [upd_ne (nodP g hg)]
              exact sm3 _ _ o.dn
          · rw [List.map_cons]
            have z := List.nodup_cons.mp r5
            refine List.nodup_cons.mpr ⟨?_, List.nodup_cons.mpr ⟨?_, z.2⟩⟩
            · intro hm
              rcases List.mem_cons.mp hm with e | hm
              · exact pD2 e.symm
              · exact z.1 hm
            · intro hm
              obtain ⟨g, hg, e⟩ := List.mem_map.mp hm
              exact old g hg e
          · intro g hg
            rcases List.mem_cons.mp hg with e | hg
            · subst e
              exact r1.free nD2
            · exact r6 g hg
          · refine Nat.le_trans ?_ r7
            rw [Mea, Mea, MeaB, dc, Th.nodesL, Th.nodes]
            simp only [List.length_nil, List.drop_zero]
            omega
        | fn ha => exact iteF ⟨_, rfl, .inl ⟨rfl, _, .inl (.inl g4)⟩, _, rfl, _, rfl, _, hx2, rfl, fun u hu => ⟨f.D, f.ds, u, rfl, rfl, g4, by rw [sizeLine_eq]; omega, leaf rfl u hu⟩⟩
        | bl c => exact iteF ⟨_, rfl, .inl ⟨rfl, _, .inl (.inl g4)⟩, _, rfl, _, rfl, _, hx2, rfl, fun u hu => ⟨f.D, f.ds, u, rfl, rfl, g4, by rw [sizeLine_eq]; omega, leaf rfl u hu⟩⟩
        | int i => exact iteF ⟨_, rfl, .inl ⟨rfl, _, .inl (.inl g4)⟩, _, rfl, _, rfl, _, hx2, rfl, fun u hu => ⟨f.D, f.ds, u, rfl, rfl, g4, by rw [sizeLine_eq]; omega, leaf rfl u hu⟩⟩
        | str x hxl => exact iteF ⟨_, rfl, .inl ⟨rfl, _, .inl (.inl g4)⟩, _, rfl, _, rfl, _, hx2, rfl, fun u hu => ⟨f.D, f.ds, u, rfl, rfl, g4, by rw [sizeLine_eq]; omega, leaf rfl u hu⟩⟩
        | non => cases w1
        | lst ha => cases w1
        | dct ha => cases w1
      · have c' : f.us.length = f.ts.length := by
          have z : ¬ ((f.ds.length : Nat) : Int) < ((xs.length : Nat) : Int) := fun e => c (decide_eq_true e)
          omega
        have e6 : f.us = Th.tolds f.ts := by
          rw [g6, c', List.take_length]
        have lastp : (pileOf (f :: r))[(pileOf (f :: r)).length - 1]? = some (V.ref f.T) := by
          rw [pile_cons, List.length_append, List.length_singleton, Nat.add_sub_cancel, List.getElem?_append_right (Nat.le_refl _), Nat.sub_self]
          rfl
        refine ⟨_, rfl, .inl ⟨rfl, _, .inl (.inl r2)⟩, p, _, _, rfl, rfl, r2, lastp, ?_⟩
        rw [pile_cons, List.dropLast_concat]
        have im := im_lst (ys := pileOf r) r2
        have r1' : Same H1 (upd H2 p (.lst (pileOf r))) := same_mut r1 np2
        have ep : upd H2 p (.lst (pileOf r)) p = some (.lst (pileOf r)) := upd_same
        have fr' : ∀ g ∈ f :: r, FrOk (CF K) H1 (upd H2 p (.lst (pileOf r))) g := fun g hg => (r3 g hg).keep im (by rw [upd_ne (nodP g hg)]; exact (r3 g hg).dn)
        generalize upd H2 p (.lst (pileOf r)) = H3 at r1' ep fr' ⊢
        refine ⟨_, rfl, (by show 0 ≤ sizeLine; decide), fun d nd => ⟨p, d, pileOf r, rfl, rfl, SqL.of ((same_new nd _) _ _ ep), SqL.of upd_same, _, rfl, ?_⟩⟩
        have snd := same_new nd (.lst [])
        have fo' := fr' f (List.mem_cons_self ..)
        cases r with
        | nil =>
          refine iteT ⟨_, rfl, .inl ⟨f.D, _, rfl, SqL.of (snd _ _ fo'.dn), fun q5 n5 => ?_⟩⟩
          have e7 : Th.tup f.ts = Th.tup l := r4
          have e8 : (Th.tup l).told = .tup f.us := by
            rw [← e7, Th.told, e6]
          refine q _ _ (sm1.trans (r1'.trans (snd.trans (same_new n5 _)))) ?_
          rw [e8]
          exact .tup upd_same ((fo'.iss.same snd).same (same_new n5 _))
        | cons g r' =>
          have go := fr' g (List.mem_cons_of_mem _ (List.mem_cons_self ..))
          obtain ⟨⟨b2, xs2, k1', k2', k3'⟩, k4, k5, k6, k7, k8, k9⟩ := go
          have l1 : g.ts[g.us.length]? = some (.tup f.ts) := r4.1
          have dc := drop_cons l1
          have ng : (pileOf (g :: r')).isEmpty = false := by
            rw [pile_cons]
            cases pileOf r' <;> rfl
          have ml2 := meaB_len (g :: r')
          rw [show (pileOf (g :: r')).isEmpty = false from ng]
          refine iteF ⟨_, rfl, _, rfl, p, _, _, _, rfl, rfl, SqL.of (snd _ _ ep), atI_rev _ _, g.T, [.ref b2, .ref g.D], _, _, rfl, rfl, SqT.of (snd _ _ k1'), rfl, .inl ⟨rfl, _, .inl (.inl (snd _ _ k4))⟩, _, rfl, .inl ⟨f.D, _, rfl, SqL.of (snd _ _ fo'.dn), fun q5 n5 => ?_⟩⟩
          have s5 := snd.trans (same_new n5 (.tup f.ds))
          have g4' := s5 _ _ k4
          have tsl2 := len_nodesL g.ts
          have dl2 := k5.len
          refine ⟨g.D, g.ds, _, rfl, rfl, g4', by rw [sizeLine_eq]; omega, ?_⟩
          have im5 := (im_same s5).trans (im_lst (ys := g.ds ++ [.ref q5]) g4')
          have new : Is (CF K) (upd (upd H3 d (.lst [])) q5 (.tup f.ds)) (.ref q5) (.tup f.us) := .tup upd_same ((fo'.iss.same snd).same (same_new n5 _))
          have et2 : (Th.tup f.ts).told = .tup f.us := by rw [Th.told, e6]
          have w2 := worth_mem (List.mem_of_getElem? l1) k8
          have hgr : ∀ x ∈ g :: r', x ∈ f :: g :: r' := fun x hx => List.mem_cons_of_mem _ hx
          refine ⟨_, ?_, { g with ds := g.ds ++ [.ref q5], us := g.us ++ [(Th.tup f.ts).told] }, r', _, _, _, rfl, same_mut (r1'.trans s5) (r6 g (hgr g (List.mem_cons_self ..))), ?_, ?_, lnk_top r4.2 rfl, ?_, ?_, rfl, ?_⟩
          · rw [Mea, Mea, MeaB]
            simp only [List.length_append, List.length_singleton]
            omega
          · rw [upd_ne (nodP g (hgr g (List.mem_cons_self ..))).symm]
            exact s5 _ _ ep
          · intro g2 hg2
            rcases List.mem_cons.mp hg2 with e | hg2
            · subst e
              refine ⟨⟨b2, xs2, im5.1 _ _ k1', k2', k3'⟩, upd_same, (k5.im im5 ?_).app (.one ?_), fr_us k6 l1, ?_, k8, k9⟩
              · rw [k6]
                refine worths_up (tolds_worth _ ?_)
                have z := List.take_append_drop g.us.length g.ts
                rw [← z, worths_app, Bool.and_eq_true] at k8
                exact k8.1
              · rw [et2]
                refine new.im (im_lst (ys := g.ds ++ [.ref q5]) g4') ?_
                rw [← et2]
                exact worth_up (told_worth _ w2)
              · have := (List.getElem?_eq_some_iff.mp l1).1
                rw [List.length_append, List.length_singleton]
                exact this
            · have o := fr' g2 (hgr g2 (List.mem_cons_of_mem _ hg2))
              refine o.keep im5 ?_
              rw [upd_ne ?_]
              · exact s5 _ _ o.dn
              · intro e
                have z := (List.nodup_cons.mp (List.nodup_cons.mp (List.nodup_cons.mp r5).2).2).1
                exact z (by rw [← e]; exact List.mem_map_of_mem hg2)
          · have z := List.nodup_cons.mp r5
            have z2 := List.nodup_cons.mp z.2
            exact List.nodup_cons.mpr ⟨fun hm => z.1 (List.mem_cons_of_mem _ hm), z2.2⟩
          · intro g2 hg2
            rcases List.mem_cons.mp hg2 with e | hg2
            · subst e
              exact r6 g (hgr g (List.mem_cons_self ..))
            · exact r6 g2 (hgr g2 (List.mem_cons_of_mem _ hg2))
          · refine Nat.le_trans ?_ r7
            rw [Mea, Mea, MeaB]
            simp only [List.length_append, List.length_singleton]
            omega
    | non => cases et
    | bl _ => cases et
    | int _ => cases et
    | str _ _ => cases et
    | fn _ => cases et
    | lst _ => cases et
    | dct _ => cases et
end
end Fl
namespace Fl
open PySem PySem.Spec PyProof.Rows L2
abbrev s_run : Stmt := top 31
theorem sc_run : FnScope ["program", "limit", "reckoning"] ["program", "limit"] (defScope s_run) := ⟨rfl, rfl, rfl, by decide +kernel, rfl, by decide +kernel, by decide +kernel⟩
abbrev s_run_told : Stmt := top 32
theorem sc_run_told : FnScope ["program", "limit", "end", "worth", "steps"] ["program", "limit"] (defScope s_run_told) := ⟨rfl, rfl, rfl, by decide +kernel, rfl, by decide +kernel, by decide +kernel⟩
def spGo (K : PySem.W.Frag) : Sp := sp1 fun s H Q _ => ∃ R G m m', s = .ref R ∧ Mr K R G H m ∧ McOk m ∧ McSo m ∧ m.go = some m' ∧ spM K R G m' Q
def spRInit (K : PySem.W.Frag) : Sp := fun vs H Q _ => ∃ (x dx : Addr) (p : V) (lim : Int) (G : Hp) (t : Th), vs = [.ref x, p, .int lim] ∧ H x = some (.ins (CR K) dx []) ∧ Same G H ∧ G x = none ∧ Wo (some (CF K)) G p t ∧ ∀ G' H', Same G G' → Mr K x G' H' (begin0 t lim) → Q .non H'
section
variable {P : Program} {w : World} {K : PySem.W.Frag} {mg : Str → Option Value} {base : Heap}
theorem mt_go {L : Nat} (hL : 5 ≤ L) (F : MtP K (CR K) "go" "Reckoning.go" s_Reckoning_go) (T : Tm K w mg) (M : Meth K (CR K) "go" (He.ma K (CR K) "go")) (M_ends : Mt P w K mg base 2 (CR K) "ends" ["self", "word", "worth"] (spEnds K))
    (M_goes_on : Mt P w K mg base L (CR K) "goes_on" ["self", "waiting"] (spGoesOn K)) (M_begins : Mt P w K mg base 5 (CR K) "begins" ["self", "part", "scope"] (spBegins K)) : Mt P w K mg base (L + 1) (CR K) "go" ["self"] (spGo K) := by
  refine mk_m F T.cr M sc_Reckoning_go (fun _ _ _ _ _ _ us hl => match us, hl with | [_], _ => rfl) (fun vs H Q E h => by obtain ⟨_, rfl, _⟩ := h; rfl) fun cdv A outer s H vs Q E hr h => ?_
  obtain ⟨_, rfl, R, G, m, m', rfl, ⟨dx, fa, wa, vf, vw, Ds, pq, sv, ov, tv, r⟩, ok, so, hm, q⟩ := h
  refine ⟨_, PSs.nox (pss_one (ps_if (pt_val (pe_fld (pv 0) rfl)) (pss_one (ps_if (pt_cmpR op_eq (pe_callB call_len_seq rfl T.z_len PySem.boot_len (pa_cons (pe_fld (pv 0) rfl) pa_nil)) (pe_ix ix_tup (pe_ix ix_list (pe_fld (pv 0) rfl) (pe_un un_neg pe_int) (fun _ _ => rfl)) pe_int (fun _ _ => rfl)) (nomark _)) (pss_one (ps_expr (pe_mb M_ends hr (by omega) passL (pv 0) (pa_cons pe_str (pa_cons (pe_fld (pv 0) rfl) pa_nil))))) (pss_one (ps_expr (pe_mb M_goes_on hr (by omega) passL (pv 0) (pa_cons (pe_ix ix_list (pe_fld (pv 0) rfl) (pe_un un_neg pe_int) (fun _ _ => rfl)) pa_nil)))))) (pss_one (ps_if (pt_cmpR op_eq (pe_fld (pv 0) rfl) (pe_ix ix_tup (pe_ix ix_list (pe_fld (pv 0) rfl) (pe_un un_neg pe_int) (fun _ _ => rfl)) pe_int (fun _ _ => rfl)) (nomark _)) (pss_one (ps_expr (pe_mb M_ends hr (by omega) passL (pv 0) (pa_cons pe_str (pa_cons (pe_tup pa_nil) pa_nil))))) (pss_cons (ps_fldaug (pv 0) pe_int in_add) (pss_one (ps_expr (pe_mb M_begins hr (by omega) passL (pv 0) (pa_cons (pe_fld (pv 0) rfl) (pa_cons (pe_fld (pv 0) rfl) pa_nil)))))))))), ?_⟩
  have mr : Mr K R G H m := ⟨dx, fa, wa, vf, vw, Ds, pq, sv, ov, tv, r⟩
  obtain ⟨dx1, fs1, hR1, nm1⟩ := mr.at
  have rf := r.fls
  unfold Mc.go at hm
  generalize efl : m.fl = fl at rf hm
  cases rf with
  | nil => cases hm
  | cons ha hfl =>
  rename_i af b lim many vf1 fl1
  have hne : m.fl ≠ [] := by rw [efl]; exact fun z => nomatch z
  have hfa := r.hf
  have e1 : atI (V.ref af :: vf1).reverse (-1) = some (.ref af) := atI_neg (by simp) (rev_last _ _)
  have haf := r.gh _ _ ha
  have ll := r.wts.len
  simp only at hm
  refine ⟨_, rfl, R, _, dx, _, _, rfl, r.self, T.cr, T.r6, rfl, _, rfl, ?_⟩
  cases ed : m.done with
  | true =>
    rw [ed, if_pos rfl] at hm
    refine iteT ⟨_, rfl, R, _, dx, _, _, rfl, r.self, T.cr, T.r3, rfl, wa, _, rfl, .inl (SqL.of r.hw), _, rfl, R, _, dx, _, _, rfl, r.self, T.cr, T.r2, rfl, _, rfl, fa, _, _, _, rfl, rfl, SqL.of hfa, e1, af, _, _, _, rfl, rfl, SqT.of haf, rfl, rfl, _, rfl, ite2 (fun c => ?_) (fun c => ?_)⟩
    · have c' : m.wt.length = many := by
        have z := of_decide_eq_true c
        injection z with z
        rw [List.length_reverse] at z
        omega
      rw [if_pos c'] at hm
      cases hm
      exact ⟨_, rfl, R, dx1, _, rfl, hR1, nm1 "ends" (by decide), _, rfl, R, _, dx, _, _, rfl, r.self, T.cr, T.r7, rfl, _, _, _, rfl, R, G, m, "over", m.out, rfl, rfl, mr, ok, hne, by decide +kernel, r.out, q⟩
    · have c' : ¬ m.wt.length = many := fun z => c (decide_eq_true (by rw [List.length_reverse]; congr 1; omega))
      rw [if_neg c'] at hm
      cases vw with
      | nil =>
        have z : m.wt = [] := List.length_eq_zero_iff.mp (by have := ll.1; simpa using this.symm)
        unfold Mc.on at hm
        rw [z] at hm
        cases hm
      | cons v0 vw =>
        have rw' := r.wts
        generalize m.wt = wts at rw'
        cases rw' with
        | cons b1 b2 b3 b4 b5 b6 b7 b8 b9 =>
        refine ⟨_, rfl, R, dx1, _, rfl, hR1, nm1 "goes_on" (by decide), _, rfl, R, _, dx, _, _, rfl, r.self, T.cr, T.r3, rfl, _, rfl, wa, _, _, _, rfl, rfl, SqL.of r.hw, atI_neg (by simp) (rev_last _ _), _, _, rfl, R, G, m, m', dx, fa, wa, _, vw, _, pq, sv, ov, tv, _, rfl, rfl, r, ok, hne, hm, q⟩
  | false =>
    rw [ed, if_neg (by decide)] at hm
    refine iteF ⟨_, rfl, R, _, dx, _, _, rfl, r.self, T.cr, T.r1, rfl, _, rfl, R, _, dx, _, _, rfl, r.self, T.cr, T.r2, rfl, _, rfl, fa, _, _, _, rfl, rfl, SqL.of hfa, e1, af, _, _, _, rfl, rfl, SqT.of haf, rfl, rfl, _, rfl, ite2 (fun c => ?_) (fun c => ?_)⟩
    · have c' : m.n = lim := by
        have z := of_decide_eq_true c
        injection z
      rw [if_pos c'] at hm
      cases hm
      refine ⟨_, rfl, R, dx1, _, rfl, hR1, nm1 "ends" (by decide), by decide, fun p np => ⟨_, _, _, rfl, R, _, m, "steps", _, rfl, rfl, mr.newG np _, ok, hne, by decide +kernel, .tup upd_same .nil, fun G' H' gg mr' => ?_⟩⟩
      exact q G' H' ((same_new (r.gh.free np) _).trans gg) mr'
    · have c' : ¬ m.n = lim := fun z => c (decide_eq_true (by rw [z]))
      rw [if_neg c'] at hm
      refine ⟨_, rfl, R, _, dx, _, _, rfl, r.self, T.cr, T.r1, rfl, _, _, rfl, rfl, dx, _, r.self, lr, ?_⟩
      have r1 := r.fld (m' := { m with n := m.n + 1 }) rfl rfl r.part r.sc r.out r.tell
      have mr1 : Mr K R G _ { m with n := m.n + 1 } := ⟨dx, fa, wa, _, vw, Ds, pq, sv, ov, tv, r1⟩
      obtain ⟨dx2, fs2, hR2, nm2⟩ := mr1.at
      refine ⟨_, rfl, R, dx2, _, rfl, hR2, nm2 "begins" (by decide), _, rfl, R, _, dx, _, _, rfl, r1.self, T.cr, T.r4, rfl, _, rfl, R, _, dx, _, _, rfl, r1.self, T.cr, T.r5, rfl, _, _, _, rfl, R, G, { m with n := m.n + 1 }, m', rfl, mr1, ok_go1 ok so efl c', hne, r.part, r.sc, by rw [efl, ed]; exact hm, q⟩
theorem nw_Reckoning (F : MtP K (CR K) "__init__" "Reckoning.__init__" s_Reckoning___init__) (T : Tm K w mg) (M : Mk K (CR K) (He.ma K (CR K) "__init__")) (g : mg "Reckoning" = some (.ref (CR K))) : Nw P w K mg base 1 "Reckoning" (CR K) ["self", "program", "limit"] (spRInit K) := by
  obtain ⟨fd, h1, h2⟩ := mt_mk (P := P) (w := w) (mg := mg) (base := base) (k := 0) (sp := spRInit K) F sc_Reckoning___init__ (fun _ _ _ _ _ _ us hl => match us, hl with | [_, _, _], _ => rfl) (fun vs H Q E h => by obtain ⟨_, _, _, _, _, _, rfl, _⟩ := h; rfl) fun cdv A outer s H vs Q E hr h => by
    obtain ⟨x, dx, p, lim, G, t, rfl, hx, g0, gx, hp, q⟩ := h
    refine ⟨_, PSs.nox (pss_cons (ps_fld (pv 0) pe_int rfl) (pss_cons (ps_fld (pv 0) (pe_lst (pa_cons (pe_tup (pa_cons pe_int (pa_cons (pv 2) (pa_cons pe_int pa_nil)))) pa_nil)) rfl) (pss_cons (ps_fld (pv 0) (pe_lst pa_nil) rfl) (pss_cons (ps_fld (pv 0) (pv 1) rfl) (pss_cons (ps_fld (pv 0) (pe_tup pa_nil) rfl) (pss_cons (ps_fld (pv 0) pe_bl rfl) (pss_cons (ps_fld (pv 0) (pe_tup pa_nil) rfl) (pss_one (ps_fld (pv 0) pe_non rfl))))))))), ?_⟩
    refine ⟨_, rfl, x, _, dx, _, rfl, hx, T.cr, T.r1, (by show 0 < 1000; decide), ?_⟩
    have g1 : Same G (upd H x (.ins (CR K) dx (putF "so_far" (.int 0) []))) := same_upd g0 gx
    have x1 : (upd H x (.ins (CR K) dx (putF "so_far" (.int 0) []))) x = some (.ins (CR K) dx (putF "so_far" (.int 0) [])) := upd_same
    generalize upd H x (.ins (CR K) dx (putF "so_far" (.int 0) [])) = H1 at g1 x1 ⊢
    refine ⟨_, rfl, s3, fun p1 np1 => ⟨s1, fun fa nfa => ?_⟩⟩
    have st2 := stp_new (d := 0) g1 np1 (.tup [.int 0, .int lim, .int 0])
    have gx2 : (upd G p1 (.tup [.int 0, .int lim, .int 0])) x = none := st2.nw _ gx (by rw [x1]; exact fun z => nomatch z)
    have e1 : (upd G p1 (.tup [.int 0, .int lim, .int 0])) p1 = some (.tup [.int 0, .int lim, .int ((0 : Nat) : Int)]) := upd_same
    have x2 := (same_new np1 (.tup [.int 0, .int lim, .int 0])) _ _ x1
    have g2 := st2.gh
    have gg2 := st2.gg
    generalize upd H1 p1 (.tup [.int 0, .int lim, .int 0]) = H2 at st2 x2 g2 nfa ⊢
    generalize upd G p1 (.tup [.int 0, .int lim, .int 0]) = G2 at st2 gx2 e1 g2 gg2
    have gfa := g2.free nfa
    have x3 := (same_new nfa (.lst [.ref p1])) _ _ x2
    have f3 : (upd H2 fa (.lst [.ref p1])) fa = some (.lst [.ref p1]) := upd_same
    have g3 := g2.trans (same_new nfa (.lst [.ref p1]))
    generalize upd H2 fa (.lst [.ref p1]) = H3 at x3 f3 g3 ⊢
    have fx : fa ≠ x := ne_of f3 x3 (by intro z; cases z)
    refine ⟨_, rfl, x, _, dx, _, rfl, x3, T.cr, T.r2, (by show 1 < 1000; decide), ?_⟩
    have x4 : (upd H3 x (.ins (CR K) dx (putF "floor_rows" (.ref fa) (putF "so_far" (.int 0) [])))) x = some (.ins (CR K) dx (putF "floor_rows" (.ref fa) (putF "so_far" (.int 0) []))) := upd_same
    have f4 : (upd H3 x (.ins (CR K) dx (putF "floor_rows" (.ref fa) (putF "so_far" (.int 0) [])))) fa = some (.lst [.ref p1]) := by rw [upd_ne fx]; exact f3
    have g4 : Same G2 (upd H3 x (.ins (CR K) dx (putF "floor_rows" (.ref fa) (putF "so_far" (.int 0) [])))) := same_upd g3 gx2
    generalize upd H3 x (.ins (CR K) dx (putF "floor_rows" (.ref fa) (putF "so_far" (.int 0) []))) = H4 at x4 f4 g4 ⊢
    refine ⟨by decide, fun wa nwa => ?_⟩
    have gwa := g4.free nwa
    have x5 := (same_new nwa (.lst [])) _ _ x4
    have f5 := (same_new nwa (.lst [])) _ _ f4
    have w5 : (upd H4 wa (.lst [])) wa = some (.lst []) := upd_same
    have g5 := g4.trans (same_new nwa (.lst []))
    have fw : fa ≠ wa := ne_of_none f4 nwa
    generalize upd H4 wa (.lst []) = H5 at x5 f5 w5 g5 ⊢
    have wx : wa ≠ x := ne_of w5 x5 (by intro z; cases z)
    refine ⟨_, rfl, x, _, dx, _, rfl, x5, T.cr, T.r3, (by show 2 < 1000; decide), ?_⟩
    refine ⟨_, rfl, _, rfl, x, _, dx, _, rfl, upd_same, T.cr, T.r4, (by show 3 < 1000; decide), ?_⟩
    rw [upd_upd]
    have f6 : ∀ o, (upd H5 x o) fa = some (.lst [.ref p1]) := fun o => by rw [upd_ne fx]; exact f5
    have w6 : ∀ o, (upd H5 x o) wa = some (.lst []) := fun o => by rw [upd_ne wx]; exact w5
    have g6 : ∀ o, Same G2 (upd H5 x o) := fun o => same_upd g5 gx2
    generalize eo : (HO.ins (CR K) dx (putF "part" p (putF "waits" (.ref wa) (putF "floor_rows" (.ref fa) (putF "so_far" (.int 0) []))))) = o6
    have x6 : (upd H5 x o6) x = some o6 := upd_same
    replace f6 := f6 o6
    replace w6 := w6 o6
    replace g6 := g6 o6
    generalize upd H5 x o6 = H6 at x6 f6 w6 g6 ⊢
    subst eo
    refine ⟨by decide, fun p2 np2 => ?_⟩
    have st7 := stp_new (d := 0) g6 np2 (.tup [])
    have x7 := (same_new np2 (.tup [])) _ _ x6
    have f7 := (same_new np2 (.tup [])) _ _ f6
    have w7 := (same_new np2 (.tup [])) _ _ w6
    have gx7 := st7.nw _ gx2 (by rw [x6]; exact fun z => nomatch z)
    have gf7 := st7.nw _ gfa (by rw [f6]; exact fun z => nomatch z)
    have gw7 := st7.nw _ gwa (by rw [w6]; exact fun z => nomatch z)
    have p7 : (upd G2 p2 (.tup [])) p2 = some (.tup []) := upd_same
    have g7 := st7.gh
    have gg7 := gg2.trans st7.gg
    have e7 := st7.gg _ _ e1
    generalize upd H6 p2 (.tup []) = H7 at x7 f7 w7 g7 st7 ⊢
    generalize upd G2 p2 (.tup []) = G7 at gx7 gf7 gw7 p7 g7 gg7 e7 st7
    refine ⟨_, rfl, x, _, dx, _, rfl, x7, T.cr, T.r5, (by show 4 < 1000; decide), ?_⟩
    refine ⟨_, rfl, x, _, dx, _, rfl, upd_same, T.cr, T.r6, (by show 5 < 1000; decide), ?_⟩
    rw [upd_upd]
    have f8 : ∀ o, (upd H7 x o) fa = some (.lst [.ref p1]) := fun o => by rw [upd_ne fx]; exact f7
    have w8 : ∀ o, (upd H7 x o) wa = some (.lst []) := fun o => by rw [upd_ne wx]; exact w7
    have g8 : ∀ o, Same G7 (upd H7 x o) := fun o => same_upd g7 gx7
    generalize eo : (HO.ins (CR K) dx (putF "is_done" (.bl false) (putF "around" (.ref p2) (putF "part" p (putF "waits" (.ref wa) (putF "floor_rows" (.ref fa) (putF "so_far" (.int 0) []))))))) = o8
    have x8 : (upd H7 x o8) x = some o8 := upd_same
    replace f8 := f8 o8
    replace w8 := w8 o8
    replace g8 := g8 o8
    generalize upd H7 x o8 = H8 at x8 f8 w8 g8 ⊢
    subst eo
    refine ⟨by decide, fun p3 np3 => ?_⟩
    have st9 := stp_new (d := 0) g8 np3 (.tup [])
    have x9 := (same_new np3 (.tup [])) _ _ x8
    have f9 := (same_new np3 (.tup [])) _ _ f8
    have w9 := (same_new np3 (.tup [])) _ _ w8
    have gx9 := st9.nw _ gx7 (by rw [x8]; exact fun z => nomatch z)
    have gf9 := st9.nw _ gf7 (by rw [f8]; exact fun z => nomatch z)
    have gw9 := st9.nw _ gw7 (by rw [w8]; exact fun z => nomatch z)
    have p9 : (upd G7 p3 (.tup [])) p3 = some (.tup []) := upd_same
    have p79 := st9.gg _ _ p7
    have g9 := st9.gh
    have gg9 := gg7.trans st9.gg
    have e9 := st9.gg _ _ e7
    generalize upd H8 p3 (.tup []) = H9 at x9 f9 w9 g9 st9 ⊢
    generalize upd G7 p3 (.tup []) = G9 at gx9 gf9 gw9 p9 p79 g9 gg9 e9 st9
    refine ⟨_, rfl, x, _, dx, _, rfl, x9, T.cr, T.r7, (by show 6 < 1000; decide), ?_⟩
    refine ⟨_, rfl, x, _, dx, _, rfl, upd_same, T.cr, T.r8, (by show 7 < 1000; decide), ?_⟩
    rw [upd_upd]
    refine q G9 _ gg9 ⟨dx, fa, wa, [.ref p1], [], [], p, .ref p2, .ref p3, .non, upd_same, gx9, by rw [upd_ne fx]; exact f9, gf9, .cons e9 .nil, by rw [upd_ne wx]; exact w9, gw9, .nil, ?_, hp.same gg9, ⟨p2, [], rfl, p79, .nil, rfl, by show ([] : List Th).length ≤ 200001; decide⟩, .tup p9 .nil, .inl ⟨rfl, rfl⟩, same_upd g9 gx9⟩
    simp [fw]
  exact ⟨_, fd, M, h1, h2, g⟩
end
structure Tn (K : PySem.W.Frag) (w : World) (mg : Str → Option Value) : Prop extends Tm K w mg where
  g_BadLimit : mg "BadLimit" = some (.ref (He.ga K "BadLimit"))
  x_BadLimit : XcP K "BadLimit"
def spRun (K : PySem.W.Frag) : Sp := sp2 fun v l H Q _ => ∃ t k f tt n, l = .int k ∧ Wo (some (CF K)) H v t ∧ 0 ≤ k ∧ k ≤ 100000 ∧ t.nodes ≤ 1000000 ∧ f ≤ 90000 ∧ Res.told 0 (ev f t [] k 0) = some (.val tt n) ∧ ∀ u H', Same H H' → Wo (some (CF K)) H' u tt → Q u H'
def spRunTold (K : PySem.W.Frag) : Sp := sp2 fun v l H Q _ => ∃ t k f tt n, l = .int k ∧ Wo (some (CF K)) H v t ∧ 0 ≤ k ∧ k ≤ 100000 ∧ t.nodes ≤ 1000000 ∧ f ≤ 90000 ∧ Res.told 0 (ev f t [] k 0) = some (.val tt n) ∧ tt.nodes ≤ 1000000 ∧ ∀ u H', Same H H' → Is (CF K) H' u tt.told → tt.worth true = true → Q u H'
theorem told_shape {f : Nat} {t tt : Th} {k n : Int} (h : Res.told 0 (ev f t [] k 0) = some (.val tt n)) : ∃ e v, tt = .tup [.str e, v, .int n] := by
  unfold Res.told at h
  cases e : ev f t [] k 0 with
  | none => rw [e] at h; cases h
  | some q =>
    rw [e] at h
    cases q with
    | val v m => cases h; exact ⟨_, _, by rw [Int.sub_zero]⟩
    | stop x m => cases h; exact ⟨_, _, by rw [Int.sub_zero]⟩
theorem begin_ok {t : Th} {k : Int} (h0 : 0 ≤ k) (h1 : k ≤ 100000) : McOk (begin0 t k) ∧ McSo (begin0 t k) := by
  refine ⟨⟨Int.le_refl 0, by show (0 : Int) ≤ 100000; decide, fun x hx => ?_⟩, List.pairwise_singleton _ _⟩
  rw [List.mem_singleton.mp hx]
  exact ⟨Int.le_refl 0, Int.le_refl 0, h0, h1⟩
section
variable {P : Program} {w : World} {K : PySem.W.Frag} {mg : Str → Option Value} {base : Heap}
theorem ok_run {L : Nat} (hL : 5 ≤ L) (F : FnP K mg "run" s_run) (T : Tn K w mg) (B_need_worth : Cl P w K mg base 4 "need_worth" ["thing"] (spNeed K true)) (B_is_limit : Cl P w K mg base 1 "is_limit" ["thing"] (spLimit K))
    (B_Reckoning : Nw P w K mg base 1 "Reckoning" (CR K) ["self", "program", "limit"] (spRInit K)) (M_go : Mt P w K mg base L (CR K) "go" ["self"] (spGo K)) : Cl P w K mg base (L + 1) "run" ["program", "limit"] (spRun K) := by
  refine cl_2 F sc_run (fun _ _ _ _ _ _ us hl => match us, hl with | [_, _], _ => rfl) fun cdv A outer s H v b Q E hr h => ?_
  obtain ⟨t, k, f, tt, n, rfl, hv, k0, k1, tn, hf, he, q⟩ := h
  refine ⟨_, (pss_cons (ps_expr (pe_bS B_need_worth hr (by omega) rfl (fun σ => passAt (takes_of rfl rfl rfl rfl) σ) (pa_cons (pv 0) pa_nil))) (pss_cons (ps_if (pt_not (pt_val (pe_b B_is_limit hr (by omega) rfl passL (pa_cons (pv 1) pa_nil)))) (pss_one (ps_raise rfl (takes_of rfl rfl rfl rfl) (pmk_own PySem.F.excBase_ValueError T.x_BadLimit.1 T.g_BadLimit T.x_BadLimit.2.1 (raises_own T.x_BadLimit.2.2.1 T.x_BadLimit.2.2.2) rfl))) pss_nil) (pss_cons (ps_set (i := 2) sc_run.nd rfl (Or.inl rfl) (pe_new B_Reckoning hr (by omega) rfl passL (pa_cons (pv 0) (pa_cons (pv 1) pa_nil)))) (pss_cons (ps_while (passes_of rfl) (pt_cmpR op_isN (pe_fld (pv 2) rfl) pe_non (nomark _)) (pss_one (ps_expr (pe_mb0 M_go hr (by omega) passL (pv 2))))) (pss_one (ps_ret (pe_fld (pv 2) rfl))))))), ?_⟩
  refine ⟨_, rfl, _, rfl, t, hv.is, tn, fun _ H1 s1 => ?_, fun z => by rw [hv.worth] at z; cases z⟩
  have wt1 := hv.same s1
  have lk : Th.lim (.int k) = true := by
    show (decide (0 ≤ k) && decide (k ≤ 100000)) = true
    rw [decide_eq_true k0, decide_eq_true k1]
    rfl
  refine ⟨_, rfl, _, rfl, .int k, .int k, _, rfl, ?_⟩
  rw [lk]
  refine iteF (stepN ?_)
  refine ⟨_, rfl, _, rfl, fun x dx nx ndx nex => ⟨x, dx, v, k, H1, t, rfl, upd_same, fun y u e => ?_, nx, wt1, fun G' H' gg mr => ⟨rfl, ?_⟩⟩⟩
  · rw [upd_ne (ne_of_none e nx), upd_ne (ne_of_none e ndx)]
    exact e
  obtain ⟨j, mf, rn, tf⟩ := run_all hf he
  obtain ⟨ok, so⟩ := begin_ok (t := t) k0 k1
  refine ⟨fun j σ H' => ∃ G m, σ = [some v, some (.int k), some (.ref x)] ∧ Same H1 G ∧ Mr K x G H' m ∧ McOk m ∧ McSo m ∧ Rn j m mf, ⟨j, G', begin0 t k, rfl, gg, mr, ok, so, rn⟩, ?_⟩
  rintro j σ H2 ⟨G, m, rfl, gg2, ⟨dx2, fa, wa, vf, vw, Ds, pq, sv, ov, tv, r⟩, ok, so, rn⟩
  refine ⟨_, rfl, x, _, dx2, _, _, rfl, r.self, T.cr, T.r8, rfl, rfl, _, rfl, ?_⟩
  cases rn with
  | refl =>
    rcases r.tell with ⟨h1, _⟩ | ⟨t', h1, h2⟩
    · rw [tf] at h1
      cases h1
    · rw [tf] at h1
      cases h1
      have ne : decide (tv = .non) = false := decide_eq_false fun z => by
        rw [z] at h2
        cases h2
      refine ite_ff ne ⟨_, rfl, x, _, dx2, _, _, rfl, r.self, T.cr, T.r8, rfl, ?_⟩
      exact q tv H2 (s1.trans (gg2.trans r.gh)) (h2.same r.gh)
  | step e1 e2 rn' =>
    rename_i j' m1
    rcases r.tell with ⟨h1, rfl⟩ | ⟨t', h1, h2⟩
    · refine ite_tt (decide_eq_true rfl) ⟨fun σ' H' => ∃ G m, σ' = [some v, some (.int k), some (.ref x)] ∧ Same H1 G ∧ Mr K x G H' m ∧ McOk m ∧ McSo m ∧ Rn j' m mf, fun σ' H' z => ⟨j', Nat.lt_succ_self _, z⟩, ?_⟩
      have mr2 : Mr K x G H2 m := ⟨dx2, fa, wa, vf, vw, Ds, pq, sv, ov, _, r⟩
      obtain ⟨dx3, fs3, hR3, nm3⟩ := mr2.at
      obtain ⟨ok2, so2⟩ := Fl.ok_go e2 ok so
      exact ⟨_, rfl, x, dx3, _, rfl, hR3, nm3 "go" (by decide), _, rfl, x, G, m, m1, rfl, mr2, ok, so, e2, fun G3 H3 gg3 mr3 => ⟨G3, m1, rfl, gg2.trans gg3, mr3, ok2, so2, rn'⟩⟩
    · rw [e1] at h1
      cases h1
theorem ok_run_told {L : Nat} (hL : 5 ≤ L) (F : FnP K mg "run_told" s_run_told) (B_run : Cl P w K mg base L "run" ["program", "limit"] (spRun K)) (B_told : Cl P w K mg base 5 "told" ["worth"] (spTold K)) : Cl P w K mg base (L + 1) "run_told" ["program", "limit"] (spRunTold K) := by
  refine cl_2 F sc_run_told (fun _ _ _ _ _ _ us hl => match us, hl with | [_, _], _ => rfl) fun cdv A outer s H v b Q E hr h => ?_
  obtain ⟨t, k, f, tt, n, rfl, hv, k0, k1, tn, hf, he, ttn, q⟩ := h
  refine ⟨_, PSs.nox (pss_cons (ps_asg (pe_b B_run hr (by omega) rfl passL (pa_cons (pv 0) (pa_cons (pv 1) pa_nil))) (pg_tup rfl (pgs_cons (pg_name (i := 2) sc_run_told.nd rfl (Or.inl rfl)) (pgs_cons (pg_name (i := 3) sc_run_told.nd rfl (Or.inl rfl)) (pgs_cons (pg_name (i := 4) sc_run_told.nd rfl (Or.inl rfl)) pgs_nil))))) (pss_one (ps_ret (pe_tup (pa_cons (pv 2) (pa_cons (pe_b B_told hr (by omega) rfl passL (pa_cons (pv 3) pa_nil)) (pa_cons (pv 4) pa_nil))))))), ?_⟩
  obtain ⟨e, v1, rfl⟩ := told_shape he
  refine ⟨_, rfl, _, rfl, _, _, rfl, t, k, f, _, n, rfl, hv, k0, k1, tn, hf, he, fun u H1 s1 w1 => ?_⟩
  have ww1 := w1.worth
  cases w1 with
  | tup hp hps =>
    cases hps with
    | cons h1 hps =>
      cases hps with
      | cons h2 hps =>
        cases hps with
        | cons h3 hps =>
          cases hps
          cases h1 with
          | str _ he1 =>
          cases h3 with
          | int _ hn1 =>
          have nn : v1.nodes ≤ 1000000 := by
            simp only [Th.nodes, Th.nodesL] at ttn
            omega
          refine ⟨_, _, rfl, SqT.of hp, rfl, _, _, rfl, _, _, rfl, _, _, rfl, rfl, ?_⟩
          refine ⟨_, rfl, _, rfl, _, rfl, v1, h2.is, nn, fun _ u2 H2 s2' i2 => ⟨_, rfl, s3, fun p2 np2 => ?_⟩, fun z => by rw [h2.worth] at z; cases z⟩
          refine q _ _ (s1.trans (s2'.trans (same_new np2 _))) (.tup upd_same (.cons (.str e (wlen he1)) (.cons (i2.same (same_new np2 _)) (.one (.int n))))) ww1
end
end Fl
namespace Fl
open PySem PySem.Spec PyProof.Rows L2
abbrev s_law_told : Stmt := top 49
theorem sc_law_told : FnScope ["_law_worth", "_law_part_here"] ["_law_worth"] (defScope s_law_told) := ⟨rfl, rfl, rfl, by decide +kernel, rfl, by decide +kernel, by decide +kernel⟩
abbrev s_law_telling : Stmt := top 50
theorem sc_law_telling : FnScope ["_law_program", "_law_limit"] ["_law_program", "_law_limit"] (defScope s_law_telling) := ⟨rfl, rfl, rfl, by decide +kernel, rfl, by decide +kernel, by decide +kernel⟩
abbrev s_law_right : Stmt := top 51
theorem sc_law_right : FnScope ["_law_program", "_law_limit", "_law_due"] ["_law_program", "_law_limit"] (defScope s_law_right) := ⟨rfl, rfl, rfl, by decide +kernel, rfl, by decide +kernel, by decide +kernel⟩
def spToldW (K : PySem.W.Frag) (m : Nat) : Sp := sp1 fun v H Q _ => ∃ G t, Wo none G v t ∧ Same G H ∧ t.depth < m ∧ t.nodes ≤ 1000000 ∧ ∀ u H', Same H H' → Is (CF K) H' u t.told → Q u H'
def spTelling (K : PySem.W.Frag) (f D : Nat) : Sp := sp2 fun v l H Q _ => ∃ t k tt n, l = .int k ∧ Wo none H v t ∧ 0 ≤ k ∧ k ≤ 100000 ∧ Res.told 0 (ev f t [] k 0) = some (.val tt n) ∧ tt.depth < D ∧ tt.nodes ≤ 1000000 ∧ ∀ u H', Same H H' → Is (CF K) H' u tt.told → tt.worth true = true → Q u H'
def spRight (K : PySem.W.Frag) (f D : Nat) : Sp := sp2 fun v l H Q _ => ∃ t k tt n, l = .int k ∧ Wo none H v t ∧ Wo (some (CF K)) H v t ∧ 0 ≤ k ∧ k ≤ 100000 ∧ t.nodes ≤ 1000000 ∧ Res.told 0 (ev f t [] k 0) = some (.val tt n) ∧ tt.depth < D ∧ tt.nodes ≤ 30000 ∧ ∀ H', Same H H' → Q (.bl true) H'
section
variable {P : Program} {w : World} {K : PySem.W.Frag} {mg : Str → Option Value} {base : Heap}
theorem ok_law_told_none (F : FnP K mg "_law_told" s_law_told) : Cl P w K mg base 1 "_law_told" ["_law_worth"] (spToldW K 0) := by
  refine cl_1 F sc_law_told (fun _ _ _ _ _ _ us hl => match us, hl with | [_], _ => rfl) fun cdv A outer s H v Q E hr h => ?_
  obtain ⟨_, _, _, _, h, _⟩ := h
  omega
theorem ok_law_told {m : Nat} (F : FnP K mg "_law_told" s_law_told) (T : Tl mg) (B_law_told : Cl P w K mg base (1 + m) "_law_told" ["_law_worth"] (spToldW K m)) : Cl P w K mg base (1 + m + 1) "_law_told" ["_law_worth"] (spToldW K (m + 1)) := by
  refine cl_1 F sc_law_told (fun _ _ _ _ _ _ us hl => match us, hl with | [_], _ => rfl) fun cdv A outer s H v Q E hr h => ?_
  obtain ⟨G, t, h, g, hd, hn, q⟩ := h
  refine ⟨_, PSs.nox (pss_cons (ps_if (pt_val (pe_callB call_isi rfl T.z_isinstance PyProof.Rows.boot_isinstance (pa_cons (pv 0) (pa_cons (pe_bltn (v := .ty "tuple") rfl T.z_tuple (by decide +kernel) rfl) pa_nil)))) (pss_one (ps_ret (pe_tupleOf rfl T.z_tuple (pe_lc (own := [("_law_part_here", 1)]) (g := gName 1) (tt := tYes) rfl sc_law_told.nd (pi_tup (pv 0)) (blkOk_by (own := [("_law_part_here", 1)]) (N := ["_law_worth", "_law_part_here"]) (sc := defScope s_law_told) (by decide +kernel)) (fun _ _ _ _ _ => (pg_name (i := 1) sc_law_told.nd rfl (Or.inl rfl))) (fun _ _ _ _ _ => pts_nil) (fun _ _ _ _ _ => (pe_b B_law_told hr (Nat.le_refl _) rfl passL (pa_cons (pv 1) pa_nil))))))) pss_nil) (pss_one (ps_ret (pe_ifExp (pt_val (pe_callB call_isi rfl T.z_isinstance PyProof.Rows.boot_isinstance (pa_cons (pv 0) (pa_cons (pe_bltn (v := .ty "list") rfl T.z_list (by decide +kernel) rfl) pa_nil)))) pe_str (pv 0))))), ?_⟩
  obtain ⟨u1, y1, k1⟩ := wk_tup (K := K) (M := none) trivial g h
  obtain ⟨u2, y2, k2⟩ := wk_lst (K := K) g h
  refine ⟨v, rfl, v, _, u1, _, _, rfl, .ty _, y1, k1, _, rfl, ?_⟩
  cases h with
  | tup ht hts =>
    rename_i p zs l
    simp only [Th.depth] at hd
    simp only [Th.nodes] at hn
    have hl := len_nodesL l
    have hll := hts.len
    have hw' := hts.worths
    refine iteT ⟨_, rfl, p, rfl, ⟨_, SqT.of (g _ _ ht)⟩, fun D nD => ?_⟩
    refine lc_it (walk_tup (K := K) (a := p) (xs := zs)) (fun i H' => ∃ xs, Same H H' ∧ H' D = some (.lst xs) ∧ H D = none ∧ Iss (CF K) H' xs (Th.tolds (l.take i))) ⟨[], same_new nD _, upd_same, nD, .nil⟩ (fun _ _ _ z => by obtain ⟨_, z, _⟩ := z; exact SqT.of (z _ _ (g _ _ ht))) ?_ ?_
    · rintro i y H1 H2 hi ⟨xs, r1, r2, r3, r4⟩ ⟨rfl, hy⟩
      obtain ⟨t1, e1, g1⟩ := hts.get hy
      have me := List.mem_of_getElem? e1
      have dm := depth_mem me
      have nm := nodes_mem me
      have w1 := g1.worth
      refine ⟨rfl, _, rfl, _, rfl, G, t1, g1, g.trans r1, by omega, by omega, fun u H3 s3 g3 => ⟨xs, s3 _ _ r2, ?_, xs ++ [u], same_mut (r1.trans s3) r3, upd_same, r3, ?_⟩⟩
      · have z := r4.len
        rw [tolds_len, List.length_take] at z
        rw [sizeLine_eq]
        omega
      · rw [take_snoc e1, tolds_app]
        have im := im_lst (ys := xs ++ [u]) (s3 _ _ r2)
        exact ((r4.same s3).app (.one g3)).ik im
    · rintro H1 ⟨xs, r1, r2, r3, r4⟩
      rw [hll, List.take_length] at r4
      refine .inl ⟨D, xs, rfl, SqL.of r2, fun P1 nP => ?_⟩
      exact q _ _ (r1.trans (same_new nP _)) (.tup upd_same (r4.same (same_new nP _)))
  | bl c => exact iteF ⟨_, rfl, _, _, u2, _, _, rfl, .ty _, y2, k2, _, rfl, iteF ⟨_, rfl, q _ _ (.refl _) (.bl _)⟩⟩
  | int i => exact iteF ⟨_, rfl, _, _, u2, _, _, rfl, .ty _, y2, k2, _, rfl, iteF ⟨_, rfl, q _ _ (.refl _) (.int _)⟩⟩
  | str x hx => exact iteF ⟨_, rfl, _, _, u2, _, _, rfl, .ty _, y2, k2, _, rfl, iteF ⟨_, rfl, q _ _ (.refl _) (.str x (wlen hx))⟩⟩
  | fn _ => exact iteF ⟨_, rfl, _, _, u2, _, _, rfl, .ty _, y2, k2, _, rfl, iteT (q _ _ (.refl _) (.str _ (by decide)))⟩
  | rcf _ => exact iteF ⟨_, rfl, _, _, u2, _, _, rfl, .ty _, y2, k2, _, rfl, iteT (q _ _ (.refl _) (.str _ (by decide)))⟩
theorem ok_law_told_all (F : FnP K mg "_law_told" s_law_told) (T : Tl mg) : ∀ m, Cl P w K mg base (1 + m) "_law_told" ["_law_worth"] (spToldW K m)
  | 0 => ok_law_told_none F
  | m + 1 => ok_law_told F T (ok_law_told_all F T m)
theorem ok_law_telling {L f D : Nat} (hL : 1 + D ≤ L) (F : FnP K mg "_law_telling" s_law_telling) (B_law_floor : Cg P w K mg base L "_law_floor" ["_law_state_here", "_law_program", "_law_limit"] (spFloor f)) (B_law_told : Cl P w K mg base (1 + D) "_law_told" ["_law_worth"] (spToldW K D)) : Cg P w K mg base (L + 1) "_law_telling" ["_law_program", "_law_limit"] (spTelling K f D) := by
  refine cg_mk F sc_law_telling (fun _ _ _ _ _ _ us hl => match us, hl with | [_, _], _ => rfl) (fun vs H Q E h => by obtain ⟨_, _, rfl, _⟩ := h; rfl) fun cdv A outer s H vs Q E hr hg h => ?_
  obtain ⟨v, _, rfl, t, k, tt, n, rfl, hv, k0, k1, he, hd, hn, q⟩ := h
  refine ⟨_, PSs.nox (pss_one (ps_ret (pe_b B_law_told hr (by omega) rfl passL (pa_cons (pe_g B_law_floor hr hg (by omega) rfl passL (pa_cons (pe_disp (pps_cons pe_str pe_int (pps_cons pe_str pe_str pps_nil)) (by rfl) (by rfl) (fun z => by cases z) (by decide)) (pa_cons (pv 0) (pa_cons (pv 1) pa_nil)))) pa_nil)))), ?_⟩
  refine fun d nd => ⟨upd_same, [(kSteps, .int 0), (kEnd, .str "")], rfl, (by show 2 ≤ 15; decide), ?_⟩
  have sd : Same H (upd (upd H d (.dK [])) d (.dK (mergeK [] [(kSteps, V.int 0), (kEnd, .str "")]))) := same_mut (same_new nd _) nd
  have ld : Ld d 0 "" (upd (upd H d (.dK [])) d (.dK (mergeK [] [(kSteps, V.int 0), (kEnd, .str "")]))) := upd_same
  generalize upd (upd H d (.dK [])) d (.dK (mergeK [] [(kSteps, V.int 0), (kEnd, .str "")])) = H1 at sd ld ⊢
  refine ⟨_, rfl, _, rfl, _, _, _, rfl, d, H, 0, k, t, _, rfl, rfl, ⟨sd, nd, ld, Int.le_refl 0, k0, k1⟩, hv, he, ?_⟩
  intro u G' H' st l w'
  refine ⟨_, rfl, G', tt, w', st.gh, hd, hn, fun u2 H2 s2 i2 => ?_⟩
  refine q u2 H2 (Same.trans (fun b o e => ?_) s2) i2 w'.worth
  exact st.fr b o (ne_of_none e nd) (sd _ _ e)
theorem ok_law_right {L f D : Nat} (hD : D ≤ 61) (hf : f ≤ 90000) {R : Nat} (hR : R ≤ L) (F : FnP K mg "_law_right" s_law_right) (T : Tl mg) (B_law_telling : Cg P w K mg base L "_law_telling" ["_law_program", "_law_limit"] (spTelling K f D)) (B_run_told : Cl P w K mg base R "run_told" ["program", "limit"] (spRunTold K)) : Cg P w K mg base (L + 1) "_law_right" ["_law_program", "_law_limit"] (spRight K f D) := by
  refine cg_mk F sc_law_right (fun _ _ _ _ _ _ us hl => match us, hl with | [_, _], _ => rfl) (fun vs H Q E h => by obtain ⟨_, _, rfl, _⟩ := h; rfl) fun cdv A outer s H vs Q E hr hg h => ?_
  obtain ⟨v, _, rfl, t, k, tt, n, rfl, hv, hv2, k0, k1, tn, he, hd, hn, q⟩ := h
  refine ⟨_, PSs.nox (pss_cons (ps_set (i := 2) sc_law_right.nd rfl (Or.inl rfl) (pe_callB (call_reprD hr hg) rfl T.z_repr PyProof.Rows.boot_repr (pa_cons (pe_g B_law_telling hr hg (by omega) rfl passL (pa_cons (pv 0) (pa_cons (pv 1) pa_nil))) pa_nil))) (pss_one (ps_ret (pe_and (pe_cmpR op_eq (pe_callB (call_reprD hr hg) rfl T.z_repr PyProof.Rows.boot_repr (pa_cons (pe_b B_run_told hr (by omega) rfl passL (pa_cons (pv 0) (pa_cons (pv 1) pa_nil))) pa_nil)) (pv 2) (nomark _)) (pe_one (pe_cmpR op_eq (pe_callB (call_reprD hr hg) rfl T.z_repr PyProof.Rows.boot_repr (pa_cons (pe_b B_run_told hr (by omega) rfl passL (pa_cons (pv 0) (pa_cons (pv 1) pa_nil))) pa_nil)) (pv 2) (nomark _))))))), ?_⟩
  refine ⟨_, rfl, _, rfl, _, _, rfl, t, k, tt, n, rfl, hv, k0, k1, he, hd, by omega, fun u H1 s1 i1 ww => ?_⟩
  have tp := told_worth tt ww
  have tn1 := told_nodes tt
  have td := told_depth tt
  have rp : ∀ {Hh : Hp} {b : V}, Is (CF K) Hh b tt.told → Dp K Hh b tt.told.dat ∧ tt.told.dat.showable = true ∧ tt.told.dat.hasDict = false ∧ tt.told.dat.depth ≤ 60 ∧ tt.told.dat.shown.length ≤ sizeLine := fun h => repr_dat h tp (by omega) (by omega)
  obtain ⟨a1, a2, a3, a4, a5⟩ := rp i1
  refine ⟨_, _, rfl, a1, a2, a3, a4, a5, ?_⟩
  refine ⟨_, rfl, _, rfl, _, _, rfl, t, k, f, tt, n, rfl, hv2.same s1, k0, k1, tn, hf, he, by omega, fun u2 H2 s2' i2 _ => ?_⟩
  obtain ⟨b1, b2, b3, b4, b5⟩ := rp i2
  refine ⟨_, _, rfl, b1, b2, b3, b4, b5, _, rfl, rfl, _, rfl, ite_tt (str_eq rfl) ?_⟩
  refine ⟨_, rfl, _, rfl, _, _, rfl, t, k, f, tt, n, rfl, hv2.same (s1.trans s2'), k0, k1, tn, hf, he, by omega, fun u3 H3 s3' i3 _ => ?_⟩
  obtain ⟨c1, c2, c3, c4, c5⟩ := rp i3
  refine ⟨_, _, rfl, c1, c2, c3, c4, c5, _, rfl, rfl, ?_⟩
  show Q (.bl (decide (V.str _ = V.str _))) H3
  rw [str_eq rfl]
  exact q H3 (s1.trans (s2'.trans s3'))
end
end Fl
namespace Fl
open PySem PySem.Spec PyProof.Rows L2
abbrev s_law_mixed : Stmt := top 34
theorem sc_law_mixed : FnScope ["_law_number", "_law_k", "_law_found"] ["_law_number", "_law_k"] (defScope s_law_mixed) := ⟨rfl, rfl, rfl, by decide +kernel, rfl, by decide +kernel, by decide +kernel⟩
abbrev s_law_state : Stmt := top 35
theorem sc_law_state : FnScope ["_law_cell"] ["_law_cell"] (defScope s_law_state) := ⟨rfl, rfl, rfl, by decide +kernel, rfl, by decide +kernel, by decide +kernel⟩
abbrev s_law_next : Stmt := top 36
theorem sc_law_next : FnScope ["_law_state_here", "_law_at", "_law_number"] ["_law_state_here"] (defScope s_law_next) := ⟨rfl, rfl, rfl, by decide +kernel, rfl, by decide +kernel, by decide +kernel⟩
def kCell : Key := Sum.inr "cell"
def kLeft : Key := Sum.inr "left"
def kAt : Key := Sum.inr "at"
/-- the drawing's state at d -/
def Dw (d : Addr) (H : Hp) : Prop := ∃ c l n : Int, H d = some (.dK [(kCell, .int c), (kLeft, .int l), (kAt, .int n)])
def Fd (d : Addr) (H H' : Hp) : Prop := ∀ b o, b ≠ d → H b = some o → H' b = some o
theorem Fd.refl (d : Addr) (H : Hp) : Fd d H H := fun _ _ _ e => e
theorem Fd.trans {d : Addr} {H H1 H2 : Hp} (a : Fd d H H1) (b : Fd d H1 H2) : Fd d H H2 := fun x o n e => b x o n (a x o n e)
theorem fd_same {d : Addr} {H H' : Hp} (s : Same H H') : Fd d H H' := fun x o _ e => s x o e
theorem Dw.same {d : Addr} {H H' : Hp} (h : Dw d H) (s : Same H H') : Dw d H' := by
  obtain ⟨c, l, n, e⟩ := h
  exact ⟨c, l, n, s _ _ e⟩
theorem im_fd {d : Addr} {H H' : Hp} (h : Dw d H) (h' : Dw d H') (f : Fd d H H') : Im H H' := by
  obtain ⟨c, l, n, e⟩ := h
  obtain ⟨c', l', n', e'⟩ := h'
  refine ⟨fun b xs z => f _ _ (ne_of z e (by intro q; cases q)) z, fun b C dx fs z => f _ _ (ne_of z e (by intro q; cases q)) z, fun b xs z => ⟨_, f _ _ (ne_of z e (by intro q; cases q)) z⟩, fun b kv z => ?_⟩
  by_cases hb : b = d
  · rw [hb]
    exact ⟨_, e'⟩
  · exact ⟨_, f _ _ hb z⟩
def spMixed : Sp := sp2 fun v b H Q _ => ∃ c k : Int, v = .int c ∧ b = .int k ∧ 0 ≤ k ∧ k < 1000 ∧ ∀ r : Int, 0 ≤ r → r < 33554432 → Q (.int r) H
def spState : Sp := sp1 fun v H Q _ => ∃ c, v = .int c ∧ ∀ d H', H d = none → Same H H' → Dw d H' → Q (.ref d) H'
def spNextD : Sp := sp1 fun v H Q _ => ∃ d, v = .ref d ∧ Dw d H ∧ ∀ (r : Int) H', Dw d H' → Fd d H H' → 0 ≤ r → r < 33554432 → Q (.int r) H'
theorem p65536 : (0 : Int) < 65536 := by decide
theorem pA : (0 : Int) < 2147483647 := by decide
theorem pB : (0 : Int) < 2147483629 := by decide
theorem pK : (0 : Int) < 1000 := by decide
theorem p64 : (0 : Int) < 64 := by decide
theorem pow18 : CPow 10 18 := ⟨by decide, by decide, by decide⟩
section
variable {P : Program} {w : World} {K : PySem.W.Frag} {mg : Str → Option Value} {base : Heap}
theorem ok_law_mixed (F : FnP K mg "_law_mixed" s_law_mixed) : Cl P w K mg base 1 "_law_mixed" ["_law_number", "_law_k"] spMixed := by
  refine cl_2 F sc_law_mixed (fun _ _ _ _ _ _ us hl => match us, hl with | [_, _], _ => rfl) fun cdv A outer s H v b Q E hr h => ?_
  obtain ⟨c, k, rfl, rfl, h0, h1, q⟩ := h
  refine ⟨_, PSs.nox (pss_cons (ps_set (i := 2) sc_law_mixed.nd rfl (Or.inl rfl) (pe_op op_mod (pe_op op_mul (pe_op op_add (pe_op op_add (pe_op op_add (pe_op op_mod (pv 0) pe_int) (pe_op op_mul (pe_op op_mul pe_int (pv 1)) (pv 1))) (pe_op op_mul pe_int (pv 1))) pe_int) pe_int) pe_int)) (pss_one (ps_ret (pe_op op_fdiv (pe_op op_mod (pe_op op_mul (pv 2) pe_int) pe_int) pe_int)))), ?_⟩
  have k2 : 0 ≤ 7919 * k ∧ 7919 * k ≤ 7919000 := by omega
  have e1 : 0 ≤ c % 2147483647 := Int.emod_nonneg _ (by decide)
  refine ⟨_, rfl, _, _, rfl, rfl, pA, _, rfl, _, _, rfl, rfl, .inl ⟨by decide, by decide⟩, _, rfl, _, _, rfl, rfl, .inl ⟨by omega, by omega⟩, _, _, rfl, rfl, ?_⟩
  refine ⟨_, rfl, _, _, rfl, rfl, .inl ⟨by decide, by decide⟩, _, _, rfl, rfl, _, _, rfl, rfl, _, _, rfl, rfl, .inr ⟨by decide, by decide⟩, _, _, rfl, rfl, pA, ?_⟩
  refine ⟨_, rfl, _, _, rfl, rfl, .inr ⟨by decide, by decide⟩, _, _, rfl, rfl, pB, _, _, rfl, rfl, ⟨p64, by decide⟩, ?_⟩
  generalize (c % 2147483647 + 7919 * k * k + 31 * k + 5) * 48271 % 2147483647 * 69621 = z
  have z0 : 0 ≤ z % 2147483629 := Int.emod_nonneg _ (by decide)
  have z1 : z % 2147483629 < 2147483629 := Int.emod_lt_of_pos _ (by decide)
  exact q _ (Int.ediv_nonneg z0 (by decide)) (by omega)
theorem ok_law_state (F : FnP K mg "_law_state" s_law_state) : Cl P w K mg base 1 "_law_state" ["_law_cell"] spState := by
  refine cl_1 F sc_law_state (fun _ _ _ _ _ _ us hl => match us, hl with | [_], _ => rfl) fun cdv A outer s H v Q E hr h => ?_
  obtain ⟨c, rfl, q⟩ := h
  refine ⟨_, PSs.nox (pss_one (ps_ret (pe_disp (pps_cons pe_str (pv 0) (pps_cons pe_str (pv 0) (pps_cons pe_str pe_int pps_nil))) (by rfl) (by rfl) (fun z => by cases z) (by decide)))), ?_⟩
  refine fun d nd => ⟨_, rfl, _, rfl, upd_same, [(kCell, .int c), (kLeft, .int c), (kAt, .int 0)], rfl, (by show 3 ≤ 15; decide), ?_⟩
  exact q d _ nd (same_mut (same_new nd _) nd) ⟨c, c, 0, upd_same⟩
theorem ok_law_next (F : FnP K mg "_law_next" s_law_next) (B_law_mixed : Cl P w K mg base 1 "_law_mixed" ["_law_number", "_law_k"] spMixed) : Cl P w K mg base 2 "_law_next" ["_law_state_here"] spNextD := by
  refine cl_1 F sc_law_next (fun _ _ _ _ _ _ us hl => match us, hl with | [_], _ => rfl) fun cdv A outer s H v Q E hr h => ?_
  obtain ⟨d, rfl, ⟨c, l, n, h1⟩, q⟩ := h
  refine ⟨_, PSs.nox (pss_cons (ps_set (i := 1) sc_law_next.nd rfl (Or.inl rfl) (pe_dget (hu_of hr) (pv 0) pe_str (fun _ _ => rfl))) (pss_cons (ps_dput (hu_of hr) (pv 0) pe_str (pe_op op_add (pv 1) pe_int) rfl) (pss_cons (ps_if (PW.pt (pw_and (pt_cmpR op_ge (pe_dget (hu_of hr) (pv 0) pe_str (fun _ _ => rfl)) (pe_op op_pow pe_int pe_int) (nomark _)) (pw_and1 (pt_cmpR op_gt (pe_dget (hu_of hr) (pv 0) pe_str (fun _ _ => rfl)) pe_int (nomark _))))) (pss_cons (ps_set (i := 2) sc_law_next.nd rfl (Or.inl rfl) (pe_op op_mod (pe_dget (hu_of hr) (pv 0) pe_str (fun _ _ => rfl)) pe_int)) (pss_cons (ps_dput (hu_of hr) (pv 0) pe_str (pe_op op_fdiv (pe_dget (hu_of hr) (pv 0) pe_str (fun _ _ => rfl)) pe_int) rfl) (pss_one (ps_ret (pv 2))))) pss_nil) (pss_one (ps_ret (pe_b B_law_mixed hr (by omega) rfl passL (pa_cons (pe_b B_law_mixed hr (by omega) rfl passL (pa_cons (pe_op op_add (pe_dget (hu_of hr) (pv 0) pe_str (fun _ _ => rfl)) (pe_op op_mul pe_int (pv 1))) (pa_cons (pe_op op_mod (pv 1) pe_int) pa_nil))) (pa_cons pe_int pa_nil)))))))), ?_⟩
  refine ⟨_, rfl, d, _, rfl, DGet.k (k := kAt) h1, _, rfl, _, _, rfl, rfl, _, rfl, d, _, rfl, DPut.k (k := kAt) h1 (by show 3 < sizeLine; decide), ?_⟩
  have e0 : putK [(kCell, V.int c), (kLeft, .int l), (kAt, .int n)] kAt (.int (n + 1)) = [(kCell, .int c), (kLeft, .int l), (kAt, .int (n + 1))] := rfl
  rw [e0]
  have g1 : upd H d (.dK [(kCell, V.int c), (kLeft, .int l), (kAt, .int (n + 1))]) d = some (.dK [(kCell, .int c), (kLeft, .int l), (kAt, .int (n + 1))]) := upd_same
  have f1 : Fd d H (upd H d (.dK [(kCell, V.int c), (kLeft, .int l), (kAt, .int (n + 1))])) := fun b o e1 e => by
    rw [upd_ne e1]
    exact e
  generalize upd H d (.dK [(kCell, V.int c), (kLeft, .int l), (kAt, .int (n + 1))]) = H1 at g1 f1 ⊢
  have rest : ∀ r : Int, 0 ≤ r → r < 33554432 → Q (.int r) H1 := fun r a b => q r H1 ⟨_, _, _, g1⟩ f1 a b
  refine stepN ?_
  dsimp only
  refine seq_if (fun k => ∀ b, k b H1) (fun b => ?_) (fun k hk => ?_)
  case refine_2 =>
    refine ⟨_, rfl, d, _, rfl, DGet.k (k := kCell) g1, _, _, rfl, rfl, pow18, _, _, rfl, rfl, _, rfl, ite2 (fun c => ?_) (fun c => hk _)⟩
    exact ⟨_, rfl, d, _, rfl, DGet.k (k := kLeft) g1, _, _, rfl, rfl, _, rfl, hk _⟩
  cases b with
  | true =>
    refine iteT ⟨_, rfl, d, _, rfl, DGet.k (k := kLeft) g1, _, _, rfl, rfl, p65536, ?_⟩
    refine ⟨_, rfl, d, _, rfl, DGet.k (k := kLeft) g1, _, _, rfl, rfl, ⟨p65536, by decide⟩, _, rfl, d, _, rfl, DPut.k (k := kLeft) g1 (by show 3 < sizeLine; decide), ?_⟩
    have z0 : 0 ≤ l % 65536 := Int.emod_nonneg _ (by decide)
    have z1 : l % 65536 < 65536 := Int.emod_lt_of_pos _ (by decide)
    refine ⟨_, rfl, q _ _ ⟨c, l / 65536, n + 1, upd_same⟩ (f1.trans fun b o e1 e => by rw [upd_ne e1]; exact e) z0 (by omega)⟩
  | false =>
    have m0 : 0 ≤ n % 1000 := Int.emod_nonneg _ (by decide)
    have m1 : n % 1000 < 1000 := Int.emod_lt_of_pos _ (by decide)
    exact iteF ⟨_, rfl, d, _, rfl, DGet.k (k := kCell) g1, _, rfl, _, _, rfl, rfl, .inl ⟨by decide, by decide⟩, _, _, rfl, rfl, _, rfl, _, _, rfl, rfl, pK, _, _, rfl, _, _, rfl, rfl, m0, m1, fun r r0 r1 => ⟨_, _, rfl, _, _, rfl, rfl, by decide, by decide, rest⟩⟩
end
end Fl
/-! programs that come to an end by themselves, within bounds -/
namespace Fl
open PySem PySem.Spec PyProof.Rows L2
/-- by fuel f it comes to something, not greater than so -/
def Good (f N D : Nat) (t : Th) : Prop := ∀ sc lim n, ∃ r, ev f t sc lim n = some r ∧ ∀ v m, r = .val v m → v.nodes ≤ N ∧ v.depth ≤ D
theorem good_leaf {f N D : Nat} {t : Th} (h : ∀ sc lim n, evPart f t sc lim n = some (.val t n)) (hn : t.nodes ≤ N) (hd : t.depth ≤ D) : Good (f + 1) N D t := fun sc lim n => by
  rw [ev_succ]
  by_cases e : n = lim
  · rw [if_pos e]
    exact ⟨_, rfl, fun v m z => nomatch z⟩
  · rw [if_neg e, h]
    refine ⟨_, rfl, fun v m z => ?_⟩
    cases z
    exact ⟨hn, hd⟩
/-- a form, by what it comes to -/
theorem good_form {f N D : Nat} {w : Str} {r : List Th} (hw : isForm w = true) (hl : r.length ≤ 100000) (hn : namesG w r = true) (hf : isFormed w r = true) (h : ∀ sc lim n, ∃ q, evGood f w r sc lim n = some q ∧ ∀ v m, q = .val v m → v.nodes ≤ N ∧ v.depth ≤ D) : Good (f + 1) N D (.tup (.str w :: r)) := fun sc lim n => by
  rw [ev_succ]
  by_cases e : n = lim
  · rw [if_pos e]
    exact ⟨_, rfl, fun v m z => nomatch z⟩
  · rw [if_neg e]
    show ∃ q, evRow f (.str w) r sc lim (n + 1) = some q ∧ _
    unfold evRow
    have sg : scG r = true := Nat.ble_eq_true_of_le hl
    rw [sg, if_neg (by decide)]
    show ∃ q, (if isForm w then evForm f w r sc lim (n + 1) else evCalls f (.str w :: r) sc lim (n + 1)) = some q ∧ _
    rw [hw, if_pos rfl, evForm, hn, hf, if_neg (by decide), if_neg (by decide)]
    exact h sc lim (n + 1)
theorem evs_two {f N D : Nat} {a b : Th} (ha : Good f N D a) (hb : Good f N D b) (sc : List Th) (lim n : Int) : ∃ q, evs f [a, b] sc lim n = some q ∧ ∀ l m, q = .vals l m → ∃ x y, l = [x, y] := by
  obtain ⟨r1, e1, _⟩ := ha sc lim n
  rw [evs, e1]
  cases r1 with
  | stop e m => exact ⟨_, rfl, fun l m z => nomatch z⟩
  | val t m =>
    obtain ⟨r2, e2, _⟩ := hb sc lim m
    simp only
    rw [evs, e2]
    cases r2 with
    | stop e m => exact ⟨_, rfl, fun l m z => nomatch z⟩
    | val t2 m2 =>
      simp only
      rw [evs]
      refine ⟨_, rfl, fun l m z => ?_⟩
      cases z
      exact ⟨_, _, rfl⟩
theorem num_doneG {w : Str} (h : isNumW w = true) (ws : List Th) : doneG w ws = true := by
  unfold isNumW at h
  rw [Bool.or_eq_true, Bool.or_eq_true, Bool.or_eq_true] at h
  rcases h with z | z | z | z <;> rw [eq_of_beq z] <;> rfl
theorem num_done {w : Str} (h : isNumW w = true) (ws : List Th) {v : Th} (e : doneBy w ws = .val v) : v.nodes ≤ 1 ∧ v.depth ≤ 0 := by
  unfold doneBy at e
  simp only at e
  rw [if_pos h] at e
  unfold ofNums at e
  split at e
  · split at e
    · cases e
      exact ⟨Nat.le_refl _, Nat.le_refl _⟩
    · simp only at e
      rename_i a b _ _ _
      generalize (if (w == ("add" : Str)) = true then a + b else if (w == ("less" : Str)) = true then a - b else a * b) = c at e
      split at e
      · cases e
        exact ⟨Nat.le_refl _, Nat.le_refl _⟩
      · cases e
  · cases e
theorem num_in {w : Str} (h : isNumW w = true) : w ∈ doneWs ∧ isForm w = true ∧ formCount w = some 2 ∧ (∀ a b, namesG w [a, b] = true) ∧ ∀ a b, isFormed w [a, b] = true := by
  unfold isNumW at h
  rw [Bool.or_eq_true, Bool.or_eq_true, Bool.or_eq_true] at h
  rcases h with z | z | z | z <;> rw [eq_of_beq z]
  · exact ⟨by decide, by decide +kernel, rfl, fun _ _ => rfl, fun _ _ => rfl⟩
  · exact ⟨by decide, by decide +kernel, rfl, fun _ _ => rfl, fun _ _ => rfl⟩
  · exact ⟨by decide, by decide +kernel, rfl, fun _ _ => rfl, fun _ _ => rfl⟩
  · exact ⟨by decide, by decide +kernel, rfl, fun _ _ => rfl, fun _ _ => rfl⟩
theorem good_num {f N D : Nat} {w : Str} {a b : Th} (hw : isNumW w = true) (hN : 1 ≤ N) (ha : Good f N D a) (hb : Good f N D b) : Good (f + 1) N D (.tup [.str w, a, b]) := by
  obtain ⟨z1, z2, z3, z4, z5⟩ := num_in hw
  refine good_form z2 (by simp) (z4 a b) (z5 a b) fun sc lim n => ?_
  rw [good_done z1]
  obtain ⟨q, e, hq⟩ := evs_two ha hb sc lim n
  rw [e]
  cases q with
  | stop e m => exact ⟨_, rfl, fun v m z => nomatch z⟩
  | vals l m =>
    show ∃ q, (if doneG w l then some ((doneBy w l).at m) else none) = some q ∧ _
    rw [num_doneG hw, if_pos rfl]
    refine ⟨_, rfl, fun v m z => ?_⟩
    cases d : doneBy w l with
    | stop e => rw [d] at z; cases z
    | val t =>
      rw [d] at z
      cases z
      obtain ⟨y1, y2⟩ := num_done hw l d
      exact ⟨by omega, by omega⟩
theorem good_iff {f N D : Nat} {a b c : Th} (ha : Good f N D a) (hb : Good f N D b) (hc : Good f N D c) : Good (f + 1) N D (.tup [.str "if", a, b, c]) := by
  refine good_form (by decide +kernel) (by simp) rfl rfl fun sc lim n => ?_
  rw [good_if]
  obtain ⟨r1, e1, _⟩ := ha sc lim n
  show ∃ q, Res.then (ev f a sc lim n) (evIf f [a, b, c] sc lim) = some q ∧ _
  rw [e1]
  cases r1 with
  | stop e m => exact ⟨_, rfl, fun v m z => nomatch z⟩
  | val t m =>
    show ∃ q, evIf f [a, b, c] sc lim t m = some q ∧ _
    unfold evIf
    split
    · rename_i x _
      cases x
      · exact hc sc lim m
      · exact hb sc lim m
    · exact ⟨_, rfl, fun v m z => nomatch z⟩
theorem good_quo {f N D : Nat} {t : Th} (hn : t.nodes ≤ N) (hd : t.depth ≤ D) : Good (f + 1) N D (.tup [.str "quote", t]) := by
  refine good_form (by decide +kernel) (by simp) rfl rfl fun sc lim n => ?_
  rw [good_quote]
  refine ⟨_, rfl, fun v m z => ?_⟩
  cases z
  exact ⟨hn, hd⟩
theorem good_fnx {f N D : Nat} (hN : 1 ≤ N) : Good (f + 1) N D (.tup [.str "fn", .tup [.str "x"], .str "x"]) := by
  refine good_form (by decide +kernel) (by simp) rfl (by decide +kernel) fun sc lim n => ?_
  rw [good_fn]
  refine ⟨_, rfl, fun v m z => ?_⟩
  cases z
  exact ⟨hN, Nat.zero_le _⟩
/-- a plain program of so many parts, that by any fuel from k on comes to something little -/
structure Pk (k S : Nat) (t : Th) : Prop where
  wo : t.worth false = true
  gd : ∀ f, k ≤ f → Good f 5 2 t
  nd : t.nodes ≤ S
theorem Pk.mono {k k' S S' : Nat} {t : Th} (h : Pk k S t) (h1 : k ≤ k') (h2 : S ≤ S') : Pk k' S' t := ⟨h.wo, fun f hf => h.gd f (by omega), by have := h.nd; omega⟩
theorem pk_leaf {t : Th} (h : ∀ f sc lim n, evPart f t sc lim n = some (.val t n)) (hw : t.worth false = true) (hn : t.nodes ≤ 5) (hd : t.depth ≤ 2) : Pk 1 5 t := ⟨hw, fun f hf => by
  obtain ⟨g, rfl⟩ : ∃ g, f = g + 1 := ⟨f - 1, by omega⟩
  exact good_leaf (h g) hn hd, hn⟩
theorem pk_int {i : Int} (h : numB i = true) : Pk 1 5 (.int i) := pk_leaf (fun _ _ _ _ => rfl) h (show 1 ≤ 5 by decide) (Nat.zero_le _)
theorem pk_bl (b : Bool) : Pk 1 5 (.bl b) := pk_leaf (fun _ _ _ _ => rfl) rfl (show 1 ≤ 5 by decide) (Nat.zero_le _)
theorem pk_nil : Pk 1 5 (.tup []) := pk_leaf (fun _ _ _ _ => rfl) rfl (show 1 ≤ 5 by decide) (show 1 ≤ 2 by decide)
theorem pk_quo {t : Th} (hw : t.worth false = true) (hn : t.nodes ≤ 3) (hd : t.depth ≤ 1) : Pk 1 5 (.tup [.str "quote", t]) := by
  refine ⟨?_, fun f hf => ?_, ?_⟩
  · rw [Th.worth, Th.worths, Th.worths, Th.worths, hw]
    decide +kernel
  · obtain ⟨g, rfl⟩ : ∃ g, f = g + 1 := ⟨f - 1, by omega⟩
    exact good_quo (by omega) (by omega)
  · simp only [Th.nodes, Th.nodesL]
    omega
theorem pk_fn : Pk 1 5 (.tup [.str "fn", .tup [.str "x"], .str "x"]) := by
  refine ⟨by decide +kernel, fun f hf => ?_, by decide⟩
  obtain ⟨g, rfl⟩ : ∃ g, f = g + 1 := ⟨f - 1, by omega⟩
  exact good_fnx (by decide)
theorem isNum_word {w : Str} (h : isNumW w = true) : wordB w = true := by
  unfold isNumW at h
  rw [Bool.or_eq_true, Bool.or_eq_true, Bool.or_eq_true] at h
  rcases h with z | z | z | z <;> rw [eq_of_beq z] <;> decide +kernel
theorem pk_num {k S : Nat} {w : Str} {a b : Th} (hw : isNumW w = true) (ha : Pk k S a) (hb : Pk k S b) : Pk (k + 1) (2 * S + 7) (.tup [.str w, a, b]) := by
  refine ⟨?_, fun f hf => ?_, ?_⟩
  · rw [Th.worth, Th.worths, Th.worths, Th.worths, Th.worths, ha.wo, hb.wo, Th.worth, isNum_word hw]
    rfl
  · obtain ⟨g, rfl⟩ : ∃ g, f = g + 1 := ⟨f - 1, by omega⟩
    exact good_num hw (by decide) (ha.gd g (by omega)) (hb.gd g (by omega))
  · have := ha.nd
    have := hb.nd
    simp only [Th.nodes, Th.nodesL]
    omega
theorem pk_if {k S : Nat} {a b c : Th} (hk : 1 ≤ k) (ha : Pk k S a) (hb : Pk k S b) (hc : Pk 1 5 c) : Pk (k + 1) (2 * S + 7) (.tup [.str "if", a, b, c]) := by
  refine ⟨?_, fun f hf => ?_, ?_⟩
  · rw [Th.worth, Th.worths, Th.worths, Th.worths, Th.worths, Th.worths, ha.wo, hb.wo, hc.wo, Th.worth]
    decide +kernel
  · obtain ⟨g, rfl⟩ : ∃ g, f = g + 1 := ⟨f - 1, by omega⟩
    exact good_iff (ha.gd g (by omega)) (hb.gd g (by omega)) (hc.gd g (by omega))
  · have := ha.nd
    have := hb.nd
    have := hc.nd
    simp only [Th.nodes, Th.nodesL]
    omega
/-- the telling, from the begin -/
theorem told_good {f N D : Nat} {t : Th} (h : Good f N D t) (lim : Int) : ∃ tt n, Res.told 0 (ev f t [] lim 0) = some (.val tt n) ∧ tt.nodes ≤ N + 4 ∧ tt.depth ≤ D + 2 := by
  obtain ⟨r, e, hr⟩ := h [] lim 0
  rw [e]
  cases r with
  | val v m =>
    obtain ⟨h1, h2⟩ := hr v m rfl
    refine ⟨_, _, rfl, ?_, ?_⟩
    · simp only [Th.nodes, Th.nodesL]
      omega
    · simp only [Th.depth, Th.depthL]
      omega
  | stop x m =>
    refine ⟨_, _, rfl, ?_, ?_⟩
    · simp only [Th.nodes, Th.nodesL]
      omega
    · simp only [Th.depth, Th.depthL]
      omega
end Fl
/-! displays of constants and names, at once -/
namespace Fl
open PySem PySem.Spec PyProof.Rows L2
/-- what is written: constants, slots, closed numbers, rows of such -/
inductive Lit where
  | non | bl (b : Bool) | int (i : Int) | str (x : Str) | var (i : Nat)
  | cl (i : Int) (te : TE) (h : ∀ σ H Q, Q (.int i) H → te σ H Q)
  | tup (l : List Lit)
mutual
def Lit.te : Lit → TE
  | .non => tC .non
  | .bl b => tC (.bl b)
  | .int i => tC (.int i)
  | .str x => tC (.str x)
  | .var i => tVar i
  | .cl _ te _ => te
  | .tup l => tTup (Lit.tes l)
def Lit.tes : List Lit → TA
  | [] => tNil
  | l :: r => tCons l.te (Lit.tes r)
end
mutual
def Lit.th (ρ : List (Nat × Th)) : Lit → Option Th
  | .non => some .non
  | .bl b => some (.bl b)
  | .int i => some (.int i)
  | .str x => if Nat.ble x.length 100000 then some (.str x) else none
  | .var i => ρ.lookup i
  | .cl i _ _ => some (.int i)
  | .tup l => if Nat.ble l.length 1000 then (match Lit.ths ρ l with
    | some ts => some (.tup ts)
    | none => none) else none
def Lit.ths (ρ : List (Nat × Th)) : List Lit → Option (List Th)
  | [] => some []
  | l :: r => match l.th ρ with
    | some t => (match Lit.ths ρ r with
      | some ts => some (t :: ts)
      | none => none)
    | none => none
end
/-- slots that hold what is told so -/
inductive Ev (C : Addr) (H : Hp) (σ : L2.St) : List (Nat × Th) → Prop
  | nil : Ev C H σ []
  | cons {i : Nat} {v : V} {t : Th} {r : List (Nat × Th)} : σ[i]? = some (some v) → Is C H v t → Ev C H σ r → Ev C H σ ((i, t) :: r)
theorem Ev.same {C : Addr} {H H' : Hp} {σ : L2.St} (s : Same H H') : ∀ {r : List (Nat × Th)}, Ev C H σ r → Ev C H' σ r
  | _, .nil => .nil
  | _, .cons e i r => .cons e (i.same s) (r.same s)
theorem Ev.look {C : Addr} {H : Hp} {σ : L2.St} {i : Nat} {t : Th} : ∀ {r : List (Nat × Th)}, Ev C H σ r → r.lookup i = some t → ∃ v, σ[i]? = some (some v) ∧ Is C H v t
  | _, .nil, e => by cases e
  | _, .cons (i := j) e1 i1 r, e => by
    rw [List.lookup_cons] at e
    cases b : i == j with
    | true =>
      rw [b] at e
      cases e
      rw [eq_of_beq b]
      exact ⟨_, e1, i1⟩
    | false =>
      rw [b] at e
      exact r.look e
theorem le_line {n : Nat} (h : Nat.ble n 1000 = true) : n ≤ sizeLine := by
  have := Nat.le_of_ble_eq_true h
  rw [sizeLine_eq]
  omega
mutual
theorem lit_run {C : Addr} {ρ : List (Nat × Th)} {σ : L2.St} : ∀ (l : Lit) {t : Th} {H : Hp} {Q : VK}, Ev C H σ ρ → l.th ρ = some t → (∀ v H', Same H H' → Is C H' v t → Q v H') → l.te σ H Q
  | .non, t, H, Q, _, e, q => by
    rw [Lit.th] at e
    cases e
    exact q _ _ (.refl _) .non
  | .bl b, t, H, Q, _, e, q => by
    rw [Lit.th] at e
    cases e
    exact q _ _ (.refl _) (.bl b)
  | .int i, t, H, Q, _, e, q => by
    rw [Lit.th] at e
    cases e
    exact q _ _ (.refl _) (.int i)
  | .str x, t, H, Q, _, e, q => by
    rw [Lit.th] at e
    split at e
    · rename_i h
      cases e
      exact q _ _ (.refl _) (.str x (Nat.le_of_ble_eq_true h))
    · cases e
  | .var i, t, H, Q, v, e, q => by
    rw [Lit.th] at e
    obtain ⟨x, e1, i1⟩ := v.look e
    exact ⟨x, e1, q _ _ (.refl _) i1⟩
  | .cl i te h, t, H, Q, _, e, q => by
    rw [Lit.th] at e
    cases e
    exact h σ H Q (q _ _ (.refl _) (.int i))
  | .tup l, t, H, Q, v, e, q => by
    rw [Lit.th] at e
    split at e
    · rename_i hl
      split at e
      · rename_i ts et
        cases e
        rw [Lit.te]
        exact lits_run l v et fun xs H' s is => ⟨by rw [is.len, ← ths_len l et]; exact le_line hl, fun p np => q _ _ (s.trans (same_new np _)) (.tup upd_same (is.same (same_new np _)))⟩
      · cases e
    · cases e
theorem lits_run {C : Addr} {ρ : List (Nat × Th)} {σ : L2.St} : ∀ (l : List Lit) {ts : List Th} {H : Hp} {Q : List V → Hp → Prop}, Ev C H σ ρ → Lit.ths ρ l = some ts → (∀ xs H', Same H H' → Iss C H' xs ts → Q xs H') → Lit.tes l σ H Q
  | [], ts, H, Q, _, e, q => by
    rw [Lit.ths] at e
    cases e
    exact q _ _ (.refl _) .nil
  | l :: r, ts, H, Q, v, e, q => by
    rw [Lit.ths] at e
    split at e
    · rename_i t et
      split at e
      · rename_i tr er
        cases e
        rw [Lit.tes]
        exact lit_run l v et fun x H1 s1 i1 => lits_run r (v.same s1) er fun xs H2 s2 i2 => q _ _ (s1.trans s2) (.cons (i1.same s2) i2)
      · cases e
    · cases e
theorem ths_len {ρ : List (Nat × Th)} : ∀ (l : List Lit) {ts : List Th}, Lit.ths ρ l = some ts → l.length = ts.length
  | [], ts, e => by
    rw [Lit.ths] at e
    cases e
    rfl
  | l :: r, ts, e => by
    rw [Lit.ths] at e
    split at e
    · split at e
      · rename_i tr er
        cases e
        exact congrArg Nat.succ (ths_len r er)
      · cases e
    · cases e
end
def tLit (C : Addr) (l : Lit) : TE := fun σ H Q => ∃ ρ t, Ev C H σ ρ ∧ l.th ρ = some t ∧ ∀ v H', Same H H' → Is C H' v t → Q v H'
def tLits (C : Addr) (l : List Lit) : TE := fun σ H Q => ∃ ρ ts, Ev C H σ ρ ∧ Lit.ths ρ l = some ts ∧ Nat.ble l.length 1000 = true ∧ ∀ D xs H', Same H H' → H D = none → H' D = some (.lst xs) → Iss C H' xs ts → Q (.ref D) H'
section
variable {X : Cx} {e : Expr}
theorem pe_imp {te te' : TE} (h : PE X e te) (i : ∀ σ H Q, te' σ H Q → te σ H Q) : PE X e te' := ⟨fun pins s σ H Q I q => h.run pins s σ H Q I (i _ _ _ q)⟩
theorem pe_lit {C : Addr} (l : Lit) (h : PE X e l.te) : PE X e (tLit C l) := pe_imp h fun σ H Q q => by
  obtain ⟨ρ, t, v, e, q⟩ := q
  exact lit_run l v e q
theorem pe_lits {C : Addr} (l : List Lit) (h : PE X e (tLst (Lit.tes l))) : PE X e (tLits C l) := pe_imp h fun σ H Q q => by
  obtain ⟨ρ, ts, v, e, hl, q⟩ := q
  exact lits_run l v e fun xs H' s is => ⟨by rw [is.len, ← ths_len l e]; exact le_line hl, fun p np => q p xs _ (s.trans (same_new np _)) (by
    cases h : H p with
    | none => rfl
    | some o => rw [s _ _ h] at np; cases np) upd_same (is.same (same_new np _))⟩
end
theorem cl_neg (i : Int) : ∀ (σ : L2.St) (H : Hp) (Q : VK), Q (.int (-i)) H → tUn (rU fun i => .int (-i)) (tC (.int i)) σ H Q := fun _ _ _ q => ⟨_, rfl, q⟩
theorem cl_pow9 : ∀ (σ : L2.St) (H : Hp) (Q : VK), Q (.int 1000000000) H → tOp (rI CPow fun i j => .int (i ^ j.toNat)) (tC (.int 10)) (tC (.int 9)) σ H Q := fun _ _ _ q => ⟨_, _, rfl, rfl, ⟨by decide, by decide, by decide⟩, q⟩
theorem cl_npow9 : ∀ (σ : L2.St) (H : Hp) (Q : VK), Q (.int (-1000000000)) H → tOp (rI0 fun i j => .int (i - j)) (tC (.int 0)) (tOp (rI CPow fun i j => .int (i ^ j.toNat)) (tC (.int 10)) (tC (.int 9))) σ H Q := fun _ _ _ q => ⟨_, _, rfl, rfl, ⟨by decide, by decide, by decide⟩, _, _, rfl, rfl, q⟩
section
variable {X : Cx}
theorem pe_negL {i : Int} {k : Nat} {p pos : Pos} : PE X (.UnaryOp .USub (.Constant (.int i) k p) pos) (Lit.te (.cl (-i) _ (cl_neg i))) := by
  have h : PE X (.UnaryOp .USub (.Constant (.int i) k p) pos) (tUn (rU fun i => .int (-i)) (tC (.int i))) := pe_un un_neg pe_int
  exact h
theorem pe_pow9L {k k2 : Nat} {p p2 pos : Pos} : PE X (.BinOp (.Constant (.int 10) k p) .Pow (.Constant (.int 9) k2 p2) pos) (Lit.te (.cl 1000000000 _ cl_pow9)) := by
  have h : PE X (.BinOp (.Constant (.int 10) k p) .Pow (.Constant (.int 9) k2 p2) pos) (tOp (rI CPow fun i j => .int (i ^ j.toNat)) (tC (.int 10)) (tC (.int 9))) := pe_op op_pow pe_int pe_int
  exact h
theorem pe_npow9L {k k2 k3 : Nat} {p p2 p3 pos pos2 : Pos} : PE X (.BinOp (.Constant (.int 0) k3 p3) .Sub (.BinOp (.Constant (.int 10) k p) .Pow (.Constant (.int 9) k2 p2) pos2) pos) (Lit.te (.cl (-1000000000) _ cl_npow9)) := by
  have h : PE X (.BinOp (.Constant (.int 0) k3 p3) .Sub (.BinOp (.Constant (.int 10) k p) .Pow (.Constant (.int 9) k2 p2) pos2) pos) (tOp (rI0 fun i j => .int (i - j)) (tC (.int 0)) (tOp (rI CPow fun i j => .int (i ^ j.toNat)) (tC (.int 10)) (tC (.int 9)))) := pe_op op_sub pe_int (pe_op op_pow pe_int pe_int)
  exact h
end
end Fl
/-! what the laws of the reckoning have in common -/
namespace Fl
open PySem PySem.Spec PyProof.Rows L2
theorem p12 : (0 : Int) < 12 := by decide
theorem p7' : (0 : Int) < 7 := by decide
theorem p10' : (0 : Int) < 10 := by decide
theorem s10 : 10 ≤ sizeLine := by decide
theorem s7 : 7 ≤ sizeLine := by decide
theorem s5 : 5 ≤ sizeLine := by decide
theorem dw_ne {d p : Addr} {H : Hp} (h : Dw d H) (n : H p = none) : p ≠ d := by
  obtain ⟨c, l, m, e⟩ := h
  exact (ne_of_none e n).symm
theorem atI_mod {α : Type} {xs : List α} {i n : Int} (hn : (xs.length : Int) = n) (hp : 0 < n) : ∃ x, atI xs (i % n) = some x ∧ x ∈ xs := by
  have h0 : 0 ≤ i % n := Int.emod_nonneg _ (by omega)
  have h1 : i % n < n := Int.emod_lt_of_pos _ hp
  obtain ⟨j, ej⟩ : ∃ j : Nat, i % n = (j : Int) := ⟨(i % n).toNat, by omega⟩
  have hj : j < xs.length := by omega
  refine ⟨xs[j], ?_, List.getElem_mem hj⟩
  rw [ej]
  exact atI_nat (List.getElem?_eq_getElem hj)
theorem Iss.mem {C : Addr} {H : Hp} : ∀ {xs : List V} {ts : List Th} {x : V}, Iss C H xs ts → x ∈ xs → ∃ t, t ∈ ts ∧ Is C H x t
  | _, _, _, .cons h _, .head _ => ⟨_, .head _, h⟩
  | _, _, _, .cons _ r, .tail _ m => by
    obtain ⟨t, h1, h2⟩ := r.mem m
    exact ⟨t, .tail _ h1, h2⟩
/-- one of some, drawn -/
theorem pick {C : Addr} {H : Hp} {xs : List V} {ts : List Th} (h : Iss C H xs ts) (n : Int) (hl : (ts.length : Int) = n) (hn : 0 < n) (r : Int) : ∃ x t, atI xs (r % n) = some x ∧ t ∈ ts ∧ Is C H x t := by
  obtain ⟨x, e, m⟩ := atI_mod (xs := xs) (i := r) (n := n) (by rw [h.len]; exact hl) hn
  obtain ⟨t, m2, i⟩ := h.mem m
  exact ⟨x, t, e, m2, i⟩
theorem numB_of {i : Int} (h1 : -1000000000 ≤ i) (h2 : i ≤ 1000000000) : numB i = true := by
  unfold numB
  rw [decide_eq_true h1, decide_eq_true h2]
  rfl
theorem pow9e : (10 : Int) ^ (9 : Int).toNat = 1000000000 := by decide
def Scr (K : PySem.W.Frag) (H : Hp) (a : Addr) (xs : List V) : Prop := (∃ o, H a = some (.frz o (.lst xs))) ∨ ∀ H', SqL K H' a xs
theorem Scr.sq {K : PySem.W.Frag} {H : Hp} {a : Addr} {xs : List V} (h : Scr K H a xs) : SqL K H a xs := by
  rcases h with ⟨o, h⟩ | h
  · exact .inl (.inr ⟨o, h⟩)
  · exact h H
theorem Scr.same {K : PySem.W.Frag} {H H' : Hp} {a : Addr} {xs : List V} (h : Scr K H a xs) (s : Same H H') : Scr K H' a xs := by
  rcases h with ⟨o, h⟩ | h
  · exact .inl ⟨o, s _ _ h⟩
  · exact .inr h
theorem scr_of {K : PySem.W.Frag} {H : Hp} {a : Addr} {xs : List V} (o : Only H) (h : SqL K H a xs) : Scr K H a xs := by
  rcases h with (h | ⟨ob, h⟩) | h
  · rcases o a with z | ⟨_, _, z⟩ <;> rw [h] at z <;> cases z
  · exact .inl ⟨ob, h⟩
  · exact .inr fun _ => .inr h
def spLaw (K : PySem.W.Frag) : Sp := sp1 fun v H Q _ => ∃ (a : Addr) (ns : List Int), v = .ref a ∧ Scr K H a (ns.map V.int) ∧ ns.length ≤ 63 ∧ ∀ H', Q (.bl true) H'
structure Te (mg : Str → Option Value) : Prop where
  z_range : mg "range" = none
  z_repr : mg "repr" = none
  z_tuple : mg "tuple" = none
  z_len : mg "len" = none
  z_zip : mg "zip" = none
  z_isinstance : mg "isinstance" = none
  z_int : mg "int" = none
  z_bool : mg "bool" = none
  z_str : mg "str" = none
  z_list : mg "list" = none
/-- what the draws change is not of Hb -/
theorem same_fd {d : Addr} {Hb H H' : Hp} (n : Hb d = none) (s : Same Hb H) (f : Fd d H H') : Same Hb H' := fun b o e => f _ _ (ne_of_none e n) (s _ _ e)
theorem leaf_int (i : Int) : ∀ f sc lim n, evPart f (.int i) sc lim n = some (.val (.int i) n) := fun _ _ _ _ => rfl
theorem leaf_bl (i : Bool) : ∀ f sc lim n, evPart f (.bl i) sc lim n = some (.val (.bl i) n) := fun _ _ _ _ => rfl
theorem at_new {H : Hp} {p : Addr} (_ : H p = none) (o : HO) : upd H p o p = some o := upd_same
theorem keep_tup {H : Hp} {b c : Addr} {l xs : List V} (hb : H b = some (.lst l)) (e : H c = some (.tup xs)) (o : HO) : upd H b o c = some (.tup xs) := by
  rw [upd_ne (ne_of e hb (by intro z; cases z))]
  exact e
def heapOf {H : Hp} {p : Addr} {o : HO} (_ : H p = some o) : Hp := H
theorem pow9v : V.int (10 ^ (9 : Int).toNat) = V.int 1000000000 := rfl
theorem nomod {r : Int} : r % 3 = 0 ∨ r % 3 = 1 ∨ r % 3 = 2 := by omega
theorem cut16 (k : Nat) (ns : List Int) : cutV (ns.map V.int) none (some (k : Int)) = (ns.take k).map V.int := by
  unfold cutV
  rw [sIx_none0, sIx_pos (by omega), List.drop_zero, Nat.sub_zero, List.length_map]
  show (ns.map V.int).take (min ((k : Int)).toNat ns.length) = _
  rw [List.map_take, show ((k : Int)).toNat = k from rfl]
  by_cases h16 : k ≤ ns.length
  · rw [Nat.min_eq_left h16]
  · rw [Nat.min_eq_right (by omega), List.take_of_length_le (by rw [List.length_map]; exact Nat.le_refl _), List.take_of_length_le (by rw [List.length_map]; omega)]
/-- the loop of a law over its script's first cells and one more -/
theorem cells {K : PySem.W.Frag} {C a : Addr} {ns : List Int} {body : TS} {D : Ends} {σ0 : L2.St} {H : Hp} {k : Nat} {z : Int} (hS : Scr K H a (ns.map V.int)) (h63 : ns.length ≤ 63) (hσ : σ0[0]? = some (some (.ref a))) (I : L2.St → Prop) (h0 : I σ0)
    (step : ∀ (D' : Ends) (σ : L2.St) (c : Int) (H4 : Hp), I σ → D'.rt = D.rt → (∀ σ' H', I σ' → Same H4 H' → D'.nx σ' H') → body D' (σ.set 1 (some (.int c))) H4) (hd : ∀ σ H', I σ → D.nx σ H') :
    tFor (iList K (tOp rCat (tSl (rSlL K) (tVar 0) tNoPart (tPart (tC (.int (k : Int))))) (tLits C [.int z]))) (gName 1) body D σ0 H := by
  refine ⟨_, hσ, _, rfl, a, _, rfl, hS.sq, fun p1 np1 => ?_⟩
  refine ⟨[], _, .nil, rfl, rfl, fun p2 l2 H2 s02 n2 e2 i2 => ?_⟩
  rw [cut16] at s02
  have el : l2 = [.int z] := by
    cases i2 with
    | cons j1 r =>
      cases j1
      cases r
      rfl
  subst el
  refine ⟨p1, p2, _, _, rfl, rfl, s02 _ _ upd_same, e2, ?_, fun p33 np33 => ?_⟩
  · rw [List.length_map, List.length_take, sizeLine_eq]
    show min k ns.length + 1 ≤ _
    omega
  have e3 : (upd H2 p33 (.lst ((ns.take k).map V.int ++ [.int z]))) p33 = some (.lst ((ns.take k ++ [z]).map V.int)) := by
    rw [upd_same, List.map_append]
    rfl
  generalize upd H2 p33 (.lst ((ns.take k).map V.int ++ [.int z])) = H3 at e3 ⊢
  refine ⟨p33, rfl, ⟨_, SqL.of e3⟩, ?_⟩
  refine for_it (walk_list (K := K) (a := p33) (xs := (ns.take k ++ [z]).map V.int)) (fun i σ H' => I σ ∧ Same H3 H') ⟨h0, .refl _⟩ (fun _ _ _ _ z => SqL.of (z.2 _ _ e3)) ?_ ?_
  · rintro i y σ HX H4 hi ⟨iσ, r1⟩ ⟨rfl, hy⟩
    obtain ⟨c, rfl⟩ : ∃ c, y = .int c := by
      rw [List.getElem?_map] at hy
      cases e : (ns.take k ++ [z])[i]? with
      | none => rw [e] at hy; cases hy
      | some z => rw [e] at hy; exact ⟨z, (Option.some.inj hy).symm⟩
    exact step _ σ c _ iσ rfl fun σ' H' i' s' => ⟨i', r1.trans s'⟩
  · rintro σ H4 ⟨iσ, r1⟩
    exact hd σ H4 iσ
end Fl
/-! parts that come to an end within so much fuel, and what of -/
namespace Fl
open PySem PySem.Spec PyProof.Rows L2
/-- by any fuel from k on the part comes to an end; a worth that comes is as A says -/
def Ev' (k : Nat) (sc : List Th) (t : Th) (A : Th → Prop) : Prop := ∀ f, k ≤ f → ∀ lim n, n ≤ lim → ∃ r, ev f t sc lim n = some r ∧ ∀ v m, r = .val v m → A v
theorem Ev'.mono {k k' : Nat} {sc : List Th} {t : Th} {A B : Th → Prop} (h : Ev' k sc t A) (hk : k ≤ k') (ab : ∀ v, A v → B v) : Ev' k' sc t B := fun f hf lim n hn => by
  obtain ⟨r, e, q⟩ := h f (by omega) lim n hn
  exact ⟨r, e, fun v m z => ab v (q v m z)⟩
theorem Ev'.up {k k' : Nat} {sc : List Th} {t : Th} {A : Th → Prop} (h : Ev' k sc t A) (hk : k ≤ k') : Ev' k' sc t A := h.mono hk fun _ a => a
theorem ev_part {k : Nat} {sc : List Th} {t : Th} {A : Th → Prop} (h : ∀ f, k ≤ f → ∀ lim n, n ≤ lim → ∃ r, evPart f t sc lim n = some r ∧ ∀ v m, r = .val v m → A v) : Ev' (k + 1) sc t A := fun f hf lim n hn => by
  obtain ⟨g, rfl⟩ : ∃ g, f = g + 1 := ⟨f - 1, by omega⟩
  rw [ev_succ]
  by_cases e : n = lim
  · rw [if_pos e]
    exact ⟨_, rfl, fun v m z => nomatch z⟩
  · rw [if_neg e]
    exact h g (by omega) lim (n + 1) (by omega)
theorem ev_self {k : Nat} {sc : List Th} {t : Th} {A : Th → Prop} (h : ∀ f lim n, evPart f t sc lim n = some (.val t n)) (a : A t) : Ev' (k + 1) sc t A := ev_part fun f _ lim n _ => ⟨_, h f lim n, fun v m z => by cases z; exact a⟩
theorem ev_int {k : Nat} {sc : List Th} {i : Int} {A : Th → Prop} (a : A (.int i)) : Ev' (k + 1) sc (.int i) A := ev_self (fun _ _ _ => rfl) a
theorem ev_bl {k : Nat} {sc : List Th} {b : Bool} {A : Th → Prop} (a : A (.bl b)) : Ev' (k + 1) sc (.bl b) A := ev_self (fun _ _ _ => rfl) a
theorem ev_nil {k : Nat} {sc : List Th} {A : Th → Prop} (a : A (.tup [])) : Ev' (k + 1) sc (.tup []) A := ev_self (fun _ _ _ => rfl) a
theorem ev_fnv {k : Nat} {sc l : List Th} {A : Th → Prop} (a : A (.fn l)) : Ev' (k + 1) sc (.fn l) A := ev_self (fun _ _ _ => rfl) a
/-- a word, by what it finds -/
theorem ev_word {k : Nat} {sc : List Th} {x : Str} {A : Th → Prop} (a : isForm x = false → ∀ v, (looks x sc).head? = some v → A v) : Ev' (k + 1) sc (.str x) A := ev_part fun f _ lim n _ => by
  show ∃ r, some (evWord x sc n) = some r ∧ _
  refine ⟨_, rfl, fun v m z => ?_⟩
  unfold evWord at z
  cases c : isForm x with
  | true =>
    rw [c, if_pos rfl] at z
    cases z
  | false =>
    rw [c, if_neg (by decide)] at z
    split at z
    · rename_i v' r e
      cases z
      exact a c _ (by rw [e]; rfl)
    · cases z
theorem ev_formed {k : Nat} {sc r : List Th} {w : Str} {A : Th → Prop} (hw : isForm w = true) (hl : r.length ≤ 100000) (hn : namesG w r = true) (h : isFormed w r = true → ∀ f, k ≤ f → ∀ lim n, n ≤ lim → ∃ q, evGood f w r sc lim n = some q ∧ ∀ v m, q = .val v m → A v) : Ev' (k + 1) sc (.tup (.str w :: r)) A := ev_part fun f hf lim n hn' => by
  show ∃ q, evRow f (.str w) r sc lim n = some q ∧ _
  unfold evRow
  have sg : scG r = true := Nat.ble_eq_true_of_le hl
  rw [sg, if_neg (by decide)]
  show ∃ q, (if isForm w then evForm f w r sc lim n else evCalls f (.str w :: r) sc lim n) = some q ∧ _
  rw [hw, if_pos rfl, evForm, hn, if_neg (by decide)]
  cases c : isFormed w r with
  | false => exact ⟨_, rfl, fun v m z => nomatch z⟩
  | true => exact h c f hf lim n hn'
/-- a form that is none -/
theorem ev_unformed {k : Nat} {sc r : List Th} {w : Str} {A : Th → Prop} (hw : isForm w = true) (hl : r.length ≤ 100000) (hn : namesG w r = true) (h : isFormed w r = false) : Ev' (k + 1) sc (.tup (.str w :: r)) A :=
  ev_formed (k := k) hw hl hn fun z => by rw [h] at z; cases z
theorem ev_quote {k : Nat} {sc : List Th} {t : Th} {A : Th → Prop} (a : A t) : Ev' (k + 1) sc (.tup [.str "quote", t]) A := ev_formed (by decide +kernel) (by simp) rfl fun _ f _ lim n _ => by
  rw [good_quote]
  exact ⟨_, rfl, fun v m z => by cases z; exact a⟩
theorem ev_fn {k : Nat} {sc : List Th} {ns b : Th} {A : Th → Prop} (hn : ns.row.length ≤ 4000) (a : areNames ns = true → A (.fn [ns, b, .tup sc, .non])) : Ev' (k + 1) sc (.tup [.str "fn", ns, b]) A := by
  refine ev_formed (by decide +kernel) (by simp) ?_ fun c f _ lim n _ => ?_
  · show (!(("fn" : Str) == "fn" || ("fn" : Str) == "rec") || Nat.ble ns.row.length namesMost) = true
    rw [show Nat.ble ns.row.length namesMost = true from Nat.ble_eq_true_of_le hn, Bool.or_true]
  · rw [good_fn]
    refine ⟨_, rfl, fun v m z => ?_⟩
    cases z
    refine a ?_
    unfold isFormed at c
    rw [Bool.and_eq_true, Bool.and_eq_true] at c
    have z := c.2.2
    rw [show ((("fn" : Str) == "fn" || ("fn" : Str) == "rec")) = true by decide] at z
    simpa using z
theorem ev_rec {k : Nat} {sc : List Th} {o ns b : Th} {A : Th → Prop} (hn : ns.row.length ≤ 4000) (a : areNames ns = true → isName o = true → A (.fn [ns, b, .tup sc, o])) : Ev' (k + 1) sc (.tup [.str "rec", o, ns, b]) A := by
  refine ev_formed (by decide +kernel) (by simp) ?_ fun c f _ lim n _ => ?_
  · show (!(("rec" : Str) == "fn" || ("rec" : Str) == "rec") || Nat.ble ns.row.length namesMost) = true
    rw [show Nat.ble ns.row.length namesMost = true from Nat.ble_eq_true_of_le hn, Bool.or_true]
  · rw [good_rec]
    refine ⟨_, rfl, fun v m z => ?_⟩
    cases z
    unfold isFormed at c
    rw [Bool.and_eq_true, Bool.and_eq_true] at c
    have z1 := c.2.1
    have z2 := c.2.2
    rw [show ((("rec" : Str) == "fn" || ("rec" : Str) == "rec")) = true by decide] at z2
    rw [show ((("rec" : Str) == "let" || ("rec" : Str) == "rec")) = true by decide] at z1
    exact a (by simpa using z2) (by simpa using z1)
theorem ev_let {k : Nat} {sc : List Th} {x : Th} {a b : Th} {A C : Th → Prop} (hs : sc.length ≤ 100000) (ha : Ev' k sc a A) (hb : isName x = true → ∀ v, A v → Ev' k (.tup [x, v] :: sc) b C) : Ev' (k + 1) sc (.tup [.str "let", x, a, b]) C := by
  refine ev_formed (by decide +kernel) (by simp) rfl fun c f hf lim n hn => ?_
  have hx : isName x = true := by
    unfold isFormed at c
    rw [Bool.and_eq_true, Bool.and_eq_true] at c
    have z1 := c.2.1
    rw [show ((("let" : Str) == "let" || ("let" : Str) == "rec")) = true by decide] at z1
    simpa using z1
  rw [good_let]
  obtain ⟨r, e, q⟩ := ha f hf lim n hn
  have fit := ev_fits f _ _ _ _ _ hn e
  show ∃ q, Res.then (ev f a sc lim n) (fun v m => if scG sc then ev f b (.tup [x, v] :: sc) lim m else none) = some q ∧ _
  rw [e]
  cases r with
  | stop e m => exact ⟨_, rfl, fun v m z => nomatch z⟩
  | val t m =>
    show ∃ q, (if scG sc then ev f b (.tup [x, t] :: sc) lim m else none) = some q ∧ _
    rw [show scG sc = true from Nat.ble_eq_true_of_le hs, if_pos rfl]
    exact hb hx t (q t m rfl) f hf lim m fit.2
theorem ev_if {k : Nat} {sc : List Th} {a b c : Th} {A C : Th → Prop} (ha : Ev' k sc a A) (hb : Ev' k sc b C) (hc : Ev' k sc c C) : Ev' (k + 1) sc (.tup [.str "if", a, b, c]) C := by
  refine ev_formed (by decide +kernel) (by simp) rfl fun _ f hf lim n hn => ?_
  rw [good_if]
  obtain ⟨r, e, q⟩ := ha f hf lim n hn
  have fit := ev_fits f _ _ _ _ _ hn e
  show ∃ q, Res.then (ev f a sc lim n) (evIf f [a, b, c] sc lim) = some q ∧ _
  rw [e]
  cases r with
  | stop e m => exact ⟨_, rfl, fun v m z => nomatch z⟩
  | val t m =>
    show ∃ q, evIf f [a, b, c] sc lim t m = some q ∧ _
    have no : (∀ x, t ≠ .bl x) → ∃ q, evIf f [a, b, c] sc lim t m = some q ∧ ∀ v m, q = .val v m → C v := fun h => by
      unfold evIf
      split
      · exact absurd rfl (h _)
      · exact ⟨_, rfl, fun v m z => nomatch z⟩
    cases t with
    | bl x =>
      cases x
      · exact hc f hf lim m fit.2
      · exact hb f hf lim m fit.2
    | _ => exact no fun x z => nomatch z
/-- parts one behind the other -/
inductive Evs' (k : Nat) (sc : List Th) : List Th → List (Th → Prop) → Prop
  | nil : Evs' k sc [] []
  | cons {t : Th} {A : Th → Prop} {ts : List Th} {As : List (Th → Prop)} : Ev' k sc t A → Evs' k sc ts As → Evs' k sc (t :: ts) (A :: As)
inductive Alls : List Th → List (Th → Prop) → Prop
  | nil : Alls [] []
  | cons {t : Th} {A : Th → Prop} {ts : List Th} {As : List (Th → Prop)} : A t → Alls ts As → Alls (t :: ts) (A :: As)
theorem Alls.len : ∀ {ts : List Th} {As : List (Th → Prop)}, Alls ts As → ts.length = As.length
  | _, _, .nil => rfl
  | _, _, .cons _ r => congrArg Nat.succ r.len
theorem Evs'.len {k : Nat} {sc : List Th} : ∀ {ts : List Th} {As : List (Th → Prop)}, Evs' k sc ts As → ts.length = As.length
  | _, _, .nil => rfl
  | _, _, .cons _ r => congrArg Nat.succ r.len
theorem Evs'.up {k k' : Nat} {sc : List Th} (hk : k ≤ k') : ∀ {ts : List Th} {As : List (Th → Prop)}, Evs' k sc ts As → Evs' k' sc ts As
  | _, _, .nil => .nil
  | _, _, .cons h r => .cons (h.up hk) (r.up hk)
theorem evs_run {k : Nat} {sc : List Th} : ∀ {ts : List Th} {As : List (Th → Prop)}, Evs' k sc ts As → ∀ f, k ≤ f → ∀ lim n, n ≤ lim → ∃ q, evs f ts sc lim n = some q ∧ ∀ l m, q = .vals l m → Alls l As
  | _, _, .nil, f, hf, lim, n, hn => by
    rw [evs]
    exact ⟨_, rfl, fun l m z => by cases z; exact .nil⟩
  | _, _, .cons h r, f, hf, lim, n, hn => by
    rw [evs]
    obtain ⟨q1, e1, k1⟩ := h f hf lim n hn
    have fit := ev_fits f _ _ _ _ _ hn e1
    rw [e1]
    cases q1 with
    | stop e m => exact ⟨_, rfl, fun l m z => nomatch z⟩
    | val t m =>
      simp only
      obtain ⟨q2, e2, k2⟩ := evs_run r f hf lim m fit.2
      rw [e2]
      cases q2 with
      | stop e m => exact ⟨_, rfl, fun l m z => nomatch z⟩
      | vals l m2 => exact ⟨_, rfl, fun l' m' z => by cases z; exact .cons (k1 _ _ rfl) (k2 _ _ rfl)⟩
theorem done_names {w : Str} (h : w ∈ doneWs) (r : List Th) : namesG w r = true := by
  have z : ∀ x ∈ doneWs, (x == "fn" || x == "rec") = false := by decide +kernel
  unfold namesG
  rw [z w h]
  rfl
theorem done_isForm {w : Str} (h : w ∈ doneWs) : isForm w = true := by
  have z : ∀ x ∈ doneWs, isForm x = true := by decide +kernel
  exact z w h
/-- a form all of whose parts are reckoned -/
theorem ev_done {k : Nat} {sc r : List Th} {w : Str} {As : List (Th → Prop)} {C : Th → Prop} (hw : w ∈ doneWs) (hl : r.length ≤ 100000) (hr : Evs' k sc r As) (hc : ∀ l, Alls l As → formCount w = some l.length → doneG w l = true ∧ ∀ v, doneBy w l = .val v → C v) : Ev' (k + 1) sc (.tup (.str w :: r)) C := by
  refine ev_formed (done_isForm hw) hl (done_names hw r) fun c f hf lim n hn => ?_
  rw [good_done hw]
  obtain ⟨q, e, z⟩ := evs_run hr f hf lim n hn
  rw [e]
  cases q with
  | stop e m => exact ⟨_, rfl, fun v m z => nomatch z⟩
  | vals l m =>
    have al := z l m rfl
    have ln := hr.len
    have fc : formCount w = some l.length := by
      rw [al.len, ← ln]
      unfold isFormed at c
      rw [Bool.and_eq_true, decide_eq_true_eq] at c
      exact c.1
    obtain ⟨d1, d2⟩ := hc l al fc
    show ∃ q, (if doneG w l then some ((doneBy w l).at m) else none) = some q ∧ _
    rw [d1, if_pos rfl]
    refine ⟨_, rfl, fun v m' z => ?_⟩
    cases d : doneBy w l with
    | stop e => rw [d] at z; cases z
    | val t =>
      rw [d] at z
      cases z
      exact d2 _ d
/-- what is called comes to an end -/
def Co (k : Nat) (v : Th) (vs : List Th) (C : Th → Prop) : Prop := ∀ f, k ≤ f → ∀ lim n, n ≤ lim → ∃ r, evCall f (v :: vs) lim n = some r ∧ ∀ w m, r = .val w m → C w
theorem Co.mono {k k' : Nat} {v : Th} {vs : List Th} {A B : Th → Prop} (h : Co k v vs A) (hk : k ≤ k') (ab : ∀ v, A v → B v) : Co k' v vs B := fun f hf lim n hn => by
  obtain ⟨r, e, q⟩ := h f (by omega) lim n hn
  exact ⟨r, e, fun v m z => ab v (q v m z)⟩
theorem co_none {k : Nat} {v : Th} {vs : List Th} {C : Th → Prop} (h : v.isFn = false) : Co k v vs C := fun f _ lim n _ => by
  refine ⟨.stop "kind" n, ?_, fun w m z => nomatch z⟩
  unfold evCall
  cases v <;> first | rfl | cases h
theorem co_fn {k : Nat} {ns b o : Th} {sc vs : List Th} {C : Th → Prop} (h1 : sc.length ≤ 100000) (h2 : ns.row.length ≤ 100000) (h : ns.row.length = vs.length → Ev' k (bindAll ns.row vs (ownTh (.fn [ns, b, .tup sc, o]) o sc)) b C) : Co k (.fn [ns, b, .tup sc, o]) vs C := fun f hf lim n hn => by
  by_cases c : ns.row.length = vs.length
  · obtain ⟨r, e, q⟩ := h c f hf lim n hn
    refine ⟨r, ?_, q⟩
    unfold evCall
    show (if !callsOn then none else if ns.row.length = vs.length then (if scG sc && scG ns.row then ev f b (bindAll ns.row vs (ownTh (.fn [ns, b, .tup sc, o]) o sc)) lim n else none) else some (.stop "count" n)) = some r
    rw [if_neg (by decide), if_pos c, show scG sc = true from Nat.ble_eq_true_of_le h1, show scG ns.row = true from Nat.ble_eq_true_of_le h2]
    exact e
  · refine ⟨.stop "count" n, ?_, fun w m z => nomatch z⟩
    unfold evCall
    show (if !callsOn then none else if ns.row.length = vs.length then (if scG sc && scG ns.row then ev f b (bindAll ns.row vs (ownTh (.fn [ns, b, .tup sc, o]) o sc)) lim n else none) else some (.stop "count" n)) = _
    rw [if_neg (by decide), if_neg c]
def notForm (h : Th) : Prop := ∀ w, h = .str w → isForm w = false
/-- a call -/
theorem ev_call {k : Nat} {sc ts : List Th} {h : Th} {A : Th → Prop} {As : List (Th → Prop)} {C : Th → Prop} (hh : notForm h) (hl : ts.length ≤ 100000) (ha : Ev' k sc h A) (hr : Evs' k sc ts As) (hc : ∀ v vs, A v → Alls vs As → Co k v vs C) : Ev' (k + 1) sc (.tup (h :: ts)) C := ev_part fun f hf lim n hn => by
  show ∃ q, evRow f h ts sc lim n = some q ∧ _
  unfold evRow
  rw [show scG ts = true from Nat.ble_eq_true_of_le hl, if_neg (by decide)]
  have main : ∃ q, evCalls f (h :: ts) sc lim n = some q ∧ ∀ v m, q = .val v m → C v := by
    unfold evCalls
    obtain ⟨q, e, z⟩ := evs_run (.cons ha hr) f hf lim n hn
    have fit := evs_fits (ev_fits f) _ _ _ _ _ hn e
    rw [e]
    cases q with
    | stop e m => exact ⟨_, rfl, fun v m z => nomatch z⟩
    | vals l m =>
      have al := z l m rfl
      cases al with
      | cons a1 a2 => exact hc _ _ a1 a2 f hf lim m fit.2
  cases e : strOf h with
  | none => exact main
  | some w =>
    have hw : h = .str w := by
      cases h <;> first | (cases e; rfl) | cases e
    show ∃ q, (if isForm w then evForm f w ts sc lim n else evCalls f (h :: ts) sc lim n) = some q ∧ _
    rw [hh w hw]
    exact main
/-- a run -/
theorem ev_run {k : Nat} {sc : List Th} {a b : Th} {A B D C : Th → Prop} (ha : Ev' k sc a A) (hb : Ev' k sc b B) (hd : ∀ v, A v → Ev' k [] v D) (hc : ∀ e v n, e ∈ (("over" : Str) :: endWs) → (v = .tup [] ∨ D v) → C (.tup [.str e, v, .int n])) : Ev' (k + 1) sc (.tup [.str "run", a, b]) C := by
  refine ev_formed (by decide +kernel) (by simp) rfl fun c f hf lim n hn => ?_
  rw [good_run]
  obtain ⟨q, e, z⟩ := evs_run (.cons ha (.cons hb .nil)) f hf lim n hn
  have fit := evs_fits (ev_fits f) _ _ _ _ _ hn e
  rw [e]
  cases q with
  | stop e m => exact ⟨_, rfl, fun v m z => nomatch z⟩
  | vals l m =>
    have al := z l m rfl
    cases al with
    | cons a1 al =>
      cases al with
      | cons a2 al =>
        cases al
        rename_i v1 v2
        show ∃ q, evRun f lim [v1, v2] m = some q ∧ _
        have no : (∀ i, v2 ≠ .int i) → ∃ q, evRun f lim [v1, v2] m = some q ∧ ∀ v m, q = .val v m → C v := fun h => by
          unfold evRun
          split
          · rename_i i ei
            exact absurd ei (h i)
          · exact ⟨_, rfl, fun v m z => nomatch z⟩
        cases v2 with
        | int i =>
          show ∃ q, (if 0 ≤ i ∧ i ≤ 100000 then Res.told m (ev f v1 [] (min (m + i) lim) m) else some (.stop "kind" m)) = some q ∧ _
          by_cases c : 0 ≤ i ∧ i ≤ 100000
          · rw [if_pos c]
            have le : m ≤ min (m + i) lim := by have := fit.2; omega
            obtain ⟨r, e, q⟩ := hd v1 a1 f hf (min (m + i) lim) m le
            have fit2 := ev_fits f _ _ _ _ _ le e
            rw [e]
            cases r with
            | val t m' => exact ⟨_, rfl, fun v m z => by cases z; exact hc _ _ _ (.head _) (.inr (q _ _ rfl))⟩
            | stop t m' => exact ⟨_, rfl, fun v m z => by cases z; exact hc _ _ _ (.tail _ fit2.2.2) (.inl rfl)⟩
          · rw [if_neg c]
            exact ⟨_, rfl, fun v m z => nomatch z⟩
        | _ => exact no fun x z => nomatch z
/-- the telling of the whole -/
theorem told_ev {k : Nat} {t : Th} {A : Th → Prop} (h : Ev' k [] t A) {f : Nat} (hf : k ≤ f) {lim : Int} (hl : 0 ≤ lim) : ∃ e v s n, Res.told 0 (ev f t [] lim 0) = some (.val (.tup [.str e, v, .int s]) n) ∧ (v = .tup [] ∨ A v) := by
  obtain ⟨r, e, q⟩ := h f hf lim 0 hl
  rw [e]
  cases r with
  | val v m => exact ⟨_, _, _, _, rfl, .inr (q v m rfl)⟩
  | stop x m => exact ⟨_, _, _, _, rfl, .inl rfl⟩
theorem told_size {A : Th → Prop} {e : Str} {v : Th} {s : Int} {N D : Nat} (h : v = .tup [] ∨ A v) (hA : ∀ v, A v → v.nodes ≤ N ∧ v.depth ≤ D) (hN : 1 ≤ N) (hD : 1 ≤ D) : (Th.tup [.str e, v, .int s]).nodes ≤ N + 3 ∧ (Th.tup [.str e, v, .int s]).depth ≤ D + 1 := by
  have z : v.nodes ≤ N ∧ v.depth ≤ D := by
    rcases h with rfl | h
    · exact ⟨hN, hD⟩
    · exact hA v h
  obtain ⟨z1, z2⟩ := z
  constructor
  · simp only [Th.nodes, Th.nodesL]
    omega
  · simp only [Th.depth, Th.depthL]
    omega
end Fl
/-! the programs of k10: lets of names, functions of one name, rows of names -/
namespace Fl
open PySem PySem.Spec PyProof.Rows L2
def nameB (x : Str) : Bool := wordB x && !isForm x
def nmB (x : Str) : Bool := nameB x && !(x == "nowhere")
theorem nmB_name {x : Str} (h : nmB x = true) : nameB x = true := by
  unfold nmB at h
  rw [Bool.and_eq_true] at h
  exact h.1
theorem nameB_word {x : Str} (h : nameB x = true) : wordB x = true := by
  unfold nameB at h
  rw [Bool.and_eq_true] at h
  exact h.1
theorem nameB_name {x : Str} (h : nameB x = true) : isForm x = false := by
  unfold nameB at h
  rw [Bool.and_eq_true] at h
  simpa using h.2
/-- a row of what some names come to -/
inductive RowP : Nat → Th → Prop
  | nil : RowP 0 (.tup [])
  | cons {j : Nat} {x : Str} {t : Th} : nameB x = true → RowP j t → RowP (j + 1) (.tup [.str "join", .str x, t])
def Bd (S Z : Nat) (v : Th) : Prop := v.nodes ≤ S ∧ v.depth ≤ Z
theorem Bd.mono {S Z S' Z' : Nat} {v : Th} (h : Bd S Z v) (h1 : S ≤ S') (h2 : Z ≤ Z') : Bd S' Z' v := ⟨by have := h.1; omega, by have := h.2; omega⟩
def ScB (S Z : Nat) (sc : List Th) : Prop := ∀ x v, (looks x sc).head? = some v → Bd S Z v
theorem ScB.mono {S Z S' Z' : Nat} {sc : List Th} (h : ScB S Z sc) (h1 : S ≤ S') (h2 : Z ≤ Z') : ScB S' Z' sc := fun x v e => (h x v e).mono h1 h2
theorem looks_cons (x y : Str) (v : Th) (sc : List Th) : (looks x (.tup [.str y, v] :: sc)).head? = if y = x then some v else (looks x sc).head? := by
  unfold looks
  by_cases c : y = x
  · rw [List.filterMap_cons, show hasName x (.tup [.str y, v]) = some v from if_pos c, if_pos c]
    rfl
  · rw [List.filterMap_cons, show hasName x (.tup [.str y, v]) = none from if_neg c, if_neg c]
theorem ScB.cons {S Z : Nat} {sc : List Th} {y : Str} {v : Th} (h : ScB S Z sc) (b : Bd S Z v) : ScB S Z (.tup [.str y, v] :: sc) := fun x u e => by
  rw [looks_cons] at e
  split at e
  · cases e
    exact b
  · exact h x u e
def RowV (j S Z : Nat) (v : Th) : Prop := ∃ l, v = .tup l ∧ l.length = j ∧ Th.nodesL l ≤ j * S ∧ Th.depthL l ≤ Z
theorem row_ev {S Z : Nat} {sc : List Th} (h : ScB S Z sc) : ∀ {j : Nat} {t : Th}, RowP j t → j ≤ 1000 → Ev' (j + 1) sc t (RowV j S Z)
  | _, _, .nil, _ => ev_nil ⟨[], rfl, rfl, Nat.zero_le _, Nat.zero_le _⟩
  | _, _, .cons (j := j) (x := x) hx r, hj => by
    refine ev_done (by decide) (by simp) (.cons ((ev_word (k := j) fun _ v e => h x v e)) (.cons (row_ev h r (by omega)) .nil)) fun l al fc => ?_
    cases al with
    | @cons t1 _ _ _ a1 al =>
      cases al with
      | cons a2 al =>
        cases al
        obtain ⟨l', rfl, e1, e2, e3⟩ := a2
        refine ⟨?_, fun v e => ?_⟩
        · show (true && (!true || Nat.ble l'.length 100000)) = true
          rw [Nat.ble_eq_true_of_le (show l'.length ≤ 100000 by omega)]
          rfl
        · cases (show Out.val (.tup (t1 :: l')) = .val v from e)
          obtain ⟨b1, b2⟩ : Bd S Z _ := a1
          refine ⟨_, rfl, by rw [List.length_cons, e1], ?_, ?_⟩
          · rw [Th.nodesL, Nat.succ_mul]
            omega
          · rw [Th.depthL]
            omega
theorem RowV.bd {j S Z : Nat} {v : Th} (h : RowV j S Z v) (hj : j ≤ 3) : Bd (3 * S + 1) (Z + 1) v := by
  obtain ⟨l, rfl, e1, e2, e3⟩ := h
  have : j * S ≤ 3 * S := Nat.mul_le_mul_right _ hj
  refine ⟨?_, ?_⟩
  · rw [Th.nodes]
    omega
  · rw [Th.depth]
    omega
/-- a function of one name, whose body is a row of names -/
def FnB (S Z N : Nat) (l : List Th) : Prop := ∃ x b sc o j, l = [.tup [.str x], b, .tup sc, o] ∧ RowP j b ∧ j ≤ 3 ∧ ScB S Z sc ∧ sc.length ≤ N ∧ (o = .non ∨ ∃ y, o = .str y)
def VOk (S Z N : Nat) (v : Th) : Prop := Bd S Z v ∧ ∀ l, v = .fn l → FnB S Z N l
theorem VOk.mono {S Z N S' Z' : Nat} {v : Th} (h : VOk S Z N v) (h1 : S ≤ S') (h2 : Z ≤ Z') : VOk S' Z' N v := ⟨h.1.mono h1 h2, fun l e => by
  obtain ⟨x, b, sc, o, j, a1, a2, a3, a4, a5, a6⟩ := h.2 l e
  exact ⟨x, b, sc, o, j, a1, a2, a3, a4.mono h1 h2, a5, a6⟩⟩
def ScV (S Z N : Nat) (sc : List Th) : Prop := ∀ x v, (looks x sc).head? = some v → VOk S Z N v
theorem ScV.b {S Z N : Nat} {sc : List Th} (h : ScV S Z N sc) : ScB S Z sc := fun x v e => (h x v e).1
theorem ScV.mono {S Z N S' Z' : Nat} {sc : List Th} (h : ScV S Z N sc) (h1 : S ≤ S') (h2 : Z ≤ Z') : ScV S' Z' N sc := fun x v e => (h x v e).mono h1 h2
theorem ScV.cons {S Z N : Nat} {sc : List Th} {y : Str} {v : Th} (h : ScV S Z N sc) (b : VOk S Z N v) : ScV S Z N (.tup [.str y, v] :: sc) := fun x u e => by
  rw [looks_cons] at e
  split at e
  · cases e
    exact b
  · exact h x u e
/-- such a function called by one thing -/
theorem call_ev {S Z N : Nat} {v a : Th} (hS : 1 ≤ S) (hN : N ≤ 90000) (h : VOk S Z N v) (ha : Bd S Z a) : Co 4 v [a] (fun w => Bd (3 * S + 1) (Z + 1) w ∧ w.isFn = false) := by
  cases hv : v.isFn with
  | false => exact co_none hv
  | true =>
    obtain ⟨l, rfl⟩ : ∃ l, v = .fn l := by cases v <;> first | exact ⟨_, rfl⟩ | cases hv
    obtain ⟨x, b, sc, o, j, rfl, rb, hj, hs, hl, ho⟩ := h.2 l rfl
    refine co_fn (by omega) (by show 1 ≤ 100000; decide) fun _ => ?_
    have s1 : ScB S Z (ownTh (.fn [.tup [.str x], b, .tup sc, o]) o sc) := by
      rcases ho with rfl | ⟨y, rfl⟩
      · exact hs
      · exact hs.cons ⟨hS, Nat.zero_le _⟩
    exact (row_ev (s1.cons ha) rb (by omega)).mono (by omega) fun v z => ⟨z.bd hj, by obtain ⟨l, rfl, _⟩ := z; rfl⟩
inductive F10 : Th → Prop
  | fn {x : Str} {b : Th} {j : Nat} : nameB x = true → RowP j b → j ≤ 3 → F10 (.tup [.str "fn", .tup [.str x], b])
  | rc {y x : Str} {b : Th} {j : Nat} : nameB y = true → nameB x = true → RowP j b → j ≤ 3 → F10 (.tup [.str "rec", .str y, .tup [.str x], b])
inductive W10 : Th → Prop
  | int {i : Int} : numB i = true → W10 (.int i)
  | str {x : Str} : nameB x = true → W10 (.str x)
  | fn {t : Th} : F10 t → W10 t
  | call {t : Th} {i : Int} {x : Str} : F10 t → numB i = true → nameB x = true → W10 (.tup [t, .tup [.str "quote", .tup [.int i, .str x]]])
inductive P10 : Nat → Th → Prop
  | row {j : Nat} {t : Th} : RowP j t → j ≤ 3 → P10 0 t
  | call {j : Nat} {x : Str} {t : Th} : nameB x = true → RowP j t → j ≤ 3 → P10 0 (.tup [.str x, t])
  | let' {j : Nat} {x : Str} {u t : Th} : nameB x = true → W10 u → P10 j t → P10 (j + 1) (.tup [.str "let", .str x, u, t])
theorem f_ev {S Z N : Nat} {sc : List Th} (hS : 1 ≤ S) (hs : ScV S Z N sc) (hl : sc.length ≤ N) {t : Th} (h : F10 t) : Ev' 1 sc t (VOk S Z N) := by
  cases h with
  | fn hx hb hj =>
    refine ev_fn (by show 1 ≤ 4000; decide) fun _ => ⟨⟨hS, Nat.zero_le _⟩, fun l e => ?_⟩
    cases e
    exact ⟨_, _, _, _, _, rfl, hb, hj, hs.b, hl, .inl rfl⟩
  | rc hy hx hb hj =>
    refine ev_rec (by show 1 ≤ 4000; decide) fun _ _ => ⟨⟨hS, Nat.zero_le _⟩, fun l e => ?_⟩
    cases e
    exact ⟨_, _, _, _, _, rfl, hb, hj, hs.b, hl, .inr ⟨_, rfl⟩⟩
theorem f_not {t : Th} (h : F10 t) : notForm t := by
  cases h <;> exact fun w e => nomatch e
theorem row_vok {S Z N : Nat} {v : Th} (h : Bd S Z v) (hv : v.isFn = false) : VOk S Z N v := ⟨h, fun l e => by rw [e] at hv; cases hv⟩
theorem w_ev {S Z N : Nat} {sc : List Th} (hS : 3 ≤ S) (hZ : 1 ≤ Z) (hN : N ≤ 90000) (hs : ScV S Z N sc) (hl : sc.length ≤ N) {t : Th} (h : W10 t) : Ev' 6 sc t (VOk (3 * S + 1) (Z + 1) N) := by
  cases h with
  | int hi => exact ev_int (row_vok ⟨show 1 ≤ 3 * S + 1 by omega, Nat.zero_le _⟩ rfl)
  | str hx => exact ev_word fun _ v e => (hs _ v e).mono (by omega) (by omega)
  | fn hf => exact (f_ev (by omega) hs hl hf).mono (by decide) fun v z => z.mono (by omega) (by omega)
  | call hf hi hx =>
    rename_i t i x
    refine ev_call (k := 5) (A := VOk S Z N) (As := [fun v => v = .tup [.int i, .str x]]) (f_not hf) (by simp) ((f_ev (by omega) hs hl hf).up (by decide)) (.cons (ev_quote rfl) .nil) fun v vs hv hvs => ?_
    cases hvs with
    | cons a1 al =>
      cases al
      subst a1
      exact (call_ev (by omega) hN hv (a := .tup [.int i, .str x]) ⟨show 3 ≤ S from hS, show 1 ≤ Z from hZ⟩).mono (by decide) fun v z => row_vok z.1 z.2
/-- how great it may grow by so many lets -/
def gr : Nat → Nat → Nat
  | 0, S => 9 * S + 4
  | j + 1, S => gr j (3 * S + 1)
theorem p_ev {N : Nat} (hN : N ≤ 90000) : ∀ {j : Nat} {t : Th}, P10 j t → ∀ {S Z : Nat} {sc : List Th}, 3 ≤ S → 1 ≤ Z → ScV S Z N sc → sc.length + j ≤ N → Ev' (j + 7) sc t (Bd (gr j S) (Z + j + 2))
  | _, _, .row hr hj, S, Z, sc, hS, hZ, hs, hl => (row_ev hs.b hr (by omega)).mono (by omega) fun v z => (z.bd hj).mono (by unfold gr; omega) (by omega)
  | _, _, .call (x := x) hx hr hj, S, Z, sc, hS, hZ, hs, hl => by
    refine (ev_call (k := 5) (A := VOk S Z N) (As := [Bd (3 * S + 1) (Z + 1)]) (fun w e => by cases e; exact nameB_name hx) (by simp) (ev_word fun _ v e => hs _ v e) (.cons ((row_ev hs.b hr (by omega)).mono (by omega) fun v z => z.bd hj) .nil) fun v vs hv hvs => ?_).up (by omega)
    cases hvs with
    | cons a1 al =>
      cases al
      exact (call_ev (S := 3 * S + 1) (Z := Z + 1) (by omega) hN (hv.mono (by omega) (by omega)) a1).mono (by decide) fun v z => z.1.mono (by unfold gr; omega) (by omega)
  | _, _, .let' (j := j) (x := x) hx hw ht, S, Z, sc, hS, hZ, hs, hl => by
    refine ev_let (by omega) ((w_ev hS hZ hN hs (by omega) hw).up (by omega)) fun _ v hv => ?_
    have := p_ev hN ht (S := 3 * S + 1) (Z := Z + 1) (sc := .tup [.str x, v] :: sc) (by omega) (by omega) ((hs.mono (by omega) (by omega)).cons hv) (by rw [List.length_cons]; omega)
    exact this.mono (by omega) fun u z => z.mono (Nat.le_refl _) (by omega)
/-! they are plain, and not great -/
theorem row_w : ∀ {j : Nat} {t : Th}, RowP j t → t.worth false = true ∧ t.nodes = 3 * j + 1
  | _, _, .nil => ⟨rfl, rfl⟩
  | _, _, .cons hx r => by
    obtain ⟨h1, h2⟩ := row_w r
    refine ⟨?_, ?_⟩
    · rw [Th.worth, Th.worths, Th.worths, Th.worths, Th.worths, h1, Th.worth, Th.worth, nameB_word hx]
      decide +kernel
    · simp only [Th.nodes, Th.nodesL, h2]
      omega
theorem f_w {t : Th} (h : F10 t) : t.worth false = true ∧ t.nodes ≤ 15 := by
  cases h with
  | fn hx hb hj =>
    obtain ⟨h1, h2⟩ := row_w hb
    refine ⟨?_, ?_⟩
    · simp only [Th.worth, Th.worths, h1, nameB_word hx]
      decide +kernel
    · simp only [Th.nodes, Th.nodesL, h2]
      omega
  | rc hy hx hb hj =>
    obtain ⟨h1, h2⟩ := row_w hb
    refine ⟨?_, ?_⟩
    · simp only [Th.worth, Th.worths, h1, nameB_word hx, nameB_word hy]
      decide +kernel
    · simp only [Th.nodes, Th.nodesL, h2]
      omega
theorem w_w {t : Th} (h : W10 t) : t.worth false = true ∧ t.nodes ≤ 21 := by
  cases h with
  | int hi => exact ⟨hi, show 1 ≤ 21 by decide⟩
  | str hx => exact ⟨nameB_word hx, show 1 ≤ 21 by decide⟩
  | fn hf => exact ⟨(f_w hf).1, by have := (f_w hf).2; omega⟩
  | call hf hi hx =>
    obtain ⟨h1, h2⟩ := f_w hf
    refine ⟨?_, ?_⟩
    · simp only [Th.worth, Th.worths, h1, hi, nameB_word hx]
      decide +kernel
    · simp only [Th.nodes, Th.nodesL]
      omega
theorem p_w : ∀ {j : Nat} {t : Th}, P10 j t → t.worth false = true ∧ t.nodes ≤ 24 * j + 12
  | _, _, .row hr hj => ⟨(row_w hr).1, by have := (row_w hr).2; omega⟩
  | _, _, .call hx hr hj => by
    obtain ⟨h1, h2⟩ := row_w hr
    refine ⟨?_, ?_⟩
    · simp only [Th.worth, Th.worths, h1, nameB_word hx]
      rfl
    · simp only [Th.nodes, Th.nodesL, h2]
      omega
  | _, _, .let' hx hw ht => by
    obtain ⟨h1, h2⟩ := p_w ht
    obtain ⟨h3, h4⟩ := w_w hw
    refine ⟨?_, ?_⟩
    · simp only [Th.worth, Th.worths, h1, h3, nameB_word hx]
      decide +kernel
    · simp only [Th.nodes, Th.nodesL]
      omega
theorem scv_nil {S Z N : Nat} : ScV S Z N [] := fun x v e => by cases e
theorem p_told {j : Nat} {t : Th} (h : P10 j t) (hj : j ≤ 6) {f : Nat} (hf : 13 ≤ f) {lim : Int} (hl : 0 ≤ lim) : ∃ tt n, Res.told 0 (ev f t [] lim 0) = some (.val tt n) ∧ tt.nodes ≤ 30000 ∧ tt.depth ≤ 20 := by
  have e := p_ev (N := 1000) (by decide) h (S := 3) (Z := 1) (sc := []) (by decide) (by decide) scv_nil (by rw [List.length_nil]; omega)
  obtain ⟨w, v, s, n, e1, e2⟩ := told_ev e (f := f) (by omega) hl
  have g : gr j 3 ≤ 29000 := by
    have z : ∀ j < 7, gr j 3 ≤ 29000 := by decide +kernel
    exact z j (by omega)
  obtain ⟨z1, z2⟩ := told_size (e := w) (s := s) (N := 29000) (D := 9) e2 (fun v b => ⟨by have := b.1; omega, by have := b.2; omega⟩) (by decide) (by decide)
  exact ⟨_, _, e1, by omega, by omega⟩
end Fl
/-! the programs of k13: forms that are none, within others -/
namespace Fl
open PySem PySem.Spec PyProof.Rows L2
theorem ev_all {k : Nat} {sc : List Th} {t : Th} {A : Nat → Th → Prop} (h : ∀ j, Ev' k sc t (A j)) : Ev' k sc t fun v => ∀ j, A j v := fun f hf lim n hn => by
  obtain ⟨r, e, _⟩ := h 0 f hf lim n hn
  refine ⟨r, e, fun v m z j => ?_⟩
  obtain ⟨r', e', q'⟩ := h j f hf lim n hn
  rw [e] at e'
  cases e'
  exact q' v m z
theorem co_all {k : Nat} {v : Th} {vs : List Th} {A : Nat → Th → Prop} (h : ∀ j, Co k v vs (A j)) : Co k v vs fun v => ∀ j, A j v := fun f hf lim n hn => by
  obtain ⟨r, e, _⟩ := h 0 f hf lim n hn
  refine ⟨r, e, fun v m z j => ?_⟩
  obtain ⟨r', e', q'⟩ := h j f hf lim n hn
  rw [e] at e'
  cases e'
  exact q' v m z
/-- worths that may be called with anything, and run, so many times over -/
def Vj (S Z K : Nat) : Nat → Th → Prop
  | 0, v => Bd S Z v
  | j + 1, v => Bd S Z v ∧ (∀ args : List Th, args.length ≤ 1000 → Co K v args (Vj S Z K j)) ∧ Ev' K [] v (Vj S Z K j)
def Vi (S Z K : Nat) (v : Th) : Prop := ∀ j, Vj S Z K j v
theorem Vi.bd {S Z K : Nat} {v : Th} (h : Vi S Z K v) : Bd S Z v := h 0
theorem Vi.call {S Z K : Nat} {v : Th} (h : Vi S Z K v) {args : List Th} (ha : args.length ≤ 1000) : Co K v args (Vi S Z K) := co_all fun j => (h (j + 1)).2.1 args ha
theorem Vi.run {S Z K : Nat} {v : Th} (h : Vi S Z K v) : Ev' K [] v (Vi S Z K) := ev_all fun j => (h (j + 1)).2.2
theorem vj_mono {S Z K S' Z' K' : Nat} (h1 : S ≤ S') (h2 : Z ≤ Z') (h3 : K ≤ K') : ∀ (j : Nat) {v : Th}, Vj S Z K j v → Vj S' Z' K' j v
  | 0, _, h => h.mono h1 h2
  | j + 1, _, h => ⟨h.1.mono h1 h2, fun args ha => (h.2.1 args ha).mono h3 fun _ => vj_mono h1 h2 h3 j, h.2.2.mono h3 fun _ => vj_mono h1 h2 h3 j⟩
theorem Vi.mono {S Z K S' Z' K' : Nat} {v : Th} (h : Vi S Z K v) (h1 : S ≤ S') (h2 : Z ≤ Z') (h3 : K ≤ K') : Vi S' Z' K' v := fun j => vj_mono h1 h2 h3 j (h j)
theorem vi_of {S Z K : Nat} {v : Th} (b : Bd S Z v) (nf : v.isFn = false) (he : Ev' K [] v (Vi S Z K)) : Vi S Z K v
  | 0 => b
  | j + 1 => ⟨b, fun _ _ => co_none nf, he.mono (Nat.le_refl _) fun _ h => h j⟩
/-- what comes to itself -/
theorem vi_self {S Z K : Nat} {v : Th} (b : Bd S Z v) (nf : v.isFn = false) (he : ∀ A : Th → Prop, A v → Ev' K [] v A) : Vi S Z K v
  | 0 => b
  | j + 1 => ⟨b, fun _ _ => co_none nf, he _ (vi_self b nf he j)⟩
section
variable {S Z K : Nat} (hS : 1 ≤ S) (hZ : 1 ≤ Z) (hK : 1 ≤ K)
include hS hZ hK
theorem vi_int (i : Int) : Vi S Z K (.int i) := vi_self ⟨hS, Nat.zero_le _⟩ rfl fun A a => (ev_int (k := 0) a).up hK
theorem vi_bl (i : Bool) : Vi S Z K (.bl i) := vi_self ⟨hS, Nat.zero_le _⟩ rfl fun A a => (ev_bl (k := 0) a).up hK
theorem vi_nil : Vi S Z K (.tup []) := vi_self ⟨hS, hZ⟩ rfl fun A a => (ev_nil (k := 0) a).up hK
theorem vi_str (x : Str) : Vi S Z K (.str x) := vi_of ⟨hS, Nat.zero_le _⟩ rfl ((ev_word (k := 0) fun _ v e => by cases e).up hK)
end
theorem ends_notForm : ∀ e ∈ (("over" : Str) :: endWs), isForm e = false ∨ e = "kind" := by decide +kernel
/-- a telling, as a worth -/
theorem vi_tell {S Z K S' Z' K' : Nat} {e : Str} {v : Th} {n : Int} (he : e ∈ (("over" : Str) :: endWs)) (hv : v = .tup [] ∨ Vi S Z K v) (h0 : 1 ≤ S) (h00 : 1 ≤ Z) (hK : 1 ≤ K) (h1 : S + 3 ≤ S') (h2 : Z + 1 ≤ Z') (h3 : K + 1 ≤ K') : Vi S' Z' K' (.tup [.str e, v, .int n]) := by
  have w : Vi S Z K v := by
    rcases hv with rfl | h
    · exact vi_nil h0 h00 hK
    · exact h
  obtain ⟨b1, b2⟩ := w.bd
  refine vi_of ⟨?_, ?_⟩ rfl ?_
  · simp only [Th.nodes, Th.nodesL]
    omega
  · simp only [Th.depth, Th.depthL]
    omega
  · rcases ends_notForm e he with z | rfl
    · exact (ev_call (k := K) (A := fun _ => False) (As := [Vi S Z K, fun _ => True]) (fun x e' => by cases e'; exact z) (by simp) ((ev_word (k := 0) fun _ v e => by cases e).up hK) (.cons w.run (.cons ((ev_int (k := 0) trivial).up hK) .nil)) fun v vs hv _ => hv.elim).up h3
    · exact (ev_unformed (k := 0) (by decide +kernel) (by simp) rfl rfl).up (by omega)
def nowhere : Str := "nowhere"
def ScNo (sc : List Th) : Prop := looks nowhere sc = []
theorem ScNo.cons {sc : List Th} {x : Str} {v : Th} (h : ScNo sc) (hx : x ≠ nowhere) : ScNo (.tup [.str x, v] :: sc) := by
  unfold ScNo looks
  rw [List.filterMap_cons, show hasName nowhere (.tup [.str x, v]) = none from if_neg hx]
  exact h
theorem look_bind (x : Str) : ∀ (ns vs sc : List Th), (∀ n ∈ ns, n ≠ .str x) → looks x (bindAll ns vs sc) = looks x sc
  | [], _, sc, _ => by rw [bindAll] <;> first | rfl | (intros; simp_all)
  | _ :: _, [], sc, _ => by rw [bindAll] <;> first | rfl | (intros; simp_all)
  | n :: ns, v :: vs, sc, h => by
    rw [bindAll, look_bind x ns vs _ fun m hm => h m (.tail _ hm)]
    unfold looks
    have z : hasName x (.tup [n, v]) = none := by
      have hn := h n (.head _)
      cases n with
      | str y => exact if_neg fun e => hn (by rw [e])
      | _ => rfl
    rw [List.filterMap_cons, z]
/-! the simple parts -/
def some13 : List Th := [.str nowhere, .tup [.str "first", .tup []], .int 1, .bl true, .tup [.int 5], .tup [.str "add", .int 1, .bl true], .str "if", .tup [.str "quote"], .tup []]
def val3 (v : Th) : Prop := v = .int 1 ∨ v = .bl true ∨ v = .tup []
theorem sim_ev {sc : List Th} {A : Th → Prop} (h0 : ∀ v, (looks nowhere sc).head? = some v → A v) (h1 : ∀ v, val3 v → A v) : ∀ t ∈ some13, Ev' 3 sc t A := by
  intro t ht
  unfold some13 at ht
  simp only [List.mem_cons, List.not_mem_nil, or_false] at ht
  rcases ht with rfl | rfl | rfl | rfl | rfl | rfl | rfl | rfl | rfl
  · exact (ev_word (k := 0) fun _ v e => h0 v e).up (by decide)
  · refine (ev_done (k := 1) (As := [fun v => v = .tup []]) (by decide) (by simp) (.cons (ev_nil (k := 0) rfl) .nil) fun l al _ => ?_).up (by decide)
    cases al with
    | cons a1 al =>
      cases al
      subst a1
      exact ⟨by decide +kernel, fun v e => by cases (show Out.stop "kind" = .val v from e)⟩
  · exact (ev_int (k := 0) (h1 _ (.inl rfl))).up (by decide)
  · exact (ev_bl (k := 0) (h1 _ (.inr (.inl rfl)))).up (by decide)
  · exact (ev_call (k := 1) (A := fun v => v = .int 5) (As := []) (fun w e => by cases e) (by simp) (ev_int (k := 0) rfl) .nil fun v vs hv _ => by subst hv; exact co_none rfl).up (by decide)
  · refine (ev_done (k := 1) (As := [fun v => v = .int 1, fun v => v = .bl true]) (by decide) (by simp) (.cons (ev_int (k := 0) rfl) (.cons (ev_bl (k := 0) rfl) .nil)) fun l al _ => ?_).up (by decide)
    cases al with
    | cons a1 al =>
      cases al with
      | cons a2 al =>
        cases al
        subst a1 a2
        exact ⟨by decide +kernel, fun v e => by cases (show Out.stop "kind" = .val v from e)⟩
  · exact (ev_word (k := 0) fun z v e => absurd z (by decide +kernel)).up (by decide)
  · exact (ev_unformed (k := 0) (by decide +kernel) (by simp) (by decide +kernel) (by decide +kernel)).up (by decide)
  · exact (ev_nil (k := 0) (h1 _ (.inr (.inr rfl)))).up (by decide)
theorem val_vi {S Z K : Nat} (hS : 1 ≤ S) (hZ : 1 ≤ Z) (hK : 1 ≤ K) {v : Th} (h : val3 v) : Vi S Z K v := by
  rcases h with rfl | rfl | rfl
  · exact vi_int hS hZ hK _
  · exact vi_bl hS hZ hK _
  · exact vi_nil hS hZ hK
theorem some_bd : ∀ t ∈ some13, t.nodes ≤ 4 ∧ t.depth ≤ 2 ∧ t.isFn = false := by
  intro t ht
  unfold some13 at ht
  simp only [List.mem_cons, List.not_mem_nil, or_false] at ht
  rcases ht with rfl | rfl | rfl | rfl | rfl | rfl | rfl | rfl | rfl <;> exact ⟨by decide, by decide, rfl⟩
theorem some_vi {S Z K : Nat} (hS : 4 ≤ S) (hZ : 2 ≤ Z) (hK : 3 ≤ K) {t : Th} (h : t ∈ some13) : Vi S Z K t := by
  obtain ⟨b1, b2, b3⟩ := some_bd t h
  exact vi_of ⟨by omega, by omega⟩ b3 ((sim_ev (A := Vi S Z K) (fun v e => by cases e) (fun v hv => val_vi (by omega) (by omega) (by omega) hv) t h).up hK)
/-- a function whose body is simple -/
theorem clo_vi {S Z K : Nat} (hS : 4 ≤ S) (hZ : 2 ≤ Z) (hK : 3 ≤ K) {ns b o : Th} {sc : List Th} (hb : b ∈ some13) (hn : ns.row.length ≤ 1000) (hno : ∀ n ∈ ns.row, n ≠ .str nowhere) (hs : ScNo sc) (hl : sc.length ≤ 2000) (ho : o = .non ∨ ∃ x, o = .str x) : Vi S Z K (.fn [ns, b, .tup sc, o])
  | 0 => ⟨show 1 ≤ S by omega, Nat.zero_le _⟩
  | j + 1 => by
    have ih := clo_vi hS hZ hK hb hn hno hs hl ho j
    refine ⟨⟨show 1 ≤ S by omega, Nat.zero_le _⟩, fun args _ => co_fn (by omega) (by omega) fun _ => ?_, (ev_fnv (k := 0) ih).up (by omega)⟩
    refine (sim_ev (fun v e => ?_) (fun v hv => val_vi (by omega) (by omega) (by omega) hv j) b hb).up hK
    rw [look_bind _ _ _ _ hno] at e
    rcases ho with rfl | ⟨x, rfl⟩
    · rw [show ownTh (.fn [ns, b, .tup sc, .non]) .non sc = sc from rfl, hs] at e
      cases e
    · rw [show ownTh (.fn [ns, b, .tup sc, .str x]) (.str x) sc = .tup [.str x, .fn [ns, b, .tup sc, .str x]] :: sc from rfl, looks_cons] at e
      split at e
      · cases e
        exact ih
      · rw [hs] at e
        cases e
theorem look_mem {w : Str} {n : Nat} : ∀ {l : List (Str × Nat)}, l.lookup w = some n → ∃ p ∈ l, p.1 = w
  | [], h => by cases h
  | (a, b) :: r, h => by
    rw [List.lookup_cons] at h
    cases c : w == a with
    | true => exact ⟨_, .head _, (eq_of_beq c).symm⟩
    | false =>
      rw [c] at h
      obtain ⟨p, h1, h2⟩ := look_mem h
      exact ⟨p, .tail _ h1, h2⟩
/-! a form of any kind -/
theorem num_val {w : Str} (h : isNumW w = true) {ws : List Th} {v : Th} (e : doneBy w ws = .val v) : (∃ i, v = .int i) ∨ ∃ b, v = .bl b := by
  unfold doneBy at e
  simp only at e
  rw [if_pos h] at e
  unfold ofNums at e
  split at e
  · split at e
    · cases e
      exact .inr ⟨_, rfl⟩
    · simp only at e
      rename_i a b _ _ _
      generalize (if (w == ("add" : Str)) = true then a + b else if (w == ("less" : Str)) = true then a - b else a * b) = c at e
      split at e
      · cases e
        exact .inl ⟨_, rfl⟩
      · cases e
  · cases e
theorem num_doneG' (ws : List Th) : doneG "add" ws = true := rfl
def Vm (v : Th) : Prop := Vi 20 4 6 v
theorem vm_val {v : Th} (h : val3 v) : Vm v := val_vi (by decide) (by decide) (by decide) h
theorem val_small {v : Th} (h : val3 v) : small v = true ∧ v.row = [] := by
  rcases h with rfl | rfl | rfl <;> exact ⟨by decide, rfl⟩
theorem val_getD {l : List Th} (al : ∀ v ∈ l, val3 v) (i : Nat) (h : i < l.length) : val3 (l.getD i .non) := by
  rw [List.getD_eq_getElem?_getD, List.getElem?_eq_getElem h]
  exact al _ (List.getElem_mem h)
/-- what a form comes to whose parts came to simple worths -/
theorem done_val {w : Str} (hw : w ∈ doneWs) {l : List Th} (al : ∀ v ∈ l, val3 v) (hl : formCount w = some l.length) : doneG w l = true ∧ ∀ v, doneBy w l = .val v → Vm v := by
  have two : ∀ x ∈ doneWs, x = "same" ∨ x = "join" → formCount x = some 2 := by decide +kernel
  have one : ∀ x ∈ doneWs, 1 ≤ (formCount x).getD 0 := by decide +kernel
  have l1 : 1 ≤ l.length := by
    have := one w hw
    rw [hl] at this
    exact this
  have a0 := val_getD al 0 (by omega)
  constructor
  · unfold doneG
    rw [Bool.and_eq_true]
    constructor
    · by_cases c : (w == "same") = true
      · have := two w hw (.inl (eq_of_beq c))
        rw [hl] at this
        have l2 : l.length = 2 := Option.some.inj this
        rw [(val_small a0).1, (val_small (val_getD al 1 (by omega))).1]
        simp [sameOn]
      · rw [Bool.eq_false_iff.mpr c]
        rfl
    · by_cases c : (w == "join") = true
      · have := two w hw (.inr (eq_of_beq c))
        rw [hl] at this
        have l2 : l.length = 2 := Option.some.inj this
        rw [(val_small (val_getD al 1 (by omega))).2]
        simp
      · rw [Bool.eq_false_iff.mpr c]
        rfl
  · intro v e
    cases n : isNumW w with
    | true =>
      rcases num_val n e with ⟨i, rfl⟩ | ⟨b, rfl⟩
      · exact vi_int (by decide) (by decide) (by decide) _
      · exact vi_bl (by decide) (by decide) (by decide) _
    | false =>
      unfold doneBy at e
      simp only at e
      rw [n, if_neg (by decide)] at e
      split at e
      · split at e
        · cases e
          exact vi_bl (by decide) (by decide) (by decide) _
        · cases e
      split at e
      · rename_i c
        have := two w hw (.inr (eq_of_beq c))
        rw [hl] at this
        have l2 : l.length = 2 := Option.some.inj this
        have a1 := val_getD al 1 (by omega)
        generalize l.getD 1 .non = b at e a1
        generalize l.getD 0 .non = a at e a0
        rcases a1 with rfl | rfl | rfl
        · cases e
        · cases e
        · cases (show Out.val (.tup [a]) = .val v from e)
          have av := vm_val a0
          refine vi_of ⟨?_, ?_⟩ rfl ?_
          · have := (val_vi (S := 1) (Z := 1) (K := 1) (by decide) (by decide) (by decide) a0).bd.1
            simp only [Th.nodes, Th.nodesL]
            omega
          · have := (val_vi (S := 1) (Z := 1) (K := 1) (by decide) (by decide) (by decide) a0).bd.2
            simp only [Th.depth, Th.depthL]
            omega
          · refine (ev_call (k := 1) (A := fun v => v = a) (As := []) (fun x e' => ?_) (by simp) ?_ .nil fun u vs hu _ => ?_).up (by decide)
            · rcases a0 with rfl | rfl | rfl <;> cases e'
            · rcases a0 with rfl | rfl | rfl
              · exact ev_int (k := 0) rfl
              · exact ev_bl (k := 0) rfl
              · exact ev_nil (k := 0) rfl
            · subst hu
              rcases a0 with rfl | rfl | rfl <;> exact co_none rfl
      split at e
      · cases e
        exact vi_str (by decide) (by decide) (by decide) _
      split at e
      · cases e
        exact vi_bl (by decide) (by decide) (by decide) _
      generalize l.getD 0 .non = a at e a0
      rcases a0 with rfl | rfl | rfl <;> cases e
theorem evs_some {sc : List Th} (hs : ScNo sc) : ∀ {r : List Th}, (∀ t ∈ r, t ∈ some13) → Evs' 3 sc r (r.map fun _ => val3)
  | [], _ => .nil
  | t :: r, h => .cons (sim_ev (fun v e => by rw [hs] at e; cases e) (fun v hv => hv) t (h t (.head _))) (evs_some hs fun u hu => h u (.tail _ hu))
theorem alls_mem {P : Th → Prop} : ∀ {l r : List Th}, Alls l (r.map fun _ => P) → ∀ v ∈ l, P v
  | _, [], .nil, v, h => by cases h
  | _, _ :: _, .cons a _, _, .head _ => a
  | _, _ :: r, .cons _ b, v, .tail _ h => alls_mem b v h
/-- the names that are told -/
def nm13 : List Th := [.str "x", .str "y", .str "if", .str "quote", .str "row", .str "add", .int 5, .bl true, .tup [], .tup [.str "x"], .str "function", .str "rec", .str "iff", .int 0, .bl false]
def nms13 : List Th := [.tup [], .tup [.str "x"], .tup [.str "x", .str "y"], .tup [.str "x", .str "x"], .tup [.str "y", .str "x", .str "y"], .tup [.str "x", .int 1], .str "x", .int 5, .bl true, .tup [.tup [.str "x"]], .tup [.str "x", .str "if"], .tup [.str "row"]]
inductive A13 : Th → Prop
  | row {w : Str} {r : List Th} : isForm w = true → (∀ t ∈ r, t ∈ some13) → r.length ≤ 5 → A13 (.tup (.str w :: r))
  | let' {x b : Th} : x ∈ nm13 → b ∈ some13 → A13 (.tup [.str "let", x, .int 1, b])
  | fn {ns b : Th} : ns ∈ nms13 → b ∈ some13 → A13 (.tup [.str "fn", ns, b])
  | rc {x ns : Th} : x ∈ nm13 → ns ∈ nms13 → A13 (.tup [.str "rec", x, ns, .int 1])
theorem some_row : ∀ t ∈ some13, t.row.length ≤ 4 ∧ (areNames t = true → ∀ n ∈ t.row, n ≠ .str nowhere) := by
  intro t ht
  unfold some13 at ht
  simp only [List.mem_cons, List.not_mem_nil, or_false] at ht
  rcases ht with rfl | rfl | rfl | rfl | rfl | rfl | rfl | rfl | rfl <;> refine ⟨by decide, fun z => ?_⟩ <;> first | exact absurd z (by decide +kernel) | (intro n hn; cases hn)
theorem nms_row : ∀ t ∈ nms13, t.row.length ≤ 4 ∧ ∀ n ∈ t.row, n ≠ .str nowhere := by
  intro t ht
  unfold nms13 at ht
  simp only [List.mem_cons, List.not_mem_nil, or_false] at ht
  have z1 : (Th.str "x") ≠ .str nowhere := fun e => by injection e with e; exact absurd e (by decide)
  have z2 : (Th.str "y") ≠ .str nowhere := fun e => by injection e with e; exact absurd e (by decide)
  have z3 : (Th.str "if") ≠ .str nowhere := fun e => by injection e with e; exact absurd e (by decide)
  have z4 : (Th.str "row") ≠ .str nowhere := fun e => by injection e with e; exact absurd e (by decide)
  rcases ht with rfl | rfl | rfl | rfl | rfl | rfl | rfl | rfl | rfl | rfl | rfl | rfl <;> refine ⟨by decide, fun n hn => ?_⟩ <;> simp only [Th.row, List.mem_cons, List.not_mem_nil, or_false] at hn <;> first | exact hn.elim | (rcases hn with rfl | rfl | rfl <;> first | assumption | exact fun e => nomatch e) | (rcases hn with rfl | rfl <;> first | assumption | exact fun e => nomatch e) | (subst hn; first | assumption | exact fun e => nomatch e)
theorem own_name {o : Th} (h : isName o = true) : o = .non ∨ ∃ x, o = .str x := by
  cases o with
  | str x => exact .inr ⟨x, rfl⟩
  | _ => cases h
theorem any_ev {t : Th} (h : A13 t) {sc : List Th} (hs : ScNo sc) (hl : sc.length ≤ 2000) : Ev' 6 sc t Vm := by
  have clo : ∀ {ns b o : Th}, b ∈ some13 → ns.row.length ≤ 4 → (∀ n ∈ ns.row, n ≠ .str nowhere) → (o = .non ∨ ∃ x, o = .str x) → Vm (.fn [ns, b, .tup sc, o]) := fun hb h1 h2 ho => clo_vi (by decide) (by decide) (by decide) hb (by omega) h2 hs hl ho
  have i1 : Th.int 1 ∈ some13 := by simp [some13]
  have sv : ∀ t ∈ some13, Ev' 3 sc t val3 := fun t ht => sim_ev (fun v e => by rw [hs] at e; cases e) (fun v hv => hv) t ht
  have letx : ∀ {x a b : Th}, a ∈ some13 → b ∈ some13 → Ev' 6 sc (.tup [.str "let", x, a, b]) Vm := fun {x a b} ha hb => by
    refine (ev_let (k := 3) (by omega) (sv a ha) fun hx v hv => ?_).up (by decide)
    obtain ⟨y, rfl⟩ : ∃ y, x = .str y := by
      rcases own_name hx with rfl | h
      · cases hx
      · exact h
    refine sim_ev (fun u e => ?_) (fun v hv => vm_val hv) b hb
    rw [looks_cons] at e
    split at e
    · cases e
      exact vm_val hv
    · rw [hs] at e
      cases e
  cases h with
  | let' hx hb => exact letx i1 hb
  | fn hn hb =>
    obtain ⟨z1, z2⟩ := nms_row _ hn
    exact (ev_fn (k := 0) (by omega) fun _ => clo hb z1 z2 (.inl rfl)).up (by decide)
  | rc hx hn =>
    obtain ⟨z1, z2⟩ := nms_row _ hn
    exact (ev_rec (k := 0) (by omega) fun _ ho => clo i1 z1 z2 (own_name ho)).up (by decide)
  | row hw hr h5 =>
    rename_i w r
    by_cases hd : w ∈ doneWs
    · refine (ev_done (k := 3) hd (by omega) (evs_some hs hr) fun l al fc => done_val hd (alls_mem al) fc).up (by decide)
    have ng : namesG w r = true := by
      unfold namesG
      have : (r.getD (r.length - 2) .non).row.length ≤ 4 := by
        by_cases c : r.length - 2 < r.length
        · rw [List.getD_eq_getElem?_getD, List.getElem?_eq_getElem c]
          exact (some_row _ (hr _ (List.getElem_mem c))).1
        · rw [List.getD_eq_getElem?_getD, List.getElem?_eq_none (by omega)]
          decide
      rw [show Nat.ble (r.getD (r.length - 2) .non).row.length namesMost = true from Nat.ble_eq_true_of_le (by show _ ≤ 4000; omega), Bool.or_true]
    cases fm : isFormed w r with
    | false => exact (ev_unformed (k := 0) hw (by omega) ng fm).up (by decide)
    | true =>
      have fc : formCount w = some r.length := by
        unfold isFormed at fm
        rw [Bool.and_eq_true, decide_eq_true_eq] at fm
        exact fm.1
      have ws : w = "quote" ∨ w = "if" ∨ w = "fn" ∨ w = "rec" ∨ w = "let" ∨ w = "run" := by
        have z : ∀ p ∈ formList, p.1 ∈ doneWs ∨ p.1 = "quote" ∨ p.1 = "if" ∨ p.1 = "fn" ∨ p.1 = "rec" ∨ p.1 = "let" ∨ p.1 = "run" := by decide +kernel
        have : ∃ p ∈ formList, p.1 = w := by
          unfold formCount at fc
          exact look_mem fc
        obtain ⟨p, hp, rfl⟩ := this
        rcases z p hp with h | h
        · exact absurd h hd
        · exact h
      rcases ws with rfl | rfl | rfl | rfl | rfl | rfl
      · match r, (Option.some.inj (show some 1 = some r.length from fc)).symm with
        | [a], _ => exact (ev_quote (k := 0) (some_vi (by decide) (by decide) (by decide) (hr a (.head _)))).up (by decide)
      · match r, (Option.some.inj (show some 3 = some r.length from fc)).symm with
        | [a, b, c], _ => exact ((ev_if (k := 3) (sv a (hr a (.head _))) (sv b (hr b (.tail _ (.head _)))) (sv c (hr c (.tail _ (.tail _ (.head _)))))).mono (by decide) fun v hv => vm_val hv)
      · match r, (Option.some.inj (show some 2 = some r.length from fc)).symm with
        | [a, b], _ =>
          obtain ⟨z1, z2⟩ := some_row a (hr a (.head _))
          exact (ev_fn (k := 0) (by omega) fun an => clo (hr b (.tail _ (.head _))) z1 (z2 an) (.inl rfl)).up (by decide)
      · match r, (Option.some.inj (show some 3 = some r.length from fc)).symm with
        | [o, a, b], _ =>
          obtain ⟨z1, z2⟩ := some_row a (hr a (.tail _ (.head _)))
          exact (ev_rec (k := 0) (by omega) fun an ho => clo (hr b (.tail _ (.tail _ (.head _)))) z1 (z2 an) (own_name ho)).up (by decide)
      · match r, (Option.some.inj (show some 3 = some r.length from fc)).symm with
        | [x, a, b], _ => exact letx (hr a (.tail _ (.head _))) (hr b (.tail _ (.tail _ (.head _))))
      · match r, (Option.some.inj (show some 2 = some r.length from fc)).symm with
        | [a, b], _ =>
          refine (ev_run (k := 3) (D := Vi 4 2 3) (sv a (hr a (.head _))) (sv b (hr b (.tail _ (.head _)))) (fun v hv => (val_vi (by decide) (by decide) (by decide) hv).run) fun e v n he hv => ?_).up (by decide)
          exact vi_tell he hv (by decide) (by decide) (by decide) (by decide) (by decide) (by decide)
/-! within a greater one -/
structure P13 (m S Z s d L : Nat) (p : Th) : Prop where
  wo : p.worth false = true
  nd : p.nodes ≤ s
  dp : p.depth ≤ d
  tp : p.isTup = true
  ev : ∀ sc : List Th, ScNo sc → sc.length ≤ L → Ev' m sc p (Vi S Z m)
def W13 (p : Th) : List Th := [p, .tup [.str "if", .bl true, p, .int 1], .tup [.str "if", .bl true, .int 1, p], .tup [.str "add", .int 1, p], .tup [.str "add", p, .bl true], .tup [.str "quote", p],
  .tup [.str "let", .str "x", p, .int 5], .tup [.str "let", .str "x", .int 5, p], .tup [.str "fn", .tup [.str "x"], p], .tup [.tup [.str "fn", .tup [], p]], .tup [p, .int 1], .tup [.tup [.str "fn", .tup [.str "x"], .int 1], p], .tup [.str "run", .tup [.str "quote", p], .int 50], .tup [.str "run", p, .int 50]]
theorem w13_size {p : Th} {s d : Nat} (h1 : p.worth false = true) (h2 : p.nodes ≤ s) (h3 : p.depth ≤ d) (h4 : p.isTup = true) : ∀ t ∈ W13 p, t.worth false = true ∧ t.nodes ≤ s + 12 ∧ t.depth ≤ d + 2 ∧ t.isTup = true := by
  intro t ht
  unfold W13 at ht
  simp only [List.mem_cons, List.not_mem_nil, or_false] at ht
  have ws : ∀ x ∈ (["if", "add", "quote", "let", "x", "fn", "run"] : List Str), wordB x = true := by decide +kernel
  have h5 : 1 ≤ p.depth := by
    clear ht
    cases p <;> first | (cases h4; done) | (rw [Th.depth]; omega)
  have n1 : numB 1 = true := by decide
  have n5 : numB 5 = true := by decide
  have n50 : numB 50 = true := by decide
  have w1 := ws "if" (by decide)
  have w2 := ws "add" (by decide)
  have w3 := ws "quote" (by decide)
  have w4 := ws "let" (by decide)
  have w5 := ws "x" (by decide)
  have w6 := ws "fn" (by decide)
  have w7 := ws "run" (by decide)
  rcases ht with rfl | rfl | rfl | rfl | rfl | rfl | rfl | rfl | rfl | rfl | rfl | rfl | rfl | rfl
  · exact ⟨h1, by omega, by omega, h4⟩
  all_goals
    refine ⟨by simp only [Th.worth, Th.worths, h1, n1, n5, n50, w1, w2, w3, w4, w5, w6, w7]; rfl, by simp only [Th.nodes, Th.nodesL]; omega, by simp only [Th.depth, Th.depthL]; omega, rfl⟩
theorem x_not : (("x" : Str)) ≠ nowhere := by decide
/-- a function whose body is such a part -/
theorem clo2_vi {S Z m L : Nat} {p : Th} (hS : 1 ≤ S) (hm : 1 ≤ m) (hp : ∀ sc : List Th, ScNo sc → sc.length ≤ L → Ev' m sc p (Vi S Z m)) {ns : List Th} (hn : ns = [] ∨ ns = [.str "x"]) {sc : List Th} (hs : ScNo sc) (hl : sc.length + 1 ≤ L) (hl2 : sc.length ≤ 2000) : Vi S Z m (.fn [.tup ns, p, .tup sc, .non])
  | 0 => ⟨show 1 ≤ S from hS, Nat.zero_le _⟩
  | j + 1 => by
    refine ⟨⟨show 1 ≤ S from hS, Nat.zero_le _⟩, fun args _ => co_fn (by omega) (by rcases hn with rfl | rfl <;> show _ ≤ 100000 <;> decide) fun e => ?_, (ev_fnv (k := 0) (clo2_vi hS hm hp hn hs hl hl2 j)).up hm⟩
    have key : ScNo (bindAll (Th.tup ns).row args (ownTh (.fn [.tup ns, p, .tup sc, .non]) .non sc)) ∧ (bindAll (Th.tup ns).row args (ownTh (.fn [.tup ns, p, .tup sc, .non]) .non sc)).length ≤ L := by
      rcases hn with rfl | rfl
      · have : args = [] := List.eq_nil_of_length_eq_zero e.symm
        subst this
        exact ⟨hs, by show sc.length ≤ L; omega⟩
      · match args, e with
        | [a], _ => exact ⟨hs.cons x_not, by show sc.length + 1 ≤ L; omega⟩
    exact (hp _ key.1 key.2).mono (Nat.le_refl _) fun v h => h j
theorem within_ok {m S Z s d L : Nat} {p : Th} (h : P13 m S Z s d L p) (hS : 4 ≤ S) (hZ : 2 ≤ Z) (hm : 3 ≤ m) (hL : 1 ≤ L) (hL2 : L ≤ 2000) {t : Th} (ht : t ∈ W13 p) : P13 (m + 2) (S + s + 8) (Z + d + 3) (s + 12) (d + 2) (L - 1) t := by
  obtain ⟨z1, z2, z3, z4⟩ := w13_size h.wo h.nd h.dp h.tp t ht
  refine ⟨z1, z2, z3, z4, fun sc hs hl => ?_⟩
  have big : ∀ v, Vi S Z m v → Vi (S + s + 8) (Z + d + 3) (m + 2) v := fun v hv => hv.mono (by omega) (by omega) (by omega)
  have hp := h.ev sc hs (by omega)
  have vn : ∀ i, Vi (S + s + 8) (Z + d + 3) (m + 2) (.int i) := fun i => vi_int (by omega) (by omega) (by omega) i
  have vb : ∀ i, Vi (S + s + 8) (Z + d + 3) (m + 2) (.bl i) := fun i => vi_bl (by omega) (by omega) (by omega) i
  have anyp := hp.mono (Nat.le_refl _) fun v _ => (show True from trivial)
  have i1 : Ev' m sc (.int 1) fun v => v = .int 1 := (ev_int (k := 0) (A := fun v => v = .int 1) rfl).up (by omega)
  have it : Ev' m sc (.bl true) fun v => v = .bl true := (ev_bl (k := 0) (A := fun v => v = .bl true) rfl).up (by omega)
  have pf : p.isFn = false := by
    have := h.tp
    cases p <;> first | rfl | cases this
  have pn : notForm p := fun w e => by
    have := h.tp
    rw [e] at this
    cases this
  have pv : Vi (S + s + 8) (Z + d + 3) (m + 2) p := vi_of ⟨by have := h.nd; omega, by have := h.dp; omega⟩ pf ((h.ev [] rfl (by show 0 ≤ L; omega)).mono (by omega) big)
  have addv : ∀ {a b : Th} {A B : Th → Prop}, Ev' m sc a A → Ev' m sc b B → Ev' (m + 2) sc (.tup [.str "add", a, b]) (Vi (S + s + 8) (Z + d + 3) (m + 2)) := fun {a b A B} ha hb => by
    refine (ev_done (k := m) (w := "add") (by decide) (by simp) (.cons ha (.cons hb .nil)) fun l al _ => ⟨num_doneG' l, fun v e => ?_⟩).up (by omega)
    rcases num_val (by decide) e with ⟨i, rfl⟩ | ⟨b, rfl⟩
    · exact vn _
    · exact vb _
  unfold W13 at ht
  simp only [List.mem_cons, List.not_mem_nil, or_false] at ht
  rcases ht with rfl | rfl | rfl | rfl | rfl | rfl | rfl | rfl | rfl | rfl | rfl | rfl | rfl | rfl
  · exact hp.mono (by omega) big
  · exact (ev_if it (hp.mono (Nat.le_refl _) big) (i1.mono (Nat.le_refl _) fun v e => by rw [e]; exact vn 1)).up (by omega)
  · exact (ev_if it (i1.mono (Nat.le_refl _) fun v e => by rw [e]; exact vn 1) (hp.mono (Nat.le_refl _) big)).up (by omega)
  · exact addv i1 hp
  · exact addv hp it
  · exact (ev_quote (k := 0) pv).up (by omega)
  · exact (ev_let (k := m) (by omega) hp fun _ v _ => (ev_int (k := 0) (vn 5)).up (by omega)).up (by omega)
  · exact (ev_let (k := m) (A := fun _ => True) (by omega) ((ev_int (k := 0) trivial).up (by omega)) fun _ v _ => (h.ev _ (hs.cons x_not) (by rw [List.length_cons]; omega)).mono (Nat.le_refl _) big).up (by omega)
  · exact (ev_fn (k := 0) (by decide) fun _ => big _ (clo2_vi (by omega) (by omega) h.ev (.inr rfl) hs (by omega) (by omega))).up (by omega)
  · exact (ev_call (k := m + 1) (A := Vi S Z m) (As := []) (fun w e => by cases e) (by simp) ((ev_fn (k := 0) (by decide) fun _ => clo2_vi (by omega) (by omega) h.ev (.inl rfl) hs (by omega) (by omega)).up (by omega)) .nil fun v vs hv hvs => (hv.call (by rw [hvs.len]; simp)).mono (by omega) big)
  · exact (ev_call (k := m + 1) (A := Vi S Z m) (As := [fun _ => True]) pn (by simp) (hp.up (by omega)) (.cons ((ev_int (k := 0) trivial).up (by omega)) .nil) fun v vs hv hvs => (hv.call (by rw [hvs.len]; simp)).mono (by omega) big)
  · exact (ev_call (k := m + 1) (A := Vi S Z m) (As := [Vi S Z m]) (fun w e => by cases e) (by simp) ((ev_fn (k := 0) (by decide) fun _ => (clo_vi (S := S) (Z := Z) (K := m) (by omega) (by omega) (by omega) (by simp [some13]) (by decide) (fun n hn => by
      rw [List.mem_singleton.mp hn]
      intro e
      injection e with e
      exact x_not e) hs (by omega) (.inl rfl))).up (by omega)) (.cons (hp.up (by omega)) .nil) fun v vs hv hvs => (hv.call (by rw [hvs.len]; simp)).mono (by omega) big)
  · exact (ev_run (k := m + 1) (A := fun v => v = p) (B := fun _ => True) (D := Vi S Z m) ((ev_quote (k := 0) (A := fun v => v = p) rfl).up (by omega)) ((ev_int (k := 0) trivial).up (by omega)) (fun v hv => by rw [hv]; exact (h.ev [] rfl (by show 0 ≤ L; omega)).up (by omega)) fun e v n he hv => vi_tell he hv (by omega) (by omega) (by omega) (by omega) (by omega) (by omega))
  · exact (ev_run (k := m + 1) (A := Vi S Z m) (B := fun _ => True) (D := Vi S Z m) (hp.up (by omega)) ((ev_int (k := 0) trivial).up (by omega)) (fun v hv => hv.run.up (by omega)) fun e v n he hv => vi_tell he hv (by omega) (by omega) (by omega) (by omega) (by omega) (by omega))
theorem some_w : ∀ t ∈ some13, t.worth false = true := by
  intro t ht
  unfold some13 at ht
  simp only [List.mem_cons, List.not_mem_nil, or_false] at ht
  rcases ht with rfl | rfl | rfl | rfl | rfl | rfl | rfl | rfl | rfl <;> decide +kernel
theorem nm_w : ∀ t ∈ nm13, t.worth false = true ∧ t.nodes ≤ 4 ∧ t.depth ≤ 2 := by
  intro t ht
  unfold nm13 at ht
  simp only [List.mem_cons, List.not_mem_nil, or_false] at ht
  rcases ht with rfl | rfl | rfl | rfl | rfl | rfl | rfl | rfl | rfl | rfl | rfl | rfl | rfl | rfl | rfl <;> exact ⟨by decide +kernel, by decide, by decide⟩
theorem nms_w : ∀ t ∈ nms13, t.worth false = true ∧ t.nodes ≤ 4 ∧ t.depth ≤ 2 := by
  intro t ht
  unfold nms13 at ht
  simp only [List.mem_cons, List.not_mem_nil, or_false] at ht
  rcases ht with rfl | rfl | rfl | rfl | rfl | rfl | rfl | rfl | rfl | rfl | rfl | rfl <;> exact ⟨by decide +kernel, by decide, by decide⟩
theorem form_word {w : Str} (h : isForm w = true) : wordB w = true := by
  have z : ∀ p ∈ formList, wordB p.1 = true := by decide +kernel
  unfold isForm at h
  obtain ⟨n, e⟩ := Option.isSome_iff_exists.mp h
  unfold formCount at e
  obtain ⟨p, hp, rfl⟩ := look_mem e
  exact z p hp
theorem rows_w : ∀ {r : List Th}, (∀ t ∈ r, t ∈ some13) → Th.worths false r = true ∧ Th.nodesL r ≤ 4 * r.length ∧ Th.depthL r ≤ 2
  | [], _ => ⟨rfl, Nat.le_refl _, Nat.zero_le _⟩
  | t :: r, h => by
    obtain ⟨h1, h2, h3⟩ := rows_w fun u hu => h u (.tail _ hu)
    obtain ⟨b1, b2, _⟩ := some_bd t (h t (.head _))
    refine ⟨by rw [Th.worths, some_w t (h t (.head _)), h1]; rfl, ?_, ?_⟩
    · rw [Th.nodesL, List.length_cons]
      omega
    · rw [Th.depthL]
      omega
theorem any_ok {t : Th} (h : A13 t) : P13 6 20 4 30 3 1000 t := by
  have ev : ∀ sc : List Th, ScNo sc → sc.length ≤ 1000 → Ev' 6 sc t (Vi 20 4 6) := fun sc hs hl => any_ev h hs (by omega)
  cases h with
  | row hw hr h5 =>
    obtain ⟨h1, h2, h3⟩ := rows_w hr
    refine ⟨?_, ?_, ?_, rfl, ev⟩
    · rw [Th.worth, Th.worths, h1, Th.worth, form_word hw]
      rfl
    · simp only [Th.nodes, Th.nodesL]
      omega
    · simp only [Th.depth, Th.depthL]
      omega
  | let' hx hb =>
    obtain ⟨h1, h2, h3⟩ := nm_w _ hx
    obtain ⟨b1, b2, _⟩ := some_bd _ hb
    refine ⟨?_, ?_, ?_, rfl, ev⟩
    · simp only [Th.worth, Th.worths, h1, some_w _ hb]
      decide +kernel
    · simp only [Th.nodes, Th.nodesL]
      omega
    · simp only [Th.depth, Th.depthL]
      omega
  | fn hn hb =>
    obtain ⟨h1, h2, h3⟩ := nms_w _ hn
    obtain ⟨b1, b2, _⟩ := some_bd _ hb
    refine ⟨?_, ?_, ?_, rfl, ev⟩
    · simp only [Th.worth, Th.worths, h1, some_w _ hb]
      decide +kernel
    · simp only [Th.nodes, Th.nodesL]
      omega
    · simp only [Th.depth, Th.depthL]
      omega
  | rc hx hn =>
    obtain ⟨h1, h2, h3⟩ := nms_w _ hn
    obtain ⟨g1, g2, g3⟩ := nm_w _ hx
    refine ⟨?_, ?_, ?_, rfl, ev⟩
    · simp only [Th.worth, Th.worths, h1, g1]
      decide +kernel
    · simp only [Th.nodes, Th.nodesL]
      omega
    · simp only [Th.depth, Th.depthL]
      omega
theorem told13 {m S Z s d L : Nat} {t : Th} (h : P13 m S Z s d L t) {f : Nat} (hf : m ≤ f) (hS : 1 ≤ S) (hZ : 1 ≤ Z) {lim : Int} (hl : 0 ≤ lim) : ∃ tt n, Res.told 0 (ev f t [] lim 0) = some (.val tt n) ∧ tt.nodes ≤ S + 3 ∧ tt.depth ≤ Z + 1 := by
  obtain ⟨w, v, s, n, e1, e2⟩ := told_ev (h.ev [] rfl (Nat.zero_le _)) (f := f) hf hl
  obtain ⟨z1, z2⟩ := told_size (e := w) (s := s) (N := S) (D := Z) e2 (fun v b => b.bd) hS hZ
  exact ⟨_, _, e1, z1, z2⟩
end Fl
/-! a dict display with keys of unlike kinds, asked at once: {(): a, True: b, False: c}.get(x, y) -/
namespace Fl
open PySem PySem.Spec PyProof.Rows L2
section
variable {P : Program} {w : World} {A : Around} {E : Value → Shared → Prop} {s : Shared}
/-- where a hash stands -/
abbrev plc (es : Array DictEntry) (h : Int) : List Nat := placesWithHash es.size (fun i => es[i]?.map (·.hash)) h
theorem find_bl_none {d : Addr} {es : Array DictEntry} {ep : Nat} {b : Bool} {h : Int} {Q : Option Nat → Shared → Prop} (hr : s.heap.DictRaw d es ep) (hp : plc es h = []) (q : Q none s) : wpAny (model P w) A (dictFind d (.bool b) h) Q E s := by
  obtain ⟨o, ho, hc, hd⟩ := hr
  unfold dictFind
  try with_reducible refine wpAny_holding ?_
  refine wpAny_bind (wpAny_dictEntries ho hd ?_)
  dsimp only
  rw [show placesWithHash es.size (fun i => es[i]?.map (·.hash)) h = [] from hp]
  rw [if_pos (by rfl)]
  refine wpAny_bind ?_
  exact wpAny_pure (wpAny_pure q)
theorem find_bl_hit {d : Addr} {es : Array DictEntry} {ep i : Nat} {b : Bool} {h : Int} {v : Value} {Q : Option Nat → Shared → Prop} (hr : s.heap.DictRaw d es ep) (hp : plc es h = [i]) (he : es[i]? = some ⟨h, .bool b, v⟩) (q : Q (some i) s) : wpAny (model P w) A (dictFind d (.bool b) h) Q E s := by
  obtain ⟨o, ho, hc, hd⟩ := hr
  unfold dictFind
  try with_reducible refine wpAny_holding ?_
  refine wpAny_bind (wpAny_dictEntries ho hd ?_)
  dsimp only
  rw [show placesWithHash es.size (fun i => es[i]?.map (·.hash)) h = [i] from hp]
  rw [if_pos (by simp [he, carriedByValue])]
  refine wpAny_bind ?_
  rw [List.forIn_cons, he]
  dsimp only
  rw [if_pos (by simp)]
  refine wpAny_bind (wpAny_bind (wpAny_dictEpoch ho hd (wpAny_bind (SeqAt.EqAt.bool_bool b b P w E _ (wpAny_bind (wpAny_dictEpoch ho hd ?_))))))
  rw [if_neg (by simp), if_pos (by simp)]
  exact wpAny_bind (wpAny_rule (wpAny_pure (wpAny_pure (wpAny_pure q))))
/-- a tuple of nothing -/
def IsE (h : Heap) (a : Addr) : Prop := NestedIs h (.tup []) (.ref a)
theorem find_e_none {d a : Addr} {es : Array DictEntry} {ep : Nat} {h : Int} {Q : Option Nat → Shared → Prop} (hr : s.heap.DictRaw d es ep) (hp : plc es h = []) (hn : (es.any fun e => e.key == Value.ref a && e.hash != h) = false) (q : Q none s) : wpAny (model P w) A (dictFind d (.ref a) h) Q E s := by
  obtain ⟨o, ho, hc, hd⟩ := hr
  unfold dictFind
  try with_reducible refine wpAny_holding ?_
  refine wpAny_bind (wpAny_dictEntries ho hd ?_)
  dsimp only
  rw [show placesWithHash es.size (fun i => es[i]?.map (·.hash)) h = [] from hp]
  rw [if_neg (by simp [carriedByValue]), if_neg (by rw [hn]; decide)]
  rw [List.filterMap_nil, if_neg (by simp)]
  refine wpAny_bind ?_
  unfold tableMayTell
  rw [if_pos (by rfl)]
  refine wpAny_pure ?_
  rw [if_neg (by simp)]
  refine wpAny_bind ?_
  exact wpAny_pure (wpAny_pure q)
theorem find_e_hit {d a b : Addr} {es : Array DictEntry} {ep i : Nat} {h : Int} {v : Value} {Q : Option Nat → Shared → Prop} (hu : A.units + 1 < cLine) (hr : s.heap.DictRaw d es ep) (ha : IsE s.heap a) (hb : IsE s.heap b) (hp : plc es h = [i]) (he : es[i]? = some ⟨h, .ref b, v⟩) (hn : (es.any fun e => e.key == Value.ref a && e.hash != h) = false) (q : Q (some i) s) : wpAny (model P w) A (dictFind d (.ref a) h) Q E s := by
  obtain ⟨o, ho, hc, hd⟩ := hr
  unfold dictFind
  try with_reducible refine wpAny_holding ?_
  refine wpAny_bind (wpAny_dictEntries ho hd ?_)
  dsimp only
  rw [show placesWithHash es.size (fun i => es[i]?.map (·.hash)) h = [i] from hp]
  rw [if_neg (by simp [carriedByValue]), if_neg (by rw [hn]; decide)]
  rw [show List.filterMap (fun i => Option.map (fun x => x.key) es[i]?) [i] = [.ref b] by simp [he]]
  have may : ∀ {Q' : Bool → Shared → Prop}, Q' false s → wpAny (model P w) A (tableMayTell (.ref a) [.ref b]) Q' E s := fun {Q'} q' => by
    unfold tableMayTell
    rw [if_neg (by simp)]
    refine wpAny_bind (quiet_key (.tup []) (.ref a) 8 s ha (by decide) A E _ ?_)
    rw [if_neg (by simp)]
    refine wpAny_bind ?_
    rw [List.forIn_cons]
    refine wpAny_bind (wpAny_bind (quiet_key (.tup []) (.ref b) 8 s hb (by decide) A E _ ?_))
    rw [if_neg (by simp)]
    exact wpAny_pure (wpAny_pure (wpAny_pure q'))
  have eqk := eqAt_key (w := w) (.tup []) (.tup []) A s (.ref b) (.ref a) hb ha (by show A.units + min 1 1 < cLine; omega)
  by_cases hone : ([Value.ref b] == [Value.ref a]) = true <;> (first | rw [if_pos hone] | rw [if_neg hone]) <;> (first | refine wpAny_bind (wpAny_pure ?_) | refine wpAny_bind (may ?_))
  · rw [if_neg (by simp)]
    refine wpAny_bind ?_
    rw [List.forIn_cons, he]
    dsimp only
    rw [if_pos (by simp)]
    refine wpAny_bind (wpAny_bind (wpAny_dictEpoch ho hd (wpAny_bind (eqk P E _ (wpAny_bind (wpAny_dictEpoch ho hd ?_))))))
    rw [if_neg (by simp), if_pos (by simp [NestedKey.beq, NestedKey.beqAll])]
    rw [if_neg (by simp)]
    refine wpAny_bind (wpAny_rule ?_)
    rw [if_pos (show [Value.ref b].length < 2 from (by show 1 < 2; decide))]
    exact wpAny_pure (wpAny_pure (wpAny_pure q))
  · rw [if_neg (by simp)]
    refine wpAny_bind ?_
    rw [List.forIn_cons, he]
    dsimp only
    rw [if_pos (by simp)]
    refine wpAny_bind (wpAny_bind (wpAny_dictEpoch ho hd (wpAny_bind (eqk P E _ (wpAny_bind (wpAny_dictEpoch ho hd ?_))))))
    rw [if_neg (by simp), if_pos (by simp [NestedKey.beq, NestedKey.beqAll])]
    rw [if_neg (by simp)]
    refine wpAny_bind (wpAny_rule ?_)
    rw [if_pos (show [Value.ref b].length < 2 from (by show 1 < 2; decide))]
    exact wpAny_pure (wpAny_pure (wpAny_pure q))
theorem set_new {d : Addr} {key v : Value} {k : NestedKey} {es : Array DictEntry} {ep : Nat} {Q : Unit → Shared → Prop} (hk : NestedIs s.heap k key) (hu : A.units + k.depth < cLine) (hr : s.heap.DictRaw d es ep) (hz : es.size ≤ 10)
    (hf : ∀ (s' : Shared) (Q' : Option Nat → Shared → Prop), s'.heap = s.heap → Q' none s' → wpAny (model P w) A (dictFind d key (k.hash w)) Q' E s')
    (q : ∀ h' tk, h'.DictRaw d (es.push ⟨k.hash w, key, v⟩) (ep + 1) → Heap.SameBut d s.heap h' → Q () { s with heap := h', toks := tk }) : wpAny (model P w) A (dictSet d key v) Q E s := by
  obtain ⟨o, ho, hc, hd⟩ := hr
  unfold dictSet
  try with_reducible refine wpAny_holding ?_
  refine wpAny_bind (pyHash_key k key A s _ hk hu ?_)
  unfold dictSetHashed
  try with_reducible refine wpAny_holding ?_
  refine wpAny_bind (hf _ _ rfl ?_)
  refine wpAny_bind (wpAny_rule (wpAny_updateDictKeys (hz := by have := hz; rw [sizeLine_eq]; omega) (s := { s with toks := s.toks + k.draws }) ho hd (q _ _ ⟨_, Heap.get?_update_self _ ho (Obj.isFreed_of_dict (Obj.data_mapDictKeys hd _)), hc.mapDictKeys _, Obj.data_mapDictKeys hd _⟩ (Heap.SameBut.update ..))))
theorem isE_at {h h' : Heap} {d e : Addr} {es : Array DictEntry} {ep : Nat} (x : IsE h e) (hr : h.DictRaw d es ep) (hs : Heap.SameBut d h h') : IsE h' e := by
  obtain ⟨o, ho, hc, hd⟩ := hr
  refine NestedIs.at (fun a u vs n h1 h2 => ?_) _ _ x
  have ne : a ≠ d := fun z => by
    rw [z, ho] at h1
    cases h1
    rw [hd] at h2
    cases h2
  exact (hs.2 a ne).trans h1
def hN : Int := reduceHash (Builtin.Tuple.tupleHashOf [])
theorem hN_1 : hN ≠ 1 := by decide +kernel
theorem hN_0 : hN ≠ 0 := by decide +kernel
theorem hash_e : NestedKey.hash w (.tup []) = hN := rfl
theorem hash_1 : NestedKey.hash w (.num 1) = 1 := by
  show hashInt 1 = 1
  decide +kernel
theorem hash_0 : NestedKey.hash w (.num 0) = 0 := by
  show hashInt 0 = 0
  decide +kernel
theorem plc1 {e : Addr} {va : Value} : plc #[⟨hN, .ref e, va⟩] 1 = [] := by
  simp [plc, placesWithHash, List.range, List.range.loop, hN_1]
theorem plc2 {e : Addr} {va vb : Value} : plc #[⟨hN, .ref e, va⟩, ⟨1, .bool true, vb⟩] 0 = [] := by
  simp [plc, placesWithHash, List.range, List.range.loop, hN_0]
theorem plcE {e : Addr} {va vb vc : Value} : plc #[⟨hN, .ref e, va⟩, ⟨1, .bool true, vb⟩, ⟨0, .bool false, vc⟩] hN = [0] := by
  simp [plc, placesWithHash, List.range, List.range.loop, Ne.symm hN_0, Ne.symm hN_1]
theorem plcT {e : Addr} {va vb vc : Value} : plc #[⟨hN, .ref e, va⟩, ⟨1, .bool true, vb⟩, ⟨0, .bool false, vc⟩] 1 = [1] := by
  simp [plc, placesWithHash, List.range, List.range.loop, hN_1]
theorem plcF {e : Addr} {va vb vc : Value} : plc #[⟨hN, .ref e, va⟩, ⟨1, .bool true, vb⟩, ⟨0, .bool false, vc⟩] 0 = [2] := by
  simp [plc, placesWithHash, List.range, List.range.loop, hN_0]
abbrev E3 (e : Addr) (va vb vc : Value) : Array DictEntry := #[⟨hN, .ref e, va⟩, ⟨1, .bool true, vb⟩, ⟨0, .bool false, vc⟩]
theorem store3 {d e : Addr} {va vb vc : Value} {Q : PUnit → Shared → Prop} (hu : A.units + 1 < cLine) (he : IsE s.heap e) {ep : Nat} (hr : s.heap.DictRaw d #[] ep)
    (q : ∀ h' tk, h'.DictRaw d (E3 e va vb vc) (ep + 3) → Heap.SameBut d s.heap h' → Q PUnit.unit { s with heap := h', toks := tk }) :
    wpAny (model P w) A (forIn [(Value.ref e, va), (.bool true, vb), (.bool false, vc)] PUnit.unit fun (x : Value × Value) (_ : PUnit) => (do dictSet d x.1 x.2; pure (ForInStep.yield PUnit.unit) : Sem (ForInStep PUnit))) Q E s := by
  rw [List.forIn_cons]
  refine wpAny_bind (wpAny_bind (set_new (k := .tup []) he (by show A.units + 1 < cLine; omega) hr (by decide) (fun s' Q' hs q' => find_e_none (by rw [hs]; exact hr) rfl (by simp) q') fun h1 t1 r1 s1 => wpAny_pure ?_))
  dsimp only
  rw [List.forIn_cons]
  refine wpAny_bind (wpAny_bind (set_new (k := .num 1) (s := { s with heap := h1, toks := t1 }) (.bool rfl) (by show A.units + 0 < cLine; omega) r1 (by show 1 ≤ 10; decide) (fun s' Q' hs q' => find_bl_none (by rw [hs]; exact r1) (by rw [hash_1]; exact plc1) q') fun h2 t2 r2 s2 => wpAny_pure ?_))
  dsimp only
  rw [List.forIn_cons]
  refine wpAny_bind (wpAny_bind (set_new (k := .num 0) (s := { s with heap := h2, toks := t2 }) (.bool rfl) (by show A.units + 0 < cLine; omega) r2 (by show 2 ≤ 10; decide) (fun s' Q' hs q' => find_bl_none (by rw [hs]; exact r2) (by rw [hash_0, hash_1]; exact plc2) q') fun h3 t3 r3 s3 => wpAny_pure ?_))
  dsimp only
  rw [List.forIn_nil]
  rw [hash_0, hash_1] at r3
  exact wpAny_pure (q h3 t3 r3 (s1.trans (s2.trans s3)))
end
/-- the dict {(): a, True: b, False: c}, its empty key at e -/
def Mx3 (p e : Addr) (a b c : V) (h : Heap) : Prop := ∃ va vb vc ep, RelV a va ∧ RelV b vb ∧ RelV c vc ∧ h.DictRaw p (E3 e va vb vc) ep ∧ (p == sysModules) = false
def tMixD (trs : List (TE × TE)) : TE := fun σ H Q => ∀ p, H p = none → tPairs trs σ (upd H p (.dK [])) fun ps H2 => H2 p = some (.dK []) ∧ ∃ e a b c, ps = [(.ref e, a), (.bl true, b), (.bl false, c)] ∧ H2 e = some (.tup []) ∧ Q (.ref p) (upd H2 p (.ext (Mx3 p e a b c)))
theorem isE_of {P : Program} {w : World} {H : Hp} {h : Heap} {e : Addr} (ok : HOk P w H h) (x : H e = some (.tup [])) : IsE h e := by
  obtain ⟨_, its, r, o, h1, h2, n, h3⟩ := (show ObjOk P w H h e (.tup []) from ok e _ x)
  cases r
  exact .tup h1 h2 h3 .nil
theorem pe_mixD {X : Cx} {pos : Pos} {keys : List (Option Expr)} {values : List Expr} {trs : List (TE × TE)} (hu : X.A.units + 1 < cLine) (h : PPs X pos keys values trs) (hall : keys.all (·.isSome) = true) (hl : keys.length = values.length) (h0 : keys ≠ [])
    (h15 : keys.length ≤ 15) : PE X (.Dict keys values pos) (tMixD trs) := by
  refine ⟨fun pins s σ H Q I q => ?_⟩
  have hn := I.hok.fresh (Nat.le_refl s.heap.objs.size)
  have I1 := I.laid (a := s.heap.objs.size) (o := .dK []) (h' := s.heap.push { cls := .type "dict", data := .dict #[] }) (t' := s.toks) (fun _ _ q => Heap.get?_push_of_some _ q) (Nat.le_refl _) (dk_empty s.heap I.big)
  have hnl := pairTrees_length keys values X.env pos hall hl
  rw [arm_eval_Dict, zip_pairTrees keys values X.env pos hall hl, dictDisplay_pairs _ (fun he => by rw [he] at hnl; exact h0 (List.length_eq_zero_iff.mp hnl.symm)) (by omega)]
  refine wpAny_bind (wpAny_standAt (wpAny_bind ?_))
  unfold subDict
  refine wpAny_bind (wpAny_alloc ?_)
  refine wpAny_bind (wpAny_holding ?_)
  rw [if_pos (by omega)]
  refine wpAny_bind (thn (h.run pins _ σ _ _ I1 (q _ hn)) fun ws s2 ⟨ps, H2, I2, rel, e, e', a, b, c, ep, ee, q2⟩ => ?_)
  subst ep
  cases rel with
  | @cons _ w1 _ _ r1 rel =>
  cases rel with
  | @cons _ w2 _ _ r2 rel =>
  cases rel with
  | @cons _ w3 _ _ r3 rel =>
  cases rel
  obtain ⟨k1, v1⟩ := w1
  obtain ⟨k2, v2⟩ := w2
  obtain ⟨k3, v3⟩ := w3
  obtain ⟨r1, r1'⟩ := r1
  obtain ⟨r2, r2'⟩ := r2
  obtain ⟨r3, r3'⟩ := r3
  obtain rfl : k1 = Value.ref e' := r1
  obtain rfl : k2 = Value.bool true := r2
  obtain rfl : k3 = Value.bool false := r3
  obtain ⟨z, hd, vs0, rel0, dd⟩ := dk_of I2.hok e
  cases rel0
  obtain ⟨es, ep, raw, hsz, _⟩ := dd.raw
  obtain rfl : es = #[] := Array.eq_empty_of_size_eq_zero hsz
  refine wpAny_holding ?_
  refine wpAny_bind (store3 hu (isE_of I2.hok ee) raw fun h' tk hr' hs => wpAny_pure (wpAny_pure (wpAny_pure ⟨.ref s.heap.objs.size, _, ?_, rfl, q2⟩)))
  have he : ∃ q, h'.get? s.heap.objs.size = some q := let ⟨o, ho, _⟩ := hr'; ⟨o, ho⟩
  exact d_write I2 (by rw [e]; exact True.intro) hs he ⟨⟨_, _, _, _, r1', r2', r3', hr', hd⟩, he, fun ha hb ⟨va, vb, vc, ep, x1, x2, x3, x4, x5⟩ k => ⟨va, vb, vc, ep, x1, x2, x3, x4.at k, x5⟩⟩
theorem meets_mget {P : Program} {w : World} (d : Addr) (key dflt : Value) :
    MeetsIn P w (Builtin.«dict.get» ⟨[.ref d, key, dflt], []⟩) (fun A R s => A.in1.units + 1 < cLine ∧ ∃ k i es ep en, NestedIs s.heap k key ∧ k.depth ≤ 1 ∧ s.heap.DictRaw d es ep ∧ es[i]? = some en ∧
      (∀ (A' : Around) (E' : Value → Shared → Prop) (s' : Shared) (Q' : Option Nat → Shared → Prop), A'.units + 1 < cLine → s'.heap = s.heap → Q' (some i) s' → wpAny (model P w) A' (dictFind d key (k.hash w)) Q' E' s') ∧
      R (.ok (.ret en.val)) { s with toks := s.toks + k.draws }) :=
  .of_wp fun A R s ⟨hu, k, i, es, ep, en, hk, hdp, hr, hen, hf, h⟩ => by
    show wpAny _ _ (dictGet d key >>= _) _ _ s
    refine wpAny_bind ?_
    unfold dictGet
    try with_reducible refine wpAny_holding ?_
    refine wpAny_bind (pyHash_key k key _ s _ hk (by omega) (wpAny_bind (hf _ _ _ _ hu rfl ?_)))
    obtain ⟨o, ho, hc, hd⟩ := hr
    refine wpAny_bind (wpAny_dictEntries (s := { s with toks := s.toks + k.draws }) ho hd ?_)
    rw [hen]
    exact wpAny_pure (wpAny_pure ⟨_, rfl, h⟩)
def tMixG (td ty tx : TE) : TE := fun σ H Q => td σ H fun x H1 => ∃ p e a b c, x = .ref p ∧ H1 p = some (.ext (Mx3 p e a b c)) ∧ ty σ H1 fun y H2 => tx σ H2 fun z H3 => H3 p = some (.ext (Mx3 p e a b c)) ∧ H3 e = some (.tup []) ∧
  ((∃ q, y = .ref q ∧ H3 q = some (.tup []) ∧ Q a H3) ∨ (y = .bl true ∧ Q b H3) ∨ (y = .bl false ∧ Q c H3))
theorem pe_mixG {X : Cx} {o e f : Expr} {apos cpos : Pos} {td ty tx : TE} (hu : X.A.units + 2 < cLine) (ho : PE X o td) (he : PE X e ty) (hf : PE X f tx) (m : M2 X o "get" apos e f cpos) : PE X (.Call (.Attribute o "get" apos) [e, f] [] cpos) (tMixG td ty tx) := by
  refine ⟨fun pins s σ H Q I h => ?_⟩
  refine wpAny_Call_method m.base m.few m.line PySem.F.plainAttrs_dict PySem.F.slot_dict_get PySem.F.type_dict_get (thn (ho.run pins s σ H _ I h) fun u s1 ⟨x, H1, I1, rx, p, e1, a, b, c, ex, hx, q1⟩ => ?_)
  subst ex
  obtain rfl : u = Value.ref p := rx
  have raw := (show ObjOk X.prog X.w H1 s1.heap p (.ext (Mx3 p e1 a b c)) from I1.hok p _ hx).1
  obtain ⟨va, vb, vc, ep, r1, r2, r3, raw, hd⟩ := raw
  refine ⟨raw.typeIs, fun b' q => ?_, ?_⟩
  · cases q
    obtain ⟨ob, h1, h2, _⟩ := raw
    exact ⟨ob, h1, h2.2.1⟩
  rw [m.trees]
  refine Calls.callWith_builtin rfl (Calls.evalArgs_plain (Calls.spliced_cons (thn (he.run pins s1 σ H1 _ I1 q1) fun iv s2 ⟨y, H2, I2, ry, q2⟩ =>
    Calls.spliced_cons (thn (hf.run pins s2 σ H2 _ I2 q2) fun fv s3 ⟨z, H3, I3, rz, hx3, he3, q3⟩ => Calls.spliced_nil ?_))))
  have raw3 := (show ObjOk X.prog X.w H3 s3.heap p (.ext (Mx3 p e1 a b c)) from I3.hok p _ hx3).1
  obtain ⟨va, vb, vc, ep, r1, r2, r3, raw, hd⟩ := raw3
  have ie := isE_of I3.hok he3
  rcases q3 with ⟨q, rfl, hq, q3⟩ | ⟨rfl, q3⟩ | ⟨rfl, q3⟩
  · obtain rfl : iv = Value.ref q := ry
    have iq := isE_of I3.hok hq
    exact call_meetsIn PySem.F.slot_dict_get raw.typeIs PySem.F.entry_dict_get (PySem.F.args_dict_get_3 _ _ _) (meets_mget p (.ref q) fv) ⟨by show X.A.units + 1 + 1 < _; omega, .tup [], 0, _, _, _, iq, Nat.le_refl _, raw, rfl,
      fun A' E' s' Q' hA hs q' => find_e_hit hA (by rw [hs]; exact raw) (by rw [hs]; exact iq) (by rw [hs]; exact ie) plcE rfl (by simp [hash_e]) q', _, H3, I3.tok _, r1, q3⟩
  · obtain rfl : iv = Value.bool true := ry
    exact call_meetsIn PySem.F.slot_dict_get raw.typeIs PySem.F.entry_dict_get (PySem.F.args_dict_get_3 _ _ _) (meets_mget p (.bool true) fv) ⟨by show X.A.units + 1 + 1 < _; omega, .num 1, 1, _, _, _, .bool rfl, Nat.zero_le _, raw, rfl,
      fun A' E' s' Q' hA hs q' => find_bl_hit (v := vb) (by rw [hs]; exact raw) (by rw [hash_1]; exact plcT) (by rw [hash_1]; rfl) q', _, H3, I3.tok _, r2, q3⟩
  · obtain rfl : iv = Value.bool false := ry
    exact call_meetsIn PySem.F.slot_dict_get raw.typeIs PySem.F.entry_dict_get (PySem.F.args_dict_get_3 _ _ _) (meets_mget p (.bool false) fv) ⟨by show X.A.units + 1 + 1 < _; omega, .num 0, 2, _, _, _, .bool rfl, Nat.zero_le _, raw, rfl,
      fun A' E' s' Q' hA hs q' => find_bl_hit (v := vc) (by rw [hs]; exact raw) (by rw [hash_0]; exact plcF) (by rw [hash_0]; rfl) q', _, H3, I3.tok _, r3, q3⟩
end Fl
/-! programs of drawn parts: no function is called but the one told right there -/
namespace Fl
open PySem PySem.Spec PyProof.Rows L2
/-- a part that comes to an end in every scope, its worth no greater than so -/
def Gd (k p q e : Nat) (t : Th) : Prop := ∀ (S Z : Nat) (sc : List Th), ScB S Z sc → ScNo sc → sc.length + 50 * k ≤ 90000 → p * S + q ≤ 30000 → Z + e ≤ 40 → Ev' k sc t (Bd (p * S + q) (Z + e))
theorem mulS {p p' S : Nat} (h : p ≤ p') : p * S ≤ p' * S := Nat.mul_le_mul_right _ h
theorem Gd.mono {k p q e k' p' q' e' : Nat} {t : Th} (h : Gd k p q e t) (h1 : k ≤ k') (h2 : p ≤ p') (h3 : q ≤ q') (h4 : e ≤ e') : Gd k' p' q' e' t := fun S Z sc a b c d f => by
  have := mulS (S := S) h2
  exact (h S Z sc a b (by omega) (by omega) (by omega)).mono h1 fun v z => z.mono (by omega) (by omega)
section
variable {k p q e : Nat}
/-- what comes to little -/
theorem gd_of {t : Th} (h : ∀ sc : List Th, ScNo sc → Ev' k sc t (Bd q e)) : Gd k p q e t := fun S Z sc _ b _ _ _ => (h sc b).mono (Nat.le_refl _) fun v z => z.mono (by omega) (by omega)
theorem gd_int {i : Int} (hk : 1 ≤ k) (hq : 1 ≤ q) : Gd k p q e (.int i) := gd_of fun sc _ => (ev_int (k := 0) ⟨hq, Nat.zero_le _⟩).up hk
theorem gd_bl {i : Bool} (hk : 1 ≤ k) (hq : 1 ≤ q) : Gd k p q e (.bl i) := gd_of fun sc _ => (ev_bl (k := 0) ⟨hq, Nat.zero_le _⟩).up hk
theorem gd_nil (hk : 1 ≤ k) (hq : 1 ≤ q) (he : 1 ≤ e) : Gd k p q e (.tup []) := gd_of fun sc _ => (ev_nil (k := 0) ⟨hq, he⟩).up hk
theorem gd_quote {t : Th} (hk : 1 ≤ k) (hq : t.nodes ≤ q) (he : t.depth ≤ e) : Gd k p q e (.tup [.str "quote", t]) := gd_of fun sc _ => (ev_quote (k := 0) ⟨hq, he⟩).up hk
theorem gd_name {x : Str} (hk : 1 ≤ k) (hp : 1 ≤ p) : Gd k p q e (.str x) := fun S Z sc a b c d f => by
  have := mulS (S := S) hp
  exact ((ev_word (k := 0) fun _ v z => (a x v z).mono (by omega) (by omega)).up hk)
/-- what never comes to a worth -/
theorem gd_never {t : Th} (h : ∀ sc : List Th, ScNo sc → Ev' k sc t fun _ => False) : Gd k p q e t := gd_of fun sc hs => (h sc hs).mono (Nat.le_refl _) fun v z => z.elim
theorem gd_if {a b c : Th} (ha : Gd k p q e a) (hb : Gd k p q e b) (hc : Gd k p q e c) : Gd (k + 1) p q e (.tup [.str "if", a, b, c]) := fun S Z sc s n l d f =>
  ev_if (ha S Z sc s n (by omega) d f) (hb S Z sc s n (by omega) d f) (hc S Z sc s n (by omega) d f)
theorem num2_ev {sc : List Th} {w : Str} {a b : Th} {A B : Th → Prop} (hw : isNumW w = true) (ha : Ev' k sc a A) (hb : Ev' k sc b B) : Ev' (k + 1) sc (.tup [.str w, a, b]) (Bd 1 0) := by
  refine ev_done (num_in hw).1 (by simp) (.cons ha (.cons hb .nil)) fun l al _ => ⟨num_doneG hw l, fun v e => ?_⟩
  rcases num_val hw e with ⟨i, rfl⟩ | ⟨b, rfl⟩ <;> exact ⟨Nat.le_refl _, Nat.le_refl _⟩
theorem gd_num {w : Str} {a b : Th} (hw : isNumW w = true) (hq : 1 ≤ q) (ha : Gd k p q e a) (hb : Gd k p q e b) : Gd (k + 1) p q e (.tup [.str w, a, b]) := fun S Z sc s n l d f =>
  (num2_ev hw (ha S Z sc s n (by omega) d f) (hb S Z sc s n (by omega) d f)).mono (Nat.le_refl _) fun v z => z.mono (by omega) (by omega)
theorem small_of {v : Th} {S Z : Nat} (h : Bd S Z v) (h1 : S ≤ 30000) (h2 : Z ≤ 40) : small v = true := by
  unfold small
  rw [Nat.ble_eq_true_of_le (show v.nodes ≤ 30000 by have := h.1; omega), Nat.ble_eq_true_of_le (show v.depth ≤ 40 by have := h.2; omega)]
  rfl
theorem gd_same {a b : Th} (hq : 1 ≤ q) (ha : Gd k p q e a) (hb : Gd k p q e b) : Gd (k + 1) p q e (.tup [.str "same", a, b]) := fun S Z sc s n l d f => by
  refine ev_done (w := "same") (by decide) (by simp) (.cons (ha S Z sc s n (by omega) d f) (.cons (hb S Z sc s n (by omega) d f) .nil)) fun l al _ => ?_
  cases al with
  | @cons x _ _ _ a1 al =>
    cases al with
    | @cons y _ _ _ a2 al =>
      cases al
      refine ⟨?_, fun v z => ?_⟩
      · show ((!true || (true && (small x && small y))) && true) = true
        rw [small_of a1 d f, small_of a2 d f]
        rfl
      · have z' : (if x.worth false && y.worth false then Out.val (.bl (x.same y)) else .stop "kind") = .val v := z
        split at z'
        · cases z'
          exact ⟨by show 1 ≤ _; omega, Nat.zero_le _⟩
        · cases z'
theorem row_le {v : Th} : v.row.length ≤ v.nodes := by
  cases v with
  | tup l =>
    have := len_nodesL l
    rw [Th.nodes]
    show l.length ≤ _
    omega
  | _ => exact Nat.zero_le _
theorem gd_join {a b : Th} (ha : Gd k p q e a) (hb : Gd k p q e b) : Gd (k + 1) (2 * p) (2 * q) (e + 1) (.tup [.str "join", a, b]) := fun S Z sc s n l d f => by
  have e2 : 2 * p * S = 2 * (p * S) := Nat.mul_assoc _ _ _
  refine ev_done (w := "join") (by decide) (by simp) (.cons (ha S Z sc s n (by omega) (by omega) (by omega)) (.cons (hb S Z sc s n (by omega) (by omega) (by omega)) .nil)) fun l al _ => ?_
  cases al with
  | @cons x _ _ _ a1 al =>
    cases al with
    | @cons y _ _ _ a2 al =>
      cases al
      obtain ⟨x1, x2⟩ := a1
      obtain ⟨y1, y2⟩ := a2
      refine ⟨?_, fun v z => ?_⟩
      · show (true && (!true || Nat.ble y.row.length 100000)) = true
        have := row_le (v := y)
        rw [Nat.ble_eq_true_of_le (show y.row.length ≤ 100000 by omega)]
        rfl
      · have z' : joinT x y = .val v := z
        unfold joinT at z'
        split at z'
        · cases z'
          rw [Th.nodes] at y1
          rw [Th.depth] at y2
          refine ⟨?_, ?_⟩
          · rw [Th.nodes, Th.nodesL]
            omega
          · rw [Th.depth, Th.depthL]
            omega
        · cases z'
/-- (first (join A ())) -/
theorem gd_fj {a : Th} (ha : Gd k p q e a) (hk : 1 ≤ k) : Gd (k + 2) p q e (.tup [.str "first", .tup [.str "join", a, .tup []]]) := fun S Z sc s n l d f => by
  have j : Ev' (k + 1) sc (.tup [.str "join", a, .tup []]) fun v => ∃ x, v = .tup [x] ∧ Bd (p * S + q) (Z + e) x := by
    refine ev_done (w := "join") (by decide) (by simp) (.cons (ha S Z sc s n (by omega) d f) (.cons ((ev_nil (k := 0) (A := fun v => v = .tup []) rfl).up hk) .nil)) fun l al _ => ?_
    cases al with
    | @cons x _ _ _ a1 al =>
      cases al with
      | cons a2 al =>
        cases al
        subst a2
        exact ⟨rfl, fun v z => by cases (show Out.val (.tup [x]) = .val v from z); exact ⟨x, rfl, a1⟩⟩
  refine ev_done (w := "first") (by decide) (by simp) (.cons j .nil) fun l al _ => ?_
  cases al with
  | cons a1 al =>
    cases al
    obtain ⟨x, rfl, bx⟩ := a1
    exact ⟨rfl, fun v z => by cases (show Out.val x = .val v from z); exact bx⟩
theorem kind_bd (v : Th) : Bd 1 0 (.str v.kind) := ⟨Nat.le_refl _, Nat.le_refl _⟩
theorem gd_kind {a : Th} (hq : 1 ≤ q) (ha : Gd k p q e a) : Gd (k + 1) p q e (.tup [.str "kind", a]) := fun S Z sc s n l d f => by
  refine ev_done (w := "kind") (by decide) (by simp) (.cons (ha S Z sc s n (by omega) d f) .nil) fun l al _ => ?_
  cases al with
  | @cons x _ _ _ a1 al =>
    cases al
    exact ⟨rfl, fun v z => by cases (show Out.val (.str x.kind) = .val v from z); exact (kind_bd x).mono (by omega) (by omega)⟩
theorem gd_run {t b : Th} (ht : Gd k p q e t) (hb : ∀ sc : List Th, Ev' k sc b fun _ => True) (hk : 1 ≤ k) (hq : 1 ≤ q) (hz : p + q ≤ 30000) (hk2 : 50 * k ≤ 80000) (he : 1 ≤ e) : Gd (k + 1) p (p + q + 3) (e + 1) (.tup [.str "run", .tup [.str "quote", t], b]) := fun S Z sc s n l d f => by
  refine ev_run (A := fun v => v = t) (D := Bd (p + q) e) ((ev_quote (k := 0) (A := fun v => v = t) rfl).up hk) (hb sc) (fun v hv => ?_) fun w v n' _ hv => ?_
  · rw [hv]
    have := ht 1 0 [] (fun x v e => by cases e) rfl (by show 0 + _ ≤ _; omega) (by omega) (by omega)
    rw [Nat.mul_one, Nat.zero_add] at this
    exact this
  · obtain ⟨z1, z2⟩ := told_size (e := w) (s := n') (N := p + q) (D := e) hv (fun v b => b) (by omega) he
    exact ⟨by omega, by omega⟩
theorem gd_let {x : Str} {a b : Th} (hx : x ≠ nowhere) (hp : 1 ≤ p) (ha : Gd k p q e a) (hb : Gd k p q e b) : Gd (k + 1) (p * p) (p * q + q) (2 * e) (.tup [.str "let", .str x, a, b]) := fun S Z sc s n l d f => by
  have e1 : p * (p * S + q) + q = p * p * S + (p * q + q) := by rw [Nat.mul_add, Nat.mul_assoc]; omega
  have le : S ≤ p * S + q := by have := mulS (S := S) hp; omega
  have le2 : p * S + q ≤ p * (p * S + q) + q := by have := mulS (S := p * S + q) hp; omega
  refine ev_let (by omega) (ha S Z sc s n (by omega) (by omega) (by omega)) fun _ v hv => ?_
  have := hb (p * S + q) (Z + e) (.tup [.str x, v] :: sc) ((s.mono le (by omega)).cons hv) (n.cons hx) (by rw [List.length_cons]; omega) (by omega) (by omega)
  rw [e1] at this
  exact this.mono (Nat.le_refl _) fun u z => z.mono (Nat.le_refl _) (by omega)
/-- names bound to no great worths -/
theorem scb_bind {S Z : Nat} : ∀ {ns vs sc : List Th}, ScB S Z sc → (∀ v ∈ vs, Bd S Z v) → ScB S Z (bindAll ns vs sc)
  | [], _, sc, h, _ => by rw [bindAll] <;> first | exact h | (intros; simp_all)
  | _ :: _, [], sc, h, _ => by rw [bindAll] <;> first | exact h | (intros; simp_all)
  | n :: ns, v :: vs, sc, h, hv => by
    rw [bindAll]
    refine scb_bind (fun x u e => ?_) fun u hu => hv u (.tail _ hu)
    unfold looks at e
    rw [List.filterMap_cons] at e
    cases z : hasName x (.tup [n, v]) with
    | none => rw [z] at e; exact h x u e
    | some t =>
      rw [z] at e
      cases e
      have : u = v := by
        unfold hasName at z
        split at z
        · rename_i y w' e'
          split at z
          · cases z
            injection e' with e'
            injection e' with _ e'
            injection e' with e' _
            exact e'.symm
          · cases z
        · cases z
      rw [this]
      exact hv v (.head _)
theorem bind_len : ∀ (ns vs sc : List Th), (bindAll ns vs sc).length ≤ ns.length + sc.length
  | [], _, sc => by rw [bindAll] <;> first | simp | (intros; simp_all)
  | _ :: _, [], sc => by rw [bindAll] <;> first | simp | (intros; simp_all)
  | n :: ns, v :: vs, sc => by
    rw [bindAll, List.length_cons]
    have := bind_len ns vs (.tup [n, v] :: sc)
    rw [List.length_cons] at this
    omega
/-- a function told right there: names, body, own name -/
structure Hd (k p q e : Nat) (h : Th) : Prop where
  shape : (∃ ns b, h = .tup [.str "fn", .tup ns, b] ∧ ns.length ≤ 40 ∧ (∀ n ∈ ns, n ≠ .str nowhere) ∧ Gd k p q e b) ∨ ∃ x ns b, h = .tup [.str "rec", .str x, .tup ns, b] ∧ x ≠ nowhere ∧ ns.length ≤ 40 ∧ (∀ n ∈ ns, n ≠ .str nowhere) ∧ Gd k p q e b
/-- a function that may be called: its scope no greater than so -/
def Cb (k p q e S Z N : Nat) (v : Th) : Prop := ∃ ns b sc o, v = .fn [.tup ns, b, .tup sc, o] ∧ ns.length ≤ 40 ∧ (∀ n ∈ ns, n ≠ .str nowhere) ∧ Gd k p q e b ∧ ScB S Z sc ∧ ScNo sc ∧ sc.length ≤ N ∧ (o = .non ∨ ∃ x, o = .str x ∧ x ≠ nowhere)
theorem hd_ev {h : Th} (hh : Hd k p q e h) {S Z N : Nat} {sc : List Th} (s : ScB S Z sc) (n : ScNo sc) (l : sc.length ≤ N) : Ev' 1 sc h (Cb k p q e S Z N) := by
  rcases hh.shape with ⟨ns, b, rfl, h1, h2, h3⟩ | ⟨x, ns, b, rfl, hx, h1, h2, h3⟩
  · exact ev_fn (k := 0) (by show ns.length ≤ 4000; omega) fun _ => ⟨ns, b, sc, .non, rfl, h1, h2, h3, s, n, l, .inl rfl⟩
  · exact ev_rec (k := 0) (by show ns.length ≤ 4000; omega) fun _ _ => ⟨ns, b, sc, .str x, rfl, h1, h2, h3, s, n, l, .inr ⟨x, rfl, hx⟩⟩
theorem hd_not {h : Th} (hh : Hd k p q e h) : notForm h := by
  rcases hh.shape with ⟨ns, b, rfl, _⟩ | ⟨x, ns, b, rfl, _⟩ <;> exact fun w e => by cases e
/-- it is called -/
theorem cb_co {S Z N : Nat} {v : Th} (h : Cb k p q e S Z N v) (hS : 1 ≤ S) {vs : List Th} (hv : ∀ u ∈ vs, Bd S Z u) (hN : N + 100 + 50 * k ≤ 90000) (d : p * S + q ≤ 30000) (f : Z + e ≤ 40) : Co k v vs (Bd (p * S + q) (Z + e)) := by
  obtain ⟨ns, b, sc, o, rfl, h1, h2, h3, s, n, l, ho⟩ := h
  refine co_fn (by omega) (by show ns.length ≤ 100000; omega) fun _ => ?_
  have own : ScB S Z (ownTh (.fn [.tup ns, b, .tup sc, o]) o sc) ∧ ScNo (ownTh (.fn [.tup ns, b, .tup sc, o]) o sc) ∧ (ownTh (.fn [.tup ns, b, .tup sc, o]) o sc).length ≤ N + 1 := by
    rcases ho with rfl | ⟨x, rfl, hx⟩
    · exact ⟨s, n, by show sc.length ≤ _; omega⟩
    · exact ⟨s.cons ⟨hS, Nat.zero_le _⟩, n.cons hx, by show sc.length + 1 ≤ _; omega⟩
  obtain ⟨o1, o2, o3⟩ := own
  have bl := bind_len (Th.tup ns).row vs (ownTh (.fn [.tup ns, b, .tup sc, o]) o sc)
  have nl : (Th.tup ns).row.length ≤ 40 := h1
  refine h3 S Z _ (scb_bind o1 hv) ?_ (by omega) d f
  show looks nowhere (bindAll ns vs _) = []
  rw [look_bind _ _ _ _ h2]
  exact o2
/-- a call of a function told right there -/
theorem evs_bd {S Z : Nat} {sc : List Th} : ∀ {ts : List Th}, (∀ t ∈ ts, Ev' k sc t (Bd S Z)) → Evs' k sc ts (ts.map fun _ => Bd S Z)
  | [], _ => .nil
  | t :: ts, h => .cons (h t (.head _)) (evs_bd fun u hu => h u (.tail _ hu))
theorem gd_call {h : Th} {ts : List Th} (hp : 1 ≤ p) (hq : 1 ≤ q) (hk : 1 ≤ k) (hh : Hd k p q e h) (ht : ∀ t ∈ ts, Gd k p q e t) (hl : ts.length ≤ 100) : Gd (k + 3) (p * p) (p * q + q) (2 * e) (.tup (h :: ts)) := fun S Z sc s n l d f => by
  have e1 : p * (p * S + q) + q = p * p * S + (p * q + q) := by rw [Nat.mul_add, Nat.mul_assoc]; omega
  have le : S ≤ p * S + q := by have := mulS (S := S) hp; omega
  have le2 : p * S + q ≤ p * (p * S + q) + q := by have := mulS (S := p * S + q) hp; omega
  refine (ev_call (k := k) (A := Cb k p q e (p * S + q) (Z + e) sc.length) (hd_not hh) (by omega) ((hd_ev hh (s.mono le (by omega)) n (Nat.le_refl _)).up hk) (evs_bd fun t m => ht t m S Z sc s n (by omega) (by omega) (by omega)) fun v vs hv hvs => ?_).up (by omega)
  have := cb_co hv (by omega) (alls_mem hvs) (by omega) (by omega) (by omega)
  rw [e1] at this
  exact this.mono (Nat.le_refl _) fun u z => z.mono (Nat.le_refl _) (by omega)
end
/-! parts that come to nothing -/
def odd37 : List Th := [.str "add", .str "quote", .str nowhere, .tup [.str "add", .int 1], .tup [.str "add", .int 1, .int 2, .int 3], .tup [.int 5, .int 1], .tup [.bl true], .tup [.str "quote"], .tup [.str "if", .bl true, .int 1],
  .tup [.str "let", .str "if", .int 1, .int 2], .tup [.str "let", .tup [.str "x"], .int 1, .int 2], .tup [.str "let", .int 5, .int 1, .int 2], .tup [.str "fn", .str "x", .int 1], .tup [.str "fn", .tup []],
  .tup [.str "fn", .tup [.str "x", .str "x"], .int 1], .tup [.str "fn", .tup [.str "rest"], .int 1], .tup [.str "rec", .str "kind", .tup [], .int 1], .tup [.str "rec", .str "x", .tup [.int 1], .int 1],
  .tup [.str "rec", .str "x", .tup []], .tup [.str "run", .int 5, .int (-1)], .tup [.str "run", .int 5, .int 100001], .tup [.str "run", .int 5], .tup [.str "first", .tup []], .tup [.str "rest", .int 5],
  .tup [.str "join", .int 1, .int 2], .tup [.str "row"], .tup [.str "if", .int 1, .int 2, .int 3], .tup [.str nowhere, .int 1], .tup [.tup [.str "fn", .tup [.str "x"], .str "x"]], .tup [.tup [], .int 1],
  .tup [.tup [.str "fn", .tup [], .int 1], .int 2], .tup [.str "same", .tup [.str "fn", .tup [], .int 1], .int 1], .tup [.str "times", .int 1000000000, .int 2], .tup [.str "below", .tup [], .int 1],
  .tup [.str "less", .int (-1000000000), .int 1], .tup [.str "add", .bl true, .int 1], .tup [.str "kind"]]
section
variable {sc : List Th}
abbrev No (k : Nat) (sc : List Th) (t : Th) : Prop := Ev' k sc t fun _ => False
theorem no_form {w : Str} {r : List Th} (hw : isForm w = true) (hl : r.length ≤ 100000) (hn : namesG w r = true) (h : isFormed w r = false) : No 4 sc (.tup (.str w :: r)) := (ev_unformed (k := 0) hw hl hn h).up (by decide)
theorem no_word {x : Str} (h : isForm x = true) : No 4 sc (.str x) := (ev_word (k := 0) fun z v e => absurd h (by rw [z]; decide)).up (by decide)
theorem no_where (h : ScNo sc) : No 4 sc (.str nowhere) := (ev_word (k := 0) fun _ v e => by rw [h] at e; cases e).up (by decide)
def IsV (a : Th) (v : Th) : Prop := v = a
theorem iv_int (k : Nat) (i : Int) : Ev' (k + 1) sc (.int i) (IsV (.int i)) := ev_int rfl
theorem iv_bl (k : Nat) (i : Bool) : Ev' (k + 1) sc (.bl i) (IsV (.bl i)) := ev_bl rfl
theorem iv_nil (k : Nat) : Ev' (k + 1) sc (.tup []) (IsV (.tup [])) := ev_nil rfl
theorem iv_fn {k : Nat} {ns : List Th} {b : Th} (hn : ns.length ≤ 40 := by decide) : Ev' (k + 1) sc (.tup [.str "fn", .tup ns, b]) (IsV (.fn [.tup ns, b, .tup sc, .non])) := ev_fn (k := k) (ns := .tup ns) (b := b) (sc := sc) (by show ns.length ≤ 4000; omega) fun _ => rfl
theorem no_done1 {w : Str} {a x : Th} (hw : w ∈ doneWs) (ha : Ev' 2 sc a (IsV x)) (h : doneG w [x] = true ∧ ∀ v, doneBy w [x] ≠ .val v) : No 4 sc (.tup [.str w, a]) := by
  refine (ev_done (k := 2) hw (by simp) (.cons ha .nil) fun l al _ => ?_).up (by decide)
  cases al with
  | cons a1 al =>
    cases al
    rw [show _ = x from a1]
    exact ⟨h.1, fun v e => h.2 v e⟩
theorem no_done2 {w : Str} {a b x y : Th} (hw : w ∈ doneWs) (ha : Ev' 2 sc a (IsV x)) (hb : Ev' 2 sc b (IsV y)) (h : doneG w [x, y] = true ∧ ∀ v, doneBy w [x, y] ≠ .val v) : No 4 sc (.tup [.str w, a, b]) := by
  refine (ev_done (k := 2) hw (by simp) (.cons ha (.cons hb .nil)) fun l al _ => ?_).up (by decide)
  cases al with
  | cons a1 al =>
    cases al with
    | cons a2 al =>
      cases al
      rw [show _ = x from a1, show _ = y from a2]
      exact ⟨h.1, fun v e => h.2 v e⟩
theorem no_call {h x : Th} {ts : List Th} {As : List (Th → Prop)} (hh : notForm h) (hl : ts.length ≤ 100) (ha : Ev' 3 sc h (IsV x)) (ht : Evs' 3 sc ts As) (hx : x.isFn = false) : No 4 sc (.tup (h :: ts)) :=
  ev_call (k := 3) hh (by omega) ha ht fun v vs hv _ => by rw [show v = x from hv]; exact co_none hx
theorem co_count {k : Nat} {ns b o : Th} {sc vs : List Th} {C : Th → Prop} (h : ns.row.length ≠ vs.length) : Co k (.fn [ns, b, .tup sc, o]) vs C := fun f _ lim n _ => by
  refine ⟨.stop "count" n, ?_, fun w m z => nomatch z⟩
  unfold evCall
  show (if !callsOn then none else if ns.row.length = vs.length then (if scG sc && scG ns.row then ev f b (bindAll ns.row vs (ownTh (.fn [ns, b, .tup sc, o]) o sc)) lim n else none) else some (.stop "count" n)) = _
  rw [if_neg (by decide), if_neg h]
theorem no_run {i : Int} (h : ¬ (0 ≤ i ∧ i ≤ 100000)) : No 4 sc (.tup [.str "run", .int 5, .int i]) := by
  refine Ev'.up (k := 3) (ev_formed (k := 2) (by decide +kernel) (by simp) rfl fun c f hf lim n hn => ?_) (by decide)
  rw [good_run]
  obtain ⟨q, e, z⟩ := evs_run (.cons (iv_int (sc := sc) 1 5) (.cons (iv_int (sc := sc) 1 i) .nil)) f hf lim n hn
  rw [e]
  cases q with
  | stop e m => exact ⟨_, rfl, fun v m z => nomatch z⟩
  | vals l m =>
    have al := z l m rfl
    cases al with
    | cons a1 al =>
      cases al with
      | cons a2 al =>
        cases al
        rw [show _ = Th.int i from a2]
        refine ⟨.stop "kind" m, ?_, fun v m z => nomatch z⟩
        exact if_neg h
theorem no_if : No 4 sc (.tup [.str "if", .int 1, .int 2, .int 3]) := by
  refine Ev'.up (k := 3) (ev_formed (k := 2) (by decide +kernel) (by simp) rfl fun _ f hf lim n hn => ?_) (by decide)
  rw [good_if]
  obtain ⟨r, e, q⟩ := iv_int (sc := sc) 1 1 f hf lim n hn
  show ∃ q, Res.then (ev f (.int 1) sc lim n) (evIf f [.int 1, .int 2, .int 3] sc lim) = some q ∧ _
  rw [e]
  cases r with
  | stop e m => exact ⟨_, rfl, fun v m z => nomatch z⟩
  | val t m =>
    rw [show t = .int 1 from q t m rfl]
    exact ⟨.stop "kind" m, rfl, fun v m z => nomatch z⟩
theorem odd_no (h : ScNo sc) : ∀ t ∈ odd37, No 4 sc t := by
  intro t ht
  unfold odd37 at ht
  simp only [List.mem_cons, List.not_mem_nil, or_false] at ht
  have big : ∀ {a b : Int}, (∀ v, doneBy "times" [.int a, .int b] ≠ .val v) → True := fun _ => trivial
  rcases ht with rfl | rfl | rfl | rfl | rfl | rfl | rfl | rfl | rfl | rfl | rfl | rfl | rfl | rfl | rfl | rfl | rfl | rfl | rfl | rfl | rfl | rfl | rfl | rfl | rfl | rfl | rfl | rfl | rfl | rfl | rfl | rfl | rfl | rfl | rfl | rfl | rfl
  · exact no_word (by decide +kernel)
  · exact no_word (by decide +kernel)
  · exact no_where h
  · exact no_form (by decide +kernel) (by simp) (by decide +kernel) (by decide +kernel)
  · exact no_form (by decide +kernel) (by simp) (by decide +kernel) (by decide +kernel)
  · exact no_call (x := .int 5) (fun w e => by cases e) (by simp) (iv_int _ _) (.cons (iv_int _ _) .nil) rfl
  · exact no_call (x := .bl true) (fun w e => by cases e) (by simp) (iv_bl _ _) .nil rfl
  · exact no_form (by decide +kernel) (by simp) (by decide +kernel) (by decide +kernel)
  · exact no_form (by decide +kernel) (by simp) (by decide +kernel) (by decide +kernel)
  · exact no_form (by decide +kernel) (by simp) (by decide +kernel) (by decide +kernel)
  · exact no_form (by decide +kernel) (by simp) (by decide +kernel) (by decide +kernel)
  · exact no_form (by decide +kernel) (by simp) (by decide +kernel) (by decide +kernel)
  · exact no_form (by decide +kernel) (by simp) (by decide +kernel) (by decide +kernel)
  · exact no_form (by decide +kernel) (by simp) (by decide +kernel) (by decide +kernel)
  · exact no_form (by decide +kernel) (by simp) (by decide +kernel) (by decide +kernel)
  · exact no_form (by decide +kernel) (by simp) (by decide +kernel) (by decide +kernel)
  · exact no_form (by decide +kernel) (by simp) (by decide +kernel) (by decide +kernel)
  · exact no_form (by decide +kernel) (by simp) (by decide +kernel) (by decide +kernel)
  · exact no_form (by decide +kernel) (by simp) (by decide +kernel) (by decide +kernel)
  · exact no_run (by decide)
  · exact no_run (by decide)
  · exact no_form (by decide +kernel) (by simp) (by decide +kernel) (by decide +kernel)
  · exact no_done1 (x := .tup []) (by decide) (iv_nil _) ⟨rfl, fun v e => by cases (show Out.stop "kind" = .val v from e)⟩
  · exact no_done1 (x := .int 5) (by decide) (iv_int _ _) ⟨rfl, fun v e => by cases (show Out.stop "kind" = .val v from e)⟩
  · exact no_done2 (x := .int 1) (y := .int 2) (by decide) (iv_int _ _) (iv_int _ _) ⟨rfl, fun v e => by cases (show Out.stop "kind" = .val v from e)⟩
  · exact no_form (by decide +kernel) (by simp) (by decide +kernel) (by decide +kernel)
  · exact no_if
  · exact (ev_call (k := 3) (A := fun _ => False) (As := [IsV (.int 1)]) (fun w e => by cases e; decide +kernel) (by simp) ((ev_word (k := 0) fun _ v e => by rw [h] at e; cases e).up (by decide)) (.cons (iv_int _ _) .nil) fun v vs hv _ => hv.elim)
  · refine ev_call (k := 3) (A := IsV (.fn [.tup [.str "x"], .str "x", .tup sc, .non])) (As := []) (fun w e => by cases e) (by simp) iv_fn .nil fun v vs hv hvs => ?_
    rw [show v = _ from hv]
    exact co_count (by rw [hvs.len]; decide)
  · exact no_call (x := .tup []) (fun w e => by cases e) (by simp) (iv_nil _) (.cons (iv_int _ _) .nil) rfl
  · refine ev_call (k := 3) (A := IsV (.fn [.tup [], .int 1, .tup sc, .non])) (As := [IsV (.int 2)]) (fun w e => by cases e) (by simp) iv_fn (.cons (iv_int _ _) .nil) fun v vs hv hvs => ?_
    rw [show v = _ from hv]
    exact co_count (by rw [hvs.len]; exact fun z => nomatch z)
  · exact no_done2 (x := .fn [.tup [], .int 1, .tup sc, .non]) (y := .int 1) (by decide) iv_fn (iv_int _ _) ⟨rfl, fun v e => by cases (show Out.stop "kind" = .val v from e)⟩
  · exact no_done2 (x := .int 1000000000) (y := .int 2) (by decide) (iv_int _ _) (iv_int _ _) ⟨rfl, fun v e => by cases (show Out.stop "far" = .val v from e)⟩
  · exact no_done2 (x := .tup []) (y := .int 1) (by decide) (iv_nil _) (iv_int _ _) ⟨rfl, fun v e => by cases (show Out.stop "kind" = .val v from e)⟩
  · exact no_done2 (x := .int (-1000000000)) (y := .int 1) (by decide) (iv_int _ _) (iv_int _ _) ⟨rfl, fun v e => by cases (show Out.stop "far" = .val v from e)⟩
  · exact no_done2 (x := .bl true) (y := .int 1) (by decide) (iv_bl _ _) (iv_int _ _) ⟨rfl, fun v e => by cases (show Out.stop "kind" = .val v from e)⟩
  · exact no_form (by decide +kernel) (by simp) (by decide +kernel) (by decide +kernel)
end
end Fl
/-! the programs of k12: rows and kinds -/
namespace Fl
open PySem PySem.Spec PyProof.Rows L2
/-- a plain worth of so many parts, so deep -/
structure Pw (N D : Nat) (t : Th) : Prop where
  wo : t.worth false = true
  nd : t.nodes ≤ N
  dp : t.depth ≤ D
theorem Pw.mono {N D N' D' : Nat} {t : Th} (h : Pw N D t) (h1 : N ≤ N') (h2 : D ≤ D') : Pw N' D' t := ⟨h.wo, by have := h.nd; omega, by have := h.dp; omega⟩
def n5 : Nat → Nat
  | 0 => 1
  | d + 1 => 5 * n5 d + 1
def leaves (m : Int) : List Th := [.int 0, .int 1, .bl true, .bl false, .str "x", .str "add", .str "one", .int m, .int (-1)]
theorem leaf_pw {m : Int} (h0 : 0 ≤ m) (h1 : m ≤ 1000000000) : ∀ t ∈ leaves m, Pw 1 0 t := by
  intro t ht
  unfold leaves at ht
  simp only [List.mem_cons, List.not_mem_nil, or_false] at ht
  rcases ht with rfl | rfl | rfl | rfl | rfl | rfl | rfl | rfl | rfl
  · exact ⟨by decide +kernel, Nat.le_refl _, Nat.le_refl _⟩
  · exact ⟨by decide +kernel, Nat.le_refl _, Nat.le_refl _⟩
  · exact ⟨rfl, Nat.le_refl _, Nat.le_refl _⟩
  · exact ⟨rfl, Nat.le_refl _, Nat.le_refl _⟩
  · exact ⟨by decide +kernel, Nat.le_refl _, Nat.le_refl _⟩
  · exact ⟨by decide +kernel, Nat.le_refl _, Nat.le_refl _⟩
  · exact ⟨by decide +kernel, Nat.le_refl _, Nat.le_refl _⟩
  · exact ⟨numB_of (by omega) h1, Nat.le_refl _, Nat.le_refl _⟩
  · exact ⟨by decide +kernel, Nat.le_refl _, Nat.le_refl _⟩
theorem rows_pw {N D : Nat} : ∀ {ts : List Th}, (∀ t ∈ ts, Pw N D t) → Th.worths false ts = true ∧ Th.nodesL ts ≤ ts.length * N ∧ Th.depthL ts ≤ D
  | [], _ => ⟨rfl, by rw [Th.nodesL]; exact Nat.zero_le _, by rw [Th.depthL]; exact Nat.zero_le _⟩
  | t :: ts, h => by
    obtain ⟨a, b, c⟩ := rows_pw fun u hu => h u (.tail _ hu)
    have z := h t (.head _)
    have z1 := z.nd
    have z2 := z.dp
    refine ⟨by rw [Th.worths, z.wo, a]; rfl, ?_, ?_⟩
    · rw [Th.nodesL, List.length_cons, Nat.succ_mul]
      omega
    · rw [Th.depthL]
      omega
theorem row_pw {N D : Nat} {ts : List Th} (hl : ts.length ≤ 5) (h : ∀ t ∈ ts, Pw N D t) : Pw (5 * N + 1) (D + 1) (.tup ts) := by
  obtain ⟨a, b, c⟩ := rows_pw h
  have : ts.length * N ≤ 5 * N := Nat.mul_le_mul_right _ hl
  refine ⟨by rw [Th.worth]; exact a, ?_, ?_⟩
  · rw [Th.nodes]
    omega
  · rw [Th.depth]
    omega
/-- a part that comes to a plain worth, or to a function -/
def parts12 (t : Th) : List Th := [.tup [.str "fn", .tup [], .int 1], .tup [.str "join", .tup [.str "quote", t], .tup [.str "quote", .tup [t]]], .tup [.str "join", .tup [.str "rec", .str "x", .tup [], .str "x"], .tup []], .tup [.str "quote", t]]
structure Pg12 (k M N D : Nat) (t : Th) : Prop where
  wo : t.worth false = true
  nd : t.nodes ≤ M
  re : Ev' k [] t (Bd N D)
theorem Pg12.mono {k M N D k' M' N' D' : Nat} {t : Th} (h : Pg12 k M N D t) (h1 : k ≤ k') (h2 : M ≤ M') (h3 : N ≤ N') (h4 : D ≤ D') : Pg12 k' M' N' D' t := ⟨h.wo, by have := h.nd; omega, h.re.mono h1 fun v z => z.mono h3 h4⟩
theorem ev_join2 {k : Nat} {sc : List Th} {a b : Th} {N D N' D' : Nat} (ha : Ev' k sc a (Bd N D)) (hb : Ev' k sc b (Bd N' D')) (hN : N' ≤ 100000) : Ev' (k + 1) sc (.tup [.str "join", a, b]) (Bd (N + N') (max (D + 1) D')) := by
  refine ev_done (w := "join") (by decide) (by simp) (.cons ha (.cons hb .nil)) fun l al _ => ?_
  cases al with
  | @cons x _ _ _ a1 al =>
    cases al with
    | @cons y _ _ _ a2 al =>
      cases al
      obtain ⟨x1, x2⟩ := a1
      obtain ⟨y1, y2⟩ := a2
      refine ⟨?_, fun v z => ?_⟩
      · show (true && (!true || Nat.ble y.row.length 100000)) = true
        have := row_le (v := y)
        rw [Nat.ble_eq_true_of_le (show y.row.length ≤ 100000 by omega)]
        rfl
      · have z' : joinT x y = .val v := z
        unfold joinT at z'
        split at z'
        · cases z'
          rw [Th.nodes] at y1
          rw [Th.depth] at y2
          refine ⟨?_, ?_⟩
          · rw [Th.nodes, Th.nodesL]
            omega
          · rw [Th.depth, Th.depthL]
            omega
        · cases z'
theorem ev_same2 {k : Nat} {sc : List Th} {a b : Th} {N D N' D' : Nat} (ha : Ev' k sc a (Bd N D)) (hb : Ev' k sc b (Bd N' D')) (h1 : N ≤ 30000) (h2 : D ≤ 40) (h3 : N' ≤ 30000) (h4 : D' ≤ 40) : Ev' (k + 1) sc (.tup [.str "same", a, b]) (Bd 1 0) := by
  refine ev_done (w := "same") (by decide) (by simp) (.cons ha (.cons hb .nil)) fun l al _ => ?_
  cases al with
  | @cons x _ _ _ a1 al =>
    cases al with
    | @cons y _ _ _ a2 al =>
      cases al
      refine ⟨?_, fun v z => ?_⟩
      · show ((!true || (true && (small x && small y))) && true) = true
        rw [small_of a1 h1 h2, small_of a2 h3 h4]
        rfl
      · have z' : (if x.worth false && y.worth false then Out.val (.bl (x.same y)) else .stop "kind") = .val v := z
        split at z'
        · cases z'
          exact ⟨Nat.le_refl _, Nat.le_refl _⟩
        · cases z'
def ones12 : List Str := ["first", "rest", "kind", "row"]
theorem ev_one12 {k : Nat} {sc : List Th} {a : Th} {w : Str} {N D : Nat} (hw : w ∈ ones12) (ha : Ev' k sc a (Bd N D)) (h1 : 1 ≤ N) : Ev' (k + 1) sc (.tup [.str w, a]) (Bd N D) := by
  have part : ∀ (w : Str) {x v : Th}, Bd N D x → partT w x = .val v → Bd N D v := fun w {x v} b z => by
    unfold partT at z
    split at z
    · rename_i y r
      cases z
      obtain ⟨b1, b2⟩ := b
      rw [Th.nodes, Th.nodesL] at b1
      rw [Th.depth, Th.depthL] at b2
      split
      · exact ⟨by omega, by omega⟩
      · refine ⟨?_, ?_⟩
        · rw [Th.nodes]
          have := Th.nodes_pos y
          omega
        · rw [Th.depth]
          omega
    · cases z
  unfold ones12 at hw
  simp only [List.mem_cons, List.not_mem_nil, or_false] at hw
  rcases hw with rfl | rfl | rfl | rfl
  · refine ev_done (w := "first") (by decide) (by simp) (.cons ha .nil) fun l al _ => ?_
    cases al with
    | cons a1 al =>
      cases al
      exact ⟨rfl, fun v z => part "first" a1 z⟩
  · refine ev_done (w := "rest") (by decide) (by simp) (.cons ha .nil) fun l al _ => ?_
    cases al with
    | cons a1 al =>
      cases al
      exact ⟨rfl, fun v z => part "rest" a1 z⟩
  · refine ev_done (w := "kind") (by decide) (by simp) (.cons ha .nil) fun l al _ => ?_
    cases al with
    | @cons x _ _ _ a1 al =>
      cases al
      exact ⟨rfl, fun v z => by cases (show Out.val (.str x.kind) = .val v from z); exact ⟨by show 1 ≤ _; omega, Nat.zero_le _⟩⟩
  · refine ev_done (w := "row") (by decide) (by simp) (.cons ha .nil) fun l al _ => ?_
    cases al with
    | @cons x _ _ _ a1 al =>
      cases al
      exact ⟨rfl, fun v z => by cases (show Out.val (.bl (isNilT x)) = .val v from z); exact ⟨by show 1 ≤ _; omega, Nat.zero_le _⟩⟩
theorem part_pg {N D : Nat} {t : Th} (h : Pw N D t) (hN : N ≤ 1000) (h1 : 1 ≤ N) (h2 : 1 ≤ D) : ∀ p ∈ parts12 t, Pg12 3 (2 * N + 8) (2 * N + 1) (D + 1) p := by
  intro p hp
  have wt := h.wo
  have nt := h.nd
  have dt := h.dp
  have c : wordB "fn" = true ∧ wordB "join" = true ∧ wordB "quote" = true ∧ wordB "rec" = true ∧ wordB "x" = true ∧ numB 1 = true := by decide +kernel
  obtain ⟨c1, c2, c3, c4, c5, c6⟩ := c
  have quo : ∀ {u : Th} {A B : Nat}, u.nodes ≤ A → u.depth ≤ B → Ev' 1 [] (.tup [.str "quote", u]) (Bd A B) := fun a b => ev_quote (k := 0) ⟨a, b⟩
  unfold parts12 at hp
  simp only [List.mem_cons, List.not_mem_nil, or_false] at hp
  rcases hp with rfl | rfl | rfl | rfl
  · refine ⟨by simp only [Th.worth, Th.worths, c1, c6]; rfl, by simp only [Th.nodes, Th.nodesL]; omega, (ev_fn (k := 0) (by decide) fun _ => ?_).up (by decide)⟩
    exact ⟨by show 1 ≤ _; omega, Nat.zero_le _⟩
  · refine ⟨by simp only [Th.worth, Th.worths, c2, c3, wt]; rfl, by simp only [Th.nodes, Th.nodesL]; omega, ?_⟩
    refine (ev_join2 (k := 1) (quo nt dt) (quo (A := N + 1) (B := D + 1) ?_ ?_) (by omega)).mono (by decide) fun v z => z.mono (by omega) (by omega)
    · simp only [Th.nodes, Th.nodesL]
      omega
    · simp only [Th.depth, Th.depthL]
      omega
  · refine ⟨by simp only [Th.worth, Th.worths, c2, c4, c5]; rfl, by simp only [Th.nodes, Th.nodesL]; omega, ?_⟩
    refine (ev_join2 (k := 1) (N := 1) (D := 0) (N' := 1) (D' := 1) (ev_rec (k := 0) (by decide) fun _ _ => ⟨Nat.le_refl _, Nat.le_refl _⟩) (ev_nil (k := 0) ⟨Nat.le_refl _, Nat.le_refl _⟩) (by decide)).mono (by decide) fun v z => z.mono (by omega) (by omega)
  · exact ⟨by simp only [Th.worth, Th.worths, c3, wt]; rfl, by simp only [Th.nodes, Th.nodesL]; omega, ((quo nt dt).mono (by decide) fun v z => z.mono (by omega) (by omega))⟩
/-- a form by two parts, or by the first one -/
inductive F12 (a b : Th) : Th → Prop
  | two {w : Str} : w ∈ (["same", "join"] : List Str) → F12 a b (.tup [.str w, a, b])
  | one {w : Str} : w ∈ ones12 → F12 a b (.tup [.str w, a])
theorem form_pg {k M N D M' N' D' : Nat} {a b t : Th} (h : F12 a b t) (ha : Pg12 k M N D a) (hb : Pg12 k M' N' D' b) (h1 : 1 ≤ N) (hN : N ≤ 30000) (hD : D ≤ 40) (hN' : N' ≤ 30000) (hD' : D' ≤ 40) : Pg12 (k + 1) (M + M' + 2) (N + N') (max (D + 1) D') t := by
  have na := ha.nd
  have nb := hb.nd
  have ws : ∀ w ∈ (["same", "join"] : List Str) ++ ones12, wordB w = true := by decide +kernel
  cases h with
  | @two w hw =>
    have ww := ws w (List.mem_append_left _ hw)
    refine ⟨by simp only [Th.worth, Th.worths, ww, ha.wo, hb.wo]; rfl, by simp only [Th.nodes, Th.nodesL]; omega, ?_⟩
    simp only [List.mem_cons, List.not_mem_nil, or_false] at hw
    rcases hw with rfl | rfl
    · exact (ev_same2 ha.re hb.re hN hD hN' hD').mono (Nat.le_refl _) fun v z => z.mono (by omega) (by omega)
    · exact ev_join2 ha.re hb.re (by omega)
  | @one w hw =>
    have ww := ws w (List.mem_append_right _ hw)
    exact ⟨by simp only [Th.worth, Th.worths, ww, ha.wo]; rfl, by simp only [Th.nodes, Th.nodesL]; omega, (ev_one12 hw ha.re h1).mono (Nat.le_refl _) fun v z => z.mono (by omega) (by omega)⟩
/-! just what is told -/
theorem ev_d1 {f : Nat} {w : Str} {a v : Th} {sc : List Th} {lim n m : Int} (hw : w ∈ doneWs) (fc : isFormed w [a] = true) (hn : n ≠ lim) (ha : ev f a sc lim (n + 1) = some (.val v m)) (hg : doneG w [v] = true) : ev (f + 1) (.tup [.str w, a]) sc lim n = some ((doneBy w [v]).at m) := by
  rw [ev_succ, if_neg hn]
  show evRow f (.str w) [a] sc lim (n + 1) = _
  unfold evRow
  rw [show scG [a] = true from rfl, if_neg (by decide)]
  show (if isForm w then evForm f w [a] sc lim (n + 1) else evCalls f [.str w, a] sc lim (n + 1)) = _
  rw [done_isForm hw, if_pos rfl, evForm, done_names hw, if_neg (by decide), fc, if_neg (by decide), good_done hw, evs, ha]
  simp only
  rw [evs]
  show (if doneG w [v] then some ((doneBy w [v]).at m) else none) = _
  rw [hg, if_pos rfl]
theorem ev_d2 {f : Nat} {w : Str} {a b v u : Th} {sc : List Th} {lim n m l : Int} (hw : w ∈ doneWs) (fc : isFormed w [a, b] = true) (hn : n ≠ lim) (ha : ev f a sc lim (n + 1) = some (.val v m)) (hb : ev f b sc lim m = some (.val u l)) (hg : doneG w [v, u] = true) : ev (f + 1) (.tup [.str w, a, b]) sc lim n = some ((doneBy w [v, u]).at l) := by
  rw [ev_succ, if_neg hn]
  show evRow f (.str w) [a, b] sc lim (n + 1) = _
  unfold evRow
  rw [show scG [a, b] = true from rfl, if_neg (by decide)]
  show (if isForm w then evForm f w [a, b] sc lim (n + 1) else evCalls f [.str w, a, b] sc lim (n + 1)) = _
  rw [done_isForm hw, if_pos rfl, evForm, done_names hw, if_neg (by decide), fc, if_neg (by decide), good_done hw, evs, ha]
  simp only
  rw [evs, hb]
  simp only
  rw [evs]
  show (if doneG w [v, u] then some ((doneBy w [v, u]).at l) else none) = _
  rw [hg, if_pos rfl]
theorem quote_formed {t : Th} : isFormed "quote" [t] = true := by
  have a : (("quote" : Str) == "let" || ("quote" : Str) == "rec") = false := by decide +kernel
  have b : (("quote" : Str) == "fn" || ("quote" : Str) == "rec") = false := by decide +kernel
  have c : decide (formCount "quote" = some 1) = true := by decide +kernel
  unfold isFormed
  rw [a, b]
  show (decide (formCount "quote" = some 1) && (true && true)) = true
  rw [c]
  rfl
theorem ev_q {f : Nat} {t : Th} {sc : List Th} {lim n : Int} (hn : n ≠ lim) : ev (f + 1) (.tup [.str "quote", t]) sc lim n = some (.val t (n + 1)) := by
  rw [ev_succ, if_neg hn]
  show evRow f (.str "quote") [t] sc lim (n + 1) = _
  unfold evRow
  rw [show scG [t] = true from rfl, if_neg (by decide)]
  show evForm f "quote" [t] sc lim (n + 1) = _
  rw [evForm, show namesG "quote" [t] = true from rfl, if_neg (by decide), quote_formed, if_neg (by decide), good_quote]
  rfl
theorem ev_i {f : Nat} {i : Int} {sc : List Th} {lim n : Int} (hn : n ≠ lim) : ev (f + 1) (.int i) sc lim n = some (.val (.int i) (n + 1)) := by
  rw [ev_succ, if_neg hn]
  rfl
theorem ev_b {f : Nat} {i : Bool} {sc : List Th} {lim n : Int} (hn : n ≠ lim) : ev (f + 1) (.bl i) sc lim n = some (.val (.bl i) (n + 1)) := by
  rw [ev_succ, if_neg hn]
  rfl
theorem ev_n {f : Nat} {sc : List Th} {lim n : Int} (hn : n ≠ lim) : ev (f + 1) (.tup []) sc lim n = some (.val (.tup []) (n + 1)) := by
  rw [ev_succ, if_neg hn]
  rfl
theorem ev_f {f : Nat} {lim n : Int} (hn : n ≠ lim) : ev (f + 1) (.tup [.str "fn", .tup [], .int 1]) [] lim n = some (.val (.fn [.tup [], .int 1, .tup [], .non]) (n + 1)) := by
  rw [ev_succ, if_neg hn]
  show evRow f (.str "fn") [.tup [], .int 1] [] lim (n + 1) = _
  unfold evRow
  rw [show scG [.tup [], .int 1] = true from rfl, if_neg (by decide)]
  show evForm f "fn" [.tup [], .int 1] [] lim (n + 1) = _
  rw [evForm, show namesG "fn" [.tup [], .int 1] = true by decide +kernel, if_neg (by decide), show isFormed "fn" [.tup [], .int 1] = true by decide +kernel, if_neg (by decide), good_fn]
  rfl
def ov (v : Th) (n : Int) : Th := .tup [.str "over", v, .int n]
theorem kind_told {t : Th} (h : t = .int 1 ∨ t = .bl true ∨ t = .int 0 ∨ t = .bl false) : Res.told 0 (ev 2 (.tup [.str "kind", t]) [] 9 0) = some (.val (ov (.str t.kind) 2) 2) := by
  rcases h with rfl | rfl | rfl | rfl
  · rw [ev_d1 (f := 1) (w := "kind") (by decide) (by decide +kernel) (by decide) (ev_i (f := 0) (by decide)) rfl]
    rfl
  · rw [ev_d1 (f := 1) (w := "kind") (by decide) (by decide +kernel) (by decide) (ev_b (f := 0) (by decide)) rfl]
    rfl
  · rw [ev_d1 (f := 1) (w := "kind") (by decide) (by decide +kernel) (by decide) (ev_i (f := 0) (by decide)) rfl]
    rfl
  · rw [ev_d1 (f := 1) (w := "kind") (by decide) (by decide +kernel) (by decide) (ev_b (f := 0) (by decide)) rfl]
    rfl
def prs12 : List Th := [.tup [.str "same", .int 1, .bl true], .tup [.str "same", .tup [], .tup []], .tup [.str "same", .tup [.str "quote", .tup [.int 0]], .tup [.str "quote", .tup [.bl false]]], .tup [.str "row", .bl false],
  .tup [.str "first", .tup [.str "quote", .tup [.int 1, .int 2]]], .tup [.str "rest", .tup [.str "quote", .tup [.int 1]]], .tup [.str "kind", .tup [.str "fn", .tup [], .int 1]], .tup [.str "first", .tup []]]
def due12 : List Th := [ov (.bl false) 3, ov (.bl true) 3, ov (.bl false) 3, ov (.bl false) 2, ov (.int 1) 2, ov (.tup []) 2, ov (.str "function") 2, .tup [.str "kind", .tup [], .int 2]]
theorem tells12 : ∀ i : Nat, i < 8 → ∃ p tt n, prs12[i]? = some p ∧ due12[i]? = some tt ∧ p.worth false = true ∧ p.nodes ≤ 20 ∧ Res.told 0 (ev 2 p [] 100 0) = some (.val tt n) ∧ tt.nodes ≤ 20 ∧ tt.told = tt
  | 0, _ => ⟨_, _, _, rfl, rfl, by decide +kernel, by decide, by
      rw [ev_d2 (f := 1) (w := "same") (by decide) (by decide +kernel) (by decide) (ev_i (f := 0) (by decide)) (ev_b (f := 0) (by decide)) (by decide +kernel)]
      rfl, by decide, rfl⟩
  | 1, _ => ⟨_, _, _, rfl, rfl, by decide +kernel, by decide, by
      rw [ev_d2 (f := 1) (w := "same") (by decide) (by decide +kernel) (by decide) (ev_n (f := 0) (by decide)) (ev_n (f := 0) (by decide)) (by decide +kernel)]
      rfl, by decide, rfl⟩
  | 2, _ => ⟨_, _, _, rfl, rfl, by decide +kernel, by decide, by
      rw [ev_d2 (f := 1) (w := "same") (by decide) (by decide +kernel) (by decide) (ev_q (f := 0) (by decide)) (ev_q (f := 0) (by decide)) (by decide +kernel)]
      rfl, by decide, rfl⟩
  | 3, _ => ⟨_, _, _, rfl, rfl, by decide +kernel, by decide, by
      rw [ev_d1 (f := 1) (w := "row") (by decide) (by decide +kernel) (by decide) (ev_b (f := 0) (by decide)) rfl]
      rfl, by decide, rfl⟩
  | 4, _ => ⟨_, _, _, rfl, rfl, by decide +kernel, by decide, by
      rw [ev_d1 (f := 1) (w := "first") (by decide) (by decide +kernel) (by decide) (ev_q (f := 0) (by decide)) rfl]
      rfl, by decide, rfl⟩
  | 5, _ => ⟨_, _, _, rfl, rfl, by decide +kernel, by decide, by
      rw [ev_d1 (f := 1) (w := "rest") (by decide) (by decide +kernel) (by decide) (ev_q (f := 0) (by decide)) rfl]
      rfl, by decide, rfl⟩
  | 6, _ => ⟨_, _, _, rfl, rfl, by decide +kernel, by decide, by
      rw [ev_d1 (f := 1) (w := "kind") (by decide) (by decide +kernel) (by decide) (ev_f (f := 0) (by decide)) rfl]
      rfl, by decide, rfl⟩
  | 7, _ => ⟨_, _, _, rfl, rfl, by decide +kernel, by decide, by
      rw [ev_d1 (f := 1) (w := "first") (by decide) (by decide +kernel) (by decide) (ev_n (f := 0) (by decide)) rfl]
      rfl, by decide, rfl⟩
  | i + 8, h => by omega
end Fl
namespace Fl
open PySem PySem.Spec PyProof.Rows L2
abbrev s_law_plain : Stmt := top 52
theorem sc_law_plain : FnScope ["_law_draw", "_law_deep", "_law_way", "_law_more", "_law_k"] ["_law_draw", "_law_deep"] (defScope s_law_plain) := ⟨rfl, rfl, rfl, by decide +kernel, rfl, by decide +kernel, by decide +kernel⟩
abbrev s_law_near : Stmt := top 53
theorem sc_law_near : FnScope ["_law_draw", "_law_worth", "_law_at", "_law_some", "_law_is_figure"] ["_law_draw", "_law_worth"] (defScope s_law_near) := ⟨rfl, rfl, rfl, by decide +kernel, rfl, by decide +kernel, by decide +kernel⟩
abbrev s_law_part : Stmt := top 54
theorem sc_law_part : FnScope ["_law_draw", "_law_worth", "_law_way"] ["_law_draw", "_law_worth"] (defScope s_law_part) := ⟨rfl, rfl, rfl, by decide +kernel, rfl, by decide +kernel, by decide +kernel⟩
abbrev s_law_form_of : Stmt := top 55
theorem sc_law_form_of : FnScope ["_law_draw", "_law_one", "_law_other", "_law_word"] ["_law_draw", "_law_one", "_law_other"] (defScope s_law_form_of) := ⟨rfl, rfl, rfl, by decide +kernel, rfl, by decide +kernel, by decide +kernel⟩
abbrev s_law : Stmt := top 56
theorem sc_law : FnScope ["_law_script", "_law_cell", "_law_draw", "_law_turn", "_law_worth", "_law_other", "_law_program", "_law_some", "_law_due", "_law_found", "_law_one"] ["_law_script"] (defScope s_law) := ⟨rfl, rfl, rfl, by decide +kernel, rfl, by decide +kernel, by decide +kernel⟩
theorem hv2 {n : Nat} (h : n + 64 < cLine) : n + 2 < cLine := by omega
theorem hv1 {n : Nat} (h : n + 64 < cLine) : n + 1 < cLine := by omega
theorem n5_pos : ∀ d, 1 ≤ n5 d
  | 0 => Nat.le_refl _
  | d + 1 => by rw [n5]; omega
theorem rd_cut {K : PySem.W.Frag} {H : Hp} {a : Addr} {xs : List V} {lo hi : Option Int} {Q : VK} (ha : H a = some (.tup xs)) (q : ∀ p H', Same H H' → H' p = some (.tup (cutV xs lo hi)) → Q (.ref p) H') : rSlA K (.ref a) lo hi H Q := by
  refine ⟨a, xs, rfl, SqT.of ha, fun h => q a H (.refl _) ?_, fun _ p np => q p _ (same_new np _) upd_same⟩
  unfold cutV
  rw [h.1, h.2, List.drop_zero, Nat.sub_zero, List.take_length]
  exact ha
theorem iss_take {C : Addr} {H : Hp} : ∀ (k : Nat) {xs : List V} {ts : List Th}, Iss C H xs ts → Iss C H (xs.take k) (ts.take k)
  | 0, _, _, _ => by rw [List.take_zero, List.take_zero]; exact .nil
  | k + 1, _, _, .nil => by rw [List.take_nil, List.take_nil]; exact .nil
  | k + 1, _, _, .cons h r => .cons h (iss_take k r)
theorem iss_drop {C : Addr} {H : Hp} : ∀ (k : Nat) {xs : List V} {ts : List Th}, Iss C H xs ts → Iss C H (xs.drop k) (ts.drop k)
  | 0, _, _, h => h
  | k + 1, _, _, .nil => by rw [List.drop_nil, List.drop_nil]; exact .nil
  | k + 1, _, _, .cons h r => iss_drop k r
theorem cutL_take (k : Nat) (ns : List V) : cutV ns none (some (k : Int)) = ns.take k := by
  unfold cutV
  rw [sIx_none0, sIx_pos (by omega), List.drop_zero, Nat.sub_zero, show ((k : Int)).toNat = k from rfl]
  by_cases h16 : k ≤ ns.length
  · rw [Nat.min_eq_left h16]
  · rw [Nat.min_eq_right (by omega), List.take_of_length_le (Nat.le_refl _), List.take_of_length_le (by omega)]
theorem cutL_drop (k : Nat) (ns : List V) : cutV ns (some (k : Int)) none = ns.drop k := by
  unfold cutV
  rw [sIx_none0, sIx_pos (by omega), show ((k : Int)).toNat = k from rfl]
  by_cases hi : k ≤ ns.length
  · rw [Nat.min_eq_left hi, List.take_of_length_le (by rw [List.length_drop]; exact Nat.le_refl _)]
  · rw [Nat.min_eq_right (by omega), List.drop_length, List.drop_eq_nil_of_le (by omega)]
    simp
theorem strs_is {C : Addr} {H : Hp} : ∀ {xs : List V} {l : List Str}, Iss C H xs (l.map Th.str) → xs = l.map V.str
  | [], [], _ => rfl
  | x :: xs, y :: l, .cons h r => by
    cases h
    rw [strs_is r]
    rfl
theorem pickS {C : Addr} {H : Hp} {xs : List V} {l : List Str} (h : Iss C H xs (l.map Th.str)) (n : Int) (hl : (l.length : Int) = n) (hn : 0 < n) (r : Int) : ∃ x, atI xs (r % n) = some (.str x) ∧ x ∈ l := by
  rw [strs_is h]
  obtain ⟨x, e, m⟩ := atI_mod (xs := l.map V.str) (i := r) (n := n) (by rw [List.length_map]; exact hl) hn
  obtain ⟨y, my, rfl⟩ := List.mem_map.mp m
  exact ⟨y, e, my⟩
theorem is_two {C : Addr} {H : Hp} {v : V} {x y : Str} (h : Is C H v (.tup [.str x, .str y])) : ∃ p, H p = some (.tup [.str x, .str y]) ∧ v = .ref p := by
  cases h with
  | tup e r =>
    cases r with
    | cons a r =>
      cases a
      cases r with
      | cons a r =>
        cases a
        cases r
        exact ⟨_, e, rfl⟩
theorem ws_mem12 : ∀ {l : List Th} {t : Th}, (Th.tup l).worth false = true → t ∈ l → t.worth false = true
  | a :: l, t, h, m => by
    rw [Th.worth, Th.worths, Bool.and_eq_true] at h
    cases m with
    | head => exact h.1
    | tail _ m => exact ws_mem12 (l := l) (by rw [Th.worth]; exact h.2) m
theorem put_pw {N D : Nat} {l : List Th} {a : Nat} {x t : Th} (hx : l[a]? = some x) (hw : (Th.tup l).worth false = true) (hn : (Th.tup l).nodes ≤ N) (hd : (Th.tup l).depth ≤ D) (h : Pw x.nodes (x.depth + 1) t) : Pw N (D + 1) (.tup (l.take a ++ [t] ++ l.drop (a + 1))) := by
  have el : l = l.take a ++ [x] ++ l.drop (a + 1) := by
    have lt : a < l.length := (List.getElem?_eq_some_iff.mp hx).1
    have : l[a] = x := (List.getElem?_eq_some_iff.mp hx).2
    rw [← this, List.append_assoc, List.singleton_append, List.getElem_cons_drop, List.take_append_drop]
  generalize l.take a = l1 at el ⊢
  generalize l.drop (a + 1) = l2 at el ⊢
  subst el
  rw [Th.worth, worths_app, worths_app, Th.worths, Th.worths] at hw
  simp only [Bool.and_eq_true] at hw
  rw [Th.nodes, nodesL_app, nodesL_app, Th.nodesL, Th.nodesL] at hn
  rw [Th.depth, depthL_app, depthL_app, Th.depthL, Th.depthL] at hd
  have p1 := h.nd
  have p2 := h.dp
  refine ⟨?_, ?_, ?_⟩
  · rw [Th.worth, worths_app, worths_app, Th.worths, Th.worths, hw.1.1, hw.2, h.wo]
    rfl
  · rw [Th.nodes, nodesL_app, nodesL_app, Th.nodesL, Th.nodesL]
    omega
  · rw [Th.depth, depthL_app, depthL_app, Th.depthL, Th.depthL]
    omega
section
variable {P : Program} {w : World} {K : PySem.W.Frag} {mg : Str → Option Value} {base : Heap}
def spPlain12 (K : PySem.W.Frag) (m : Nat) : Sp := sp2 fun v n H Q _ => ∃ (d : Addr) (k : Nat), v = .ref d ∧ n = .int k ∧ k < m ∧ Dw d H ∧ ∀ u t H', Dw d H' → Fd d H H' → Is (CF K) H' u t → Pw (n5 k) k t → Q u H'
theorem ok_law_plain {m L : Nat} (hL : 2 ≤ L) (F : FnP K mg "_law_plain" s_law_plain) (T : Te mg) (B_law_next : Cl P w K mg base 2 "_law_next" ["_law_state_here"] spNextD) (B_law_plain : Cl P w K mg base L "_law_plain" ["_law_draw", "_law_deep"] (spPlain12 K m)) : Cl P w K mg base (L + 1) "_law_plain" ["_law_draw", "_law_deep"] (spPlain12 K (m + 1)) := by
  refine cl_2 F sc_law_plain (fun _ _ _ _ _ _ us hl => match us, hl with | [_, _], _ => rfl) fun cdv A outer s H v b Q E hr h => ?_
  obtain ⟨d, kd, rfl, rfl, hkm, hd, q⟩ := h
  refine ⟨_, PSs.nox (pss_cons (ps_par (i := 2) (j := 3) rfl sc_law_plain.nd rfl rfl (by decide) rfl rfl (pa_cons (pe_op op_mod (pe_b B_law_next hr (by omega) rfl passL (pa_cons (pv 0) pa_nil)) pe_int) (pa_cons (pe_b B_law_next hr (by omega) rfl passL (pa_cons (pv 0) pa_nil)) pa_nil)) (by rfl)) (pss_cons (ps_if (PW.pt (pw_and (pt_cmpR op_lt (pv 2) pe_int (nomark _)) (pw_and1 (pt_cmpR op_gt (pv 1) pe_int (nomark _))))) (pss_one (ps_ret (pe_tupleOf rfl T.z_tuple (pe_lc (own := [("_law_k", 4)]) (g := gName 4) (tt := tYes) rfl sc_law_plain.nd (pi_range1 rfl T.z_range (pa_cons (pe_op op_mod (pv 3) pe_int) pa_nil)) (blkOk_by (own := [("_law_k", 4)]) (N := ["_law_draw", "_law_deep", "_law_way", "_law_more", "_law_k"]) (sc := defScope s_law_plain) (by decide +kernel)) (fun _ _ _ _ _ => (pg_name (i := 4) sc_law_plain.nd rfl (Or.inl rfl))) (fun _ _ _ _ _ => pts_nil) (fun _ _ _ _ _ => (pe_b B_law_plain hr (Nat.le_refl _) rfl passL (pa_cons (pv 0) (pa_cons (pe_op op_sub (pv 1) pe_int) pa_nil)))))))) pss_nil) (pss_one (ps_ret (pe_ix ix_list (pe_lits (C := CF K) [(.int 0), (.int 1), (.bl true), (.bl false), (.str "x"), (.str "add"), (.str "one"), (.var 3), (.cl (-1) _ (cl_neg 1))] (pe_lst (pa_cons pe_int (pa_cons pe_int (pa_cons pe_bl (pa_cons pe_bl (pa_cons pe_str (pa_cons pe_str (pa_cons pe_str (pa_cons (pv 3) (pa_cons pe_negL pa_nil))))))))))) (pe_op op_mod (pv 3) pe_int) (fun _ _ => rfl)))))), ?_⟩
  refine ⟨_, rfl, _, rfl, d, rfl, hd, fun r1 H1 h1 f1 a1 b1 => ⟨_, _, rfl, rfl, (show (0 : Int) < 8 by decide), _, rfl, _, rfl, d, rfl, h1, fun r2 H2 h2 f2 a2 b2 => ⟨_, _, rfl, ?_⟩⟩⟩
  have f12 := f1.trans f2
  refine stepG ?_
  dsimp only
  refine seq_if (fun k => ∀ b, (b = true → ∃ m', kd = m' + 1) → k b H2) (fun b hb => ?_) (fun k hk => ⟨_, rfl, _, _, rfl, rfl, _, rfl, ite2 (fun _ => ⟨_, rfl, _, _, rfl, rfl, _, rfl, hk _ fun z => ⟨kd - 1, by have := of_decide_eq_true z; omega⟩⟩) (fun _ => hk _ fun z => by cases z)⟩)
  cases b with
  | true =>
    obtain ⟨m', rfl⟩ := hb rfl
    have m0 : 0 ≤ r2 % 6 := Int.emod_nonneg _ (by decide)
    have m1 : r2 % 6 < 6 := Int.emod_lt_of_pos _ (by decide)
    refine iteT ⟨_, rfl, _, _, rfl, rfl, (show (0 : Int) < 6 by decide), _, rfl, by omega, by omega, fun DL nL => ?_⟩
    have nDL : DL ≠ d := dw_ne h2 nL
    refine lc_it walk_range (fun i H' => ∃ ys ts, Dw d H' ∧ Fd d H2 H' ∧ H' DL = some (.lst ys) ∧ Iss (CF K) H' ys ts ∧ ts.length = i ∧ ∀ t ∈ ts, Pw (n5 m') m' t) ⟨[], [], h2.same (same_new nL _), fd_same (same_new nL _), upd_same, .nil, rfl, fun _ z => nomatch z⟩ (fun _ _ _ _ => trivial) ?_ ?_
    · rintro i y HX H4 hi ⟨ys, ts, h4, f4, e4, i4, l4, m4⟩ ⟨rfl, rfl⟩
      refine ⟨rfl, _, rfl, _, rfl, _, _, rfl, rfl, _, _, rfl, d, m', rfl, congrArg V.int (by omega), by omega, h4, fun u5 t5 H5 h5 f5 i5 p5 => ?_⟩
      have i4' := i4.ik (im_fd h4 h5 f5)
      have e5 := f5 _ _ nDL e4
      have ln := i4.len
      have im := im_lst (ys := ys ++ [u5]) e5
      refine ⟨ys, e5, by rw [ln, l4, sizeLine_eq]; omega, ys ++ [u5], ts ++ [t5], ?_, ?_, upd_same, (i4'.app (.one i5)).ik im, by rw [List.length_append, l4]; rfl, fun u hu => ?_⟩
      · obtain ⟨c, l, n, e⟩ := h5
        exact ⟨c, l, n, by rw [upd_ne nDL.symm]; exact e⟩
      · intro b o nb eb
        rw [upd_ne (ne_of_none eb nL)]
        exact (f4.trans f5) b o nb eb
      · rcases List.mem_append.mp hu with h | h
        · exact m4 u h
        · rw [List.mem_singleton.mp h]
          exact p5
    · rintro H4 ⟨ys, ts, h4, f4, e4, i4, l4, m4⟩
      refine .inl ⟨DL, ys, rfl, SqL.of e4, fun P1 nP => ?_⟩
      have sp := same_new nP (.tup ys)
      exact q _ (.tup ts) _ (h4.same sp) ((f12.trans f4).trans (fd_same sp)) (.tup upd_same (i4.same sp)) (row_pw (by omega) m4)
  | false =>
    refine iteF ?_
    refine ⟨[(3, .int r2)], _, .cons rfl (.int r2) .nil, rfl, rfl, fun D3 l3 H3 s3 n3 e3 i3 => ?_⟩
    obtain ⟨x, t, ex, mt, it⟩ := pick (ts := leaves r2) i3 9 rfl (by decide) r2
    have := n5_pos kd
    exact ⟨_, rfl, _, _, rfl, rfl, (show (0 : Int) < 9 by decide), D3, _, _, _, rfl, rfl, SqL.of e3, ex, q _ t H3 (h2.same s3) (f12.trans (fd_same s3)) it ((leaf_pw (by omega) (by omega) t mt).mono (by omega) (Nat.zero_le _))⟩
theorem is_nil2 {C : Addr} {H : Hp} {v : V} (h : Is C H v (.tup [])) : ∃ p, H p = some (.tup []) ∧ v = .ref p := by
  cases h with
  | tup e r =>
    cases r
    exact ⟨_, e, rfl⟩
theorem ne_dw {d a : Addr} {H : Hp} {xs : List V} (h : Dw d H) (e : H a = some (.tup xs)) : a ≠ d := fun z => by
  obtain ⟨c, l, m, ed⟩ := h
  rw [z, ed] at e
  cases e
def K3d : List (Key × V) := [(.inl 1, .bl true), (.inl 0, .bl false), (.inr "x", .str "y")]
theorem k3_int {C : Addr} {H : Hp} {i : Int} (h : numB i = true) : ∃ t, Is C H ((valV K3d (.inl i)).getD (.int i)) t ∧ Pw 1 1 t := by
  by_cases h1 : i = 1
  · subst h1
    exact ⟨.bl true, .bl true, rfl, Nat.le_refl _, Nat.zero_le _⟩
  · by_cases h0 : i = 0
    · subst h0
      exact ⟨.bl false, .bl false, rfl, Nat.le_refl _, Nat.zero_le _⟩
    · have : valV K3d (.inl i) = none := by
        simp [valV, K3d, Ne.symm h1, Ne.symm h0]
      rw [this]
      exact ⟨.int i, .int i, h, Nat.le_refl _, Nat.zero_le _⟩
theorem k3_str {C : Addr} {H : Hp} {x : Str} (h : wordB x = true) : ∃ t, Is C H ((valV K3d (.inr x)).getD (.str x)) t ∧ Pw 1 1 t := by
  by_cases h1 : x = "x"
  · subst h1
    exact ⟨.str "y", .str "y" (by decide), by decide +kernel, Nat.le_refl _, Nat.zero_le _⟩
  · have : valV K3d (.inr x) = none := by
      have h1' : ¬ (("x" : Str) = x) := fun z => h1 z.symm
      simp [valV, K3d, h1']
    rw [this]
    exact ⟨.str x, .str x (wlen h), h, Nat.le_refl _, Nat.zero_le _⟩
def spNear12 (K : PySem.W.Frag) (m : Nat) : Sp := sp2 fun v b H Q _ => ∃ d t, v = .ref d ∧ Dw d H ∧ Is (CF K) H b t ∧ t.worth false = true ∧ t.depth < m ∧ t.nodes ≤ 1000 ∧ ∀ u t' H', Dw d H' → Fd d H H' → Is (CF K) H' u t' → Pw t.nodes (t.depth + 1) t' → Q u H'
theorem ok_law_near {m L : Nat} (hL : 2 ≤ L) (F : FnP K mg "_law_near" s_law_near) (T : Te mg) (B_law_next : Cl P w K mg base 2 "_law_next" ["_law_state_here"] spNextD) (B_law_near : Cl P w K mg base L "_law_near" ["_law_draw", "_law_worth"] (spNear12 K m)) : Cl P w K mg base (L + 1) "_law_near" ["_law_draw", "_law_worth"] (spNear12 K (m + 1)) := by
  refine cl_2 F sc_law_near (fun _ _ _ _ _ _ us hl => match us, hl with | [_, _], _ => rfl) fun cdv A outer s H v b Q E hr h => ?_
  obtain ⟨d, t, rfl, hd, it, wt, dt, nt, q⟩ := h
  refine ⟨_, PSs.nox (pss_cons (ps_if (PW.pt (pw_and (pt_val (pe_callB call_isi rfl T.z_isinstance PyProof.Rows.boot_isinstance (pa_cons (pv 1) (pa_cons (pe_bltn (v := .ty "tuple") rfl T.z_tuple (by decide +kernel) rfl) pa_nil)))) (pw_and1 (pt_cmpR (op_neTN hr.units0) (pv 1) (pe_lit (C := CF K) (.tup []) (pe_tup pa_nil)) (nomark _))))) (pss_cons (ps_set (i := 2) sc_law_near.nd rfl (Or.inl rfl) (pe_op op_mod (pe_b B_law_next hr (by omega) rfl passL (pa_cons (pv 0) pa_nil)) (pe_callB call_len_seq rfl T.z_len PySem.boot_len (pa_cons (pv 1) pa_nil)))) (pss_one (ps_ret (pe_op op_catA (pe_op op_catA (pe_slice sl_tupA (pv 1) po_none (po_some (pv 2))) (pe_tup (pa_cons (pe_b B_law_near hr (Nat.le_refl _) rfl passL (pa_cons (pv 0) (pa_cons (pe_ix ix_tup (pv 1) (pv 2) (fun _ _ => rfl)) pa_nil))) pa_nil))) (pe_slice sl_tupA (pv 1) (po_some (pe_op op_add (pv 2) pe_int)) po_none))))) pss_nil) (pss_cons (ps_set (i := 3) sc_law_near.nd rfl (Or.inl rfl) (pe_disp (pps_cons pe_int pe_bl (pps_cons pe_int pe_bl (pps_cons pe_str pe_str pps_nil))) (by rfl) (by rfl) (fun z => by cases z) (by decide))) (pss_cons (ps_set (i := 4) sc_law_near.nd rfl (Or.inl rfl) (pe_and (pe_callB call_isi rfl T.z_isinstance PyProof.Rows.boot_isinstance (pa_cons (pv 1) (pa_cons (pe_bltn (v := .ty "int") rfl T.z_int (by decide +kernel) rfl) pa_nil))) (pe_one (pe_not (pe_callB call_isi rfl T.z_isinstance PyProof.Rows.boot_isinstance (pa_cons (pv 1) (pa_cons (pe_bltn (v := .ty "bool") rfl T.z_bool (by decide +kernel) rfl) pa_nil))))))) (pss_cons (ps_if (PW.pt (pw_or (pt_val (pv 4)) (pw_or1 (pt_val (pe_callB call_isi rfl T.z_isinstance PyProof.Rows.boot_isinstance (pa_cons (pv 1) (pa_cons (pe_bltn (v := .ty "str") rfl T.z_str (by decide +kernel) rfl) pa_nil))))))) (pss_one (ps_ret (pe_dget2 (hu_of hr) (pv 3) (pv 1) (pv 1) ⟨rfl, by rfl, rfl, rfl⟩))) pss_nil) (pss_one (ps_ret (pe_mixG (hv2 (hu64 hr)) (pe_mixD (hv1 (hu64 hr)) (pps_cons (pe_tup pa_nil) pe_int (pps_cons pe_bl pe_int (pps_cons pe_bl (pe_tup pa_nil) pps_nil))) (by rfl) (by rfl) (fun z => by cases z) (by decide)) (pv 1) (pv 1) ⟨rfl, by rfl, rfl, rfl⟩))))))), ?_⟩
  obtain ⟨u1, y1, k1⟩ := wk_tup (K := K) (M := none) trivial (.refl H) (it.wo wt)
  refine seq_if (fun k => (∀ Hx p xs t0 ts, Same H Hx → b = .ref p → t = .tup (t0 :: ts) → Hx p = some (.tup xs) → Iss (CF K) Hx xs (t0 :: ts) → k true Hx) ∧ ((t.isTup = true → t = .tup []) → ∀ Hx, Same H Hx → k false Hx)) ⟨fun Hx p xs t0 ts sx eb et ep ix => ?_, fun htn Hx sx => ?_⟩ (fun k hk => ?_)
  case refine_3 =>
    refine ⟨_, rfl, b, _, u1, _, _, rfl, .ty _, y1, k1, _, rfl, ?_⟩
    cases it with
    | tup e r =>
      rename_i p xs l
      refine iteT ⟨_, rfl, [], _, .nil, rfl, fun v2 H2 s2 i2 => ?_⟩
      obtain ⟨p2, e2, rfl⟩ := is_nil2 i2
      refine ⟨p, p2, xs, rfl, rfl, s2 _ _ e, e2, _, rfl, ?_⟩
      cases r with
      | nil => exact hk.2 (fun _ => rfl) _ s2
      | cons r1 r2 => exact (hk.1 _ p _ _ _ s2 rfl rfl (s2 _ _ e) ((Iss.cons r1 r2).same s2))
    | bl _ => exact iteF (hk.2 (fun z => by cases z) _ (.refl _))
    | int _ => exact iteF (hk.2 (fun z => by cases z) _ (.refl _))
    | str _ _ => exact iteF (hk.2 (fun z => by cases z) _ (.refl _))
    | non => cases wt
    | fn _ _ => rw [Th.worth] at wt; cases wt
    | lst _ => cases wt
    | dct _ => cases wt
  · subst eb et
    have hx := hd.same sx
    have lx := ix.len
    refine ⟨_, rfl, _, rfl, d, rfl, hx, fun r3 H3 h3 f3 a3 b3 => ⟨_, rfl, p, xs, rfl, .inr (SqT.of (f3 _ _ (ne_dw hx ep) ep)), _, _, rfl, rfl, (by rw [lx]; show (0 : Int) < ((ts.length + 1 : Nat) : Int); omega), ?_⟩⟩
    dsimp only
    have e3 := f3 _ _ (ne_dw hx ep) ep
    have i3 := ix.ik (im_fd hx h3 f3)
    have f03 := (fd_same (d := d) sx).trans f3
    obtain ⟨a, ea, la⟩ : ∃ a : Nat, r3 % ((xs.length : Nat) : Int) = (a : Int) ∧ a < xs.length := ⟨(r3 % ((xs.length : Nat) : Int)).toNat, by
      have := Int.emod_nonneg r3 (b := ((xs.length : Nat) : Int)) (by rw [lx]; show ((ts.length + 1 : Nat) : Int) ≠ 0; omega)
      omega, by
      have := Int.emod_nonneg r3 (b := ((xs.length : Nat) : Int)) (by rw [lx]; show ((ts.length + 1 : Nat) : Int) ≠ 0; omega)
      have := Int.emod_lt_of_pos r3 (b := ((xs.length : Nat) : Int)) (by rw [lx]; show 0 < ((ts.length + 1 : Nat) : Int); omega)
      omega⟩
    rw [ea]
    refine ⟨_, rfl, _, rfl, _, rfl, rd_cut e3 fun p4 H4 s4 e4 => ?_⟩
    rw [cutL_take] at e4
    have h4 := h3.same s4
    have i4 := i3.same s4
    have e34 := s4 _ _ e3
    obtain ⟨ta, eta, ita⟩ := i4.get (List.getElem?_eq_getElem la)
    have mem := List.mem_of_getElem? eta
    have wta := ws_mem12 wt mem
    have dta := depth_mem mem
    have nta := nodes_mem mem
    rw [Th.depth] at dt
    rw [Th.nodes] at nt
    refine ⟨_, rfl, _, rfl, _, rfl, p, xs, _, _, rfl, rfl, SqT.of e34, atI_nat (List.getElem?_eq_getElem la), _, _, rfl, d, ta, rfl, h4, ita, wta, by omega, by omega, fun u5 t5 H5 h5 f5 i5 p5 => ⟨s1, fun p6 np6 => ?_⟩⟩
    have t6 := same_new np6 (.tup [u5])
    have e45 := f5 _ _ (ne_dw h4 e4) e4
    have e35 := f5 _ _ (ne_dw h4 e34) e34
    have l1000 := len_nodesL (t0 :: ts)
    have lt : (xs.take a).length = a := by rw [List.length_take]; omega
    refine rd_cat (t6 _ _ e45) upd_same (by rw [lt, sizeLine_eq]; show a + 1 ≤ _; omega) fun p7 H7 s7 e7 => ?_
    have s67 := t6.trans s7
    refine ⟨_, rfl, _, rfl, _, _, rfl, rfl, _, rfl, ?_⟩
    dsimp only [tNoPart]
    rw [show (a : Int) + 1 = ((a + 1 : Nat) : Int) from rfl]
    refine rd_cut (s67 _ _ e35) fun p8 H8 s8 e8 => ?_
    rw [cutL_drop] at e8
    refine rd_cat (s8 _ _ e7) e8 (by rw [List.length_append, lt, List.length_drop, sizeLine_eq]; show a + 1 + _ ≤ _; omega) fun p9 H9 s9 e9 => ?_
    have sA := s67.trans (s8.trans s9)
    have im := im_fd h4 h5 f5
    have i9 : Is (CF K) H9 (.ref p9) (.tup ((t0 :: ts).take a ++ [t5] ++ (t0 :: ts).drop (a + 1))) := .tup e9 ((((i4.ik im).take a |>.app (.one i5)).app ((i4.ik im).drop (a + 1))).same sA)
    refine q _ _ H9 (h5.same sA) (((f03.trans (fd_same s4)).trans f5).trans (fd_same sA)) i9 (put_pw eta wt ?_ ?_ p5)
    · rw [Th.nodes]
      exact Nat.le_refl _
    · rw [Th.depth]
      exact Nat.le_refl _
  · have hx := hd.same sx
    have itx := it.same sx
    intro p np
    refine ⟨upd_same, K3d, rfl, (by show 3 ≤ 15; decide), ?_⟩
    have sd : Same Hx (upd (upd Hx p (.dK [])) p (.dK (mergeK [] K3d))) := same_mut (same_new np _) np
    have ed : (upd (upd Hx p (.dK [])) p (.dK (mergeK [] K3d))) p = some (.dK K3d) := upd_same
    generalize upd (upd Hx p (.dK [])) p (.dK (mergeK [] K3d)) = H3 at sd ed ⊢
    have h3 := hx.same sd
    have f3 := fd_same (d := d) (sx.trans sd)
    have it3 := itx.same sd
    obtain ⟨ui, yi, ki⟩ := wk_int (K := K) (M := none) trivial (sx.trans sd) (it.wo wt)
    obtain ⟨ub, yb, kb⟩ := wk_bool (K := K) (M := none) trivial (sx.trans sd) (it.wo wt)
    obtain ⟨us, ys, ks⟩ := wk_str (K := K) (M := none) trivial (sx.trans sd) (it.wo wt)
    refine ⟨_, rfl, b, _, ui, _, _, rfl, .ty _, yi, ki, _, rfl, ?_⟩
    have get : ∀ (u : V) (t' : Th), Is (CF K) H3 u t' → Pw 1 1 t' → Q u H3 := fun u t' i p => q u t' H3 h3 f3 i (p.mono (Th.nodes_pos t) (by omega))
    have get7 : ∀ {H7 : Hp}, Same H3 H7 → ∀ (u : V) (t' : Th), Is (CF K) H7 u t' → Pw 1 1 t' → Q u H7 := fun s7 u t' i p => q u t' _ (h3.same s7) (f3.trans (fd_same s7)) i (p.mono (Th.nodes_pos t) (by omega))
    have mix : ∀ {σ : L2.St} {e1 e2 : TE} {y : V} {R : VK}, (∀ {Hz : Hp} {Q' : VK}, Q' y Hz → e1 σ Hz Q') → (∀ {Hz : Hp} {Q' : VK}, Q' y Hz → e2 σ Hz Q') → (∀ (p4 p5 p6 : Addr) (H7 : Hp), H7 p5 = some (.tup []) → H7 p6 = some (.tup []) → Same H3 H7 → (∃ q, y = .ref q ∧ H7 q = some (.tup []) ∧ R (.int 0) H7) ∨ (y = .bl true ∧ R (.int 1) H7) ∨ (y = .bl false ∧ R (.ref p6) H7)) →
        tMixG (tMixD [(tTup tNil, tC (V.int 0)), (tC (V.bl true), tC (V.int 1)), (tC (V.bl false), tTup tNil)]) e1 e2 σ H3 R := fun {σ e1 e2 y R} y1 y2 k => by
      intro p4 np4
      refine ⟨Nat.zero_le _, fun p5 np5 => ⟨Nat.zero_le _, fun p6 np6 => ?_⟩⟩
      have s5 := same_new np5 (.tup [])
      have s6 := same_new np6 (.tup [])
      have e4 := s6 _ _ (s5 _ _ (upd_same (H := H3) (a := p4) (o := .dK [])))
      have e5 := s6 _ _ (upd_same (H := upd H3 p4 (.dK [])) (a := p5) (o := .tup []))
      have n54 : p5 ≠ p4 := fun z => by rw [z, upd_same] at np5; cases np5
      have n64 : p6 ≠ p4 := fun z => by rw [z, s5 _ _ upd_same] at np6; cases np6
      have s7 : Same H3 (upd (upd (upd (upd H3 p4 (.dK [])) p5 (.tup [])) p6 (.tup [])) p4 (.ext (Mx3 p4 p5 (.int 0) (.int 1) (.ref p6)))) := same_mut ((same_new np4 _).trans (s5.trans s6)) np4
      refine ⟨e4, p5, .int 0, .int 1, .ref p6, rfl, e5, p4, p5, _, _, _, rfl, upd_same, ?_⟩
      refine y1 (y2 ⟨upd_same, by rw [upd_ne n54]; exact e5, k p4 p5 p6 _ (by rw [upd_ne n54]; exact e5) (by rw [upd_ne n64]; exact upd_same) s7⟩)
    cases it with
    | int i =>
      refine iteT ⟨_, rfl, .int i, _, ub, _, _, rfl, .ty _, yb, kb, _, rfl, ?_⟩
      obtain ⟨t', it', pt'⟩ := k3_int (C := CF K) (H := H3) (i := i) wt
      refine ⟨_, rfl, _, rfl, iteT ⟨_, rfl, p, rfl, .inl ⟨_, .inl ed⟩, _, rfl, _, rfl, _, DGet.k (k := .inl i) ed, get _ t' it' pt'⟩⟩
    | str x hx' =>
      refine iteF ⟨_, rfl, _, rfl, iteF ⟨_, rfl, .str x, _, us, _, _, rfl, .ty _, ys, ks, _, rfl, ?_⟩⟩
      obtain ⟨t', it', pt'⟩ := k3_str (C := CF K) (H := H3) (x := x) wt
      exact iteT ⟨_, rfl, p, rfl, .inl ⟨_, .inl ed⟩, _, rfl, _, rfl, _, DGet.k (k := .inr x) ed, get _ t' it' pt'⟩
    | bl c =>
      refine iteT ⟨_, rfl, .bl c, _, ub, _, _, rfl, .ty _, yb, kb, _, rfl, ?_⟩
      refine ⟨_, rfl, _, rfl, iteF ⟨_, rfl, .bl c, _, us, _, _, rfl, .ty _, ys, ks, _, rfl, iteF ?_⟩⟩
      refine mix (fun z => ⟨_, rfl, z⟩) (fun z => ⟨_, rfl, z⟩) fun p4 p5 p6 H7 e5 e6 s7 => ?_
      cases c with
      | true => exact .inr (.inl ⟨rfl, get7 s7 _ (.int 1) (.int 1) ⟨by decide +kernel, Nat.le_refl _, Nat.zero_le _⟩⟩)
      | false => exact .inr (.inr ⟨rfl, get7 s7 _ (.tup []) (.tup e6 .nil) ⟨rfl, Nat.le_refl _, Nat.le_refl _⟩⟩)
    | tup e r =>
      rename_i pt _ _
      obtain rfl : _ = ([] : List Th) := by
        have := htn rfl
        injection this
      cases r
      refine iteF ⟨_, rfl, _, rfl, iteF ⟨_, rfl, .ref pt, _, us, _, _, rfl, .ty _, ys, ks, _, rfl, iteF ?_⟩⟩
      refine mix (fun z => ⟨_, rfl, z⟩) (fun z => ⟨_, rfl, z⟩) fun p4 p5 p6 H7 e5 e6 s7 => .inl ⟨pt, rfl, s7 _ _ ((sx.trans sd) _ _ e), get7 s7 _ (.int 0) (.int 0) ⟨by decide +kernel, Nat.le_refl _, Nat.zero_le _⟩⟩
    | non => cases wt
    | fn _ _ => rw [Th.worth] at wt; cases wt
    | lst _ => cases wt
    | dct _ => cases wt
def spPart12 (K : PySem.W.Frag) : Sp := sp2 fun v b H Q _ => ∃ d t, v = .ref d ∧ Dw d H ∧ Is (CF K) H b t ∧ ∀ u p H', Dw d H' → Fd d H H' → Is (CF K) H' u p → p ∈ parts12 t → Q u H'
theorem ok_law_part (F : FnP K mg "_law_part" s_law_part) (T : Te mg) (B_law_next : Cl P w K mg base 2 "_law_next" ["_law_state_here"] spNextD) : Cl P w K mg base 3 "_law_part" ["_law_draw", "_law_worth"] (spPart12 K) := by
  refine cl_2 F sc_law_part (fun _ _ _ _ _ _ us hl => match us, hl with | [_, _], _ => rfl) fun cdv A outer s H v b Q E hr h => ?_
  obtain ⟨d, t, rfl, hd, ib, q⟩ := h
  refine ⟨_, PSs.nox (pss_cons (ps_set (i := 2) sc_law_part.nd rfl (Or.inl rfl) (pe_op op_mod (pe_b B_law_next hr (by omega) rfl passL (pa_cons (pv 0) pa_nil)) pe_int)) (pss_cons (ps_if (pt_cmpR op_eq (pv 2) pe_int (nomark _)) (pss_one (ps_ret (pe_lit (C := CF K) (.tup [(.str "fn"), (.tup []), (.int 1)]) (pe_tup (pa_cons pe_str (pa_cons (pe_tup pa_nil) (pa_cons pe_int pa_nil))))))) pss_nil) (pss_cons (ps_if (pt_cmpR op_eq (pv 2) pe_int (nomark _)) (pss_one (ps_ret (pe_lit (C := CF K) (.tup [(.str "join"), (.tup [(.str "quote"), (.var 1)]), (.tup [(.str "quote"), (.tup [(.var 1)])])]) (pe_tup (pa_cons pe_str (pa_cons (pe_tup (pa_cons pe_str (pa_cons (pv 1) pa_nil))) (pa_cons (pe_tup (pa_cons pe_str (pa_cons (pe_tup (pa_cons (pv 1) pa_nil)) pa_nil))) pa_nil))))))) pss_nil) (pss_cons (ps_if (pt_cmpR op_eq (pv 2) pe_int (nomark _)) (pss_one (ps_ret (pe_lit (C := CF K) (.tup [(.str "join"), (.tup [(.str "rec"), (.str "x"), (.tup []), (.str "x")]), (.tup [])]) (pe_tup (pa_cons pe_str (pa_cons (pe_tup (pa_cons pe_str (pa_cons pe_str (pa_cons (pe_tup pa_nil) (pa_cons pe_str pa_nil))))) (pa_cons (pe_tup pa_nil) pa_nil))))))) pss_nil) (pss_one (ps_ret (pe_lit (C := CF K) (.tup [(.str "quote"), (.var 1)]) (pe_tup (pa_cons pe_str (pa_cons (pv 1) pa_nil)))))))))), ?_⟩
  refine ⟨_, rfl, _, rfl, d, rfl, hd, fun r1 H1 h1 f1 a1 b1 => ⟨_, _, rfl, rfl, (show (0 : Int) < 8 by decide), ?_⟩⟩
  have ib1 := ib.ik (im_fd hd h1 f1)
  have fin : ∀ {p : Th} {u : V} {H' : Hp}, Same H1 H' → Is (CF K) H' u p → p ∈ parts12 t → Q u H' := fun s i m => q _ _ _ (h1.same s) (f1.trans (fd_same s)) i m
  refine ⟨_, rfl, rfl, _, rfl, ite2 (fun c => ⟨[], _, .nil, rfl, fun v2 H2 s2 i2 => fin s2 i2 (.head _)⟩) (fun c => ?_)⟩
  refine ⟨_, rfl, rfl, _, rfl, ite2 (fun c => ⟨[(1, t)], _, .cons rfl ib1 .nil, rfl, fun v2 H2 s2 i2 => fin s2 i2 (.tail _ (.head _))⟩) (fun c => ?_)⟩
  refine ⟨_, rfl, rfl, _, rfl, ite2 (fun c => ⟨[], _, .nil, rfl, fun v2 H2 s2 i2 => fin s2 i2 (.tail _ (.tail _ (.head _)))⟩) (fun c => ?_)⟩
  exact ⟨[(1, t)], _, .cons rfl ib1 .nil, rfl, fun v2 H2 s2 i2 => fin s2 i2 (.tail _ (.tail _ (.tail _ (.head _))))⟩
def spForm12 (K : PySem.W.Frag) : Sp := sp3 fun v b c H Q _ => ∃ d t1 t2, v = .ref d ∧ Dw d H ∧ Is (CF K) H b t1 ∧ Is (CF K) H c t2 ∧ ∀ u p H', Dw d H' → Fd d H H' → Is (CF K) H' u p → F12 t1 t2 p → Q u H'
theorem ok_law_form_of (F : FnP K mg "_law_form_of" s_law_form_of) (T : Te mg) (B_law_next : Cl P w K mg base 2 "_law_next" ["_law_state_here"] spNextD) : Cl P w K mg base 3 "_law_form_of" ["_law_draw", "_law_one", "_law_other"] (spForm12 K) := by
  refine cl_3 F sc_law_form_of (fun _ _ _ _ _ _ us hl => match us, hl with | [_, _, _], _ => rfl) fun cdv A outer s H v b c Q E hr h => ?_
  obtain ⟨d, t1, t2, rfl, hd, ib, ic, q⟩ := h
  refine ⟨_, PSs.nox (pss_cons (ps_set (i := 3) sc_law_form_of.nd rfl (Or.inl rfl) (pe_ix ix_list (pe_lits (C := CF K) [(.str "same"), (.str "same"), (.str "join"), (.str "first"), (.str "rest"), (.str "kind"), (.str "row")] (pe_lst (pa_cons pe_str (pa_cons pe_str (pa_cons pe_str (pa_cons pe_str (pa_cons pe_str (pa_cons pe_str (pa_cons pe_str pa_nil))))))))) (pe_op op_mod (pe_b B_law_next hr (by omega) rfl passL (pa_cons (pv 0) pa_nil)) pe_int) (fun _ _ => rfl))) (pss_one (ps_ret (pe_ifExp (pt_cmpR op_in_seq (pv 3) (pe_lit (C := CF K) (.tup [(.str "same"), (.str "join")]) (pe_tup (pa_cons pe_str (pa_cons pe_str pa_nil)))) rfl) (pe_lit (C := CF K) (.tup [(.var 3), (.var 1), (.var 2)]) (pe_tup (pa_cons (pv 3) (pa_cons (pv 1) (pa_cons (pv 2) pa_nil))))) (pe_lit (C := CF K) (.tup [(.var 3), (.var 1)]) (pe_tup (pa_cons (pv 3) (pa_cons (pv 1) pa_nil)))))))), ?_⟩
  refine ⟨[], _, .nil, rfl, rfl, fun D0 xs0 H0 s0 n0 e0 i0 => ?_⟩
  refine ⟨_, rfl, _, rfl, d, rfl, hd.same s0, fun r1 H1 h1 f1 a1 b1 => ⟨_, _, rfl, rfl, (show (0 : Int) < 7 by decide), ?_⟩⟩
  have e1 := f1 _ _ (dw_ne hd n0) e0
  have i1 := i0.ik (im_fd (hd.same s0) h1 f1)
  obtain ⟨wd, ew, mw⟩ := pickS (l := ["same", "same", "join", "first", "rest", "kind", "row"]) i1 7 rfl (by decide) r1
  have ib1 := (ib.same s0).ik (im_fd (hd.same s0) h1 f1)
  have ic1 := (ic.same s0).ik (im_fd (hd.same s0) h1 f1)
  have f01 := (fd_same (d := d) s0).trans f1
  refine ⟨D0, _, _, _, rfl, rfl, SqL.of e1, ew, ?_⟩
  refine ⟨_, rfl, [], _, .nil, rfl, fun v4 H4 s4' i4 => ?_⟩
  obtain ⟨p4, e4, rfl⟩ := is_two i4
  have h4 := h1.same s4'
  have f04 := f01.trans (fd_same s4')
  have ib4 := ib1.same s4'
  have ic4 := ic1.same s4'
  have two : ∀ w : Str, w ∈ (["same", "join"] : List Str) → ∀ (u : V) (H5 : Hp), Same H4 H5 → Is (CF K) H5 u (.tup [.str w, t1, t2]) → Q u H5 := fun w hw u H5 s5 i5 => q u _ H5 (h4.same s5) (f04.trans (fd_same s5)) i5 (.two hw)
  have one : ∀ w : Str, w ∈ ones12 → ∀ (u : V) (H5 : Hp), Same H4 H5 → Is (CF K) H5 u (.tup [.str w, t1]) → Q u H5 := fun w hw u H5 s5 i5 => q u _ H5 (h4.same s5) (f04.trans (fd_same s5)) i5 (.one hw)
  simp only [List.mem_cons, List.not_mem_nil, or_false] at mw
  refine ⟨p4, _, rfl, .inr (SqT.of e4), rfl, rfl, _, rfl, ?_⟩
  rcases mw with rfl | rfl | rfl | rfl | rfl | rfl | rfl
  · exact iteT ⟨[(3, .str "same"), (1, t1), (2, t2)], _, .cons rfl (.str _ (by decide)) (.cons rfl ib4 (.cons rfl ic4 .nil)), rfl, two "same" (by decide)⟩
  · exact iteT ⟨[(3, .str "same"), (1, t1), (2, t2)], _, .cons rfl (.str _ (by decide)) (.cons rfl ib4 (.cons rfl ic4 .nil)), rfl, two "same" (by decide)⟩
  · exact iteT ⟨[(3, .str "join"), (1, t1), (2, t2)], _, .cons rfl (.str _ (by decide)) (.cons rfl ib4 (.cons rfl ic4 .nil)), rfl, two "join" (by decide)⟩
  · exact iteF ⟨[(3, .str "first"), (1, t1)], _, .cons rfl (.str _ (by decide)) (.cons rfl ib4 .nil), rfl, one "first" (by decide)⟩
  · exact iteF ⟨[(3, .str "rest"), (1, t1)], _, .cons rfl (.str _ (by decide)) (.cons rfl ib4 .nil), rfl, one "rest" (by decide)⟩
  · exact iteF ⟨[(3, .str "kind"), (1, t1)], _, .cons rfl (.str _ (by decide)) (.cons rfl ib4 .nil), rfl, one "kind" (by decide)⟩
  · exact iteF ⟨[(3, .str "row"), (1, t1)], _, .cons rfl (.str _ (by decide)) (.cons rfl ib4 .nil), rfl, one "row" (by decide)⟩
theorem ok_law_plain_none (F : FnP K mg "_law_plain" s_law_plain) {L : Nat} : Cl P w K mg base (L + 1) "_law_plain" ["_law_draw", "_law_deep"] (spPlain12 K 0) := by
  refine cl_2 F sc_law_plain (fun _ _ _ _ _ _ us hl => match us, hl with | [_, _], _ => rfl) fun cdv A outer s H v b Q E hr h => ?_
  obtain ⟨_, _, _, _, h, _⟩ := h
  omega
theorem ok_law_near_none (F : FnP K mg "_law_near" s_law_near) {L : Nat} : Cl P w K mg base (L + 1) "_law_near" ["_law_draw", "_law_worth"] (spNear12 K 0) := by
  refine cl_2 F sc_law_near (fun _ _ _ _ _ _ us hl => match us, hl with | [_, _], _ => rfl) fun cdv A outer s H v b Q E hr h => ?_
  obtain ⟨_, _, _, _, _, _, h, _⟩ := h
  omega
theorem cat_lit {C : Addr} {i : Nat} {D0 : Addr} {xs0 : List V} {ts0 ts : List Th} {H0 : Hp} {l : List Lit} {σ : L2.St} {Q : VK} (hσ : σ[i]? = some (some (.ref D0))) (e0 : H0 D0 = some (.lst xs0)) (i0 : Iss C H0 xs0 ts0) (h : Lit.ths [] l = some ts) (hb : Nat.ble l.length 1000 = true) (hl : ts0.length + ts.length ≤ 100000)
    (q : ∀ D xs H', H0 D = none → Same H0 H' → H' D = some (.lst xs) → Iss C H' xs (ts0 ++ ts) → Q (.ref D) H') : tOp rCat (tVar i) (tLits C l) σ H0 Q := by
  refine ⟨_, hσ, [], _, .nil, h, hb, fun D1 xs1 H1 s1 n1 e1 i1 => ?_⟩
  refine ⟨D0, D1, _, _, rfl, rfl, s1 _ _ e0, e1, by rw [i0.len, i1.len, sizeLine_eq]; omega, fun p np => ?_⟩
  exact q p _ _ (s1.free np) (s1.trans (same_new np _)) upd_same (((i0.same s1).app i1).same (same_new np _))
theorem iss_at {C : Addr} {H : Hp} : ∀ {xs : List V} {ts : List Th} {i : Nat} {x : V} {t : Th}, Iss C H xs ts → xs[i]? = some x → ts[i]? = some t → Is C H x t
  | _, _, 0, _, _, .cons h _, e1, e2 => by
    cases e1
    cases e2
    exact h
  | _, _, i + 1, _, _, .cons _ r, e1, e2 => iss_at (i := i) r (by simpa using e1) (by simpa using e2)
  | _, _, _, _, _, .nil, e1, _ => by cases e1
theorem is_tup3 {C : Addr} {H : Hp} {v : V} {a b c : Th} (h : Is C H v (.tup [a, b, c])) : ∃ p x y z, H p = some (.tup [x, y, z]) ∧ v = .ref p ∧ Is C H x a ∧ Is C H y b ∧ Is C H z c := by
  cases h with
  | tup e r =>
    cases r with
    | cons r1 r =>
      cases r with
      | cons r2 r =>
        cases r with
        | cons r3 r =>
          cases r
          exact ⟨_, _, _, _, e, rfl, r1, r2, r3⟩
def fig4 : List Th := [.int 1, .bl true, .int 0, .bl false]
def kin4 : List Th := [.str "number", .str "truth", .str "number", .str "truth"]
def val7 : List Th := [.bl false, .bl true, .bl false, .bl false, .int 1, .tup [], .str "function"]
theorem fig_kind : ∀ j : Nat, j < 4 → ∃ t, fig4[j]? = some t ∧ kin4[j]? = some (.str t.kind) ∧ (t = .int 1 ∨ t = .bl true ∨ t = .int 0 ∨ t = .bl false)
  | 0, _ => ⟨_, rfl, rfl, .inl rfl⟩
  | 1, _ => ⟨_, rfl, rfl, .inr (.inl rfl)⟩
  | 2, _ => ⟨_, rfl, rfl, .inr (.inr (.inl rfl))⟩
  | 3, _ => ⟨_, rfl, rfl, .inr (.inr (.inr rfl))⟩
  | j + 4, h => by omega
theorem due_val : ∀ j : Nat, j < 7 → ∃ v n, due12[j]? = some (.tup [.str "over", v, .int n]) ∧ val7[j]? = some v
  | 0, _ => ⟨_, _, rfl, rfl⟩
  | 1, _ => ⟨_, _, rfl, rfl⟩
  | 2, _ => ⟨_, _, rfl, rfl⟩
  | 3, _ => ⟨_, _, rfl, rfl⟩
  | 4, _ => ⟨_, _, rfl, rfl⟩
  | 5, _ => ⟨_, _, rfl, rfl⟩
  | 6, _ => ⟨_, _, rfl, rfl⟩
  | j + 7, h => by omega
theorem ok_law {L : Nat} (hL : 9 ≤ L) (F : FnP K mg "law" s_law) (T : Te mg) (B_law_state : Cl P w K mg base 1 "_law_state" ["_law_cell"] spState) (B_law_next : Cl P w K mg base 2 "_law_next" ["_law_state_here"] spNextD) (B_law_plain : Cl P w K mg base 7 "_law_plain" ["_law_draw", "_law_deep"] (spPlain12 K 4)) (B_law_near : Cl P w K mg base 7 "_law_near" ["_law_draw", "_law_worth"] (spNear12 K 4))
    (B_law_part : Cl P w K mg base 3 "_law_part" ["_law_draw", "_law_worth"] (spPart12 K)) (B_law_form_of : Cl P w K mg base 3 "_law_form_of" ["_law_draw", "_law_one", "_law_other"] (spForm12 K)) (B_law_right : Cg P w K mg base L "_law_right" ["_law_program", "_law_limit"] (spRight K 10 25)) (B_run_told : Cl P w K mg base 9 "run_told" ["program", "limit"] (spRunTold K)) : Cg P w K mg base (L + 1) "law" ["_law_script"] (spLaw K) := by
  refine cg_mk F sc_law (fun _ _ _ _ _ _ us hl => match us, hl with | [_], _ => rfl) (fun vs H Q E h => by obtain ⟨a, rfl, _⟩ := h; rfl) fun cdv A outer s H vs Q E hr hg h => ?_
  obtain ⟨_, rfl, a, ns, rfl, hS, hn, q⟩ := h
  refine ⟨_, PSs.nox (pss_cons (ps_for PassesOwn.never rfl (pi_list (pe_op op_cat (pe_slice sl_list (pv 0) po_none (po_some pe_int)) (pe_lits (C := CF K) [(.int 7)] (pe_lst (pa_cons pe_int pa_nil))))) (pg_name (i := 1) sc_law.nd rfl (Or.inl rfl)) (pss_cons (ps_set (i := 2) sc_law.nd rfl (Or.inl rfl) (pe_b B_law_state hr (by omega) rfl passL (pa_cons (pv 1) pa_nil))) (pss_one (ps_for PassesOwn.never rfl (pi_range1 rfl T.z_range (pa_cons pe_int pa_nil)) (pg_name (i := 3) sc_law.nd rfl (Or.inl rfl)) (pss_cons (ps_set (i := 4) sc_law.nd rfl (Or.inl rfl) (pe_b B_law_plain hr (by omega) rfl passL (pa_cons (pv 2) (pa_cons pe_int pa_nil)))) (pss_cons (ps_set (i := 5) sc_law.nd rfl (Or.inl rfl) (pe_ix ix_list (pe_lst (pa_cons (pv 4) (pa_cons (pe_b B_law_near hr (by omega) rfl passL (pa_cons (pv 2) (pa_cons (pv 4) pa_nil))) (pa_cons (pe_b B_law_plain hr (by omega) rfl passL (pa_cons (pv 2) (pa_cons pe_int pa_nil))) pa_nil)))) (pe_op op_mod (pe_b B_law_next hr (by omega) rfl passL (pa_cons (pv 2) pa_nil)) pe_int) (fun _ _ => rfl))) (pss_cons (ps_set (i := 6) sc_law.nd rfl (Or.inl rfl) (pe_b B_law_form_of hr (by omega) rfl passL (pa_cons (pv 2) (pa_cons (pe_b B_law_part hr (by omega) rfl passL (pa_cons (pv 2) (pa_cons (pv 4) pa_nil))) (pa_cons (pe_b B_law_part hr (by omega) rfl passL (pa_cons (pv 2) (pa_cons (pv 5) pa_nil))) pa_nil))))) (pss_cons (ps_if (pt_cmpR op_eq (pe_op op_mod (pe_b B_law_next hr (by omega) rfl passL (pa_cons (pv 2) pa_nil)) pe_int) pe_int (nomark _)) (pss_one (ps_set (i := 6) sc_law.nd rfl (Or.inl rfl) (pe_b B_law_form_of hr (by omega) rfl passL (pa_cons (pv 2) (pa_cons (pv 6) (pa_cons (pe_b B_law_form_of hr (by omega) rfl passL (pa_cons (pv 2) (pa_cons (pv 6) (pa_cons (pe_b B_law_part hr (by omega) rfl passL (pa_cons (pv 2) (pa_cons (pv 5) pa_nil))) pa_nil)))) pa_nil)))))) pss_nil) (pss_one (ps_if (pt_not (pt_val (pe_g B_law_right hr hg (by omega) rfl passL (pa_cons (pv 6) (pa_cons (pe_ix ix_list (pe_lits (C := CF K) [(.int 100000), (.int 20), (.int 7)] (pe_lst (pa_cons pe_int (pa_cons pe_int (pa_cons pe_int pa_nil))))) (pe_op op_mod (pe_b B_law_next hr (by omega) rfl passL (pa_cons (pv 2) pa_nil)) pe_int) (fun _ _ => rfl)) pa_nil))))) (pss_one (ps_ret pe_bl)) pss_nil)))))))))) (pss_cons (ps_if (pt_cmpR (op_neD (hu64 hr)) (pe_lc (own := [("_law_one", 10)]) (g := gName 10) (tt := tYes) rfl sc_law.nd (pi_tup (pe_lit (C := CF K) (.tup [(.int 1), (.bl true), (.int 0), (.bl false)]) (pe_tup (pa_cons pe_int (pa_cons pe_bl (pa_cons pe_int (pa_cons pe_bl pa_nil))))))) (blkOk_by (own := [("_law_one", 10)]) (N := ["_law_script", "_law_cell", "_law_draw", "_law_turn", "_law_worth", "_law_other", "_law_program", "_law_some", "_law_due", "_law_found", "_law_one"]) (sc := defScope s_law) (by decide +kernel)) (fun _ _ _ _ _ => (pg_name (i := 10) sc_law.nd rfl (Or.inl rfl))) (fun _ _ _ _ _ => pts_nil) (fun _ _ _ _ _ => (pe_ix (show IxR _ (rIxT K) from ix_tup) (pe_b B_run_told hr (by omega) rfl passL (pa_cons (pe_lit (C := CF K) (.tup [(.str "kind"), (.var 10)]) (pe_tup (pa_cons pe_str (pa_cons (pv 10) pa_nil)))) (pa_cons pe_int pa_nil))) pe_int (fun _ _ => rfl)))) (pe_lits (C := CF K) [(.str "number"), (.str "truth"), (.str "number"), (.str "truth")] (pe_lst (pa_cons pe_str (pa_cons pe_str (pa_cons pe_str (pa_cons pe_str pa_nil)))))) (nomark _)) (pss_one (ps_ret pe_bl)) pss_nil) (pss_cons (ps_set (i := 7) sc_law.nd rfl (Or.inl rfl) (pe_lits (C := CF K) [(.tup [(.str "same"), (.int 1), (.bl true)]), (.tup [(.str "same"), (.tup []), (.tup [])]), (.tup [(.str "same"), (.tup [(.str "quote"), (.tup [(.int 0)])]), (.tup [(.str "quote"), (.tup [(.bl false)])])]), (.tup [(.str "row"), (.bl false)])] (pe_lst (pa_cons (pe_tup (pa_cons pe_str (pa_cons pe_int (pa_cons pe_bl pa_nil)))) (pa_cons (pe_tup (pa_cons pe_str (pa_cons (pe_tup pa_nil) (pa_cons (pe_tup pa_nil) pa_nil)))) (pa_cons (pe_tup (pa_cons pe_str (pa_cons (pe_tup (pa_cons pe_str (pa_cons (pe_tup (pa_cons pe_int pa_nil)) pa_nil))) (pa_cons (pe_tup (pa_cons pe_str (pa_cons (pe_tup (pa_cons pe_bl pa_nil)) pa_nil))) pa_nil)))) (pa_cons (pe_tup (pa_cons pe_str (pa_cons pe_bl pa_nil))) pa_nil))))))) (pss_cons (ps_set (i := 7) sc_law.nd rfl (Or.inl rfl) (pe_op op_cat (pv 7) (pe_lits (C := CF K) [(.tup [(.str "first"), (.tup [(.str "quote"), (.tup [(.int 1), (.int 2)])])]), (.tup [(.str "rest"), (.tup [(.str "quote"), (.tup [(.int 1)])])]), (.tup [(.str "kind"), (.tup [(.str "fn"), (.tup []), (.int 1)])]), (.tup [(.str "first"), (.tup [])])] (pe_lst (pa_cons (pe_tup (pa_cons pe_str (pa_cons (pe_tup (pa_cons pe_str (pa_cons (pe_tup (pa_cons pe_int (pa_cons pe_int pa_nil))) pa_nil))) pa_nil))) (pa_cons (pe_tup (pa_cons pe_str (pa_cons (pe_tup (pa_cons pe_str (pa_cons (pe_tup (pa_cons pe_int pa_nil)) pa_nil))) pa_nil))) (pa_cons (pe_tup (pa_cons pe_str (pa_cons (pe_tup (pa_cons pe_str (pa_cons (pe_tup pa_nil) (pa_cons pe_int pa_nil)))) pa_nil))) (pa_cons (pe_tup (pa_cons pe_str (pa_cons (pe_tup pa_nil) pa_nil))) pa_nil)))))))) (pss_cons (ps_set (i := 8) sc_law.nd rfl (Or.inl rfl) (pe_lits (C := CF K) [(.bl false), (.bl true), (.bl false), (.bl false), (.int 1), (.tup []), (.str "function")] (pe_lst (pa_cons pe_bl (pa_cons pe_bl (pa_cons pe_bl (pa_cons pe_bl (pa_cons pe_int (pa_cons (pe_tup pa_nil) (pa_cons pe_str pa_nil)))))))))) (pss_cons (ps_setLc (i := 9) (own := [("_law_program", 6)]) (g := gName 6) (tt := tYes) rfl sc_law.nd rfl rfl (sw_true rfl rfl rfl (by decide +kernel)) (pi_list (pv 7)) (blkOk_by (own := [("_law_program", 6)]) (N := ["_law_script", "_law_cell", "_law_draw", "_law_turn", "_law_worth", "_law_other", "_law_program", "_law_some", "_law_due", "_law_found", "_law_one"]) (sc := defScope s_law) (by decide +kernel)) (fun _ _ _ _ _ => (pg_name (i := 6) sc_law.nd rfl (Or.inl rfl))) (fun _ _ _ _ _ => pts_nil) (fun _ _ _ _ _ => (pe_b B_run_told hr (by omega) rfl passL (pa_cons (pv 6) (pa_cons pe_int pa_nil))))) (pss_one (ps_ret (pe_and (pe_cmpR op_eq (pe_callB (call_reprD hr hg) rfl T.z_repr PyProof.Rows.boot_repr (pa_cons (pe_lc (own := [("_law_one", 10)]) (g := gName 10) (tt := tYes) rfl sc_law.nd (pi_list (pe_slice sl_list (pv 9) po_none (po_some pe_int))) (blkOk_by (own := [("_law_one", 10)]) (N := ["_law_script", "_law_cell", "_law_draw", "_law_turn", "_law_worth", "_law_other", "_law_program", "_law_some", "_law_due", "_law_found", "_law_one"]) (sc := defScope s_law) (by decide +kernel)) (fun _ _ _ _ _ => (pg_name (i := 10) sc_law.nd rfl (Or.inl rfl))) (fun _ _ _ _ _ => pts_nil) (fun _ _ _ _ _ => (pe_ix (show IxR _ (rIxT K) from ix_tup) (pv 10) pe_int (fun _ _ => rfl)))) pa_nil)) (pe_callB (call_reprD hr hg) rfl T.z_repr PyProof.Rows.boot_repr (pa_cons (pv 8) pa_nil)) (nomark _)) (pe_one (pe_cmpR (op_eqD (hu64 hr)) (pe_ix ix_list (pv 9) pe_int (fun _ _ => rfl)) (pe_lit (C := CF K) (.tup [(.str "kind"), (.tup []), (.int 2)]) (pe_tup (pa_cons pe_str (pa_cons (pe_tup pa_nil) (pa_cons pe_int pa_nil))))) (nomark _)))))))))))), ?_⟩
  refine cells (k := 16) hS hn rfl (fun σ => ∃ o1 o2 o3 o4 o5 o6 o7 o8 o9 o10, σ = [some (.ref a), o1, o2, o3, o4, o5, o6, o7, o8, o9, o10]) ⟨none, none, none, none, none, none, none, none, none, none, rfl⟩ ?_ ?_
  · rintro D' σ c H4 ⟨o1, o2, o3, o4, o5, o6, o7, o8, o9, o10, rfl⟩ hrt hnx
    refine ⟨_, rfl, _, rfl, c, rfl, fun d H5 nd s5 h5 => ?_⟩
    refine ⟨4, rfl, by decide, by decide, ?_⟩
    refine for_it walk_range (fun i σ H' => ∃ o3 o4 o5 o6, σ = [some (.ref a), some (.int c), some (.ref d), o3, o4, o5, o6, o7, o8, o9, o10] ∧ Same H4 H' ∧ Dw d H') ⟨_, _, _, _, rfl, s5, h5⟩ (fun _ _ _ _ _ => trivial) ?_ ?_
    · rintro i y σ HX H6 hi ⟨o3, o4, o5, o6, rfl, S6, h6⟩ ⟨rfl, rfl⟩
      refine ⟨_, rfl, _, _, rfl, d, 3, rfl, rfl, by decide, h6, fun u7 t7 H7 h7 f7 i7 p7 => ?_⟩
      have p7 : Pw 156 3 t7 := p7
      refine ⟨_, rfl, _, rfl, _, rfl, _, _, rfl, d, t7, rfl, h7, i7, p7.wo, by have := p7.dp; omega, by have := p7.nd; omega, fun u8 t8 H8 h8 f8 i8 p8 => ?_⟩
      refine ⟨_, rfl, _, _, rfl, d, 3, rfl, rfl, by decide, h8, fun u9 t9 H9 h9 f9 i9 p9 => ?_⟩
      have p9 : Pw 156 3 t9 := p9
      refine ⟨s3, fun p10 np10 => ?_⟩
      have t10 := same_new np10 (.lst [u7, u8, u9])
      refine ⟨_, rfl, _, rfl, d, rfl, h9.same t10, fun r11 H11 h11 f11 a11 b11 => ?_⟩
      have i3 : Iss (CF K) H9 [u7, u8, u9] [t7, t8, t9] := .cons ((i7.ik (im_fd h7 h8 f8)).ik (im_fd h8 h9 f9)) (.cons (i8.ik (im_fd h8 h9 f9)) (.one i9))
      have i11 := (i3.same t10).ik (im_fd (h9.same t10) h11 f11)
      have e11 := f11 _ _ (dw_ne h9 np10) upd_same
      obtain ⟨u, t, eu, mt, iu⟩ := pick i11 3 rfl (by decide) r11
      have pt : Pw 156 4 t := by
        simp only [List.mem_cons, List.not_mem_nil, or_false] at mt
        rcases mt with rfl | rfl | rfl
        · exact p7.mono (Nat.le_refl _) (by decide)
        · exact p8.mono p7.nd (by have := p7.dp; omega)
        · exact p9.mono (Nat.le_refl _) (by decide)
      have p7' : Pw 156 4 t7 := p7.mono (Nat.le_refl _) (by decide)
      have S11 := same_fd nd (same_fd nd (same_fd nd (same_fd nd S6 f7) f8) (f9.trans (fd_same t10))) f11
      have iw : Is (CF K) H11 u7 t7 := by
        cases i11 with
        | cons h _ => exact h
      refine ⟨_, _, rfl, rfl, p3, p10, _, _, _, rfl, rfl, SqL.of e11, eu, ?_⟩
      refine ⟨_, rfl, _, rfl, _, rfl, _, _, rfl, d, t7, rfl, h11, iw, fun u12 t12 H12 h12 f12 i12 m12 => ?_⟩
      refine ⟨_, rfl, _, rfl, _, _, rfl, d, t, rfl, h12, iu.ik (im_fd h11 h12 f12), fun u13 t13 H13 h13 f13 i13 m13 => ?_⟩
      refine ⟨_, _, _, rfl, d, t12, t13, rfl, h13, i12.ik (im_fd h12 h13 f13), i13, fun u14 t14 H14 h14 f14 i14 g14 => ?_⟩
      have q12 := part_pg p7' (by decide) (by decide) (by decide) t12 m12
      have q13 := part_pg pt (by decide) (by decide) (by decide) t13 m13
      have q14 := form_pg g14 q12 q13 (by decide) (by decide) (by decide) (by decide) (by decide)
      have S14 := same_fd nd (same_fd nd (same_fd nd S11 f12) f13) f14
      have iu14 := ((iu.ik (im_fd h11 h12 f12)).ik (im_fd h12 h13 f13)).ik (im_fd h13 h14 f14)
      refine stepG ?_
      dsimp only
      refine join_seq (fun k => ∀ u' t' H', Dw d H' → Same H4 H' → Is (CF K) H' u' t' → Pg12 6 2000 2000 10 t' → k [some (.ref a), some (.int c), some (.ref d), some (.int (0 + (i : Nat))), some u7, some u, some u', o7, o8, o9, o10] H') (fun u' t' H' h' S' i' g' => ?_) (fun D'' hk => ?_)
      case refine_2 =>
        refine ⟨_, rfl, _, rfl, d, rfl, h14, fun r15 H15 h15 f15 a15 b15 => ⟨_, _, rfl, rfl, p3, rfl, _, rfl, ite2 (fun c3 => ?_) (fun c3 => ?_)⟩⟩
        · have i15 := i14.ik (im_fd h14 h15 f15)
          have iu15 := iu14.ik (im_fd h14 h15 f15)
          refine ⟨_, rfl, _, rfl, _, rfl, _, rfl, _, rfl, _, rfl, _, _, rfl, d, t, rfl, h15, iu15, fun u16 t16 H16 h16 f16 i16 m16 => ?_⟩
          have i15' := i15.ik (im_fd h15 h16 f16)
          refine ⟨_, _, _, rfl, d, t14, t16, rfl, h16, i15', i16, fun u17 t17 H17 h17 f17 i17 g17 => ?_⟩
          refine ⟨_, _, _, rfl, d, t14, t17, rfl, h17, i15'.ik (im_fd h16 h17 f17), i17, fun u18 t18 H18 h18 f18 i18 g18 => ?_⟩
          have q16 := part_pg pt (by decide) (by decide) (by decide) t16 m16
          have q17 := form_pg g17 q14 (q16.mono (by decide) (Nat.le_refl _) (Nat.le_refl _) (Nat.le_refl _)) (by decide) (by decide) (by decide) (by decide) (by decide)
          have q18 := form_pg g18 (q14.mono (k' := 5) (by decide) (Nat.le_refl _) (Nat.le_refl _) (Nat.le_refl _)) q17 (by decide) (by decide) (by decide) (by decide) (by decide)
          exact hk _ _ _ h18 (same_fd nd (same_fd nd (same_fd nd (same_fd nd S14 f15) f16) f17) f18) i18 (q18.mono (by decide) (by decide) (by decide) (by decide))
        · exact hk _ _ _ h15 (same_fd nd S14 f15) (i14.ik (im_fd h14 h15 f15)) (q14.mono (by decide) (by decide) (by decide) (by decide))
      refine ⟨_, rfl, [], _, .nil, rfl, rfl, fun D19 l19 H19 s19 n19 e19 i19 => ?_⟩
      have h19 := h'.same s19
      refine ⟨_, rfl, _, rfl, d, rfl, h19, fun r20 H20 h20 f20 a20 b20 => ?_⟩
      obtain ⟨x, tx, ex, mx, ix⟩ := pick (i19.ik (im_fd h19 h20 f20)) 3 rfl (by decide) r20
      obtain ⟨k, rfl, k0, k1⟩ : ∃ k : Int, tx = .int k ∧ 0 ≤ k ∧ k ≤ 100000 := by
        simp only [List.mem_cons, List.not_mem_nil, or_false] at mx
        rcases mx with rfl | rfl | rfl
        · exact ⟨_, rfl, by decide, by decide⟩
        · exact ⟨_, rfl, by decide, by decide⟩
        · exact ⟨_, rfl, by decide, by decide⟩
      cases ix
      obtain ⟨e, v, s', n, he, hv⟩ := told_ev g'.re (f := 10) (by decide) k0
      obtain ⟨z1, z2⟩ := told_size (e := e) (s := s') (N := 2000) (D := 10) hv (fun v b => b) (by decide) (by decide)
      have ng := g'.nd
      have iH := (i'.same s19).ik (im_fd h19 h20 f20)
      refine ⟨_, _, rfl, rfl, p3, D19, _, _, _, rfl, rfl, SqL.of (f20 _ _ (dw_ne h' n19) e19), ex, _, _, rfl, t', k, _, n, rfl, iH.wo g'.wo, iH.wo g'.wo, k0, k1, by omega, he, by omega, by omega, fun H21 s21 => ⟨_, rfl, iteF ?_⟩⟩
      exact ⟨_, _, _, _, rfl, (same_fd nd (S'.trans s19) f20).trans s21, h20.same s21⟩
    · rintro σ H6 ⟨o3, o4, o5, o6, rfl, S6, h6⟩
      exact hnx _ _ ⟨_, _, _, _, _, _, _, _, _, _, rfl⟩ S6
  · rintro σ H4 ⟨o1, o2, o3, o4, o5, o6, o7, o8, o9, o10, rfl⟩
    refine ⟨[], _, .nil, rfl, fun v5 H5 s5 i5 => ?_⟩
    obtain ⟨p5, x5, e5, rfl, j5⟩ : ∃ p xs, H5 p = some (.tup xs) ∧ v5 = .ref p ∧ Iss (CF K) H5 xs fig4 := by
      cases i5 with
      | tup e r => exact ⟨_, _, e, rfl, r⟩
    refine ⟨p5, rfl, ⟨_, SqT.of e5⟩, fun D6 n6 => ?_⟩
    refine lc_it (walk_tup (K := K) (a := p5) (xs := x5)) (fun i H' => ∃ ys, Same H5 H' ∧ H' D6 = some (.lst ys) ∧ Iss (CF K) H' ys (kin4.take i)) ⟨[], same_new n6 _, upd_same, .nil⟩ (fun _ _ _ z => by obtain ⟨_, z, _⟩ := z; exact SqT.of (z _ _ e5)) ?_ ?_
    · rintro i y HX H6 hi ⟨ys, S6, e6, i6⟩ ⟨rfl, hy⟩
      have hi4 : i < 4 := by have := j5.len; rw [this] at hi; exact hi
      obtain ⟨t, et, ek, ht⟩ := fig_kind i hi4
      have iy := (iss_at j5 hy et).same S6
      refine ⟨rfl, [(10, t)], _, .cons rfl iy .nil, rfl, fun v7 H7 s7 i7 => ?_⟩
      have wt : (Th.tup [.str "kind", t]).worth false = true := by rcases ht with rfl | rfl | rfl | rfl <;> decide +kernel
      have nt : (Th.tup [.str "kind", t]).nodes ≤ 1000000 := by rcases ht with rfl | rfl | rfl | rfl <;> decide
      refine ⟨_, _, rfl, _, 9, 2, _, _, rfl, i7.wo wt, by decide, by decide, nt, by decide, kind_told ht, by simp only [ov, Th.nodes, Th.nodesL]; omega, fun u8 H8 s8 i8 _ => ?_⟩
      obtain ⟨p8, x, y8, z, ep8, rfl, _, iy8, _⟩ := is_tup3 (show Is (CF K) H8 u8 (.tup [.str "over", .str t.kind, .int 2]) from i8)
      have e8 := (s7.trans s8) _ _ e6
      have i6' := i6.same (s7.trans s8)
      have im := im_lst (ys := ys ++ [y8]) e8
      refine ⟨p8, _, _, _, rfl, rfl, SqT.of ep8, rfl, ys, e8, by have := i6.len; rw [List.length_take] at this; rw [sizeLine_eq]; omega, ys ++ [y8], same_mut (S6.trans (s7.trans s8)) n6, upd_same, ?_⟩
      rw [show kin4.take (i + 1) = kin4.take i ++ [.str t.kind] by rw [List.take_succ, ek]; rfl]
      exact (i6'.app (.one iy8)).ik im
    rintro H6 ⟨ys, S6, e6, i6⟩
    have l4 := j5.len
    rw [l4] at i6
    have i6 : Iss (CF K) H6 ys kin4 := i6
    refine ⟨[], _, .nil, rfl, rfl, fun D7 l7 H7 s7 n7 e7 i7 => ?_⟩
    have i7 : Iss (CF K) H7 l7 kin4 := i7
    have ne1 : (!PyData.eqv (.list (Th.dats kin4)) (.list (Th.dats kin4))) = false := by decide +kernel
    refine ⟨_, _, .lst (SqL.of (s7 _ _ e6)) (dats_dp (i6.same s7) (by decide +kernel)), .lst (SqL.of e7) (dats_dp i7 (by decide +kernel)), by decide +kernel, by decide +kernel, _, rfl, ite_ff ne1 ?_⟩
    refine ⟨[], _, .nil, rfl, rfl, fun D8 l8 H8 s8 n8 e8 i8 => ?_⟩
    refine cat_lit rfl e8 i8 rfl rfl (by decide) fun D9 l9 H9 n9 s9 e9 i9 => ?_
    have i9 : Iss (CF K) H9 l9 prs12 := i9
    have ln9 : l9.length = 8 := i9.len
    refine ⟨[], _, .nil, rfl, rfl, fun D10 l10 H10 s10 n10 e10 i10 => ?_⟩
    have i10 : Iss (CF K) H10 l10 val7 := i10
    refine ⟨_, rfl, D9, rfl, ⟨_, SqL.of (s10 _ _ e9)⟩, fun D11 n11 => ?_⟩
    refine lc_it (walk_list (K := K) (a := D9) (xs := l9)) (fun i H' => ∃ ys, Same H10 H' ∧ H' D11 = some (.lst ys) ∧ Iss (CF K) H' ys (due12.take i)) ⟨[], same_new n11 _, upd_same, .nil⟩ (fun _ _ _ z => by obtain ⟨_, z, _⟩ := z; exact SqL.of (z _ _ (s10 _ _ e9))) ?_ ?_
    · rintro i y HX H11 hi ⟨ys, S11, e11, i11⟩ ⟨rfl, hy⟩
      have hi8 : i < 8 := by rw [← ln9]; exact hi
      obtain ⟨p, tt, n, a1, a2, a3, a4, a5, a6, a7⟩ := tells12 i hi8
      refine ⟨rfl, _, rfl, _, _, rfl, p, 100, 2, tt, n, rfl, ((iss_at i9 hy a1).same (s10.trans S11)).wo a3, by decide, by decide, by omega, by decide, a5, by omega, fun u12 H12 s12 i12 _ => ?_⟩
      rw [a7] at i12
      have e12 := s12 _ _ e11
      have im := im_lst (ys := ys ++ [u12]) e12
      refine ⟨ys, e12, by have := i11.len; rw [List.length_take] at this; rw [sizeLine_eq]; omega, ys ++ [u12], same_mut (S11.trans s12) n11, upd_same, ?_⟩
      rw [show due12.take (i + 1) = due12.take i ++ [tt] by rw [List.take_succ, a2]; rfl]
      exact ((i11.same s12).app (.one i12)).ik im
    rintro H11 ⟨ys, S11, e11, i11⟩
    rw [ln9] at i11
    have i11 : Iss (CF K) H11 ys due12 := i11
    have ly : ys.length = 8 := i11.len
    refine ⟨_, rfl, ?_⟩
    dsimp only [tNoPart]
    refine ⟨_, rfl, D11, _, rfl, SqL.of e11, fun D12 n12 => ?_⟩
    rw [show (7 : Int) = ((7 : Nat) : Int) from rfl, cutL_take]
    have t12 := same_new n12 (.lst (ys.take 7))
    have e12 : (upd H11 D12 (.lst (ys.take 7))) D12 = some (.lst (ys.take 7)) := upd_same
    generalize upd H11 D12 (.lst (ys.take 7)) = H12 at t12 e12 ⊢
    have j12 : Iss (CF K) H12 (ys.take 7) (due12.take 7) := (i11.take 7).same t12
    refine ⟨D12, rfl, ⟨_, SqL.of e12⟩, fun D13 n13 => ?_⟩
    refine lc_it (walk_list (K := K) (a := D12) (xs := ys.take 7)) (fun i H' => ∃ zs, Same H12 H' ∧ H' D13 = some (.lst zs) ∧ Iss (CF K) H' zs (val7.take i)) ⟨[], same_new n13 _, upd_same, .nil⟩ (fun _ _ _ z => by obtain ⟨_, z, _⟩ := z; exact SqL.of (z _ _ e12)) ?_ ?_
    · rintro i y HX H14 hi ⟨zs, S14, e14, i14⟩ ⟨rfl, hy⟩
      have hi7 : i < 7 := by rw [List.length_take] at hi; omega
      obtain ⟨v, n, ad, av⟩ := due_val i hi7
      have at7 : (due12.take 7)[i]? = some (.tup [.str "over", v, .int n]) := by rw [List.getElem?_take, if_pos hi7]; exact ad
      obtain ⟨p8, x, y8, z, ep8, rfl, _, iy8, _⟩ := is_tup3 (iss_at j12 hy at7)
      have e8 := e14
      have iy := iy8.same S14
      have im := im_lst (ys := zs ++ [y8]) e8
      refine ⟨rfl, _, rfl, p8, _, _, _, rfl, rfl, SqT.of (S14 _ _ ep8), rfl, zs, e8, by have := i14.len; rw [List.length_take] at this; rw [sizeLine_eq]; omega, zs ++ [y8], same_mut S14 n13, upd_same, ?_⟩
      rw [show val7.take (i + 1) = val7.take i ++ [v] by rw [List.take_succ, av]; rfl]
      exact (i14.app (.one iy)).ik im
    rintro H14 ⟨zs, S14, e14, i14⟩
    rw [show (ys.take 7).length = 7 by rw [List.length_take]; omega] at i14
    have i14 : Iss (CF K) H14 zs val7 := i14
    have S := S11.trans (t12.trans S14)
    refine ⟨_, _, rfl, .lst (SqL.of e14) (dats_dp i14 (by decide +kernel)), by decide +kernel, by decide +kernel, by decide +kernel, by decide +kernel, ?_⟩
    refine ⟨_, rfl, _, _, rfl, .lst (SqL.of (S _ _ e10)) (dats_dp (i10.same S) (by decide +kernel)), by decide +kernel, by decide +kernel, by decide +kernel, by decide +kernel, rfl, ?_⟩
    refine ⟨_, rfl, ite_tt (str_eq rfl) ?_⟩
    obtain ⟨y, ey⟩ : ∃ y, ys[7]? = some y := ⟨_, List.getElem?_eq_getElem (by omega)⟩
    have iy := (iss_at i11 ey (show due12[7]? = some (.tup [.str "kind", .tup [], .int 2]) from rfl)).same (t12.trans S14)
    refine ⟨_, rfl, D11, _, _, _, rfl, rfl, SqL.of ((t12.trans S14) _ _ e11), atI_nat (j := 7) ey, [], _, .nil, rfl, fun v15 H15 s15 i15 => ?_⟩
    refine ⟨_, _, dat_dp (iy.same s15) (by decide +kernel), dat_dp i15 (by decide +kernel), by decide +kernel, by decide +kernel, ?_⟩
    have eq2 : PyData.eqv (Th.tup [.str "kind", .tup [], .int 2]).dat (Th.tup [.str "kind", .tup [], .int 2]).dat = true := by decide +kernel
    show Q (.bl (PyData.eqv (Th.tup [.str "kind", .tup [], .int 2]).dat (Th.tup [.str "kind", .tup [], .int 2]).dat)) H15
    rw [eq2]
    exact q _
end
end Fl
/-! the head's Hook with further checks of the written part -/
namespace Fl
open PySem PySem.Spec PyProof.Rows L2
abbrev Ck : Type := PySem.W.Frag → Bool
abbrev AlK : Type := Bool × He.AlD
def obsK (ck : List Ck) (fa : List He.Fa) (fn : List He.DefD) (K : PySem.W.Frag) : AlK := (ck.all fun f => f K, He.obsD fa fn K)
def valK (fn : List He.DefD) : AlK := (true, He.valD fn)
def SaysK (ck : List Ck) (fa : List He.Fa) (fn : List He.DefD) (K : PySem.W.Frag) : Prop := obsK ck fa fn K = valK fn
def obsKG (n : Nat) (ck : List Ck) (fa : List He.Fa) (fn : List He.DefD) (g : Addr → Option Obj) : AlK := obsK ck fa fn (He.frG g (He.asD g n))
def hookK (n : Nat) (ck : List Ck) (fa : List He.Fa) (fn : List He.DefD) : PySem.W.Hook where
  α := AlK
  obs := fun s => obsKG n ck fa fn s.heap.get?
  val := fun _ => valK fn
  says := fun _ h => ∃ K : PySem.W.Frag, K.In h ∧ SaysK ck fa fn K
  of := fun _ _ e => ⟨_, He.frG_in, e⟩
  keeps := fun _ _ _ ⟨K, hK, c⟩ k => ⟨K, PySem.W.Frag.In.keeps hK k, c⟩
theorem obsKG_eq {n : Nat} {ck : List Ck} {fa : List He.Fa} {fn : List He.DefD} {g : Addr → Option Obj} {s : Shared} (h : ∀ a, g a = s.heap.get? a) : obsKG n ck fa fn g = (hookK n ck fa fn).obs s := by
  have e : g = s.heap.get? := funext h
  rw [e] <;> rfl
section
variable {ck : List Ck} {fa : List He.Fa} {fn : List He.DefD} {K : PySem.W.Frag}
theorem SaysK.d (c : SaysK ck fa fn K) : He.SaysD fa fn K := congrArg (fun z : AlK => z.2) c
theorem SaysK.chk (c : SaysK ck fa fn K) (i : Nat) {f : Ck} (h : ck[i]? = some f := by rfl) : f K = true :=
  List.all_eq_true.mp (congrArg (fun z : AlK => z.1) c) f (List.mem_of_getElem? h)
end
def dS (x : Str) (st : Stmt) : He.DefD := ⟨(x, none), x, x, defArgs st, defBody st, defScope st, [], []⟩
def dM (C x qn : Str) (st : Stmt) : He.DefD := ⟨(C, some x), x, qn, defArgs st, defBody st, defScope st, [], []⟩
section
variable {ck : List Ck} {fa : List He.Fa} {fn : List He.DefD} {K : PySem.W.Frag} {h : Heap} {mg : Str → Option Value} {x C qn : Str} {st : Stmt}
theorem fnp_ok (X : K.In h) (G : h.Ns mainGlobals mg) (c : SaysK ck fa fn K) (i j : Nat) (h1 : fn[i]? = some (dS x st) := by rfl) (h2 : fa[j]? = some (.glo x) := by rfl) : FnP K mg x st := ⟨c.d.def_ i h1, He.glo_ok X G (c.d.fact j h2)⟩
theorem mtp_ok (c : SaysK ck fa fn K) (i : Nat) (h1 : fn[i]? = some (dM C x qn st) := by rfl) : MtP K (He.ga K C) x qn st := ⟨c.d.def_ i h1⟩
theorem ki_ok (X : K.In h) (G : h.Ns mainGlobals mg) {i : Int} (c : (He.Fa.int x i).ok K = true) : ∃ u, mg x = some u ∧ RelV (.int i) u := by
  obtain ⟨t, e⟩ := He.int_ok X G c
  exact ⟨_, e, t, rfl⟩
theorem ks_ok (X : K.In h) (G : h.Ns mainGlobals mg) {z : Str} (c : (He.Fa.str x z).ok K = true) : ∃ u, mg x = some u ∧ RelV (.str z) u := by
  obtain ⟨t, e⟩ := He.str_ok X G c
  exact ⟨_, e, t, rfl⟩
theorem cls_ok (c : (He.Fa.cls x).ok K = true) : Cls K (He.ga K x) := by
  obtain ⟨h1, h2⟩ := He.ba c
  obtain ⟨h2, h3⟩ := He.ba h2
  obtain ⟨h3, h4⟩ := He.ba h3
  exact ⟨h1, h2, h3, He.eqO_ok h4⟩
theorem mkr_ok (c : (He.Fa.mkr x).ok K = true) : Mk K (He.ga K x) (He.ma K (He.ga K x) "__init__") := by
  obtain ⟨h1, h2⟩ := He.ba c
  obtain ⟨h2, h3⟩ := He.ba h2
  obtain ⟨h3, h4⟩ := He.ba h3
  exact ⟨h1, He.eqO_ok h2, h3, h4⟩
theorem noat_ok {f : Str} (c : (He.Fa.noat x f).ok K = true) : NoAttr K (He.ga K x) f := He.eqO_ok c
abbrev XcO (K : PySem.W.Frag) (x : Str) : Prop := PySem.W.excIn K (He.ga K x) He.veBase "ValueError.__new__" = true ∧ PySem.W.keepIn K (.ref (He.ga K x)) = true ∧
  PySem.W.subIn K (.ref (He.ga K x)) (.type "BaseException") = some true ∧ PySem.W.typeIn K (.ref (He.ga K x)) = some (.type "type")
theorem exc_ok (c : (He.Fa.exc x).ok K = true) : XcO K x := by
  obtain ⟨h1, h2⟩ := He.ba c
  obtain ⟨h2, h3⟩ := He.ba h2
  obtain ⟨h3, h4⟩ := He.ba h3
  exact ⟨h1, h2, of_decide_eq_true h3, of_decide_eq_true h4⟩
theorem exm_ok {y : Str} {b : Bool} (c : (He.Fa.exm x y b).ok K = true) : PySem.W.exmOne K (.ref (He.ga K x)) (.ref (He.ga K y)) = some b := of_decide_eq_true c
end
/-! ### the checks -/
def eqB (a : Option Bool) (b : Bool) : Bool := decide (a = some b)
theorem eqB_ok {a : Option Bool} {b : Bool} (h : eqB a b = true) : a = some b := of_decide_eq_true h
def clsB (K : PySem.W.Frag) (C : Addr) : Bool := He.eqO (PySem.W.findIn K (.ref C) "__class__") (some (some (.builtin "object.__class__"))) && (He.eqO (PySem.W.specialIn K (.builtin "object.__class__") "__get__") (some (some (.builtin "getset_descriptor.__get__"))) &&
  (eqB (PySem.W.takesIn K (.builtin "object.__class__")) true && eqB (PySem.W.mroIn K C (.type "object")) true))
def kfB (x : Str) (K : PySem.W.Frag) : Bool := (He.Fa.cls x).ok K && (clsB K (He.ga K x) && ((["int", "bool", "str", "tuple"].all fun n => eqB (PySem.W.kitOne K (.ref (He.ga K x)) (.type n)) false) && (eqB (PySem.W.kitOne K (.ref (He.ga K x)) (.ref (He.ga K x))) true &&
  (["NoneType", "bool", "int", "str", "tuple", "list", "dict"].all fun n => eqB (PySem.W.kitOne K (.type n) (.ref (He.ga K x))) false))))
theorem kf_ok {x : Str} {K : PySem.W.Frag} (h : kfB x K = true) : Kf K (He.ga K x) := by
  obtain ⟨h1, h2⟩ := He.ba h
  obtain ⟨h2, h3⟩ := He.ba h2
  obtain ⟨h3, h4⟩ := He.ba h3
  obtain ⟨h4, h5⟩ := He.ba h4
  obtain ⟨g1, g2⟩ := He.ba h2
  obtain ⟨g2, g3⟩ := He.ba g2
  obtain ⟨g3, g4⟩ := He.ba g3
  have a := fun n m => eqB_ok (List.all_eq_true.mp h3 n m)
  have b := fun n m => eqB_ok (List.all_eq_true.mp h5 n m)
  exact ⟨cls_ok h1, He.eqO_ok g1, He.eqO_ok g2, eqB_ok g3, eqB_ok g4, a "int" (by simp), a "bool" (by simp), a "str" (by simp), a "tuple" (by simp), eqB_ok h4,
    b "NoneType" (by simp), b "bool" (by simp), b "int" (by simp), b "str" (by simp), b "tuple" (by simp), b "list" (by simp), b "dict" (by simp)⟩
def excB (x : Str) (K : PySem.W.Frag) : Bool := He.eqO (PySem.W.findIn K (.ref (He.ga K x)) "__getattribute__") (some (some (.builtin "BaseException.__getattribute__"))) && (He.eqO (PySem.W.findIn K (.ref (He.ga K x)) "__getattr__") (some none) &&
  (eqB (PySem.W.subIn K (.ref (He.ga K x)) (.type "BaseException")) true && (PySem.W.hasDictIn K (He.ga K x) && clsB K (He.ga K x))))
theorem excC_ok {x : Str} {K : PySem.W.Frag} (h : excB x K = true) : ExcC K (He.ga K x) := by
  obtain ⟨h1, h2⟩ := He.ba h
  obtain ⟨h2, h3⟩ := He.ba h2
  obtain ⟨h3, h4⟩ := He.ba h3
  obtain ⟨h4, h5⟩ := He.ba h4
  obtain ⟨g1, g2⟩ := He.ba h5
  obtain ⟨g2, g3⟩ := He.ba g2
  obtain ⟨g3, g4⟩ := He.ba g3
  exact ⟨He.eqO_ok h1, He.eqO_ok h2, eqB_ok h3, h4, He.eqO_ok g1, He.eqO_ok g2, eqB_ok g3, eqB_ok g4⟩
end Fl
/-! the head's Hook with checks and tables -/
namespace Fl
open PySem PySem.Spec PyProof.Rows L2
abbrev AlKT : Type := AlK × List (Option (List (Option (Str × Int))))
def obsKT (ck : List Ck) (fa : List He.Fa) (fn : List He.DefD) (ts : List He.Tab) (K : PySem.W.Frag) : AlKT := (obsK ck fa fn K, ts.map fun t => He.dicW K (t.1 K))
def valKT (fn : List He.DefD) (ts : List He.Tab) (w : World) : AlKT := (valK fn, ts.map fun t => some (He.keysIn w.params t.2))
def SaysKT (ck : List Ck) (fa : List He.Fa) (fn : List He.DefD) (ts : List He.Tab) (w : World) (K : PySem.W.Frag) : Prop := obsKT ck fa fn ts K = valKT fn ts w
def obsKTG (n : Nat) (ck : List Ck) (fa : List He.Fa) (fn : List He.DefD) (ts : List He.Tab) (g : Addr → Option Obj) : AlKT := obsKT ck fa fn ts (He.frG g (He.asD g n))
def hookKT (n : Nat) (ck : List Ck) (fa : List He.Fa) (fn : List He.DefD) (ts : List He.Tab) : PySem.W.Hook where
  α := AlKT
  obs := fun s => obsKTG n ck fa fn ts s.heap.get?
  val := fun w => valKT fn ts w
  says := fun w h => ∃ K : PySem.W.Frag, K.In h ∧ SaysKT ck fa fn ts w K
  of := fun _ _ e => ⟨_, He.frG_in, e⟩
  keeps := fun _ _ _ ⟨K, hK, c⟩ k => ⟨K, PySem.W.Frag.In.keeps hK k, c⟩
theorem obsKTG_eq {n : Nat} {ck : List Ck} {fa : List He.Fa} {fn : List He.DefD} {ts : List He.Tab} {g : Addr → Option Obj} {s : Shared} (h : ∀ a, g a = s.heap.get? a) : obsKTG n ck fa fn ts g = (hookKT n ck fa fn ts).obs s := by
  have e : g = s.heap.get? := funext h
  rw [e] <;> rfl
section
variable {ck : List Ck} {fa : List He.Fa} {fn : List He.DefD} {ts : List He.Tab} {w : World} {K : PySem.W.Frag}
theorem SaysKT.k (c : SaysKT ck fa fn ts w K) : SaysK ck fa fn K := congrArg (fun z : AlKT => z.1) c
theorem SaysKT.tab (c : SaysKT ck fa fn ts w K) (i : Nat) {t : He.Tab} (h : ts[i]? = some t := by rfl) : ∃ es n, KDict K w (t.1 K) es n := by
  have e : ts.map (fun t => He.dicW K (t.1 K)) = ts.map fun t => some (He.keysIn w.params t.2) := congrArg (fun z : AlKT => z.2) c
  have e2 : (ts.map fun t => He.dicW K (t.1 K))[i]? = (ts.map fun t => some (He.keysIn w.params t.2))[i]? := by rw [e]
  rw [List.getElem?_map, List.getElem?_map, h] at e2
  exact He.dicW_ok (Option.some.inj e2)
end
theorem FnG.mono {P : Program} {w : World} {K : PySem.W.Frag} {mg : Str → Option Value} {base : Heap} {k k' : Nat} {f : Addr} {fd : FuncData} {ps : List Str} {sp : Sp} (F : FnG P w K mg base k f fd ps sp) (h : k ≤ k') : FnG P w K mg base k' f fd ps sp :=
  ⟨F.len, fun A outer s H args us vs Q E hr => F.run A outer s H args us vs Q E (hr.mono h)⟩
theorem Cg.mono {P : Program} {w : World} {K : PySem.W.Frag} {mg : Str → Option Value} {base : Heap} {k k' : Nat} {x : Str} {ps : List Str} {sp : Sp} (c : Cg P w K mg base k x ps sp) (h : k ≤ k') : Cg P w K mg base k' x ps sp := by
  obtain ⟨f, fd, F, b, kp, g, l⟩ := c.ex
  exact ⟨f, fd, F.mono h, b, kp, g, l⟩
/-- a row of words of the top -/
def rowB (x : Str) (ws : List Str) (K : PySem.W.Frag) : Bool := match K.lookup (He.ga K x) with
  | some ⟨.type c, _, .seq its _, _⟩ => decide (c = "tuple") && (Nat.ble its.size 1000 && He.relAll (ws.map V.str) its.toList)
  | _ => false
theorem row_ok {x : Str} {ws : List Str} {K : PySem.W.Frag} (h : rowB x ws K = true) (H : Hp) : SqT K H (He.ga K x) (ws.map V.str) := by
  unfold rowB at h
  split at h
  · rename_i c d its n sl e
    obtain ⟨h1, h2⟩ := He.ba h
    obtain ⟨h2, h3⟩ := He.ba h2
    have e1 : c = "tuple" := of_decide_eq_true h1
    subst e1
    exact .inr ⟨_, its, n, e, rfl, rfl, Nat.le_trans (Nat.le_of_ble_eq_true h2) (by decide), He.relAll_ok h3⟩
  · cases h
end Fl
namespace Fl
open PySem PySem.Spec PyProof.Rows L2
noncomputable def numWs : List Str := ["add", "less", "times", "below"]
noncomputable def fn : List He.DefD := [dS "is_number" s_is_number, dS "is_word" s_is_word, dS "is_made_of" s_is_made_of, dS "is_worth" s_is_worth, dS "is_plain" s_is_plain, dS "need_worth" s_need_worth, dS "sort_of" s_sort_of, dS "are_same" s_are_same, dS "leaf_told" s_leaf_told, dS "told" s_told, dS "is_limit" s_is_limit, dS "is_a_name" s_is_a_name, dS "are_names" s_are_names, dS "is_formed" s_is_formed, dS "reckoned" s_reckoned, dS "done_by" s_done_by] ++ [dS "run" s_run, dS "run_told" s_run_told, dS "_law_mixed" s_law_mixed, dS "_law_state" s_law_state, dS "_law_next" s_law_next, dS "_law_words" s_law_words, dS "_law_stop" s_law_stop, dS "_law_is_name" s_law_is_name, dS "_law_is_form" s_law_is_form, dS "_law_all" s_law_all, dS "_law_is_plain" s_law_is_plain, dS "_law_kind" s_law_kind, dS "_law_done" s_law_done, dS "_law_form" s_law_form, dS "_law_call" s_law_call, dS "_law_reckon" s_law_reckon] ++ [dS "_law_floor" s_law_floor, dS "_law_told" s_law_told, dS "_law_telling" s_law_telling, dS "_law_right" s_law_right, dS "_law_plain" s_law_plain, dS "_law_near" s_law_near, dS "_law_part" s_law_part, dS "_law_form_of" s_law_form_of, dS "law" s_law, dM "Function" "__init__" "Function.__init__" s_Function___init__, dM "Function" "names" "Function.names" s_Function_names, dM "Function" "body" "Function.body" s_Function_body, dM "Function" "scope" "Function.scope" s_Function_scope, dM "Function" "own" "Function.own" s_Function_own, dM "Waiting" "__init__" "Waiting.__init__" s_Waiting___init__, dM "Reckoning" "__init__" "Reckoning.__init__" s_Reckoning___init__] ++ [dM "Reckoning" "comes_to" "Reckoning.comes_to" s_Reckoning_comes_to, dM "Reckoning" "next_is" "Reckoning.next_is" s_Reckoning_next_is, dM "Reckoning" "ends" "Reckoning.ends" s_Reckoning_ends, dM "Reckoning" "go" "Reckoning.go" s_Reckoning_go, dM "Reckoning" "begins" "Reckoning.begins" s_Reckoning_begins, dM "Reckoning" "named" "Reckoning.named" s_Reckoning_named, dM "Reckoning" "waits_for" "Reckoning.waits_for" s_Reckoning_waits_for, dM "Reckoning" "formed" "Reckoning.formed" s_Reckoning_formed, dM "Reckoning" "goes_on" "Reckoning.goes_on" s_Reckoning_goes_on, dM "Reckoning" "all_come" "Reckoning.all_come" s_Reckoning_all_come, dM "Reckoning" "called" "Reckoning.called" s_Reckoning_called, dM "Reckoning" "run_below" "Reckoning.run_below" s_Reckoning_run_below]
noncomputable def fa : List He.Fa := [.glo "is_number", .glo "is_word", .glo "is_made_of", .glo "is_worth", .glo "is_plain", .glo "need_worth", .glo "sort_of", .glo "are_same", .glo "leaf_told", .glo "told", .glo "is_limit", .glo "is_a_name", .glo "are_names", .glo "is_formed", .glo "reckoned", .glo "done_by"] ++ [.glo "run", .glo "run_told", .glo "_law_mixed", .glo "_law_state", .glo "_law_next", .glo "_law_words", .glo "_law_stop", .glo "_law_is_name", .glo "_law_is_form", .glo "_law_all", .glo "_law_is_plain", .glo "_law_kind", .glo "_law_done", .glo "_law_form", .glo "_law_call", .glo "_law_reckon"] ++ [.glo "_law_floor", .glo "_law_told", .glo "_law_telling", .glo "_law_right", .glo "_law_plain", .glo "_law_near", .glo "_law_part", .glo "_law_form_of", .glo "law", .glo "Function", .glo "Waiting", .glo "Reckoning", .glo "BadWorth", .glo "BadLimit", .glo "FORMS", .glo "NUMBERS"] ++ [.free "isinstance", .free "int", .free "bool", .free "str", .free "tuple", .free "abs", .free "all", .free "len", .free "set", .free "min", .free "zip", .free "list", .free "range", .free "repr", .int "MOST_NUMBER" 1000000000, .int "MOST_SIGNS" 8] ++ [.int "MOST_STEPS" 100000, .str "SMALL" "abcdefghijklmnopqrstuvwxyz", .exc "BadWorth", .exc "BadLimit", .cls "Waiting", .cls "Reckoning", .mkr "Function", .mkr "Waiting", .mkr "Reckoning", .noat "Function" "params", .noat "Function" "part", .noat "Function" "known", .noat "Function" "mine", .noat "Waiting" "word", .noat "Waiting" "around", .noat "Waiting" "own_parts"] ++ [.noat "Waiting" "worths", .noat "Reckoning" "so_far", .noat "Reckoning" "floor_rows", .noat "Reckoning" "waits", .noat "Reckoning" "part", .noat "Reckoning" "around", .noat "Reckoning" "is_done", .noat "Reckoning" "outcome", .noat "Reckoning" "telling", .meth "Function" "names", .meth "Function" "body", .meth "Function" "scope", .meth "Function" "own", .meth "Reckoning" "comes_to", .meth "Reckoning" "next_is", .meth "Reckoning" "ends"] ++ [.meth "Reckoning" "go", .meth "Reckoning" "begins", .meth "Reckoning" "named", .meth "Reckoning" "waits_for", .meth "Reckoning" "formed", .meth "Reckoning" "goes_on", .meth "Reckoning" "all_come", .meth "Reckoning" "called", .meth "Reckoning" "run_below"]
noncomputable def ck : List Ck := [kfB "Function", tabB "FORMS", rowB "NUMBERS" numWs]
noncomputable def tabs : List He.Tab := [(fun K => He.ga K "FORMS", formList.map fun p => p.1)]
abbrev R : PySem.W.OpenRow := PySem.W.OpenLaw.row PySem.Challenge.rw_floorhall_k12_rows_and_kinds
noncomputable abbrev hk : PySem.W.Hook := hookKT 5 ck fa fn tabs
noncomputable def ob (s : PySem.W.SharedT) : AlKT := obsKTG 5 ck fa fn tabs (HandSHeadRun.getT s)
theorem ob_eq (s : PySem.W.SharedT) : ob s = hk.obs s.abs := obsKTG_eq (HandSHeadRun.getT_eq s)
abbrev nms : List Str := (["__name__", "FloorError", "BadWorth", "BadLimit", "MOST_NUMBER", "MOST_SIGNS", "SMALL", "Function", "is_number", "is_word", "is_made_of", "is_worth", "is_plain", "need_worth", "sort_of", "are_same"] : List PySem.Str) ++ (["leaf_told", "told", "MOST_STEPS", "FORMS", "NUMBERS", "is_limit", "is_a_name", "are_names", "is_formed", "reckoned", "done_by", "Waiting", "Reckoning", "run", "run_told", "_law_mixed"] : List PySem.Str) ++ (["_law_state", "_law_next", "_law_words", "_law_stop", "_law_is_name", "_law_is_form", "_law_all", "_law_is_plain", "_law_kind", "_law_done", "_law_form", "_law_call", "_law_reckon", "_law_floor", "_law_told", "_law_telling"] : List PySem.Str) ++ (["_law_right", "_law_plain", "_law_near", "_law_part", "_law_form_of"] : List PySem.Str)
theorem runF (w : World) : HandSHeadRun.RunEq R (PySem.W.view R.prog [56]) hk ob 6000 nms (w.withFollow "special-get-raises" false) := by
  intro os
  kernel_rfl
theorem runT (w : World) : HandSHeadRun.RunEq R (PySem.W.view R.prog [56]) hk ob 6000 nms (w.withFollow "special-get-raises" true) := by
  intro os
  kernel_rfl
theorem run (w : World) : HandSHeadRun.RunEq R (PySem.W.view R.prog [56]) hk ob 6000 nms w :=
  PySem.W.byRow2 "special-get-raises" (P := fun w => HandSHeadRun.RunEq R (PySem.W.view R.prog [56]) hk ob 6000 nms w) runF runT w
end Fl
namespace Fl
open PySem PySem.Spec PyProof.Rows L2
theorem facts {P : Program} {w : World} {K : PySem.W.Frag} {h : Heap} {mg : Str → Option Value} (X : K.In h) (G : h.Ns mainGlobals mg) (ct : SaysKT ck fa fn tabs w K) (base : Heap) : Cg P w K mg base 80 "law" ["_law_script"] (spLaw K) := by
  have c := ct.k
  have F_is_number := fnp_ok (x := "is_number") (st := s_is_number) X G c 0 0
  have F_is_word := fnp_ok (x := "is_word") (st := s_is_word) X G c 1 1
  have F_is_made_of := fnp_ok (x := "is_made_of") (st := s_is_made_of) X G c 2 2
  have F_is_worth := fnp_ok (x := "is_worth") (st := s_is_worth) X G c 3 3
  have F_is_plain := fnp_ok (x := "is_plain") (st := s_is_plain) X G c 4 4
  have F_need_worth := fnp_ok (x := "need_worth") (st := s_need_worth) X G c 5 5
  have F_sort_of := fnp_ok (x := "sort_of") (st := s_sort_of) X G c 6 6
  have F_are_same := fnp_ok (x := "are_same") (st := s_are_same) X G c 7 7
  have F_leaf_told := fnp_ok (x := "leaf_told") (st := s_leaf_told) X G c 8 8
  have F_told := fnp_ok (x := "told") (st := s_told) X G c 9 9
  have F_is_limit := fnp_ok (x := "is_limit") (st := s_is_limit) X G c 10 10
  have F_is_a_name := fnp_ok (x := "is_a_name") (st := s_is_a_name) X G c 11 11
  have F_are_names := fnp_ok (x := "are_names") (st := s_are_names) X G c 12 12
  have F_is_formed := fnp_ok (x := "is_formed") (st := s_is_formed) X G c 13 13
  have F_reckoned := fnp_ok (x := "reckoned") (st := s_reckoned) X G c 14 14
  have F_done_by := fnp_ok (x := "done_by") (st := s_done_by) X G c 15 15
  have F_run := fnp_ok (x := "run") (st := s_run) X G c 16 16
  have F_run_told := fnp_ok (x := "run_told") (st := s_run_told) X G c 17 17
  have F__law_mixed := fnp_ok (x := "_law_mixed") (st := s_law_mixed) X G c 18 18
  have F__law_state := fnp_ok (x := "_law_state") (st := s_law_state) X G c 19 19
  have F__law_next := fnp_ok (x := "_law_next") (st := s_law_next) X G c 20 20
  have F__law_words := fnp_ok (x := "_law_words") (st := s_law_words) X G c 21 21
  have F__law_stop := fnp_ok (x := "_law_stop") (st := s_law_stop) X G c 22 22
  have F__law_is_name := fnp_ok (x := "_law_is_name") (st := s_law_is_name) X G c 23 23
  have F__law_is_form := fnp_ok (x := "_law_is_form") (st := s_law_is_form) X G c 24 24
  have F__law_all := fnp_ok (x := "_law_all") (st := s_law_all) X G c 25 25
  have F__law_is_plain := fnp_ok (x := "_law_is_plain") (st := s_law_is_plain) X G c 26 26
  have F__law_kind := fnp_ok (x := "_law_kind") (st := s_law_kind) X G c 27 27
  have F__law_done := fnp_ok (x := "_law_done") (st := s_law_done) X G c 28 28
  have F__law_form := fnp_ok (x := "_law_form") (st := s_law_form) X G c 29 29
  have F__law_call := fnp_ok (x := "_law_call") (st := s_law_call) X G c 30 30
  have F__law_reckon := fnp_ok (x := "_law_reckon") (st := s_law_reckon) X G c 31 31
  have F__law_floor := fnp_ok (x := "_law_floor") (st := s_law_floor) X G c 32 32
  have F__law_told := fnp_ok (x := "_law_told") (st := s_law_told) X G c 33 33
  have F__law_telling := fnp_ok (x := "_law_telling") (st := s_law_telling) X G c 34 34
  have F__law_right := fnp_ok (x := "_law_right") (st := s_law_right) X G c 35 35
  have F__law_plain := fnp_ok (x := "_law_plain") (st := s_law_plain) X G c 36 36
  have F__law_near := fnp_ok (x := "_law_near") (st := s_law_near) X G c 37 37
  have F__law_part := fnp_ok (x := "_law_part") (st := s_law_part) X G c 38 38
  have F__law_form_of := fnp_ok (x := "_law_form_of") (st := s_law_form_of) X G c 39 39
  have F_law := fnp_ok (x := "law") (st := s_law) X G c 40 40
  have F_Function___init__ := mtp_ok (C := "Function") (x := "__init__") (qn := "Function.__init__") (st := s_Function___init__) c 41
  have F_Function_names := mtp_ok (C := "Function") (x := "names") (qn := "Function.names") (st := s_Function_names) c 42
  have F_Function_body := mtp_ok (C := "Function") (x := "body") (qn := "Function.body") (st := s_Function_body) c 43
  have F_Function_scope := mtp_ok (C := "Function") (x := "scope") (qn := "Function.scope") (st := s_Function_scope) c 44
  have F_Function_own := mtp_ok (C := "Function") (x := "own") (qn := "Function.own") (st := s_Function_own) c 45
  have F_Waiting___init__ := mtp_ok (C := "Waiting") (x := "__init__") (qn := "Waiting.__init__") (st := s_Waiting___init__) c 46
  have F_Reckoning___init__ := mtp_ok (C := "Reckoning") (x := "__init__") (qn := "Reckoning.__init__") (st := s_Reckoning___init__) c 47
  have F_Reckoning_comes_to := mtp_ok (C := "Reckoning") (x := "comes_to") (qn := "Reckoning.comes_to") (st := s_Reckoning_comes_to) c 48
  have F_Reckoning_next_is := mtp_ok (C := "Reckoning") (x := "next_is") (qn := "Reckoning.next_is") (st := s_Reckoning_next_is) c 49
  have F_Reckoning_ends := mtp_ok (C := "Reckoning") (x := "ends") (qn := "Reckoning.ends") (st := s_Reckoning_ends) c 50
  have F_Reckoning_go := mtp_ok (C := "Reckoning") (x := "go") (qn := "Reckoning.go") (st := s_Reckoning_go) c 51
  have F_Reckoning_begins := mtp_ok (C := "Reckoning") (x := "begins") (qn := "Reckoning.begins") (st := s_Reckoning_begins) c 52
  have F_Reckoning_named := mtp_ok (C := "Reckoning") (x := "named") (qn := "Reckoning.named") (st := s_Reckoning_named) c 53
  have F_Reckoning_waits_for := mtp_ok (C := "Reckoning") (x := "waits_for") (qn := "Reckoning.waits_for") (st := s_Reckoning_waits_for) c 54
  have F_Reckoning_formed := mtp_ok (C := "Reckoning") (x := "formed") (qn := "Reckoning.formed") (st := s_Reckoning_formed) c 55
  have F_Reckoning_goes_on := mtp_ok (C := "Reckoning") (x := "goes_on") (qn := "Reckoning.goes_on") (st := s_Reckoning_goes_on) c 56
  have F_Reckoning_all_come := mtp_ok (C := "Reckoning") (x := "all_come") (qn := "Reckoning.all_come") (st := s_Reckoning_all_come) c 57
  have F_Reckoning_called := mtp_ok (C := "Reckoning") (x := "called") (qn := "Reckoning.called") (st := s_Reckoning_called) c 58
  have F_Reckoning_run_below := mtp_ok (C := "Reckoning") (x := "run_below") (qn := "Reckoning.run_below") (st := s_Reckoning_run_below) c 59
  have g_Function := He.glo_ok X G (c.d.fact 41 (f := .glo "Function") rfl)
  have g_Waiting := He.glo_ok X G (c.d.fact 42 (f := .glo "Waiting") rfl)
  have g_Reckoning := He.glo_ok X G (c.d.fact 43 (f := .glo "Reckoning") rfl)
  have g_BadWorth := He.glo_ok X G (c.d.fact 44 (f := .glo "BadWorth") rfl)
  have g_BadLimit := He.glo_ok X G (c.d.fact 45 (f := .glo "BadLimit") rfl)
  have g_FORMS := He.glo_ok X G (c.d.fact 46 (f := .glo "FORMS") rfl)
  have g_NUMBERS := He.glo_ok X G (c.d.fact 47 (f := .glo "NUMBERS") rfl)
  have z_isinstance := He.free_ok X G (c.d.fact 48 (f := .free "isinstance") rfl)
  have z_int := He.free_ok X G (c.d.fact 49 (f := .free "int") rfl)
  have z_bool := He.free_ok X G (c.d.fact 50 (f := .free "bool") rfl)
  have z_str := He.free_ok X G (c.d.fact 51 (f := .free "str") rfl)
  have z_tuple := He.free_ok X G (c.d.fact 52 (f := .free "tuple") rfl)
  have z_abs := He.free_ok X G (c.d.fact 53 (f := .free "abs") rfl)
  have z_all := He.free_ok X G (c.d.fact 54 (f := .free "all") rfl)
  have z_len := He.free_ok X G (c.d.fact 55 (f := .free "len") rfl)
  have z_set := He.free_ok X G (c.d.fact 56 (f := .free "set") rfl)
  have z_min := He.free_ok X G (c.d.fact 57 (f := .free "min") rfl)
  have z_zip := He.free_ok X G (c.d.fact 58 (f := .free "zip") rfl)
  have z_list := He.free_ok X G (c.d.fact 59 (f := .free "list") rfl)
  have z_range := He.free_ok X G (c.d.fact 60 (f := .free "range") rfl)
  have z_repr := He.free_ok X G (c.d.fact 61 (f := .free "repr") rfl)
  have c_MOST_NUMBER := ki_ok X G (c.d.fact 62 (f := .int "MOST_NUMBER" 1000000000) rfl)
  have c_MOST_SIGNS := ki_ok X G (c.d.fact 63 (f := .int "MOST_SIGNS" 8) rfl)
  have c_MOST_STEPS := ki_ok X G (c.d.fact 64 (f := .int "MOST_STEPS" 100000) rfl)
  have c_SMALL := ks_ok X G (c.d.fact 65 (f := .str "SMALL" "abcdefghijklmnopqrstuvwxyz") rfl)
  have x_BadWorth := exc_ok (c.d.fact 66 (f := .exc "BadWorth") rfl)
  have x_BadLimit := exc_ok (c.d.fact 67 (f := .exc "BadLimit") rfl)
  have cl_Waiting := cls_ok (c.d.fact 68 (f := .cls "Waiting") rfl)
  have cl_Reckoning := cls_ok (c.d.fact 69 (f := .cls "Reckoning") rfl)
  have mk_Function := mkr_ok (c.d.fact 70 (f := .mkr "Function") rfl)
  have mk_Waiting := mkr_ok (c.d.fact 71 (f := .mkr "Waiting") rfl)
  have mk_Reckoning := mkr_ok (c.d.fact 72 (f := .mkr "Reckoning") rfl)
  have na_Function_params := noat_ok (c.d.fact 73 (f := .noat "Function" "params") rfl)
  have na_Function_part := noat_ok (c.d.fact 74 (f := .noat "Function" "part") rfl)
  have na_Function_known := noat_ok (c.d.fact 75 (f := .noat "Function" "known") rfl)
  have na_Function_mine := noat_ok (c.d.fact 76 (f := .noat "Function" "mine") rfl)
  have na_Waiting_word := noat_ok (c.d.fact 77 (f := .noat "Waiting" "word") rfl)
  have na_Waiting_around := noat_ok (c.d.fact 78 (f := .noat "Waiting" "around") rfl)
  have na_Waiting_own_parts := noat_ok (c.d.fact 79 (f := .noat "Waiting" "own_parts") rfl)
  have na_Waiting_worths := noat_ok (c.d.fact 80 (f := .noat "Waiting" "worths") rfl)
  have na_Reckoning_so_far := noat_ok (c.d.fact 81 (f := .noat "Reckoning" "so_far") rfl)
  have na_Reckoning_floor_rows := noat_ok (c.d.fact 82 (f := .noat "Reckoning" "floor_rows") rfl)
  have na_Reckoning_waits := noat_ok (c.d.fact 83 (f := .noat "Reckoning" "waits") rfl)
  have na_Reckoning_part := noat_ok (c.d.fact 84 (f := .noat "Reckoning" "part") rfl)
  have na_Reckoning_around := noat_ok (c.d.fact 85 (f := .noat "Reckoning" "around") rfl)
  have na_Reckoning_is_done := noat_ok (c.d.fact 86 (f := .noat "Reckoning" "is_done") rfl)
  have na_Reckoning_outcome := noat_ok (c.d.fact 87 (f := .noat "Reckoning" "outcome") rfl)
  have na_Reckoning_telling := noat_ok (c.d.fact 88 (f := .noat "Reckoning" "telling") rfl)
  have me_Function_names := meth_ok (c.d.fact 89 (f := .meth "Function" "names") rfl)
  have me_Function_body := meth_ok (c.d.fact 90 (f := .meth "Function" "body") rfl)
  have me_Function_scope := meth_ok (c.d.fact 91 (f := .meth "Function" "scope") rfl)
  have me_Function_own := meth_ok (c.d.fact 92 (f := .meth "Function" "own") rfl)
  have me_Reckoning_comes_to := meth_ok (c.d.fact 93 (f := .meth "Reckoning" "comes_to") rfl)
  have me_Reckoning_next_is := meth_ok (c.d.fact 94 (f := .meth "Reckoning" "next_is") rfl)
  have me_Reckoning_ends := meth_ok (c.d.fact 95 (f := .meth "Reckoning" "ends") rfl)
  have me_Reckoning_go := meth_ok (c.d.fact 96 (f := .meth "Reckoning" "go") rfl)
  have me_Reckoning_begins := meth_ok (c.d.fact 97 (f := .meth "Reckoning" "begins") rfl)
  have me_Reckoning_named := meth_ok (c.d.fact 98 (f := .meth "Reckoning" "named") rfl)
  have me_Reckoning_waits_for := meth_ok (c.d.fact 99 (f := .meth "Reckoning" "waits_for") rfl)
  have me_Reckoning_formed := meth_ok (c.d.fact 100 (f := .meth "Reckoning" "formed") rfl)
  have me_Reckoning_goes_on := meth_ok (c.d.fact 101 (f := .meth "Reckoning" "goes_on") rfl)
  have me_Reckoning_all_come := meth_ok (c.d.fact 102 (f := .meth "Reckoning" "all_come") rfl)
  have me_Reckoning_called := meth_ok (c.d.fact 103 (f := .meth "Reckoning" "called") rfl)
  have me_Reckoning_run_below := meth_ok (c.d.fact 104 (f := .meth "Reckoning" "run_below") rfl)
  have kf := kf_ok (c.chk 0 (f := kfB "Function") rfl)
  have tab := tab_ok (c.chk 1 (f := tabB "FORMS") rfl)
  have num := row_ok (c.chk 2 (f := rowB "NUMBERS" numWs) rfl)
  have kd := ct.tab 0
  have tw : Tw K mg := ⟨kf, g_Function, z_isinstance, z_int, z_bool, z_str, z_tuple, z_abs, z_all, z_len, g_BadWorth, x_BadWorth, c_MOST_NUMBER, c_MOST_SIGNS, c_SMALL⟩
  have tl : Tl mg := ⟨z_isinstance, z_int, z_bool, z_str, z_tuple, z_list, z_abs, z_len, z_set, z_min, z_zip, z_repr⟩
  have tp : Tp K w mg := ⟨kf, ⟨g_FORMS, kd, tab⟩, z_isinstance, z_int, z_bool, z_str, z_tuple, z_all, z_len, z_set, z_min, z_zip, z_list, c_MOST_STEPS, c_MOST_NUMBER, g_FORMS, g_NUMBERS, num⟩
  have tm : Tm K w mg := ⟨tp, g_Function, cl_Waiting, cl_Reckoning, na_Waiting_word, na_Waiting_around, na_Waiting_own_parts, na_Waiting_worths, na_Reckoning_so_far, na_Reckoning_floor_rows, na_Reckoning_waits, na_Reckoning_part, na_Reckoning_around, na_Reckoning_is_done, na_Reckoning_outcome, na_Reckoning_telling⟩
  have tn : Tn K w mg := ⟨tm, g_BadLimit, x_BadLimit⟩
  have tt : Tt K mg := ⟨kf, g_Function, z_isinstance, z_tuple, z_len⟩
  have tc : Tc K := ⟨kf, na_Function_params, na_Function_part, na_Function_known, na_Function_mine⟩
  have te : Te mg := ⟨z_range, z_repr, z_tuple, z_len, z_zip, z_isinstance, z_int, z_bool, z_str, z_list⟩
  have B1 := ok_is_number (P := P) (w := w) (base := base) F_is_number tw
  have B2 := ok_is_word (P := P) (w := w) (base := base) F_is_word tw
  have B3 := ok_is_made_of F_is_made_of tw B1 B2
  have B4 := ok_is_worth F_is_worth B3
  have B5 := ok_is_plain F_is_plain B3
  have B6 := ok_need_worth F_need_worth tw B4
  have B8 := ok_leaf_told (P := P) (w := w) (base := base) F_leaf_told tt
  have B9 := ok_told F_told tt B6 B8
  have D1 := ok_is_limit (P := P) (base := base) F_is_limit tp
  have D2 := ok_is_a_name F_is_a_name tp B2
  have D3 := ok_are_names F_are_names tp D2
  have D4 := ok_is_formed F_is_formed tp D2 D3
  have D5 := ok_sort_of (P := P) (base := base) F_sort_of tp
  have D6 := ok_are_same F_are_same tp D5
  have D7 := ok_reckoned F_reckoned tp B1
  have D8 := ok_done_by (Nat.le_refl 3) F_done_by tp D7 B5 D6 D5
  have W1 := nw_Waiting (P := P) (base := base) F_Waiting___init__ tm mk_Waiting g_Waiting
  have W2 := nw_Function (P := P) (w := w) (mg := mg) (base := base) F_Function___init__ tc mk_Function g_Function
  have W3 := nw_Reckoning (P := P) (base := base) F_Reckoning___init__ tm mk_Reckoning g_Reckoning
  have M1 := mt_comes_to (P := P) (base := base) F_Reckoning_comes_to tm me_Reckoning_comes_to
  have M2 := mt_next_is (P := P) (base := base) F_Reckoning_next_is tm me_Reckoning_next_is
  have M3 := mt_ends F_Reckoning_ends tm me_Reckoning_ends M1
  have M4 := mt_named F_Reckoning_named tm me_Reckoning_named M1 M3
  have M5 := mt_waits_for F_Reckoning_waits_for tm me_Reckoning_waits_for W1 M2
  have M6 := mt_formed F_Reckoning_formed tm me_Reckoning_formed W1 W2 M1 M2 M5
  have M7 := mt_begins F_Reckoning_begins tm me_Reckoning_begins D4 M1 M3 M4 M5 M6
  have N1 := mt_names (P := P) (w := w) (mg := mg) (base := base) F_Function_names tc me_Function_names
  have N2 := mt_body (P := P) (w := w) (mg := mg) (base := base) F_Function_body tc me_Function_body
  have N3 := mt_scope (P := P) (w := w) (mg := mg) (base := base) F_Function_scope tc me_Function_scope
  have N4 := mt_own (P := P) (w := w) (mg := mg) (base := base) F_Function_own tc me_Function_own
  have M8 := mt_called F_Reckoning_called tm me_Reckoning_called M2 M3 N1 N2 N3 N4
  have M9 := mt_run_below F_Reckoning_run_below tm me_Reckoning_run_below D1 M2 M3
  have M10 := mt_all_come (L := 4) (by decide) F_Reckoning_all_come tm me_Reckoning_all_come D8 M1 M3 M8 M9
  have M11 := mt_goes_on (L := 5) (by decide) F_Reckoning_goes_on tm me_Reckoning_goes_on M2 M3 M10
  have M12 := mt_go (L := 6) (by decide) F_Reckoning_go tm me_Reckoning_go M3 M11 M7
  have R1 := ok_run (L := 7) (by decide) F_run tn B6 D1 W3 M12
  have R2 := ok_run_told (L := 8) (by decide) F_run_told R1 B9
  have C1 := ok_law_mixed (P := P) (w := w) (K := K) (base := base) F__law_mixed
  have C2 := ok_law_state (P := P) (w := w) (K := K) (base := base) F__law_state
  have C3 := ok_law_next F__law_next C1
  have L1 := ok_law_words (P := P) (w := w) (K := K) (base := base) F__law_words
  have L2 := ok_law_stop (P := P) (w := w) (K := K) (base := base) F__law_stop
  have L3 := ok_law_is_name F__law_is_name tl L1
  have L4 := ok_law_is_form F__law_is_form tl L3
  have L5 := ok_law_is_plain_all (P := P) (w := w) (K := K) (base := base) F__law_is_plain tl 41
  have L6 := ok_law_kind (P := P) (w := w) (K := K) (base := base) F__law_kind tl
  have L7 := ok_law_done (L := 1 + 41) (by decide) F__law_done tl L2 L6 (Nat.le_refl 41) L5
  have A0 := ok_law_reckon_none (P := P) (w := w) (K := K) (base := base) F__law_reckon (L := 43)
  have step : ∀ {L f : Nat}, 44 ≤ L → Cg P w K mg base L "_law_reckon" ["_law_state_here", "_law_part_here", "_law_scope", "_law_limit"] (spReckon f) → Cg P w K mg base (L + 3) "_law_reckon" ["_law_state_here", "_law_part_here", "_law_scope", "_law_limit"] (spReckon (f + 1)) ∧ Cg P w K mg base (L + 1) "_law_floor" ["_law_state_here", "_law_program", "_law_limit"] (spFloor f) := fun {L f} hL A => by
    have T1 := ok_law_all F__law_all A
    have T2 := ok_law_floor F__law_floor A
    have T3 := ok_law_call (show 1 ≤ L by omega) F__law_call tl L2 A
    have T4 := ok_law_form (show 3 ≤ L by omega) F__law_form tl L4 L2 L6 (L7.mono (by omega)) A T1 T2
    exact ⟨ok_law_reckon (show 3 ≤ L by omega) F__law_reckon tl L1 L2 T4 T1 T3, T2⟩
  have A : ∀ f, Cg P w K mg base (44 + 3 * f) "_law_reckon" ["_law_state_here", "_law_part_here", "_law_scope", "_law_limit"] (spReckon f) := fun f => by
    induction f with
    | zero => exact A0
    | succ f ih => exact (step (by omega) ih).1
  have AF := (step (by decide) (A 10)).2
  have G1 := ok_law_told_all (P := P) (w := w) (K := K) (base := base) F__law_told tl 25
  have G2 := ok_law_telling (L := 75) (by decide) F__law_telling AF G1
  have G3 := ok_law_right (L := 76) (by decide) (by decide) (R := 9) (by decide) F__law_right tl G2 R2
  have P0 := ok_law_plain_none (P := P) (w := w) (K := K) (base := base) F__law_plain (L := 2)
  have P1 := ok_law_plain (L := 3) (m := 0) (by decide) F__law_plain te C3 P0
  have P2 := ok_law_plain (L := 4) (m := 1) (by decide) F__law_plain te C3 P1
  have P3 := ok_law_plain (L := 5) (m := 2) (by decide) F__law_plain te C3 P2
  have P4 := ok_law_plain (L := 6) (m := 3) (by decide) F__law_plain te C3 P3
  have N0 := ok_law_near_none (P := P) (w := w) (K := K) (base := base) F__law_near (L := 2)
  have N1 := ok_law_near (L := 3) (m := 0) (by decide) F__law_near te C3 N0
  have N2 := ok_law_near (L := 4) (m := 1) (by decide) F__law_near te C3 N1
  have N3 := ok_law_near (L := 5) (m := 2) (by decide) F__law_near te C3 N2
  have N4 := ok_law_near (L := 6) (m := 3) (by decide) F__law_near te C3 N3
  have C4 := ok_law_part F__law_part te C3
  have C5 := ok_law_form_of F__law_form_of te C3
  exact (ok_law (L := 77) (by decide) F_law te C2 C3 P4 N4 C4 C5 G3 R2).mono (by decide)
end Fl
open PySem PySem.W PySem.Calls PyProof.Rows
theorem PySem.Challenge.cw_floorhall_k12_rows_and_kinds_holds : PySem.Challenge.rw_floorhall_k12_rows_and_kinds.Holds := by
  w_on; o_law
  refine HandSHeadRun.head_any (r := OpenLaw.row PySem.Challenge.rw_floorhall_k12_rows_and_kinds) (q := view (OpenLaw.row PySem.Challenge.rw_floorhall_k12_rows_and_kinds).prog [56]) (H := Fl.hk) (ob := Fl.ob) (M := 6000) (loose := Fl.nms) (d := HandSHeadRun.topDef (OpenLaw.row PySem.Challenge.rw_floorhall_k12_rows_and_kinds).prog 56) (kwd := []) Fl.ob_eq
    (by kernel_rfl) (fun s => by kernel_rfl) Fl.run (by kernel_rfl) (by kernel_rfl) (by kernel_rfl) (by rfl) (by first | assumption | decide +kernel) (by decide +kernel) ⟨rfl, rfl, rfl, rfl, rfl, by decide +kernel⟩ ?hw ?hc
  case hw => w_witness2
  case hc =>
    refine Fl.walk_ofN (l := PySem.Challenge.rw_floorhall_k12_rows_and_kinds) (n := 63) (k := 80) (x := "_law_script") (y := "law") rfl (by decide) (by kernel_rfl) ⟨rfl, by decide, by decide⟩ (by kernel_rfl) ?F
    intro w mg h Y G
    obtain ⟨K, KX, c⟩ := Y
    exact ⟨K, Fl.spLaw K, KX, fun H a ns hl hO hS => ⟨_, rfl, a, ns, rfl, Fl.scr_of hO hS, hl, fun _ => rfl⟩, fun base => Fl.facts KX G c base⟩
