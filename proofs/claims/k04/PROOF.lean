import PyProof.Rows.All
import Wide.All
import OpenK.AllK
import Wide.FinOn
import HandS.ForMost
import HandS.Wide
import HandS.IsInst
import HandS.DictComp
import HandS.SortInts
import HandS.TupAny
import HandS.Conv
import HandS.Strs
import HandS.Walk
import HandS.SetFor
import PySem.Challenge.RW_silentswaps_k04_compressed
set_option Elab.async false
set_option maxRecDepth 100000

set_option maxHeartbeats 4000000
/-! Rd: what the proofs of this repo share. Frames (Kp), data in the heap (Dt), defs as callers use them (Use), readings as rules from back to front (r_..), the tactic rows walk_at "s" (one step), walk_at "S" (many). -/
namespace Rd
open PySem PySem.Spec L2

/-! ### frames -/
def Kp (ex : List Addr) (H H' : Hp) : Prop := ∀ b o, H b = some o → b ∉ ex → H' b = some o
theorem Kp.refl (ex : List Addr) (H : Hp) : Kp ex H H := fun _ _ e _ => e
theorem Kp.trans {ex : List Addr} {H H1 H2 : Hp} (a : Kp ex H H1) (b : Kp ex H1 H2) : Kp ex H H2 := fun c o e n => b c o (a c o e n) n
theorem Kp.mono {ex ex' : List Addr} {H H' : Hp} (a : Kp ex H H') (s : ∀ b ∈ ex, b ∈ ex') : Kp ex' H H' := fun c o e n => a c o e fun m => n (s c m)
theorem Kp.nil {ex : List Addr} {H H' : Hp} (a : Kp [] H H') : Kp ex H H' := a.mono fun _ m => nomatch m
theorem Kp.drop {l : Addr} {ex : List Addr} {H H' : Hp} (a : Kp (l :: ex) H H') (n : H l = none) : Kp ex H H' := fun c o e m => by
  refine a c o e fun z => ?_
  rcases List.mem_cons.mp z with q | q
  · subst q
    rw [n] at e
    cases e
  · exact m q
theorem Kp.free {ex : List Addr} {H H' : Hp} {q : Addr} (a : Kp ex H H') (n : H' q = none) (m : q ∉ ex) : H q = none := by
  cases e : H q with
  | none => rfl
  | some o =>
    rw [a q o e m] at n
    cases n
theorem Kp.new {ex : List Addr} {H : Hp} {p : Addr} {o : HO} (n : H p = none) : Kp ex H (upd H p o) := fun b u e _ => by
  rw [upd_ne (ne_of_none e n)]
  exact e
theorem Kp.put {ex : List Addr} {H : Hp} {p : Addr} {o : HO} (m : p ∈ ex) : Kp ex H (upd H p o) := fun b u e n => by
  rw [upd_ne fun (z : b = p) => n (z ▸ m)]
  exact e
theorem Kp.get {ex : List Addr} {H H' : Hp} {b : Addr} {o : HO} (a : Kp ex H H') (e : H b = some o) (n : b ∉ ex) : H' b = some o := a b o e n
theorem Kp.sql {K : PySem.W.Frag} {H H' : Hp} {a : Addr} {xs : List V} (k : Kp [] H H') (h : SqL K H a xs) : SqL K H' a xs :=
  Same.seq (fun b o e => k b o e (by simp)) h
theorem not_nil {b : Addr} : b ∉ ([] : List Addr) := fun m => nomatch m
theorem not_one {b p : Addr} (h : b ≠ p) : b ∉ [p] := fun m => h (List.mem_singleton.mp m)
theorem not_two {b p q : Addr} (h : b ≠ p) (h' : b ≠ q) : b ∉ [p, q] := fun m => by
  rcases List.mem_cons.mp m with e | e
  · exact h e
  · exact h' (List.mem_singleton.mp e)
theorem ne_none {H : Hp} {a b : Addr} {o : HO} (h : H a = some o) (h' : H b = none) : b ≠ a := fun e => ne_of_none h h' e.symm

/-! ### data -/
mutual
inductive Dt (ex : List Addr) (H : Hp) : V → PyData → Prop
  | non : Dt ex H .non .none
  | bl (b : Bool) : Dt ex H (.bl b) (.bool b)
  | int (i : Int) : Dt ex H (.int i) (.int i)
  | str (x : Str) : Dt ex H (.str x) (.str x)
  | lst {a : Addr} {xs : List V} {ds : List PyData} : a ∉ ex → H a = some (.lst xs) → DtAll ex H xs ds → Dt ex H (.ref a) (.list ds)
  | tup {a : Addr} {xs : List V} {ds : List PyData} : a ∉ ex → H a = some (.tup xs) → DtAll ex H xs ds → Dt ex H (.ref a) (.tuple ds)
inductive DtAll (ex : List Addr) (H : Hp) : List V → List PyData → Prop
  | nil : DtAll ex H [] []
  | cons {v : V} {vs : List V} {d : PyData} {ds : List PyData} : Dt ex H v d → DtAll ex H vs ds → DtAll ex H (v :: vs) (d :: ds)
end
mutual
theorem Dt.mono' {ex ex' : List Addr} {H H' : Hp} (k : Kp ex H H') (s : ∀ b ∈ ex', b ∈ ex) : ∀ (d : PyData) (v : V), Dt ex H v d → Dt ex' H' v d
  | .none, _, h => by cases h; exact .non
  | .bool b, _, h => by cases h; exact .bl b
  | .int i, _, h => by cases h; exact .int i
  | .str x, _, h => by cases h; exact .str x
  | .list ds, _, h => by
    cases h with
    | lst n e al => exact .lst (fun m => n (s _ m)) (k _ _ e n) (DtAll.mono' k s ds _ al)
  | .tuple ds, _, h => by
    cases h with
    | tup n e al => exact .tup (fun m => n (s _ m)) (k _ _ e n) (DtAll.mono' k s ds _ al)
  | .dict _, _, h => by cases h
theorem DtAll.mono' {ex ex' : List Addr} {H H' : Hp} (k : Kp ex H H') (s : ∀ b ∈ ex', b ∈ ex) : ∀ (ds : List PyData) (vs : List V), DtAll ex H vs ds → DtAll ex' H' vs ds
  | [], _, h => by cases h; exact .nil
  | d :: ds, _, h => by
    cases h with
    | cons h1 h2 => exact .cons (Dt.mono' k s d _ h1) (DtAll.mono' k s ds _ h2)
end
theorem Dt.mono {ex : List Addr} {H H' : Hp} {v : V} {d : PyData} (h : Dt ex H v d) (k : Kp ex H H') : Dt ex H' v d := Dt.mono' k (fun _ m => m) d v h
theorem DtAll.mono {ex : List Addr} {H H' : Hp} {vs : List V} {ds : List PyData} (h : DtAll ex H vs ds) (k : Kp ex H H') : DtAll ex H' vs ds := DtAll.mono' k (fun _ m => m) ds vs h
theorem Dt.less {ex ex' : List Addr} {H : Hp} {v : V} {d : PyData} (h : Dt ex H v d) (s : ∀ b ∈ ex', b ∈ ex) : Dt ex' H v d := Dt.mono' (Kp.refl ex H) s d v h
theorem DtAll.less {ex ex' : List Addr} {H : Hp} {vs : List V} {ds : List PyData} (h : DtAll ex H vs ds) (s : ∀ b ∈ ex', b ∈ ex) : DtAll ex' H vs ds := DtAll.mono' (Kp.refl ex H) s ds vs h
mutual
theorem Dt.more' {ex : List Addr} {H : Hp} {l : Addr} (n : H l = none) : ∀ (d : PyData) (v : V), Dt ex H v d → Dt (l :: ex) H v d
  | .none, _, h => by cases h; exact .non
  | .bool b, _, h => by cases h; exact .bl b
  | .int i, _, h => by cases h; exact .int i
  | .str x, _, h => by cases h; exact .str x
  | .list ds, _, h => by
    cases h with
    | lst m e al => exact .lst (fun z => (List.mem_cons.mp z).elim (ne_of_none e n) m) e (DtAll.more' n ds _ al)
  | .tuple ds, _, h => by
    cases h with
    | tup m e al => exact .tup (fun z => (List.mem_cons.mp z).elim (ne_of_none e n) m) e (DtAll.more' n ds _ al)
  | .dict _, _, h => by cases h
theorem DtAll.more' {ex : List Addr} {H : Hp} {l : Addr} (n : H l = none) : ∀ (ds : List PyData) (vs : List V), DtAll ex H vs ds → DtAll (l :: ex) H vs ds
  | [], _, h => by cases h; exact .nil
  | d :: ds, _, h => by
    cases h with
    | cons h1 h2 => exact .cons (Dt.more' n d _ h1) (DtAll.more' n ds _ h2)
end
/-- an address that is new to the heap is none of the data's -/
theorem Dt.more {ex : List Addr} {H : Hp} {v : V} {d : PyData} {l : Addr} (h : Dt ex H v d) (n : H l = none) : Dt (l :: ex) H v d := Dt.more' n d v h
theorem DtAll.more {ex : List Addr} {H : Hp} {vs : List V} {ds : List PyData} {l : Addr} (h : DtAll ex H vs ds) (n : H l = none) : DtAll (l :: ex) H vs ds := DtAll.more' n ds vs h
mutual
theorem Dt.dp' {K : PySem.W.Frag} {ex : List Addr} {H : Hp} : ∀ (d : PyData) (v : V), Dt ex H v d → Dp K H v d
  | .none, _, h => by cases h; exact .non
  | .bool b, _, h => by cases h; exact .bl b
  | .int i, _, h => by cases h; exact .int i
  | .str x, _, h => by cases h; exact .str x
  | .list ds, _, h => by
    cases h with
    | lst n e al => exact .lst (SqL.of e) (DtAll.dp' ds _ al)
  | .tuple ds, _, h => by
    cases h with
    | tup n e al => exact .tup (SqT.of e) (DtAll.dp' ds _ al)
  | .dict _, _, h => by cases h
theorem DtAll.dp' {K : PySem.W.Frag} {ex : List Addr} {H : Hp} : ∀ (ds : List PyData) (vs : List V), DtAll ex H vs ds → DpAll K H vs ds
  | [], _, h => by cases h; exact .nil
  | d :: ds, _, h => by
    cases h with
    | cons h1 h2 => exact .cons (Dt.dp' d _ h1) (DtAll.dp' ds _ h2)
end
theorem Dt.dp {K : PySem.W.Frag} {ex : List Addr} {H : Hp} {v : V} {d : PyData} (h : Dt ex H v d) : Dp K H v d := Dt.dp' d v h
theorem Dt.list {ex : List Addr} {H : Hp} {v : V} {ds : List PyData} (h : Dt ex H v (.list ds)) : ∃ a xs, v = .ref a ∧ a ∉ ex ∧ H a = some (.lst xs) ∧ DtAll ex H xs ds := by
  cases h with
  | lst n e al => exact ⟨_, _, rfl, n, e, al⟩
theorem Dt.tuple {ex : List Addr} {H : Hp} {v : V} {ds : List PyData} (h : Dt ex H v (.tuple ds)) : ∃ a xs, v = .ref a ∧ a ∉ ex ∧ H a = some (.tup xs) ∧ DtAll ex H xs ds := by
  cases h with
  | tup n e al => exact ⟨_, _, rfl, n, e, al⟩
theorem DtAll.length {ex : List Addr} {H : Hp} : ∀ {vs : List V} {ds : List PyData}, DtAll ex H vs ds → vs.length = ds.length
  | [], _, h => by cases h; rfl
  | _ :: _, _, h => by
    cases h with
    | cons _ h2 => exact congrArg (· + 1) (DtAll.length h2)
theorem DtAll.at {ex : List Addr} {H : Hp} : ∀ {vs : List V} {ds : List PyData} {i : Nat} {v : V}, DtAll ex H vs ds → vs[i]? = some v → ∃ d, ds[i]? = some d ∧ Dt ex H v d
  | [], _, i, v, h, e => by simp at e
  | _ :: _, _, 0, v, h, e => by
    cases h with
    | cons h1 _ =>
      cases e
      exact ⟨_, rfl, h1⟩
  | _ :: _, _, i + 1, v, h, e => by
    cases h with
    | cons _ h2 => exact DtAll.at (i := i) h2 e
theorem DtAll.append {ex : List Addr} {H : Hp} : ∀ {vs ws : List V} {ds es : List PyData}, DtAll ex H vs ds → DtAll ex H ws es → DtAll ex H (vs ++ ws) (ds ++ es)
  | [], _, _, _, h, g => by cases h; exact g
  | _ :: _, _, _, _, h, g => by
    cases h with
    | cons h1 h2 => exact .cons h1 (DtAll.append h2 g)
theorem DtAll.snoc {ex : List Addr} {H : Hp} {vs : List V} {ds : List PyData} {v : V} {d : PyData} (h : DtAll ex H vs ds) (g : Dt ex H v d) : DtAll ex H (vs ++ [v]) (ds ++ [d]) := h.append (.cons g .nil)
theorem DtAll.strs {ex : List Addr} {H : Hp} : ∀ {vs : List V} {ws : List Str}, DtAll ex H vs (ws.map PyData.str) → vs = ws.map V.str
  | [], [], _ => rfl
  | [], _ :: _, h => by cases h
  | _ :: _, [], h => by cases h
  | v :: vs, w :: ws, h => by
    cases h with
    | cons h1 h2 =>
      cases h1
      rw [DtAll.strs h2]
      rfl
theorem DtAll.of_strs {ex : List Addr} {H : Hp} : ∀ (ws : List Str), DtAll ex H (ws.map V.str) (ws.map PyData.str)
  | [] => .nil
  | w :: ws => .cons (.str w) (DtAll.of_strs ws)
theorem DtAll.ints {ex : List Addr} {H : Hp} : ∀ {vs : List V} {ns : List Int}, DtAll ex H vs (ns.map PyData.int) → vs = ns.map V.int
  | [], [], _ => rfl
  | [], _ :: _, h => by cases h
  | _ :: _, [], h => by cases h
  | v :: vs, w :: ws, h => by
    cases h with
    | cons h1 h2 =>
      cases h1
      rw [DtAll.ints h2]
      rfl
theorem DtAll.of_ints {ex : List Addr} {H : Hp} : ∀ (ns : List Int), DtAll ex H (ns.map V.int) (ns.map PyData.int)
  | [] => .nil
  | n :: ns => .cons (.int n) (DtAll.of_ints ns)
/-- a pair of a text and a number -/
theorem Dt.pair {ex : List Addr} {H : Hp} {v : V} {x : Str} {n : Int} (h : Dt ex H v (.tuple [.str x, .int n])) : ∃ a, v = .ref a ∧ a ∉ ex ∧ H a = some (.tup [.str x, .int n]) := by
  obtain ⟨a, xs, rfl, m, e, al⟩ := h.tuple
  cases al with
  | cons h1 h2 =>
    cases h2 with
    | cons h3 h4 =>
      cases h4
      cases h1
      cases h3
      exact ⟨a, rfl, m, e⟩

/-! ### a def as its callers use it -/
def Use (P : Program) (w : World) (K : PySem.W.Frag) (mg : Str → Option Value) (base : Heap) (n : Nat) (x : Str) (ps : List Str) (sp : Sp) : Prop :=
  ∃ f fd, FnOk P w K mg base CX0 n f fd ps sp ∧ mg x = some (.ref f) ∧ PySem.W.keepIn K (.ref f) = true ∧ Binds K fd ps []
def tUse (sp : Sp) (t : TA) : TE := fun σ H Q => t σ H fun vs H1 => sp vs H1 Q E0
theorem tUse_eq (sp : Sp) (t : TA) : tCall sp [] E0 t = tUse sp t := by
  funext σ H Q
  show (t σ H fun vs H1 => sp (vs ++ []) H1 Q E0) = (t σ H fun vs H1 => sp vs H1 Q E0)
  simp only [List.append_nil]
theorem pe_use {X : Cx} {n : Nat} {x : Str} {ps : List Str} {sp : Sp} {e : Expr} {es : List Expr} {t : TA} {p pos : Pos} (U : Use X.prog X.w X.K X.mg X.base n x ps sp) (hr : Room n X.A) (hg : Gl X x) (ha : PA X (e :: es) t)
    (hdb : (x == ("__debug__" : Str)) = false := by decide) (he : starEach (e :: es) X.env = (false, eval e X.env) :: starEach es X.env := by rfl) (hpl : (backTo pos (starEach es X.env)).any (·.1) = false := by rfl) :
    PE X (.Call (.Name x p) (e :: es) [] pos) (tUse sp t) := by
  obtain ⟨f, fd, F, hm, hk, hb⟩ := U
  rw [← tUse_eq]
  exact pe_call F hr hg hm hk hb .nil pass0 ha hdb he hpl
theorem pe_use0 {X : Cx} {n : Nat} {x : Str} {ps : List Str} {sp : Sp} {p pos : Pos} (U : Use X.prog X.w X.K X.mg X.base n x ps sp) (hr : Room n X.A) (hg : Gl X x)
    (hdb : (x == ("__debug__" : Str)) = false := by decide) : PE X (.Call (.Name x p) [] [] pos) (tUse sp tNil) := by
  obtain ⟨f, fd, F, hm, hk, hb⟩ := U
  rw [← tUse_eq]
  exact pe_call0 F hr hg hm hk hb .nil pass0 hdb
/-- not A as a value, A a test of any kind -/
theorem pe_notP {X : Cx} {a : Expr} {t : TE} {pos : Pos} (h : PE X a t) : PE X (.UnaryOp .Not a pos) (tNotV t) := pe_not h

/-! ### readings, from back to front -/
section
variable {σ : St} {H : Hp} {Q : VK} {QB : Bool → Hp → Prop} {QA : List V → Hp → Prop} {v x y : V} {i : Nat} {ta tb tc te tv td ty : TE} {t u c : TT} {tr : TA} {r : R2} {g : TG} {gs : TGs}
  {nx bk ct : St → Hp → Prop} {rt : VK} {t1 t2 : TS} {K : PySem.W.Frag} {b : Bool}
theorem r_var (h : σ[i]? = some (some v)) (q : Q v H) : tVar i σ H Q := ⟨v, h, q⟩
theorem r_c (q : Q v H) : tC v σ H Q := q
theorem r_op (q : ta σ H fun x H1 => tb σ H1 fun y H2 => r x y H2 Q) : tOp r ta tb σ H Q := q
theorem r_un {f : V → Hp → VK → Prop} (q : ta σ H fun x H1 => f x H1 Q) : tUn f ta σ H Q := q
def kB (QB : Bool → Hp → Prop) : VK := fun x H => ∃ k, x = .bl k ∧ QB k H
theorem r_kB (q : QB b H) : kB QB (.bl b) H := ⟨b, rfl, q⟩
theorem r_test (q : te σ H (kB QB)) : tTest te σ H QB := q
theorem r_tB (q : te σ H (kB QB)) : tB te σ H QB := q
def kAnd (u : TT) (σ : St) (QB : Bool → Hp → Prop) : Bool → Hp → Prop := fun c H => if c = true then u σ H QB else QB false H
def kOr (u : TT) (σ : St) (QB : Bool → Hp → Prop) : Bool → Hp → Prop := fun c H => if c = true then QB true H else u σ H QB
theorem r_and (q : t σ H (kAnd u σ QB)) : tAnd t u σ H QB := q
theorem r_or (q : t σ H (kOr u σ QB)) : tOr t u σ H QB := q
theorem r_not (q : t σ H fun c H1 => QB (!c) H1) : tNot t σ H QB := q
theorem r_kAnd (h1 : b = true → u σ H QB) (h2 : b = false → QB false H) : kAnd u σ QB b H := by
  unfold kAnd
  cases b
  · exact h2 rfl
  · exact h1 rfl
theorem r_kOr (h1 : b = true → QB true H) (h2 : b = false → u σ H QB) : kOr u σ QB b H := by
  unfold kOr
  cases b
  · exact h2 rfl
  · exact h1 rfl
theorem r_kAnd1 (h : b = true) (q : u σ H QB) : kAnd u σ QB b H := by
  subst h
  exact q
theorem r_kAnd0 (h : b = false) (q : QB false H) : kAnd u σ QB b H := by
  subst h
  exact q
theorem r_kOr1 (h : b = true) (q : QB true H) : kOr u σ QB b H := by
  subst h
  exact q
theorem r_kOr0 (h : b = false) (q : u σ H QB) : kOr u σ QB b H := by
  subst h
  exact q
def kAndV (tb : TE) (σ : St) (Q : VK) : VK := fun x H1 => ∃ c, x = .bl c ∧ if c = true then tb σ H1 Q else Q (.bl false) H1
def kOrV (tb : TE) (σ : St) (Q : VK) : VK := fun x H1 => ∃ c, x = .bl c ∧ if c = true then Q (.bl true) H1 else tb σ H1 Q
theorem r_andV (q : ta σ H (kAndV tb σ Q)) : tAndV ta tb σ H Q := q
theorem r_orV (q : ta σ H (kOrV tb σ Q)) : tOrV ta tb σ H Q := q
theorem r_kAndV (h1 : b = true → tb σ H Q) (h2 : b = false → Q (.bl false) H) : kAndV tb σ Q (.bl b) H := by
  refine ⟨b, rfl, ?_⟩
  cases b
  · exact h2 rfl
  · exact h1 rfl
theorem r_kOrV (h1 : b = true → Q (.bl true) H) (h2 : b = false → tb σ H Q) : kOrV tb σ Q (.bl b) H := by
  refine ⟨b, rfl, ?_⟩
  cases b
  · exact h2 rfl
  · exact h1 rfl
def kNotV (Q : VK) : VK := fun x H1 => ∃ c, x = .bl c ∧ Q (.bl (!c)) H1
theorem r_notV (q : ta σ H (kNotV Q)) : tNotV ta σ H Q := q
theorem r_kNotV (q : Q (.bl (!b)) H) : kNotV Q (.bl b) H := ⟨b, rfl, q⟩
def kIf (ta tb : TE) (σ : St) (Q : VK) : Bool → Hp → Prop := fun c H => if c = true then ta σ H Q else tb σ H Q
theorem r_if (q : t σ H (kIf ta tb σ Q)) : tIf t ta tb σ H Q := q
theorem r_kIf (h1 : b = true → ta σ H Q) (h2 : b = false → tb σ H Q) : kIf ta tb σ Q b H := by
  unfold kIf
  cases b
  · exact h2 rfl
  · exact h1 rfl
theorem r_kIf1 (h : b = true) (q : ta σ H Q) : kIf ta tb σ Q b H := by
  subst h
  exact q
theorem r_kIf0 (h : b = false) (q : tb σ H Q) : kIf ta tb σ Q b H := by
  subst h
  exact q
theorem r_nilA (q : QA [] H) : tNil σ H QA := q
theorem r_consA (q : ta σ H fun x H1 => tr σ H1 fun xs H2 => QA (x :: xs) H2) : tCons ta tr σ H QA := q
theorem r_use {sp : Sp} (q : tr σ H fun vs H1 => sp vs H1 Q E0) : tUse sp tr σ H Q := q
theorem r_cb {f : List V → Hp → VK → Prop} (q : tr σ H fun vs H1 => f vs H1 Q) : tCB f tr σ H Q := q
/-! operators on numbers -/
theorem r_I0 {f : Int → Int → V} {m n : Int} (q : Q (f m n) H) : rI0 f (.int m) (.int n) H Q := ⟨m, n, rfl, rfl, q⟩
theorem r_I {C : Int → Int → Prop} {f : Int → Int → V} {m n : Int} (h : C m n) (q : Q (f m n) H) : rI C f (.int m) (.int n) H Q := ⟨m, n, rfl, rfl, h, q⟩
theorem r_U {f : Int → V} {m : Int} (q : Q (f m) H) : rU f (.int m) H Q := ⟨m, rfl, q⟩
theorem r_eq (h : scal x y = true) (q : Q (.bl (decide (x = y))) H) : rEq x y H Q := ⟨h, q⟩
theorem r_ne (h : scal x y = true) (q : Q (.bl (!decide (x = y))) H) : rNe x y H Q := ⟨h, q⟩
theorem r_eqI {m n : Int} (q : Q (.bl (decide (m = n))) H) : rEq (.int m) (.int n) H Q := by
  refine ⟨rfl, ?_⟩
  have e : decide (V.int m = V.int n) = decide (m = n) := by
    by_cases h : m = n
    · subst h
      simp
    · rw [decide_eq_false h, decide_eq_false fun z => h (V.int.inj z)]
  rw [e]
  exact q
theorem r_neI {m n : Int} (q : Q (.bl (!decide (m = n))) H) : rNe (.int m) (.int n) H Q := by
  refine ⟨rfl, ?_⟩
  have e : decide (V.int m = V.int n) = decide (m = n) := by
    by_cases h : m = n
    · subst h
      simp
    · rw [decide_eq_false h, decide_eq_false fun z => h (V.int.inj z)]
  rw [e]
  exact q
/-! statements -/
theorem r_seq (q : t1 ⟨t2 ⟨nx, rt, bk, ct⟩, rt, bk, ct⟩ σ H) : tSeq t1 t2 ⟨nx, rt, bk, ct⟩ σ H := q
theorem r_next (q : nx σ H) : tNext ⟨nx, rt, bk, ct⟩ σ H := q
theorem r_brk (q : bk σ H) : tBreak ⟨nx, rt, bk, ct⟩ σ H := q
theorem r_cont (q : ct σ H) : tCont ⟨nx, rt, bk, ct⟩ σ H := q
theorem r_asg (q : te σ H fun x H1 => g x σ H1 nx) : tAsg te g ⟨nx, rt, bk, ct⟩ σ H := q
theorem r_drop (q : te σ H fun _ H1 => nx σ H1) : tDrop te ⟨nx, rt, bk, ct⟩ σ H := q
theorem r_ret (q : te σ H rt) : tRet te ⟨nx, rt, bk, ct⟩ σ H := q
theorem r_retN (q : rt .non H) : tRetN ⟨nx, rt, bk, ct⟩ σ H := q
def kIfS (t1 t2 : TS) (D : Ends) (σ : St) : Bool → Hp → Prop := fun b H => if b = true then t1 D σ H else t2 D σ H
theorem r_ifS (q : c σ H (kIfS t1 t2 ⟨nx, rt, bk, ct⟩ σ)) : tIfS c t1 t2 ⟨nx, rt, bk, ct⟩ σ H := q
theorem r_kIfS {D : Ends} (h1 : b = true → t1 D σ H) (h2 : b = false → t2 D σ H) : kIfS t1 t2 D σ b H := by
  unfold kIfS
  cases b
  · exact h2 rfl
  · exact h1 rfl
theorem r_kIfS1 {D : Ends} (h : b = true) (q : t1 D σ H) : kIfS t1 t2 D σ b H := by
  subst h
  exact q
theorem r_kIfS0 {D : Ends} (h : b = false) (q : t2 D σ H) : kIfS t1 t2 D σ b H := by
  subst h
  exact q
theorem r_name {QS : St → Hp → Prop} (q : QS (σ.set i (some v)) H) : gName i v σ H QS := q
theorem r_par {j : Nat} (q : tr σ H fun vs H1 => ∃ v w, vs = [v, w] ∧ nx ((σ.set i (some v)).set j (some w)) H1) : tPar i j tr ⟨nx, rt, bk, ct⟩ σ H := q
/-! displays, dicts -/
def kLst (Q : VK) : List V → Hp → Prop := fun xs H1 => xs.length ≤ sizeLine ∧ ∀ p, H1 p = none → Q (.ref p) (upd H1 p (.lst xs))
def kTup (Q : VK) : List V → Hp → Prop := fun xs H1 => xs.length ≤ sizeLine ∧ ∀ p, H1 p = none → Q (.ref p) (upd H1 p (.tup xs))
theorem r_lst (q : tr σ H (kLst Q)) : tLst tr σ H Q := q
theorem r_tup (q : tr σ H (kTup Q)) : tTup tr σ H Q := q
theorem r_kLst {xs : List V} (h : xs.length ≤ sizeLine) (q : ∀ p H', H p = none → Kp [] H H' → H' p = some (.lst xs) → Q (.ref p) H') : kLst Q xs H :=
  ⟨h, fun p n => q p _ n (Kp.new n) upd_same⟩
theorem r_kTup {xs : List V} (h : xs.length ≤ sizeLine) (q : ∀ p H', H p = none → Kp [] H H' → H' p = some (.tup xs) → Q (.ref p) H') : kTup Q xs H :=
  ⟨h, fun p n => q p _ n (Kp.new n) upd_same⟩
def kDG (Q : VK) : V → V → Hp → Prop := fun x y H2 => ∃ a v, x = .ref a ∧ DGet H2 a y (some v) ∧ Q v H2
theorem r_dget (q : td σ H fun x H1 => ty σ H1 fun y H2 => kDG Q x y H2) : tDGet td ty σ H Q := q
theorem r_kDGs {a : Addr} {kvs : List (Key × V)} {z : Str} (e : H a = some (.dK kvs)) (h : valV kvs (Sum.inr z) = some v) (q : Q v H) : kDG Q (.ref a) (.str z) H :=
  ⟨a, v, rfl, .inl ⟨kvs, Sum.inr z, .inl e, rfl, h.symm⟩, q⟩
theorem r_kDGi {a : Addr} {kvs : List (Key × V)} {z : Int} (e : H a = some (.dK kvs)) (h : valV kvs (Sum.inl z) = some v) (q : Q v H) : kDG Q (.ref a) (.int z) H :=
  ⟨a, v, rfl, .inl ⟨kvs, Sum.inl z, .inl e, rfl, h.symm⟩, q⟩
def kDP (nx : St → Hp → Prop) (σ : St) : V → V → V → Hp → Prop := fun v x y H3 => ∃ a H4, x = .ref a ∧ DPut H3 a y v H4 ∧ nx σ H4
theorem r_dput (q : tv σ H fun v H1 => td σ H1 fun x H2 => ty σ H2 fun y H3 => kDP nx σ v x y H3) : sDPut td ty tv ⟨nx, rt, bk, ct⟩ σ H := q
theorem r_kDPs {a : Addr} {kvs : List (Key × V)} {z : Str} (e : H a = some (.dK kvs)) (h : kvs.length < sizeLine) (q : nx σ (upd H a (.dK (putK kvs (Sum.inr z) v)))) : kDP nx σ v (.ref a) (.str z) H :=
  ⟨a, _, rfl, .inl ⟨kvs, Sum.inr z, e, rfl, h, rfl⟩, q⟩
end

section
variable {σ : St} {H : Hp} {Q : VK} {QA : List V → Hp → Prop} {v x y : V} {K : PySem.W.Frag} {xs : List V} {p : Addr}
/-! built-ins -/
abbrev R1 := List V → Hp → VK → Prop
def cInt : R1 := fun xs H Q => (∃ i, xs = [.int i] ∧ Q (.int i) H) ∨ ∃ k, xs = [.bl k] ∧ Q (.int (if k then 1 else 0)) H
def cAbs : R1 := fun xs H Q => ∃ i, xs = [.int i] ∧ Q (.int (if i < 0 then -i else i)) H
def cMax2 : R1 := fun xs H Q => ∃ i j, xs = [.int i, .int j] ∧ Q (.int (if j > i then j else i)) H
def cMin2 : R1 := fun xs H Q => ∃ i j, xs = [.int i, .int j] ∧ Q (.int (if j < i then j else i)) H
def cStrI : R1 := fun xs H Q => ∃ i, xs = [.int i] ∧ i.natAbs.log2 < 1920 ∧ Q (.str (toString i)) H
def cLen (K : PySem.W.Frag) : R1 := fun xs H Q => ∃ p ys, xs = [.ref p] ∧ (SqL K H p ys ∨ SqT K H p ys) ∧ Q (.int (ys.length : Nat)) H
def cLenS : R1 := fun xs H Q => ∃ z, xs = [.str z] ∧ z.length ≤ sizeLine ∧ Q (.int (z.length : Nat)) H
def cList (K : PySem.W.Frag) : R1 := fun xs H Q => ∃ p ys, xs = [.ref p] ∧ (SqL K H p ys ∨ SqT K H p ys) ∧ ∀ l, H l = none → Q (.ref l) (upd H l (.lst ys))
def cTuple (K : PySem.W.Frag) : R1 := fun xs H Q => ∃ p ys, xs = [.ref p] ∧ ((SqL K H p ys ∧ ∀ l, H l = none → Q (.ref l) (upd H l (.tup ys))) ∨ (SqT K H p ys ∧ Q (.ref p) H))
section
variable {X : Cx}
theorem cr_int : CallR X (.type "int") cInt := call_int1
theorem cr_abs : CallR X (.builtin "abs") cAbs := call_abs
theorem cr_max2 (hc : X.calm = true) : CallR X (.builtin "max") cMax2 := call_max2 hc
theorem cr_min2 (hc : X.calm = true) : CallR X (.builtin "min") cMin2 := call_min2 hc
theorem cr_strI : CallR X (.type "str") cStrI := call_str_int
theorem cr_len : CallR X (.builtin "len") (cLen X.K) := call_len_seq
theorem cr_lenS : CallR X (.builtin "len") cLenS := call_len_str
theorem cr_list : CallR X (.type "list") (cList X.K) := call_list_of
theorem cr_tuple : CallR X (.type "tuple") (cTuple X.K) := call_tuple_of
end
theorem r_int {n : Int} (q : Q (.int n) H) : cInt [.int n] H Q := .inl ⟨n, rfl, q⟩
theorem r_abs {n : Int} (q : Q (.int (if n < 0 then -n else n)) H) : cAbs [.int n] H Q := ⟨n, rfl, q⟩
theorem r_max2 {m n : Int} (q : Q (.int (if n > m then n else m)) H) : cMax2 [.int m, .int n] H Q := ⟨m, n, rfl, q⟩
theorem r_min2 {m n : Int} (q : Q (.int (if n < m then n else m)) H) : cMin2 [.int m, .int n] H Q := ⟨m, n, rfl, q⟩
theorem r_strI {n : Int} (h : n.natAbs.log2 < 1920) (q : Q (.str (toString n)) H) : cStrI [.int n] H Q := ⟨n, rfl, h, q⟩
theorem r_lenL (h : SqL K H p xs) (q : Q (.int (xs.length : Nat)) H) : cLen K [.ref p] H Q := ⟨p, xs, rfl, .inl h, q⟩
theorem r_lenT (h : SqT K H p xs) (q : Q (.int (xs.length : Nat)) H) : cLen K [.ref p] H Q := ⟨p, xs, rfl, .inr h, q⟩
theorem r_lenS {z : Str} (h : z.length ≤ sizeLine) (q : Q (.int (z.length : Nat)) H) : cLenS [.str z] H Q := ⟨z, rfl, h, q⟩
theorem r_listL (h : SqL K H p xs) (q : ∀ l H', H l = none → Kp [] H H' → H' l = some (.lst xs) → Q (.ref l) H') : cList K [.ref p] H Q := ⟨p, xs, rfl, .inl h, fun l n => q l _ n (Kp.new n) upd_same⟩
theorem r_listT (h : SqT K H p xs) (q : ∀ l H', H l = none → Kp [] H H' → H' l = some (.lst xs) → Q (.ref l) H') : cList K [.ref p] H Q := ⟨p, xs, rfl, .inr h, fun l n => q l _ n (Kp.new n) upd_same⟩
theorem r_tupleL (h : SqL K H p xs) (q : ∀ l H', H l = none → Kp [] H H' → H' l = some (.tup xs) → Q (.ref l) H') : cTuple K [.ref p] H Q := ⟨p, xs, rfl, .inl ⟨h, fun l n => q l _ n (Kp.new n) upd_same⟩⟩
theorem r_tupleT (h : SqT K H p xs) (q : Q (.ref p) H) : cTuple K [.ref p] H Q := ⟨p, xs, rfl, .inr ⟨h, q⟩⟩
theorem r_ixL {i : Int} (h : SqL K H p xs) (e : atI xs i = some v) (q : Q v H) : rIxL K (.ref p) (.int i) H Q := ⟨p, xs, i, v, rfl, rfl, h, e, q⟩
theorem r_ixT {i : Int} (h : SqT K H p xs) (e : atI xs i = some v) (q : Q v H) : rIxT K (.ref p) (.int i) H Q := ⟨p, xs, i, v, rfl, rfl, h, e, q⟩
theorem r_ixS {z : Str} {i : Int} {c : Nat} (h : z.length ≤ sizeLine) (e : atI z.cps.toList i = some c) (q : Q (.str ⟨#[c]⟩) H) : rIxS (.str z) (.int i) H Q := ⟨z, i, c, rfl, rfl, h, e, q⟩
/-- an item at a number that lies within -/
theorem atI_in {α : Type} {l : List α} {i : Int} (h0 : 0 ≤ i) (h1 : i < (l.length : Int)) : ∃ v, atI l i = some v ∧ v ∈ l ∧ l[i.toNat]? = some v := by
  have hk : i.toNat < l.length := by omega
  have e : l[i.toNat]? = some l[i.toNat] := List.getElem?_eq_getElem hk
  have ei : i = ((i.toNat : Nat) : Int) := by omega
  have q : atI l ((i.toNat : Nat) : Int) = some l[i.toNat] := atI_nat e
  rw [← ei] at q
  exact ⟨l[i.toNat], q, List.getElem_mem hk, e⟩
/-! a display of a dict -/
def kDisp (Q : VK) (p : Addr) : List (V × V) → Hp → Prop := fun ps H2 => H2 p = some (.dK []) ∧ ∃ kvs : List (Key × V), ps = kvs.map (fun kv => (kV kv.1, kv.2)) ∧ kvs.length ≤ 15 ∧ Q (.ref p) (upd H2 p (.dK (mergeK [] kvs)))
theorem r_disp {trs : List (TE × TE)} (q : ∀ p H1, H p = none → Kp [] H H1 → H1 p = some (.dK []) → tPairs trs σ H1 (kDisp Q p)) : tDisp trs σ H Q := fun p n => q p _ n (Kp.new n) upd_same
theorem r_pnil {R : List (V × V) → Hp → Prop} (q : R [] H) : tPairs [] σ H R := q
theorem r_pcons {R : List (V × V) → Hp → Prop} {tk tv : TE} {r : List (TE × TE)} (q : tk σ H fun x H1 => tv σ H1 fun y H2 => tPairs r σ H2 fun ps H3 => R ((x, y) :: ps) H3) : tPairs ((tk, tv) :: r) σ H R := q
theorem r_kDisp {p : Addr} {kvs : List (Key × V)} (e : H p = some (.dK [])) (h : kvs.length ≤ 15) (q : ∀ H', Kp [p] H H' → H' p = some (.dK (mergeK [] kvs)) → Q (.ref p) H') : kDisp Q p (kvs.map fun kv => (kV kv.1, kv.2)) H :=
  ⟨e, kvs, rfl, h, q _ (Kp.put (by simp)) upd_same⟩
end

theorem sql_kp {K : PySem.W.Frag} {ex : List Addr} {H H' : Hp} {a : Addr} {xs : List V} (h : SqL K H a xs) (k : Kp ex H H') (m : a ∉ ex) : SqL K H' a xs := by
  rcases h with (h | ⟨o, h⟩) | h
  · exact .inl (.inl (k _ _ h m))
  · exact .inl (.inr ⟨o, k _ _ h m⟩)
  · exact .inr h
/-- a list stays where only the object o at p changes, which is no list -/
theorem sql_but {K : PySem.W.Frag} {H H' : Hp} {a p : Addr} {xs : List V} {o : HO} (h : SqL K H a xs) (k : Kp [p] H H') (e : H p = some o) (d : ∀ ys, o ≠ .lst ys) (d' : ∀ ob u, o ≠ .frz ob u) : SqL K H' a xs := by
  rcases h with (h | ⟨ob, h⟩) | h
  · exact .inl (.inl (k _ _ h (not_one (ne_of h e fun z => d _ z.symm))))
  · exact .inl (.inr ⟨ob, k _ _ h (not_one (ne_of h e fun z => d' _ _ z.symm))⟩)
  · exact .inr h
theorem sqt_kp {K : PySem.W.Frag} {ex : List Addr} {H H' : Hp} {a : Addr} {xs : List V} (h : SqT K H a xs) (k : Kp ex H H') (m : a ∉ ex) : SqT K H' a xs := by
  rcases h with (h | ⟨o, h⟩) | h
  · exact .inl (.inl (k _ _ h m))
  · exact .inl (.inr ⟨o, k _ _ h m⟩)
  · exact .inr h
section
variable {σ : St} {H : Hp} {Q : VK} {QA : List V → Hp → Prop} {v x y : V} {K : PySem.W.Frag} {xs : List V} {p : Addr} {te tk tv : TE} {tr : TA} {g : TG} {tb : TS} {tt : TT} {wi : TI} {nx bk ct : St → Hp → Prop} {rt : VK}
  {J : It} {n : Nat} {G : Hp → Prop} {Y : Nat → Hp → V → Hp → Prop} {vs : List Nat}
/-! what is walked -/
def cRng1 (R : It → Hp → Prop) : List V → Hp → Prop := fun ws H1 => ∃ j : Int, ws = [.int j] ∧ -(2 ^ 62) ≤ j ∧ j < 2 ^ 62 ∧ R (Itr 0 j.toNat) H1
def cRng2 (R : It → Hp → Prop) : List V → Hp → Prop := fun ws H1 => ∃ i j : Int, ws = [.int i, .int j] ∧ (-(2 ^ 62) ≤ i ∧ i < 2 ^ 62 ∧ -(2 ^ 62) ≤ j ∧ j < 2 ^ 62) ∧ R (Itr i (j - i).toNat) H1
def cWL (K : PySem.W.Frag) (R : It → Hp → Prop) : V → Hp → Prop := fun x H1 => ∃ a, x = .ref a ∧ (∃ xs, SqL K H1 a xs) ∧ R (Itl K a) H1
def cWT (K : PySem.W.Frag) (R : It → Hp → Prop) : V → Hp → Prop := fun x H1 => ∃ a, x = .ref a ∧ (∃ xs, SqT K H1 a xs) ∧ R (Itt K a) H1
def cWS (R : It → Hp → Prop) : V → Hp → Prop := fun v H1 => ∃ x, v = .str x ∧ R (Its x) H1
def cEnum (K : PySem.W.Frag) (R : It → Hp → Prop) : List V → Hp → Prop := fun ws H1 => ∃ a xs, ws = [.ref a] ∧ SqL K H1 a xs ∧ R (Ite K a) H1
def cZip (K : PySem.W.Frag) (R : It → Hp → Prop) : List V → Hp → Prop := fun ws H1 => ∃ a b xs ys, ws = [.ref a, .ref b] ∧ SqL K H1 a xs ∧ SqL K H1 b ys ∧ R (Itz K a b) H1
variable {R : It → Hp → Prop}
theorem r_rng1 (q : tr σ H (cRng1 R)) : iRng1 tr σ H R := q
theorem r_rng2 (q : tr σ H (cRng2 R)) : iRng2 tr σ H R := q
theorem r_wl (q : te σ H (cWL K R)) : iList K te σ H R := q
theorem r_wt (q : te σ H (cWT K R)) : iTup K te σ H R := q
theorem r_ws (q : te σ H (cWS R)) : iStr te σ H R := q
theorem r_enum (q : tr σ H (cEnum K R)) : iEnum K tr σ H R := q
theorem r_zip (q : tr σ H (cZip K R)) : iZip K tr σ H R := q
theorem r_cRng1 {j : Int} (h : -(2 ^ 62) ≤ j ∧ j < 2 ^ 62) (q : R (Itr 0 j.toNat) H) : cRng1 R [.int j] H := ⟨j, rfl, h.1, h.2, q⟩
theorem r_cRng2 {i j : Int} (h : -(2 ^ 62) ≤ i ∧ i < 2 ^ 62 ∧ -(2 ^ 62) ≤ j ∧ j < 2 ^ 62) (q : R (Itr i (j - i).toNat) H) : cRng2 R [.int i, .int j] H := ⟨i, j, rfl, h, q⟩
theorem r_cWL (h : SqL K H p xs) (q : R (Itl K p) H) : cWL K R (.ref p) H := ⟨p, rfl, ⟨xs, h⟩, q⟩
theorem r_cWT (h : SqT K H p xs) (q : R (Itt K p) H) : cWT K R (.ref p) H := ⟨p, rfl, ⟨xs, h⟩, q⟩
theorem r_cWS {z : Str} (q : R (Its z) H) : cWS R (.str z) H := ⟨z, rfl, q⟩
theorem r_cEnum (h : SqL K H p xs) (q : R (Ite K p) H) : cEnum K R [.ref p] H := ⟨p, xs, rfl, h, q⟩
theorem r_cZip {p' : Addr} {ys : List V} (h : SqL K H p xs) (h' : SqL K H p' ys) (q : R (Itz K p p') H) : cZip K R [.ref p, .ref p'] H := ⟨p, p', xs, ys, rfl, h, h', q⟩
/-! for -/
def kFor (g : TG) (tb : TS) (D : Ends) (σ : St) : It → Hp → Prop := fun J H1 => ∃ W : Nat → Nat → St → Hp → Prop, (∃ m, W 0 m σ H1) ∧ ∀ i m σ H, W i m σ H →
  (J.stop i H ∧ D.nx σ H) ∨ (J.go i H ∧ ∃ N : St → Hp → Prop, (∀ σ' H', N σ' H' → ∃ m', m' < m ∧ W (i + 1) m' σ' H') ∧ ∀ x H', J.yld i H x H' → g x σ H' fun σ2 H2 => tb { D with nx := N, ct := N, bk := D.nx } σ2 H2)
theorem r_for (q : wi σ H (kFor g tb ⟨nx, rt, bk, ct⟩ σ)) : tFor wi g tb ⟨nx, rt, bk, ct⟩ σ H := q
theorem r_kFor (w : Walk J n G Y) (Pv : Nat → St → Hp → Prop) (h0 : Pv 0 σ H) (hG : ∀ i σ H, i ≤ n → Pv i σ H → G H)
    (hs : ∀ i x σ H H', i < n → Pv i σ H → Y i H x H' → g x σ H' fun σ2 H2 => tb ⟨Pv (i + 1), rt, nx, Pv (i + 1)⟩ σ2 H2) (hd : ∀ σ H, Pv n σ H → nx σ H) : kFor g tb ⟨nx, rt, bk, ct⟩ σ J H :=
  for_it w (D := ⟨nx, rt, bk, ct⟩) Pv h0 hG hs hd
theorem r_kForR {m : Nat} (Pv : Nat → St → Hp → Prop) (h0 : Pv 0 σ H)
    (hs : ∀ (i : Nat) σ H, i < m → Pv i σ H → g (.int (i : Int)) σ H fun σ2 H2 => tb ⟨Pv (i + 1), rt, nx, Pv (i + 1)⟩ σ2 H2) (hd : ∀ σ H, Pv m σ H → nx σ H) : kFor g tb ⟨nx, rt, bk, ct⟩ σ (Itr 0 m) H := by
  refine r_kFor walk_range Pv h0 (fun _ _ _ _ _ => trivial) (fun i x σ H H' hi hp y => ?_) hd
  obtain ⟨rfl, rfl⟩ := y
  have e : V.int ((0 : Int) + (i : Int)) = V.int (i : Int) := congrArg V.int (by omega)
  show g (V.int ((0 : Int) + (i : Int))) σ _ _
  rw [e]
  exact hs i σ _ hi hp
theorem r_kForL (Pv : Nat → St → Hp → Prop) (h0 : Pv 0 σ H) (hl : ∀ i σ H, i ≤ xs.length → Pv i σ H → SqL K H p xs)
    (hs : ∀ (i : Nat) x σ H, xs[i]? = some x → Pv i σ H → g x σ H fun σ2 H2 => tb ⟨Pv (i + 1), rt, nx, Pv (i + 1)⟩ σ2 H2) (hd : ∀ σ H, Pv xs.length σ H → nx σ H) : kFor g tb ⟨nx, rt, bk, ct⟩ σ (Itl K p) H := by
  refine r_kFor walk_list Pv h0 hl (fun i x σ H H' hi hp y => ?_) hd
  obtain ⟨rfl, e⟩ := y
  exact hs i x σ _ e hp
theorem r_kForT (Pv : Nat → St → Hp → Prop) (h0 : Pv 0 σ H) (hl : ∀ i σ H, i ≤ xs.length → Pv i σ H → SqT K H p xs)
    (hs : ∀ (i : Nat) x σ H, xs[i]? = some x → Pv i σ H → g x σ H fun σ2 H2 => tb ⟨Pv (i + 1), rt, nx, Pv (i + 1)⟩ σ2 H2) (hd : ∀ σ H, Pv xs.length σ H → nx σ H) : kFor g tb ⟨nx, rt, bk, ct⟩ σ (Itt K p) H := by
  refine r_kFor walk_tup Pv h0 hl (fun i x σ H H' hi hp y => ?_) hd
  obtain ⟨rfl, e⟩ := y
  exact hs i x σ _ e hp
/-! [e for ..]: Pv by the new list's place, the turn, what is made so far, the heap -/
def kN (Pv : List V → Hp → Prop) (D : Addr) : Hp → Prop := fun H' => ∃ acc, H' D = some (.lst acc) ∧ Pv acc H'
def kApp (D : Addr) (N : Hp → Prop) : VK := fun y H4 => ∃ acc, H4 D = some (.lst acc) ∧ acc.length < sizeLine ∧ N (upd H4 D (.lst (acc ++ [y])))
def kKeep (te : TE) (σ : St) (D : Addr) (N : Hp → Prop) : Bool → Hp → Prop := fun b H3 => if b = true then te σ H3 (kApp D N) else N H3
def kTurn (tt : TT) (te : TE) (σ0 : St) (vs : List Nat) (D : Addr) (N : Hp → Prop) : St → Hp → Prop := fun σ2 H2 => wipe σ2 vs = σ0 ∧ tt σ2 H2 (kKeep te σ2 D N)
def kLc (g : TG) (tt : TT) (te : TE) (vs : List Nat) (σ : St) (Q : VK) : It → Hp → Prop := fun J H1 => ∀ D, H1 D = none → ∃ W : Nat → Nat → Hp → Prop, (∃ m, W 0 m (upd H1 D (.lst []))) ∧ ∀ i m H, W i m H →
  (J.stop i H ∧ Q (.ref D) H) ∨ (J.go i H ∧ ∃ Nx : Hp → Prop, (∀ H', Nx H' → ∃ m', m' < m ∧ W (i + 1) m' H') ∧ ∀ x H', J.yld i H x H' → g x (wipe σ vs) H' fun σ2 H2 => wipe σ2 vs = wipe σ vs ∧ tt σ2 H2 fun b H3 =>
    if b = true then te σ2 H3 fun y H4 => ∃ acc, H4 D = some (.lst acc) ∧ acc.length < sizeLine ∧ Nx (upd H4 D (.lst (acc ++ [y]))) else Nx H3)
theorem r_lc (q : wi σ H (kLc g tt te vs σ Q)) : tLc wi g tt te vs σ H Q := q
theorem r_kTurn {σ0 : St} {D : Addr} {N : Hp → Prop} (h : wipe σ vs = σ0) (q : tt σ H (kKeep te σ D N)) : kTurn tt te σ0 vs D N σ H := ⟨h, q⟩
theorem r_yes {QB : Bool → Hp → Prop} (q : QB true H) : tYes σ H QB := q
theorem r_kKeep1 {D : Addr} {N : Hp → Prop} {b : Bool} (h : b = true) (q : te σ H (kApp D N)) : kKeep te σ D N b H := by
  subst h
  exact q
theorem r_kKeep0 {D : Addr} {acc : List V} {Pv : List V → Hp → Prop} {b : Bool} (h : b = false) (e : H D = some (.lst acc)) (q : Pv acc H) : kKeep te σ D (kN Pv D) b H := by
  subst h
  exact ⟨acc, e, q⟩
theorem r_kKeep {D : Addr} {N : Hp → Prop} {b : Bool} (h1 : b = true → te σ H (kApp D N)) (h0 : b = false → N H) : kKeep te σ D N b H := by
  cases b
  · exact h0 rfl
  · exact h1 rfl
theorem r_kApp {D : Addr} {acc : List V} {Pv : List V → Hp → Prop} (e : H D = some (.lst acc)) (h : acc.length < sizeLine) (q : ∀ H5, Kp [D] H H5 → H5 D = some (.lst (acc ++ [y])) → Pv (acc ++ [y]) H5) : kApp D (kN Pv D) y H :=
  ⟨acc, e, h, acc ++ [y], upd_same, q _ (Kp.put (by simp)) upd_same⟩
theorem r_kLc (w : Walk J n G Y) (Pv : Addr → Nat → List V → Hp → Prop) (h0 : ∀ D H', H D = none → Kp [] H H' → H' D = some (.lst []) → Pv D 0 [] H') (hG : ∀ D i acc H', i ≤ n → Pv D i acc H' → G H')
    (hs : ∀ D i acc x H' H'', H D = none → i < n → H' D = some (.lst acc) → Pv D i acc H' → Y i H' x H'' → g x (wipe σ vs) H'' (kTurn tt te (wipe σ vs) vs D (kN (Pv D (i + 1)) D)))
    (hd : ∀ D acc H', H D = none → H' D = some (.lst acc) → Pv D n acc H' → Q (.ref D) H') : kLc g tt te vs σ Q J H := by
  intro D hD
  exact lc_it w (fun i => kN (Pv D i) D) ⟨[], upd_same, h0 D _ hD (Kp.new hD) upd_same⟩ (fun i H' hi ⟨acc, _, p⟩ => hG D i acc H' hi p) (fun i x H' H'' hi ⟨acc, e, p⟩ y => hs D i acc x H' H'' hD hi e p y) (fun H' ⟨acc, e, p⟩ => hd D acc H' hD e p)
theorem r_kLcL (Pv : Addr → Nat → List V → Hp → Prop) (h0 : ∀ D H', H D = none → Kp [] H H' → H' D = some (.lst []) → Pv D 0 [] H') (hG : ∀ D i acc H', i ≤ xs.length → Pv D i acc H' → SqL K H' p xs)
    (hs : ∀ D (i : Nat) acc x H', H D = none → xs[i]? = some x → H' D = some (.lst acc) → Pv D i acc H' → g x (wipe σ vs) H' (kTurn tt te (wipe σ vs) vs D (kN (Pv D (i + 1)) D)))
    (hd : ∀ D acc H', H D = none → H' D = some (.lst acc) → Pv D xs.length acc H' → Q (.ref D) H') : kLc g tt te vs σ Q (Itl K p) H := by
  refine r_kLc walk_list Pv h0 hG (fun D i acc x H' H'' hD hi e hp y => ?_) hd
  obtain ⟨rfl, e'⟩ := y
  exact hs D i acc x _ hD e' e hp
theorem r_kLcT (Pv : Addr → Nat → List V → Hp → Prop) (h0 : ∀ D H', H D = none → Kp [] H H' → H' D = some (.lst []) → Pv D 0 [] H') (hG : ∀ D i acc H', i ≤ xs.length → Pv D i acc H' → SqT K H' p xs)
    (hs : ∀ D (i : Nat) acc x H', H D = none → xs[i]? = some x → H' D = some (.lst acc) → Pv D i acc H' → g x (wipe σ vs) H' (kTurn tt te (wipe σ vs) vs D (kN (Pv D (i + 1)) D)))
    (hd : ∀ D acc H', H D = none → H' D = some (.lst acc) → Pv D xs.length acc H' → Q (.ref D) H') : kLc g tt te vs σ Q (Itt K p) H := by
  refine r_kLc walk_tup Pv h0 hG (fun D i acc x H' H'' hD hi e hp y => ?_) hd
  obtain ⟨rfl, e'⟩ := y
  exact hs D i acc x _ hD e' e hp
theorem r_kLcR {m : Nat} (Pv : Addr → Nat → List V → Hp → Prop) (h0 : ∀ D H', H D = none → Kp [] H H' → H' D = some (.lst []) → Pv D 0 [] H')
    (hs : ∀ D (i : Nat) acc H', H D = none → i < m → H' D = some (.lst acc) → Pv D i acc H' → g (.int (i : Int)) (wipe σ vs) H' (kTurn tt te (wipe σ vs) vs D (kN (Pv D (i + 1)) D)))
    (hd : ∀ D acc H', H D = none → H' D = some (.lst acc) → Pv D m acc H' → Q (.ref D) H') : kLc g tt te vs σ Q (Itr 0 m) H := by
  refine r_kLc walk_range Pv h0 (fun _ _ _ _ _ _ => trivial) (fun D i acc x H' H'' hD hi e hp y => ?_) hd
  obtain ⟨rfl, rfl⟩ := y
  have e : V.int ((0 : Int) + (i : Int)) = V.int (i : Int) := congrArg V.int (by omega)
  show g (V.int ((0 : Int) + (i : Int))) (wipe σ vs) _ _
  rw [e]
  exact hs D i acc _ hD hi (by assumption) hp
theorem r_kLcS {z : Str} (Pv : Addr → Nat → List V → Hp → Prop) (h0 : ∀ D H', H D = none → Kp [] H H' → H' D = some (.lst []) → Pv D 0 [] H')
    (hs : ∀ D (i : Nat) acc c H', H D = none → z.cps.toList[i]? = some c → H' D = some (.lst acc) → Pv D i acc H' → g (.str ⟨#[c]⟩) (wipe σ vs) H' (kTurn tt te (wipe σ vs) vs D (kN (Pv D (i + 1)) D)))
    (hd : ∀ D acc H', H D = none → H' D = some (.lst acc) → Pv D z.cps.toList.length acc H' → Q (.ref D) H') : kLc g tt te vs σ Q (Its z) H := by
  refine r_kLc walk_str Pv h0 (fun _ _ _ _ _ _ => trivial) (fun D i acc x H' H'' hD hi e hp y => ?_) (fun D acc H' a b c => hd D acc H' a b (by simpa using c))
  obtain ⟨rfl, c, e', rfl⟩ := y
  exact hs D i acc c _ hD (by simpa using e') e hp
/-! {k: v for ..} -/
def kND (Pv : List (Key × V) → Hp → Prop) (D : Addr) : Hp → Prop := fun H' => ∃ kvs, H' D = some (.dK kvs) ∧ Pv kvs H'
def kPut (D : Addr) (N : Hp → Prop) (y : V) : VK := fun z H5 => ∃ kvs k, y = kV k ∧ H5 D = some (.dK kvs) ∧ kvs.length < sizeLine ∧ N (upd H5 D (.dK (putK kvs k z)))
def kKeepD (tk tv : TE) (σ : St) (D : Addr) (N : Hp → Prop) : Bool → Hp → Prop := fun b H3 => if b = true then tk σ H3 (fun y H4 => tv σ H4 (kPut D N y)) else N H3
def kTurnD (tt : TT) (tk tv : TE) (σ0 : St) (vs : List Nat) (D : Addr) (N : Hp → Prop) : St → Hp → Prop := fun σ2 H2 => wipe σ2 vs = σ0 ∧ tt σ2 H2 (kKeepD tk tv σ2 D N)
def kDc (g : TG) (tt : TT) (tk tv : TE) (vs : List Nat) (σ : St) (Q : VK) : It → Hp → Prop := fun J H1 => ∀ D, H1 D = none → ∃ W : Nat → Nat → Hp → Prop, (∃ m, W 0 m (upd H1 D (.dK []))) ∧ ∀ i m H, W i m H →
  (J.stop i H ∧ Q (.ref D) H) ∨ (J.go i H ∧ ∃ Nx : Hp → Prop, (∀ H', Nx H' → ∃ m', m' < m ∧ W (i + 1) m' H') ∧ ∀ x H', J.yld i H x H' → g x (wipe σ vs) H' fun σ2 H2 => wipe σ2 vs = wipe σ vs ∧ tt σ2 H2 fun b H3 =>
    if b = true then tk σ2 H3 fun y H4 => tv σ2 H4 fun z H5 => ∃ kvs k, y = kV k ∧ H5 D = some (.dK kvs) ∧ kvs.length < sizeLine ∧ Nx (upd H5 D (.dK (putK kvs k z))) else Nx H3)
theorem r_dc (q : wi σ H (kDc g tt tk tv vs σ Q)) : tDc wi g tt tk tv vs σ H Q := q
theorem r_kTurnD {σ0 : St} {D : Addr} {N : Hp → Prop} (h : wipe σ vs = σ0) (q : tt σ H (kKeepD tk tv σ D N)) : kTurnD tt tk tv σ0 vs D N σ H := ⟨h, q⟩
theorem r_kKeepD1 {D : Addr} {N : Hp → Prop} {b : Bool} (h : b = true) (q : tk σ H (fun y H4 => tv σ H4 (kPut D N y))) : kKeepD tk tv σ D N b H := by
  subst h
  exact q
theorem r_kPut {D : Addr} {kvs : List (Key × V)} {k : Key} {Pv : List (Key × V) → Hp → Prop} (ey : x = kV k) (e : H D = some (.dK kvs)) (h : kvs.length < sizeLine) (q : ∀ H5, Kp [D] H H5 → H5 D = some (.dK (putK kvs k y)) → Pv (putK kvs k y) H5) : kPut D (kND Pv D) x y H :=
  ⟨kvs, k, ey, e, h, _, upd_same, q _ (Kp.put (by simp)) upd_same⟩
theorem r_kDc (w : Walk J n G Y) (Pv : Addr → Nat → List (Key × V) → Hp → Prop) (h0 : ∀ D H', H D = none → Kp [] H H' → H' D = some (.dK []) → Pv D 0 [] H') (hG : ∀ D i acc H', i ≤ n → Pv D i acc H' → G H')
    (hs : ∀ D i acc x H' H'', H D = none → i < n → H' D = some (.dK acc) → Pv D i acc H' → Y i H' x H'' → g x (wipe σ vs) H'' (kTurnD tt tk tv (wipe σ vs) vs D (kND (Pv D (i + 1)) D)))
    (hd : ∀ D acc H', H D = none → H' D = some (.dK acc) → Pv D n acc H' → Q (.ref D) H') : kDc g tt tk tv vs σ Q J H := by
  intro D hD
  refine ⟨fun i m H' => m = n - i ∧ i ≤ n ∧ kND (Pv D i) D H', ⟨n, by simp, Nat.zero_le _, [], upd_same, h0 D _ hD (Kp.new hD) upd_same⟩, ?_⟩
  rintro i m H' ⟨rfl, hi, acc, e, p⟩
  have q := hG D i acc H' hi p
  by_cases hlt : i < n
  · exact .inr ⟨w.goes i H' hlt q, kND (Pv D (i + 1)) D, fun H2 p' => ⟨n - (i + 1), by omega, rfl, hlt, p'⟩, fun x H2 y => hs D i acc x H' H2 hD hlt e p (w.yields i H' x H2 hlt q y)⟩
  · have e' : i = n := by omega
    subst e'
    exact .inl ⟨w.stops H' q, hd D acc H' hD e p⟩
/-! targets that are tuples -/
theorem r_gtup {K : PySem.W.Frag} {m : Nat} {t : TGs} {QS : St → Hp → Prop} {a : Addr} (h : SqT K H a xs) (hl : xs.length = m) (q : t xs σ H QS) : gTup K m t (.ref a) σ H QS := ⟨a, xs, rfl, h, hl, q⟩
theorem r_gnil {QS : St → Hp → Prop} (q : QS σ H) : gNil [] σ H QS := ⟨rfl, q⟩
theorem r_gcons {t : TG} {u : TGs} {QS : St → Hp → Prop} (q : t x σ H fun σ' H' => u xs σ' H' QS) : gCons t u (x :: xs) σ H QS := ⟨x, xs, rfl, q⟩
/-! methods of lists -/
def kBM (K : PySem.W.Frag) (T : String) (r : V → List V → Hp → VK → Prop) (tr : TA) (σ : St) (Q : VK) : VK := fun x H1 => tyV K T x H1 ∧ tr σ H1 fun xs H2 => r x xs H2 Q
theorem r_bm {T : String} {r : V → List V → Hp → VK → Prop} (q : te σ H (kBM K T r tr σ Q)) : tBM K T r te tr σ H Q := q
theorem r_kBMl {r : V → List V → Hp → VK → Prop} (h : SqL K H p xs) (q : tr σ H fun ys H2 => r (.ref p) ys H2 Q) : kBM K "list" r tr σ Q (.ref p) H := ⟨.inl ⟨rfl, _, h⟩, q⟩
def kBM0 (K : PySem.W.Frag) (T : String) (r : V → List V → Hp → VK → Prop) (Q : VK) : VK := fun x H1 => tyV K T x H1 ∧ r x [] H1 Q
theorem r_bm0 {T : String} {r : V → List V → Hp → VK → Prop} (q : te σ H (kBM0 K T r Q)) : tBM0 K T r te σ H Q := q
theorem r_kBM0l {r : V → List V → Hp → VK → Prop} (h : SqL K H p xs) (q : r (.ref p) [] H Q) : kBM0 K "list" r Q (.ref p) H := ⟨.inl ⟨rfl, _, h⟩, q⟩
theorem r_append (e : H p = some (.lst xs)) (h : xs.length < sizeLine) (q : ∀ H', Kp [p] H H' → H' p = some (.lst (xs ++ [x])) → Q .non H') : rAppend (.ref p) [x] H Q := ⟨p, xs, x, rfl, rfl, e, h, q _ (Kp.put (by simp)) upd_same⟩
/-! texts -/
def rAddT : R2 := fun x y H Q => ∃ i j, x = .str i ∧ y = .str j ∧ i.length + j.length ≤ sizeLine ∧ Q (.str (i ++ j)) H
theorem op_addT {X : Cx} : OpR X (binaryOp .Add) rAddT := op_add_str
theorem r_addT {a b : Str} (h : a.length + b.length ≤ sizeLine) (q : Q (.str (a ++ b)) H) : rAddT (.str a) (.str b) H Q := ⟨a, b, rfl, rfl, h, q⟩
theorem r_eqS {a b : Str} (q : Q (.bl (decide (a = b))) H) : rEq (.str a) (.str b) H Q := by
  refine ⟨rfl, ?_⟩
  have e : decide (V.str a = V.str b) = decide (a = b) := by
    by_cases h : a = b
    · subst h
      simp
    · rw [decide_eq_false h, decide_eq_false fun z => h (V.str.inj z)]
  rw [e]
  exact q
theorem r_neS {a b : Str} (q : Q (.bl (!decide (a = b))) H) : rNe (.str a) (.str b) H Q := by
  refine ⟨rfl, ?_⟩
  have e : decide (V.str a = V.str b) = decide (a = b) := by
    by_cases h : a = b
    · subst h
      simp
    · rw [decide_eq_false h, decide_eq_false fun z => h (V.str.inj z)]
  rw [e]
  exact q
/-! in, not in, of texts in a list -/
theorem eqV_str (a b : Str) : eqV (.str a) (.str b) = decide (a = b) := by
  show (a == b) = decide (a = b)
  by_cases h : a = b
  · subst h
    simp
  · rw [decide_eq_false h]
    exact beq_eq_false_iff_ne.mpr h
theorem inV_strs (x : Str) : ∀ ws : List Str, inV (.str x) (ws.map V.str) = decide (x ∈ ws)
  | [] => by simp [inV]
  | w :: ws => by
    have ih := inV_strs x ws
    unfold inV at ih
    unfold inV
    rw [List.map_cons, List.any_cons, ih, eqV_str]
    by_cases h : x = w
    · subst h
      simp
    · have h' : ¬ w = x := fun e => h e.symm
      simp [h, h']
theorem flat_strs (ws : List Str) : (ws.map V.str).all flatV = true := by
  rw [List.all_eq_true]
  intro v hv
  obtain ⟨w, _, rfl⟩ := List.mem_map.mp hv
  rfl
theorem r_inL {z : Str} {ws : List Str} (h : SqL K H p (ws.map V.str)) (q : Q (.bl (decide (z ∈ ws))) H) : rIn K false (.str z) (.ref p) H Q := by
  refine ⟨p, _, rfl, .inl h, rfl, flat_strs ws, ?_⟩
  show Q (.bl (inV (.str z) (ws.map V.str))) H
  rw [inV_strs]
  exact q
theorem r_notInL {z : Str} {ws : List Str} (h : SqL K H p (ws.map V.str)) (q : Q (.bl (!decide (z ∈ ws))) H) : rIn K true (.str z) (.ref p) H Q := by
  refine ⟨p, _, rfl, .inl h, rfl, flat_strs ws, ?_⟩
  show Q (.bl (!inV (.str z) (ws.map V.str))) H
  rw [inV_strs]
  exact q
end

/-! the layer's rules with K named: within a comprehension's block it could not be found otherwise -/
section
variable {X : Cx} {K : PySem.W.Frag} (hK : X.K = K)
include hK
theorem K_in : OpR X (compareOp .In) (rIn K false) := by
  subst hK
  exact op_in_seq
theorem K_notIn : OpR X (compareOp .NotIn) (rIn K true) := by
  subst hK
  exact op_notIn_seq
theorem K_eqD (hu : X.A.units + 64 < cLine) : OpR X (compareOp .Eq) (rEqD K) := by
  subst hK
  exact op_eqD hu
theorem K_neD (hu : X.A.units + 64 < cLine) : OpR X (compareOp .NotEq) (rNeD K) := by
  subst hK
  exact op_neD hu
theorem K_len : CallR X (.builtin "len") (cLen K) := by
  subst hK
  exact cr_len
theorem K_list : CallR X (.type "list") (cList K) := by
  subst hK
  exact cr_list
theorem K_tuple : CallR X (.type "tuple") (cTuple K) := by
  subst hK
  exact cr_tuple
theorem K_ixL : IxR X (rIxL K) := by
  subst hK
  exact ix_list
theorem K_ixT : IxR X (rIxT K) := by
  subst hK
  exact ix_tup
theorem K_sum (hc : X.calm = true) : CallR X (.builtin "sum") (rSum K) := by
  subst hK
  exact cr_sum hc
theorem K_max (hc : X.calm = true) : CallR X (.builtin "max") (rMax K) := by
  subst hK
  exact cr_max hc
theorem K_min (hc : X.calm = true) : CallR X (.builtin "min") (rMin K) := by
  subst hK
  exact cr_min hc
theorem K_any (hc : X.calm = true) : CallR X (.builtin "any") (rAny K) := by
  subst hK
  exact cr_any hc
theorem K_all (hc : X.calm = true) : CallR X (.builtin "all") (rAll K) := by
  subst hK
  exact cr_all hc
theorem K_sortedI : CallR X (.builtin "sorted") (rSortedI K) := by
  subst hK
  exact cr_sortedI
theorem K_sortedS : CallR X (.builtin "sorted") (rSortedS K) := by
  subst hK
  exact cr_sortedS
theorem K_isi : CallR X (.builtin "isinstance") (rIsi K) := by
  subst hK
  exact call_isi
theorem K_isiT : CallR X (.builtin "isinstance") (rIsiT K) := by
  subst hK
  exact call_isiT
theorem K_slL : SlR X (rSlL K) := by
  subst hK
  exact sl_list
theorem K_slT : SlR X (rSlT K) := by
  subst hK
  exact sl_tup
theorem K_catT : OpR X (binaryOp .Add) (rCatA K) := by
  subst hK
  exact op_catA
theorem K_index : MtR X "list.index" (rIndex K) := by
  subst hK
  exact mt_index
theorem K_pil {tg l : Expr} {tl : TE} (hl : PE X l tl) : PI X tg l (iList K tl) := by
  subst hK
  exact pi_list hl
theorem K_pit {tg l : Expr} {tl : TE} (hl : PE X l tl) : PI X tg l (iTup K tl) := by
  subst hK
  exact pi_tup hl
theorem K_enum {e : Expr} {ta : TA} {p pos tpos : Pos} {elts : List Expr} {kk : Nat} (hg : Gl X "enumerate") (hm : X.mg "enumerate" = none) (ha : PA X [e] ta) (hs : starEach [e] X.env = [(false, eval e X.env)] := by rfl) :
    PI X (.Tuple elts kk tpos) (.Call (.Name "enumerate" p) [e] [] pos) (iEnum K ta) := by
  subst hK
  exact pi_enum hg hm ha hs
theorem K_zip {e e2 : Expr} {ta : TA} {p pos tpos : Pos} {elts : List Expr} {kk : Nat} (hg : Gl X "zip") (hm : X.mg "zip" = none) (ha : PA X [e, e2] ta) (hs : starEach [e, e2] X.env = (false, eval e X.env) :: starEach [e2] X.env := by rfl) (hpl : (backTo pos (starEach [e2] X.env)).any (·.1) = false := by rfl) :
    PI X (.Tuple elts kk tpos) (.Call (.Name "zip" p) [e, e2] [] pos) (iZip K ta) := by
  subst hK
  exact pi_zip hg hm ha hs hpl
theorem K_bm {o e : Expr} {es : List Expr} {T : String} {name : Str} {id : String} {r : V → List V → Hp → VK → Prop} {to : TE} {t : TA} {apos cpos : Pos} (pa : PlainAttrs T) (slot : Slot T name id) (hty : typeOf (.builtin id) = pure (.type "method_descriptor")) (hm : MtR X id r) (ho : PE X o to) (ha : PA X (e :: es) t) (hbase : attributeBase o name X.env (eval o X.env) = eval o X.env := by rfl) (hfew : ((backTo cpos (starEach (e :: es) X.env)).all (fun x => !x.1) && (backToKw cpos (keywordEach [] X.env)).all (fun x => x.1.isSome) && decide ((e :: es).length + ([] : List Keyword).length + (if ([] : List Keyword).isEmpty then 0 else 1) < 30)) = true := by rfl) (hline : (apos.endLine == cpos.line) = true := by rfl) (hs : starEach (e :: es) X.env = (false, eval e X.env) :: starEach es X.env := by rfl) (hplain : (backTo cpos (starEach es X.env)).any (·.1) = false := by rfl) : PE X (.Call (.Attribute o name apos) (e :: es) [] cpos) (tBM K T r to t) := by
  subst hK
  exact pe_bm pa slot hty hm ho ha hbase hfew hline hs hplain
theorem K_bm0 {o : Expr} {T : String} {name : Str} {id : String} {r : V → List V → Hp → VK → Prop} {to : TE} {apos cpos : Pos} (pa : PlainAttrs T) (slot : Slot T name id) (hty : typeOf (.builtin id) = pure (.type "method_descriptor")) (hm : MtR X id r) (ho : PE X o to) (hbase : attributeBase o name X.env (eval o X.env) = eval o X.env := by rfl) (hline : (apos.endLine == cpos.line) = true := by rfl) : PE X (.Call (.Attribute o name apos) [] [] cpos) (tBM0 K T r to) := by
  subst hK
  exact pe_bm0 pa slot hty hm ho hbase hline
theorem K_gtup {es : List Expr} {k : Nat} {t : TGs} {n : Nat} {pos : Pos} (hc : X.calm = true) (h : PGs X es t) (hn : (assignEach es X.env).length = n := by rfl) (hst : (assignEach es X.env).findIdx? (·.1) = none := by rfl) : PG X (.Tuple es k pos) (gTup K n t) := by
  subst hK
  exact pg_tup hc h hn hst
theorem K_fld {e : Expr} {f : Str} {pos : Pos} {ta : TE} (he : PE X e ta) (hb : attributeBase e f X.env (eval e X.env) = eval e X.env) : PE X (.Attribute e f pos) (tFld K ta f) := by
  subst hK
  exact pe_fld he hb
theorem K_join {o e : Expr} {to te : TE} {apos pos : Pos} (ho : PE X o to) (he : PE X e te) (hs : starEach [e] X.env = [(false, eval e X.env)] := by rfl) (hbase : attributeBase o "join" X.env (eval o X.env) = eval o X.env := by rfl) (hline : (apos.endLine == pos.line) = true := by rfl) : PE X (.Call (.Attribute o "join" apos) [e] [] pos) (tM1 (fun x xs H Q => ∃ a p, ∃ ys : List Str, x = .str a ∧ xs = [.ref p] ∧ (SqL K H p (ys.map V.str) ∨ SqT K H p (ys.map V.str)) ∧ (ys.map (·.length)).sum + ys.length * a.length ≤ 16777216 ∧ Q (.str (Txt.join a ys)) H) to te) := by
  subst hK
  exact pe_join ho he hs hbase hline
end

/-! cuts: what stands behind is read once -/
section
variable {X : Cx}
def tCutS (t u : TS) : TS := fun D σ H => ∃ M : St → Hp → Prop, t { D with nx := M } σ H ∧ ∀ σ' H', M σ' H' → u D σ' H'
theorem pss_cutS {st : Stmt} {more : List Stmt} {t u : TS} (a : PS X st t) (b : PSs X more u) : PSs X (st :: more) (tCutS t u) := by
  constructor
  intro pins s σ H D I ⟨M, hm, hu⟩
  refine wpAny_execs_cons (thn (a.run pins s σ H { D with nx := M } I hm) fun f s1 w => ?_)
  match f, w with
  | .next, ⟨σ', H', I', w'⟩ => exact b.run pins s1 σ' H' D I' (hu σ' H' w')
  | .ret _, w => exact w
  | .brk, w => exact w
  | .cont, w => exact w
theorem r_cutS {t u : TS} {nx bk ct : St → Hp → Prop} {rt : VK} {σ : St} {H : Hp} (M : St → Hp → Prop) (h : t ⟨M, rt, bk, ct⟩ σ H) (q : ∀ σ' H', M σ' H' → u ⟨nx, rt, bk, ct⟩ σ' H') : tCutS t u ⟨nx, rt, bk, ct⟩ σ H := ⟨M, h, q⟩
def tCutT (t : TT) : TT := fun σ H Q => ∃ M : Bool → Hp → Prop, t σ H M ∧ ∀ b H', M b H' → Q b H'
theorem pt_cutT {e : Expr} {t : TT} (a : PT X e t) : PT X e (tCutT t) := by
  constructor
  intro pins s σ H Q I ⟨M, hm, hq⟩
  exact wpAny_mono (a.run pins s σ H M I hm) (fun b s' ⟨H', I', w⟩ => ⟨H', I', hq b H' w⟩) fun _ _ z => z
theorem r_cutT {t : TT} {σ : St} {H : Hp} {QB : Bool → Hp → Prop} (M : Bool → Hp → Prop) (h : t σ H M) (q : ∀ b H', M b H' → QB b H') : tCutT t σ H QB := ⟨M, h, q⟩
def tCutE (t : TE) : TE := fun σ H Q => ∃ M : VK, t σ H M ∧ ∀ x H', M x H' → Q x H'
theorem pe_cutE {e : Expr} {t : TE} (a : PE X e t) : PE X e (tCutE t) := by
  constructor
  intro pins s σ H Q I ⟨M, hm, hq⟩
  exact wpAny_mono (a.run pins s σ H M I hm) (fun u s' ⟨v, H', I', r, w⟩ => ⟨v, H', I', r, hq v H' w⟩) fun _ _ z => z
theorem r_cutE {t : TE} {σ : St} {H : Hp} {Q : VK} (M : VK) (h : t σ H M) (q : ∀ x H', M x H' → Q x H') : tCutE t σ H Q := ⟨M, h, q⟩
end

/-! lists by turns -/
theorem take_more {α : Type} : ∀ {l : List α} {i : Nat} {x : α}, l[i]? = some x → l.take (i + 1) = l.take i ++ [x]
  | [], i, x, h => by simp at h
  | a :: l, 0, x, h => by
    cases h
    rfl
  | a :: l, i + 1, x, h => by
    have ih := take_more (l := l) (i := i) (x := x) h
    rw [List.take_succ_cons, ih]
    rfl
theorem take_map {α β : Type} {l : List α} {i : Nat} {x : α} (f : α → β) (h : l[i]? = some x) : (l.take (i + 1)).map f = (l.take i).map f ++ [f x] := by
  rw [take_more h, List.map_append]
  rfl
theorem take_filter {α : Type} {l : List α} {i : Nat} {x : α} (f : α → Bool) (h : l[i]? = some x) : (l.take (i + 1)).filter f = (l.take i).filter f ++ (if f x = true then [x] else []) := by
  rw [take_more h, List.filter_append]
  cases e : f x <;> simp [e]
theorem map_at {α β : Type} {l : List α} {i : Nat} {y : β} {f : α → β} (h : (l.map f)[i]? = some y) : ∃ x, l[i]? = some x ∧ y = f x := by
  rw [List.getElem?_map] at h
  cases e : l[i]? with
  | none =>
    rw [e] at h
    cases h
  | some x =>
    rw [e] at h
    exact ⟨x, rfl, (Option.some.inj h).symm⟩
theorem lt_at {α : Type} {l : List α} {i : Nat} {x : α} (h : l[i]? = some x) : i < l.length := (List.getElem?_eq_some_iff.mp h).1
theorem mem_at {α : Type} {l : List α} {i : Nat} {x : α} (h : l[i]? = some x) : x ∈ l := List.mem_of_getElem? h
/-- a word's heap behind a new list at D has grown by a change of D -/
theorem Kp.step {D : Addr} {ex : List Addr} {H H1 H2 : Hp} (a : Kp ex H H1) (n : H D = none) (b : Kp [D] H1 H2) : Kp ex H H2 :=
  Kp.drop (l := D) ((a.mono fun _ m => List.mem_cons_of_mem _ m).trans (b.mono fun x m => by rw [List.mem_singleton.mp m]; exact List.mem_cons_self)) n

/-! a walk over a list or a tuple -/
def iSeq (K : PySem.W.Frag) (tl : TE) : TI := fun σ H R => tl σ H fun x H1 => ∃ a, x = .ref a ∧ (((∃ xs, SqL K H1 a xs) ∧ R (Itl K a) H1) ∨ ((∃ xs, SqT K H1 a xs) ∧ R (Itt K a) H1))
theorem K_pis {X : Cx} {K : PySem.W.Frag} (hK : X.K = K) {tg l : Expr} {tl : TE} (hl : PE X l tl) : PI X tg l (iSeq K tl) := by
  subst hK
  constructor
  intro pins s σ H R I h
  refine thn (hl.run pins s σ H _ I h) fun v s1 w => ?_
  obtain ⟨_, H1, I1, rv, a, rfl, w⟩ := w
  cases rv
  have fresh : ∀ b ∈ [s1.heap.objs.size], FpOk X pins H1 b := fun b m => (List.mem_singleton.mp m) ▸ I1.fpOk (Nat.le_refl _) (I1.hok.fresh (Nat.le_refl _))
  rcases w with ⟨⟨xs, hs⟩, w⟩ | ⟨⟨xs, hs⟩, w⟩
  · obtain ⟨_, _, pl, _⟩ := I1.list hs
    exact wpAny_pyIter_list pl.isList ⟨_, [s1.heap.objs.size], _, _, H1, rfl, I1.kept (t' := s1.toks) fun _ _ => Heap.get?_push_of_some _, turn_list a _, ⟨_, Heap.get?_push_size _ rfl, rfl, rfl⟩, fresh, w⟩
  · obtain ⟨_, _, pl, _⟩ := I1.tuple hs
    exact wpAny_pyIter_tuple pl ⟨_, [s1.heap.objs.size], _, _, H1, rfl, I1.kept (t' := s1.toks) fun _ _ => Heap.get?_push_of_some _, turn_tuple a _, ⟨_, Heap.get?_push_size _ rfl, rfl, rfl⟩, fresh, w⟩
def cWQ (K : PySem.W.Frag) (R : It → Hp → Prop) : V → Hp → Prop := fun x H1 => ∃ a, x = .ref a ∧ (((∃ xs, SqL K H1 a xs) ∧ R (Itl K a) H1) ∨ ((∃ xs, SqT K H1 a xs) ∧ R (Itt K a) H1))
section
variable {σ : St} {H : Hp} {Q : VK} {K : PySem.W.Frag} {te : TE} {R : It → Hp → Prop} {p : Addr} {xs : List V} {x : V}
theorem r_wq (q : te σ H (cWQ K R)) : iSeq K te σ H R := q
theorem r_cWQl (h : SqL K H p xs) (q : R (Itl K p) H) : cWQ K R (.ref p) H := ⟨p, rfl, .inl ⟨⟨xs, h⟩, q⟩⟩
theorem r_cWQt (h : SqT K H p xs) (q : R (Itt K p) H) : cWQ K R (.ref p) H := ⟨p, rfl, .inr ⟨⟨xs, h⟩, q⟩⟩
/-- a list or a tuple -/
def Sq (K : PySem.W.Frag) (H : Hp) (p : Addr) (xs : List V) : Prop := SqL K H p xs ∨ SqT K H p xs
theorem Sq.kp {ex : List Addr} {H' : Hp} (h : Sq K H p xs) (k : Kp ex H H') (m : p ∉ ex) : Sq K H' p xs := h.elim (fun z => .inl (sql_kp z k m)) fun z => .inr (sqt_kp z k m)
theorem r_lenQ (h : Sq K H p xs) (q : Q (.int (xs.length : Nat)) H) : cLen K [.ref p] H Q := ⟨p, xs, rfl, h, q⟩
theorem r_listQ (h : Sq K H p xs) (q : ∀ l H', H l = none → Kp [] H H' → H' l = some (.lst xs) → Q (.ref l) H') : cList K [.ref p] H Q := ⟨p, xs, rfl, h, fun l n => q l _ n (Kp.new n) upd_same⟩
/-! isinstance -/
theorem r_isiTy {T n : String} {b : Bool} (h : TyX K H x (.type T)) (e : kitB T n = some b) (q : Q (.bl b) H) : rIsi K [x, .ty n] H Q := ⟨x, .ty n, _, _, b, rfl, .ty n, h, kit_ty e, q⟩
/-! [e for ..] over a list or a tuple -/
theorem r_kLcQ {g : TG} {tt : TT} {vs : List Nat} (Pv : Addr → Nat → List V → Hp → Prop) (hq : Sq K H p xs) (h0 : ∀ D H', H D = none → Kp [] H H' → H' D = some (.lst []) → Pv D 0 [] H') (hG : ∀ D i acc H', i ≤ xs.length → Pv D i acc H' → Kp [] H H')
    (hs : ∀ D (i : Nat) acc x H', H D = none → xs[i]? = some x → H' D = some (.lst acc) → Pv D i acc H' → g x (wipe σ vs) H' (kTurn tt te (wipe σ vs) vs D (kN (Pv D (i + 1)) D)))
    (hd : ∀ D acc H', H D = none → H' D = some (.lst acc) → Pv D xs.length acc H' → Q (.ref D) H') : cWQ K (kLc g tt te vs σ Q) (.ref p) H := by
  rcases hq with h | h
  · exact r_cWQl h (r_kLcL Pv h0 (fun D i acc H' hi p => sql_kp h (hG D i acc H' hi p) not_nil) hs hd)
  · exact r_cWQt h (r_kLcT Pv h0 (fun D i acc H' hi p => sqt_kp h (hG D i acc H' hi p) not_nil) hs hd)
end

/-! list.index of a number -/
theorem eqV_int (a b : Int) : eqV (.int a) (.int b) = (a == b) := rfl
theorem flat_ints (ns : List Int) : (ns.map V.int).all flatV = true := by
  rw [List.all_eq_true]
  intro v hv
  obtain ⟨w, _, rfl⟩ := List.mem_map.mp hv
  rfl
theorem lt_idx {n : Int} : ∀ {l : List Int} {m : Nat} {z : Int}, m < l.idxOf n → l[m]? = some z → z ≠ n
  | [], m, z, _, e => by simp at e
  | x :: l, m, z, h, e => by
    rw [List.idxOf_cons] at h
    by_cases c : x = n
    · subst c
      simp at h
    · have c' : (x == n) = false := beq_eq_false_iff_ne.mpr c
      rw [c'] at h
      cases m with
      | zero =>
        cases e
        exact c
      | succ m =>
        exact lt_idx (l := l) (m := m) (Nat.lt_of_succ_lt_succ h) e
theorem r_indexI {K : PySem.W.Frag} {H : Hp} {Q : VK} {p : Addr} {ns : List Int} {n : Int} (h : SqL K H p (ns.map V.int)) (m : n ∈ ns) (q : Q (.int (ns.idxOf n : Nat)) H) : rIndex K (.ref p) [.int n] H Q := by
  have hi := List.idxOf_lt_length_of_mem m
  have e : ns[ns.idxOf n]? = some n := by rw [List.getElem?_eq_getElem hi, List.getElem_idxOf]
  refine ⟨p, _, .int n, ns.idxOf n, .int n, rfl, rfl, h, rfl, flat_ints ns, ?_, beq_self_eq_true n, fun j z' hj hz => ?_, q⟩
  · rw [List.getElem?_map, e]
    rfl
  · obtain ⟨z, hz', rfl⟩ := map_at hz
    exact beq_eq_false_iff_ne.mpr (lt_idx hj hz')
/-! == of data -/
def Shp (n : Nat) (d : PyData) : Prop := d.canLay0 = true ∧ d.depth ≤ n
theorem Shp.ok {n : Nat} {d : PyData} (h : Shp n d) (hn : n ≤ 64) : SeqAt.shaped d = true := Bool.and_eq_true_iff.mpr ⟨h.1, decide_eq_true (Nat.le_trans h.2 hn)⟩
theorem Shp.all {n : Nat} : ∀ {l : List PyData}, (∀ d ∈ l, Shp n d) → PyData.canLayAll0 l = true ∧ PyData.depthAll l ≤ n
  | [], _ => ⟨rfl, Nat.zero_le _⟩
  | d :: l, h => by
    have h1 := h d List.mem_cons_self
    have h2 := Shp.all (l := l) fun x hx => h x (List.mem_cons_of_mem _ hx)
    exact ⟨Bool.and_eq_true_iff.mpr ⟨h1.1, h2.1⟩, Nat.max_le.mpr ⟨h1.2, h2.2⟩⟩
theorem Shp.list {n : Nat} {l : List PyData} (h : ∀ d ∈ l, Shp n d) : Shp (n + 1) (.list l) := ⟨(Shp.all h).1, Nat.succ_le_succ (Shp.all h).2⟩
theorem Shp.tuple {n : Nat} {l : List PyData} (h : ∀ d ∈ l, Shp n d) : Shp (n + 1) (.tuple l) := ⟨(Shp.all h).1, Nat.succ_le_succ (Shp.all h).2⟩
theorem Shp.int (i : Int) (n : Nat) : Shp n (.int i) := ⟨rfl, Nat.zero_le _⟩
theorem Shp.bool (b : Bool) (n : Nat) : Shp n (.bool b) := ⟨rfl, Nat.zero_le _⟩
theorem Shp.none (n : Nat) : Shp n .none := ⟨rfl, Nat.zero_le _⟩
theorem Shp.str {x : Str} (h : PyData.strOk x = true) (n : Nat) : Shp n (.str x) := ⟨h, Nat.zero_le _⟩
theorem strOk_of {x : Str} {m : Nat} (h : ∀ c ∈ x.cps.toList, c ≤ m) (hm : m < 0x110000) : PyData.strOk x = true := by
  unfold PyData.strOk
  rw [← Array.all_toList, List.all_eq_true]
  intro c hc
  have := h c hc
  exact decide_eq_true (by omega)
section
variable {H : Hp} {Q : VK} {K : PySem.W.Frag} {x y : V} {d e : PyData} {ex ex' : List Addr} {n : Nat}
theorem r_eqD (hx : Dt ex H x d) (hy : Dt ex' H y e) (sx : Shp n d) (sy : Shp n e) (hn : n ≤ 64) (q : Q (.bl (PyData.eqv d e)) H) : rEqD K x y H Q := ⟨d, e, hx.dp, hy.dp, sx.ok hn, sy.ok hn, q⟩
theorem r_neD (hx : Dt ex H x d) (hy : Dt ex' H y e) (sx : Shp n d) (sy : Shp n e) (hn : n ≤ 64) (q : Q (.bl (!PyData.eqv d e)) H) : rNeD K x y H Q := ⟨d, e, hx.dp, hy.dp, sx.ok hn, sy.ok hn, q⟩
theorem r_eqD1 (hx : Dt ex H x d) (hy : Dt ex' H y d) (sx : Shp n d) (hn : n ≤ 64) (q : Q (.bl true) H) : rEqD K x y H Q := by
  refine r_eqD hx hy sx sx hn ?_
  rw [SeqAt.eqv_refl d sx.1]
  exact q
theorem r_neD0 (hx : Dt ex H x d) (hy : Dt ex' H y d) (sx : Shp n d) (hn : n ≤ 64) (q : Q (.bl false) H) : rNeD K x y H Q := by
  refine r_neD hx hy sx sx hn ?_
  rw [SeqAt.eqv_refl d sx.1]
  exact q
end
end Rd

set_option maxHeartbeats 4000000
/-! SetI: set(xs) of a list of numbers -/
namespace Rd
open PySem PySem.Spec PyProof.Rows L2
/-- a set as it is new in the world w -/
def nset (w : World) : Obj := { cls := .type "set", dict := none, data := .set #[] 0 (.fresh 0 0 (!w.params.followText "set-order")) }
def grown (w : World) (s : Shared) : Shared := { s with heap := s.heap.push (nset w) }
section
variable {P : Program} {w : World} {A : Around} {E : Value → Shared → Prop} {s : Shared}
theorem nset_at (h : Heap) : (h.push (nset w)).get? h.objs.size = some (nset w) := Heap.get?_push_size _ rfl
/-- what stands behind the call -/
def Laid (w : World) (s : Shared) (ns : List Int) (u : Shared) : Prop := ∃ (g : Heap) (k c : Nat), u = { s with heap := g, toks := k } ∧ SetR w g s.heap.objs.size (fun j => decide (j ∈ ns)) c ∧ c ≤ ns.length ∧ ∀ b o, s.heap.get? b = some o → g.get? b = some o
theorem set_loop {l : Addr} {items : Array Value} {ns : List Int} {R : Result → Shared → Prop} (hh : A.handled = none) (hl : s.heap.IsList l items) (hit : IntsAre items.toList ns) (hb : ns.length + 1 < scanBound) (hR : ∀ u, Laid w s ns u → R (.ok (.ret .none)) u) :
    codeAny (model P w) A (.builtin "set.update.loop" ⟨[.ref s.heap.objs.size, .ref (grown w s).heap.objs.size], []⟩) R { grown w s with heap := (grown w s).heap.push { cls := .type "list_iterator", data := .fields #[.ref l, .int 0 0] } } := by
  have hsz : items.size = ns.length := by
    have z := IntsAre.length hit
    rwa [Array.length_toList] at z
  have at0 := nset_at (w := w) s.heap
  have hl1 : (grown w s).heap.IsList l items := hl.push _
  have below : l < s.heap.objs.size := by
    obtain ⟨o, e, _⟩ := hl
    exact Heap.lt_size e
  have size1 : (grown w s).heap.objs.size = s.heap.objs.size + 1 := Heap.size_push ..
  have apart : l ≠ (grown w s).heap.objs.size := fun e => by
    rw [size1] at e
    exact absurd (e ▸ below) (Nat.not_lt.mpr (Nat.le_succ _))
  have notin : s.heap.objs.size ∉ [(grown w s).heap.objs.size, l] := by
    intro m
    rcases List.mem_cons.mp m with e | e
    · rw [size1] at e
      exact Nat.ne_of_lt (Nat.lt_succ_self _) e
    · exact Nat.ne_of_gt below (List.mem_singleton.mp e)
  have none1 : A.in1.handled = none := by simp [hh]
  have vals : ∀ (i : Nat) (v : Value), items[i]? = some v → ∃ k t, ns[i]? = some k ∧ v = .int k t := fun i v hv => by
    have hi : i < ns.length := hsz ▸ (Array.getElem?_eq_some_iff.mp hv).1
    obtain ⟨t, e⟩ := IntsAre.int_at hit i v ((Array.getElem?_toList ..).trans hv)
    exact ⟨ns[i], t, List.getElem?_eq_getElem hi, by rw [e, List.getD_eq_getElem?_getD, List.getElem?_eq_getElem hi] <;> rfl⟩
  refine set_update_ints (Walks.toS (Walks.list none1 _ l apart items)) s.heap.objs.size notin ns hsz hb vals (items.size - 0) 0 _ (Nat.sub_zero _) (Nat.zero_le _) ⟨⟨_, Heap.get?_push_size _ rfl, rfl, rfl⟩, hl1.push _⟩ ?_ ?_
  · exact ⟨0, Nat.le_refl 0, setR_new_at (Heap.get?_push_of_some _ at0)⟩
  · intro u c hm hc hS
    obtain ⟨g, g2, d, k, os⟩ := u
    obtain rfl : g2 = s.gens := hm.gens
    obtain rfl : d = s.drawn := hm.drawn
    obtain rfl : os = s.os := hm.os
    refine hR _ ⟨g, k, c, rfl, hS, hsz ▸ hc, fun b o e => ?_⟩
    have lt := Heap.lt_size e
    refine hm.heap b o (fun m => ?_) (Heap.get?_push_of_some _ (Heap.get?_push_of_some _ e))
    rcases List.mem_cons.mp m with z | z
    · exact Nat.ne_of_lt lt z
    · have z' := List.mem_singleton.mp z
      rw [size1] at z'
      exact Nat.ne_of_lt (Nat.lt_succ_of_lt lt) z'
set_option maxHeartbeats 8000000 in
theorem set_of_list {l : Addr} {items : Array Value} {ns : List Int} {Q : Value → Shared → Prop} (hh : A.handled = none) (hl : s.heap.IsList l items) (hit : IntsAre items.toList ns) (hb : ns.length + 1 < scanBound) (q : ∀ u, Laid w s ns u → Q (.ref s.heap.objs.size) u) :
    wpAny (model P w) A (call (.type "set") [.ref l]) Q E s := by
  obtain ⟨cc, mtl, mro⟩ := F.called_set.mro
  have fmade := F.called_set.made
  have fsub := F.called_set.sub
  refine wpAny_call (codeAny_of_tree (show wpAny _ _ (callAny (.type "set") _) _ _ _ from ?_))
  refine wpAny_pure ⟨Code.quiet_builtin _ (by decide +kernel), codeAny_builtin F.entry_type_call ?_⟩
  rw [Around.under_plain (weight_type_call_type "set" [.ref l] []) rfl]
  have fnot := F.called_set.notType
  have fcan := F.called_set.canCreate
  have fcall := F.typeCall_set_1 (.ref l)
  repeat any_goals first | assumption | wp_step
  refine codeAny_mono (code_set_led1 (.ref l) (E := E) (Q₁ := fun ob u => ob = .ref s.heap.objs.size ∧ u = grown w s) ⟨rfl, rfl⟩) fun r u hr => ?_
  match r, hr with
  | .error _, hr => exact hr
  | .ok .next, hr => exact hr.elim
  | .ok .brk, hr => exact hr.elim
  | .ok .cont, hr => exact hr.elim
  | .ok (.ret ob), ⟨e1, e2⟩ =>
    subst e1 e2
    have ty : Shared.TypeIs (grown w s) (.ref s.heap.objs.size) "set" := ⟨_, nset_at _, rfl⟩
    have flook := F.called_set.init.lookup
    have fbind := F.called_set.init.bind (.ref s.heap.objs.size)
    repeat any_goals first | assumption | wp_step
    refine codeAny_mono (codeAny_call_builtin (R := wants (fun r u => r = Value.none ∧ Laid w s ns u) E) F.called_set.init.plain F.entry_set_init (check_set_init_1 ty ?_)) fun r u hr => ?_
    · obtain ⟨ol, hol, hcl, nl, hdl⟩ := id hl
      obtain ⟨ocls, odict, odata, oslots⟩ := ol
      obtain rfl : ocls = _ := hcl
      obtain rfl : odata = _ := hdl
      have here := Heap.get?_push_of_some (nset w) hol
      have sub1 := F.sub_list_set
      have sub2 := F.sub_list_frozenset
      have nodict : (Value.type "list" == Value.type "dict") = false := by decide
      unfold Builtin.«set.__init__» noKeywords Builtin.Frozenset.updateFrom
      generalize hp : pyIter = it
      unfold grown
      wp_walk
      subst hp
      refine wpAny_pyIter_list (hl.push _) (wpAny_bind (wpAny_runValue ?_))
      refine set_loop (by simp [hh]) hl hit hb fun u hu => ?_
      refine wpAny_pure (show wpAny _ _ (ret Value.none) _ _ _ from wpAny_pure ⟨rfl, hu⟩)
    · match r, hr with
      | .error _, hr => exact hr
      | .ok .next, hr => exact hr.elim
      | .ok .brk, hr => exact hr.elim
      | .ok .cont, hr => exact hr.elim
      | .ok (.ret r), ⟨e1, hu⟩ =>
        subst e1
        repeat any_goals first | assumption | wp_step
        exact q _ hu
end
/-- set(xs), xs a list of numbers -/
def cSetI (K : PySem.W.Frag) (w : World) : R1 := fun xs H Q => ∃ (l : Addr) (ns : List Int), xs = [.ref l] ∧ SqL K H l (ns.map V.int) ∧ ns.length ≤ 1000 ∧
  ∀ (p : Addr) (c : Nat), H p = none → c ≤ ns.length → Q (.ref p) (upd H p (SetO w p (fun j => decide (j ∈ ns)) c))
theorem K_setI {X : Cx} {K : PySem.W.Frag} {w : World} (hK : X.K = K) (hw : X.w = w) (hc : X.calm = true) : CallR X (.type "set") (cSetI K w) := by
  subst hK hw
  intro pins s σ H xs us Q I r h
  obtain ⟨l, ns, rfl, hq, hb, q⟩ := h
  obtain ⟨u, rfl, ru⟩ := r.one
  cases ru
  obtain ⟨its, rv, pl, hz⟩ := I.list hq
  refine set_of_list (I.ok.hd hc) pl.isList (ns := ns) (by simpa using ints_of_vals rv) (Nat.lt_of_le_of_lt (Nat.succ_le_succ hb) (by decide)) fun u hu => ?_
  obtain ⟨g, k, c, rfl, hS, hc', hk⟩ := hu
  exact ⟨.ref _, _, I.laid (t' := k) (o := SetO X.w s.heap.objs.size (fun j => decide (j ∈ ns)) c) hk (Nat.le_refl _) (setO_new hS), rfl, q _ c (I.hok.fresh (Nat.le_refl _)) hc'⟩
end Rd

namespace My
open PySem L2 Rd
def top (i : Nat) : Stmt := PySem.Challenge.pw_silentswaps_k04_compressed.main.body.getD i (.Pass ⟨0, 0, 0, 0⟩)
local macro_rules | `(tactic| walk_at "s") => `(tactic| (first
  | (with_reducible refine r_seq ?_)
  | (with_reducible refine r_asg ?_)
  | ((with_reducible refine' r_var (v := ?v) ?hv ?_); (case hv => exact rfl))
  | (with_reducible refine r_c ?_)
  | (with_reducible refine r_name ?_)
  | (with_reducible refine r_op ?_)
  | (with_reducible refine r_un ?_)
  | (with_reducible refine r_consA ?_)
  | (with_reducible refine r_nilA ?_)
  | (with_reducible refine r_I0 ?_)
  | (with_reducible refine r_U ?_)
  | (with_reducible refine r_eqI ?_)
  | (with_reducible refine r_neI ?_)
  | (with_reducible refine r_test ?_)
  | (with_reducible refine r_tB ?_)
  | (with_reducible refine r_kB ?_)
  | (with_reducible refine r_ifS ?_)
  | (with_reducible refine r_if ?_)
  | (with_reducible refine r_and ?_)
  | (with_reducible refine r_or ?_)
  | (with_reducible refine r_not ?_)
  | (with_reducible refine r_ret ?_)
  | (with_reducible refine r_retN ?_)
  | (with_reducible refine r_next ?_)
  | (with_reducible refine r_drop ?_)
  | (with_reducible refine r_brk ?_)
  | (with_reducible refine r_cont ?_)
  | (with_reducible refine r_andV ?_)
  | (with_reducible refine r_orV ?_)
  | (with_reducible refine r_notV ?_)
  | (with_reducible refine r_kNotV ?_)
  | (with_reducible refine r_lst ?_)
  | (with_reducible refine r_tup ?_)
  | (with_reducible refine r_dget ?_)
  | (with_reducible refine r_dput ?_)
  | (with_reducible refine r_use ?_)
  | (with_reducible refine r_cb ?_)
  | (with_reducible refine r_par ?_)
  | (with_reducible refine r_int ?_)
  | (with_reducible refine r_abs ?_)
  | (with_reducible refine r_max2 ?_)
  | (with_reducible refine r_min2 ?_)
  | (with_reducible refine r_pnil ?_)
  | (with_reducible refine r_pcons ?_)
  | (with_reducible refine r_eqS ?_)
  | (with_reducible refine r_neS ?_)
  | (with_reducible refine r_for ?_)
  | (with_reducible refine r_rng1 ?_)
  | (with_reducible refine r_rng2 ?_)
  | (with_reducible refine r_wl ?_)
  | (with_reducible refine r_wt ?_)
  | (with_reducible refine r_wq ?_)
  | (with_reducible refine r_ws ?_)
  | (with_reducible refine r_cWS ?_)
  | (with_reducible refine r_enum ?_)
  | (with_reducible refine r_zip ?_)
  | (with_reducible refine r_lc ?_)
  | (with_reducible refine r_dc ?_)
  | ((with_reducible refine r_kTurn ?ht ?_); (case ht => rfl))
  | ((with_reducible refine r_kTurnD ?ht ?_); (case ht => rfl))
  | (with_reducible refine r_yes ?_)
  | ((with_reducible refine r_kKeep1 ?hk ?_); (case hk => rfl))
  | ((with_reducible refine r_kKeepD1 ?hk ?_); (case hk => rfl))
  | (with_reducible refine r_gcons ?_)
  | (with_reducible refine r_gnil ?_)
  | (with_reducible refine r_bm ?_)
  | (with_reducible refine r_bm0 ?_)))
local macro_rules | `(tactic| walk_at "S") => `(tactic| repeat walk_at "s")

/-- what the walk asks of the module's names -/
structure Txt (mg : Str → Option Value) : Prop where
  z_tuple : mg "tuple" = none
  z_sorted : mg "sorted" = none
  z_range : mg "range" = none
  z_abs : mg "abs" = none
  z_int : mg "int" = none
  z_set : mg "set" = none
  z_max : mg "max" = none
  z_list : mg "list" = none
  z_enumerate : mg "enumerate" = none
  z_len : mg "len" = none
  z_min : mg "min" = none
  z_isinstance : mg "isinstance" = none
  z_bool : mg "bool" = none
/-! ### pictures: the mathematics -/
def insI (n : Int) : List Int → List Int
  | [] => [n]
  | m :: l => if n < m then n :: m :: l else if n = m then m :: l else m :: insI n l
def srt (ns : List Int) : List Int := ns.foldr insI [0]
theorem mem_insI (k n : Int) : ∀ l : List Int, k ∈ insI n l ↔ k = n ∨ k ∈ l
  | [] => by simp [insI]
  | m :: l => by
    unfold insI
    split
    · simp
    · split
      · rename_i h
        subst h
        simp
      · simp only [List.mem_cons, mem_insI k n l]
        constructor
        · rintro (h | h | h)
          · exact .inr (.inl h)
          · exact .inl h
          · exact .inr (.inr h)
        · rintro (h | h | h)
          · exact .inr (.inl h)
          · exact .inl h
          · exact .inr (.inr h)
theorem pw_insI (n : Int) : ∀ {l : List Int}, l.Pairwise (· < ·) → (insI n l).Pairwise (· < ·)
  | [], _ => List.pairwise_singleton _ _
  | m :: l, h => by
    have h' := List.pairwise_cons.mp h
    unfold insI
    split
    · rename_i c
      refine List.pairwise_cons.mpr ⟨fun x hx => ?_, h⟩
      rcases List.mem_cons.mp hx with e | e
      · omega
      · have := h'.1 x e
        omega
    · split
      · exact h
      · refine List.pairwise_cons.mpr ⟨fun x hx => ?_, pw_insI n h'.2⟩
        rcases (mem_insI x n l).mp hx with e | e
        · omega
        · exact h'.1 x e
theorem mem_srt (k : Int) : ∀ ns : List Int, k ∈ srt ns ↔ k = 0 ∨ k ∈ ns
  | [] => by simp [srt]
  | n :: ns => by
    show k ∈ insI n (srt ns) ↔ _
    rw [mem_insI, mem_srt k ns, List.mem_cons]
    constructor
    · rintro (h | h | h)
      · exact .inr (.inl h)
      · exact .inl h
      · exact .inr (.inr h)
    · rintro (h | h | h)
      · exact .inr (.inl h)
      · exact .inl h
      · exact .inr (.inr h)
theorem pw_srt : ∀ ns : List Int, (srt ns).Pairwise (· < ·)
  | [] => List.pairwise_singleton _ _
  | n :: ns => pw_insI n (pw_srt ns)
/-- two rising lists with the same members are one -/
theorem rising_eq : ∀ {l m : List Int}, l.Pairwise (· < ·) → m.Pairwise (· < ·) → (∀ k, k ∈ l ↔ k ∈ m) → l = m
  | [], [], _, _, _ => rfl
  | [], y :: m, _, _, h => by
    have := (h y).mpr List.mem_cons_self
    cases this
  | x :: l, [], _, _, h => by
    have := (h x).mp List.mem_cons_self
    cases this
  | x :: l, y :: m, a, b, h => by
    have a' := List.pairwise_cons.mp a
    have b' := List.pairwise_cons.mp b
    have e : x = y := by
      rcases List.mem_cons.mp ((h x).mp List.mem_cons_self) with e | e
      · exact e
      · rcases List.mem_cons.mp ((h y).mpr List.mem_cons_self) with e' | e'
        · exact e'.symm
        · have h1 := b'.1 x e
          have h2 := a'.1 y e'
          omega
    subst e
    refine congrArg (x :: ·) (rising_eq a'.2 b'.2 fun k => ⟨fun hk => ?_, fun hk => ?_⟩)
    · rcases List.mem_cons.mp ((h k).mp (List.mem_cons_of_mem _ hk)) with e | e
      · have := a'.1 k hk
        omega
      · exact e
    · rcases List.mem_cons.mp ((h k).mpr (List.mem_cons_of_mem _ hk)) with e | e
      · have := b'.1 k hk
        omega
      · exact e
theorem nodup_rising {l : List Int} (h : l.Pairwise (· < ·)) : l.Nodup := h.imp fun h e => by omega
/-- the number by which a number is replaced -/
def rank (ns : List Int) (n : Int) : Nat := (srt ns).idxOf n
theorem idx_at {l : List Int} {i : Nat} {n : Int} (h : l.Pairwise (· < ·)) (e : l[i]? = some n) : l.idxOf n = i := by
  obtain ⟨hi, rfl⟩ := List.getElem?_eq_some_iff.mp e
  exact (nodup_rising h).idxOf_getElem i hi
theorem at_idx {l : List Int} {n : Int} (m : n ∈ l) : l[l.idxOf n]? = some n := by
  have h := List.idxOf_lt_length_of_mem m
  rw [List.getElem?_eq_getElem h, List.getElem_idxOf]
def nums (ps : List (Str × Int)) : List Int := ps.map Prod.snd
def pd (q : Str × Int) : PyData := .tuple [.str q.1, .int q.2]
def pds (ps : List (Str × Int)) : List PyData := ps.map pd
/-- the picture of some values -/
def cmp (ps : List (Str × Int)) : List (Str × Int) := ps.map fun q => (q.1, (rank (nums ps) q.2 : Int))
theorem len_insI (n : Int) : ∀ l : List Int, (insI n l).length ≤ l.length + 1
  | [] => by simp [insI]
  | m :: l => by
    have := len_insI n l
    unfold insI
    split
    · simp
    · split
      · simp
      · simp only [List.length_cons]
        omega
theorem len_srt : ∀ ns : List Int, (srt ns).length ≤ ns.length + 1
  | [] => by simp [srt]
  | n :: ns => by
    have h1 := len_insI n (srt ns)
    have h2 := len_srt ns
    show (insI n (srt ns)).length ≤ _
    rw [List.length_cons]
    omega
theorem cmp_length (ps : List (Str × Int)) : (cmp ps).length = ps.length := List.length_map _
theorem nums_cmp (ps : List (Str × Int)) : nums (cmp ps) = (nums ps).map fun n => (rank (nums ps) n : Int) := by
  unfold nums cmp
  rw [List.map_map, List.map_map]
  rfl
/-- the numbers 0, 1, .. below k -/
def upto (k : Nat) : List Int := (List.range k).map fun i => ((i : Nat) : Int)
theorem pw_upto (k : Nat) : (upto k).Pairwise (· < ·) := by
  unfold upto
  rw [List.pairwise_map]
  exact List.pairwise_lt_range.imp fun h => by omega
theorem mem_upto (k : Nat) (n : Int) : n ∈ upto k ↔ 0 ≤ n ∧ n < (k : Int) := by
  unfold upto
  rw [List.mem_map]
  constructor
  · rintro ⟨i, hi, rfl⟩
    have := List.mem_range.mp hi
    omega
  · rintro ⟨h0, h1⟩
    exact ⟨n.toNat, List.mem_range.mpr (by omega), by omega⟩
/-- the compressed numbers are 0, 1, .. without a gap -/
theorem srt_cmp {ps : List (Str × Int)} (h : ∀ n ∈ nums ps, 0 ≤ n) : srt (nums (cmp ps)) = upto (srt (nums ps)).length := by
  refine rising_eq (pw_srt _) (pw_upto _) fun k => ?_
  rw [mem_srt, mem_upto, nums_cmp, List.mem_map]
  have z0 : (0 : Int) ∈ srt (nums ps) := (mem_srt _ _).mpr (.inl rfl)
  have hpos : 0 < (srt (nums ps)).length := List.length_pos_of_mem z0
  constructor
  · rintro (rfl | ⟨n, hn, rfl⟩)
    · omega
    · have m : n ∈ srt (nums ps) := (mem_srt _ _).mpr (.inr hn)
      have := List.idxOf_lt_length_of_mem m
      show 0 ≤ (((srt (nums ps)).idxOf n : Nat) : Int) ∧ (((srt (nums ps)).idxOf n : Nat) : Int) < _
      omega
  · rintro ⟨h0, h1⟩
    have hk : k.toNat < (srt (nums ps)).length := by omega
    have e := List.getElem?_eq_getElem hk
    have m := List.getElem_mem hk
    have ei := idx_at (pw_srt _) e
    rcases (mem_srt _ _).mp m with z | z
    · left
      -- 0 is the least
      cases hs : srt (nums ps) with
      | nil =>
        rw [hs] at hpos
        cases hpos
      | cons x l =>
        have pw := pw_srt (nums ps)
        rw [hs] at pw
        have hx : x = 0 := by
          rcases (mem_srt x (nums ps)).mp (by rw [hs]; exact List.mem_cons_self) with q | q
          · exact q
          · have q0 := h x q
            rw [hs] at z0
            rcases List.mem_cons.mp z0 with r | r
            · exact r.symm
            · have := (List.pairwise_cons.mp pw).1 0 r
              omega
        have e0 : (srt (nums ps))[0]? = some 0 := by
          rw [hs, hx]
          rfl
        have i0 := idx_at (pw_srt _) e0
        rw [z, i0] at ei
        omega
    · right
      refine ⟨_, z, ?_⟩
      show (((srt (nums ps)).idxOf _ : Nat) : Int) = k
      rw [ei]
      omega
theorem rank_cmp {ps : List (Str × Int)} (h : ∀ n ∈ nums ps, 0 ≤ n) {n : Int} (hn : n ∈ nums (cmp ps)) : (rank (nums (cmp ps)) n : Int) = n := by
  unfold rank
  have m : n ∈ srt (nums (cmp ps)) := (mem_srt _ _).mpr (.inr hn)
  rw [srt_cmp h] at m ⊢
  obtain ⟨h0, h1⟩ := (mem_upto _ _).mp m
  have e : (upto (srt (nums ps)).length)[n.toNat]? = some n := by
    unfold upto
    rw [List.getElem?_map, List.getElem?_range (by omega)]
    show some ((n.toNat : Nat) : Int) = some n
    rw [Int.toNat_of_nonneg h0]
  rw [idx_at (pw_upto _) e]
  omega
/-- compressing once more changes nothing -/
theorem cmp_cmp {ps : List (Str × Int)} (h : ∀ n ∈ nums ps, 0 ≤ n) : cmp (cmp ps) = cmp ps := by
  have e : ∀ q ∈ cmp ps, ((q.1, (rank (nums (cmp ps)) q.2 : Int)) : Str × Int) = q := fun q hq => by
    have hn : q.2 ∈ nums (cmp ps) := List.mem_map_of_mem hq
    rw [rank_cmp h hn]
  show (cmp ps).map (fun q => (q.1, (rank (nums (cmp ps)) q.2 : Int))) = cmp ps
  conv => rhs; rw [← List.map_id (cmp ps)]
  exact List.map_congr_left e

section
variable {P : Program} {w : World} {K : PySem.W.Frag} {mg : Str → Option Value} {base : Heap}
/-! ### the draws: a dict of four numbers -/
def bagL (d s t r : Int) : List (Key × V) := [(Sum.inr "digits", .int d), (Sum.inr "seed", .int s), (Sum.inr "turn", .int t), (Sum.inr "room", .int r)]
/-- the draws of a cell stand at p, at least n of them are left -/
def BagAt (H : Hp) (p : Addr) (n : Nat) : Prop := ∃ d s t r : Int, H p = some (.dK (bagL d s t r)) ∧ 0 ≤ d ∧ 0 ≤ s ∧ s < 2305843009213693951 ∧ 0 ≤ t ∧ t + n ≤ 80000000000
theorem BagAt.mono {H : Hp} {p : Addr} {n m : Nat} (b : BagAt H p n) (h : m ≤ n) : BagAt H p m := by
  obtain ⟨d, s, t, r, e, h1, h2, h3, h4, h5⟩ := b
  exact ⟨d, s, t, r, e, h1, h2, h3, h4, by omega⟩
theorem BagAt.kp {H H' : Hp} {p : Addr} {n : Nat} {ex : List Addr} (b : BagAt H p n) (k : Kp ex H H') (m : p ∉ ex) : BagAt H' p n := by
  obtain ⟨d, s, t, r, e, h⟩ := b
  exact ⟨d, s, t, r, k _ _ e m, h⟩
theorem BagAt.some {H : Hp} {p : Addr} {n : Nat} (b : BagAt H p n) : ∃ o, H p = Option.some o := by
  obtain ⟨d, s, t, r, e, _⟩ := b
  exact ⟨_, e⟩
theorem bag_d (d s t r : Int) : valV (bagL d s t r) (Sum.inr "digits") = some (.int d) := by
  unfold bagL
  rw [valV_pos rfl]
theorem bag_s (d s t r : Int) : valV (bagL d s t r) (Sum.inr "seed") = some (.int s) := by
  unfold bagL
  rw [valV_neg (show ¬ (Sum.inr ("digits" : Str) : Key) = Sum.inr ("seed" : Str) by decide +kernel), valV_pos rfl]
theorem bag_t (d s t r : Int) : valV (bagL d s t r) (Sum.inr "turn") = some (.int t) := by
  unfold bagL
  rw [valV_neg (show ¬ (Sum.inr ("digits" : Str) : Key) = Sum.inr ("turn" : Str) by decide +kernel), valV_neg (show ¬ (Sum.inr ("seed" : Str) : Key) = Sum.inr ("turn" : Str) by decide +kernel), valV_pos rfl]
theorem bag_d' (d s t r z : Int) : putK (bagL d s t r) (Sum.inr "digits") (.int z) = bagL z s t r := by
  unfold putK bagL
  have e1 : ¬ (("seed" : Str) = "digits") := by decide +kernel
  have e2 : ¬ (("turn" : Str) = "digits") := by decide +kernel
  have e3 : ¬ (("room" : Str) = "digits") := by decide +kernel
  simp [e1, e2, e3]
theorem bag_t' (d s t r z : Int) : putK (bagL d s t r) (Sum.inr "turn") (.int z) = bagL d s z r := by
  unfold putK bagL
  have e1 : ¬ (("seed" : Str) = "turn") := by decide +kernel
  have e2 : ¬ (("digits" : Str) = "turn") := by decide +kernel
  have e3 : ¬ (("room" : Str) = "turn") := by decide +kernel
  simp [e1, e2, e3]
theorem bag_len (d s t r : Int) : (bagL d s t r).length < sizeLine := by
  show 4 < sizeLine
  decide
theorem bag_mk (d s t r : Int) : mergeK [] (bagL d s t r) = bagL d s t r := by
  have e1 : ¬ (("seed" : Str) = "digits") := by decide +kernel
  have e2 : ¬ (("turn" : Str) = "digits") := by decide +kernel
  have e3 : ¬ (("room" : Str) = "digits") := by decide +kernel
  have e4 : ¬ (("turn" : Str) = "seed") := by decide +kernel
  have e5 : ¬ (("room" : Str) = "seed") := by decide +kernel
  have e6 : ¬ (("room" : Str) = "turn") := by decide +kernel
  have f1 : ¬ (("digits" : Str) = "seed") := by decide +kernel
  have f2 : ¬ (("digits" : Str) = "turn") := by decide +kernel
  have f3 : ¬ (("digits" : Str) = "room") := by decide +kernel
  have f4 : ¬ (("seed" : Str) = "turn") := by decide +kernel
  have f5 : ¬ (("seed" : Str) = "room") := by decide +kernel
  have f6 : ¬ (("turn" : Str) = "room") := by decide +kernel
  simp [mergeK, bagL, putK, f1, f2, f3, f4, f5, f6]
/-- _law_bag(script, at): a new bag -/
def sp__law_bag (K : PySem.W.Frag) : Sp := fun vs H Q _ => ∃ (a : Addr) (ns : List Int) (k : Nat), vs = [.ref a, .int (k : Int)] ∧ SqL K H a (ns.map V.int) ∧ k ≤ 1000 ∧
  ∀ p H', H p = none → Kp [] H H' → BagAt H' p 70000000000 → Q (.ref p) H'
/-- _law_take(bag, many): some number from 0 to below many; nothing but the bag changes -/
def sp__law_take : Sp := fun vs H Q _ => ∃ (p : Addr) (n : Nat) (m : Int), vs = [.ref p, .int m] ∧ BagAt H p (n + 1) ∧ 0 < m ∧ m < 2 ^ 200 ∧
  ∀ (r : Int) H', 0 ≤ r → r < m → Kp [p] H H' → BagAt H' p n → Q (.int r) H'
theorem cdivw {i j : Int} (h : 0 < j) (h2 : j < 2 ^ 200) : CDivW i j := wide_div h (by omega : j.natAbs < 2 ^ 200) (by decide) (by decide)
abbrev s__law_take : Stmt := top 5
theorem sc__law_take : FnScope ["_law_bag_here", "_law_many", "_law_digit", "_law_mixed"] ["_law_bag_here", "_law_many"] (defScope s__law_take) :=
  ⟨rfl, rfl, rfl, by decide +kernel, rfl, by decide +kernel, by decide +kernel⟩
theorem ok__law_take {f : Addr} {fd : FuncData} (F : Fun K "_law_take" "_law_take" s__law_take f fd) (T : Txt mg) :
    FnOk P w K mg base CX0 1 f fd ["_law_bag_here", "_law_many"] (sp__law_take) := by
  refine F.ok sc__law_take (fun vs H Q E h => ?_) (fun cdv A outer s H vs Q E hr h => ?_)
  · obtain ⟨p, n, m, rfl, _⟩ := h
    rfl
  · obtain ⟨p, n, m, rfl, hb, h0, h1, q⟩ := h
    obtain ⟨d, z, t, r, e, b1, b2, b3, b4, b5⟩ := hb
    have hu := hu_of hr
    have hu64 := hr.units
    refine ⟨_, (pss_cons (ps_if (pt_cmpR op_gt (pe_dget hu (pv 0) pe_str (fun _ _ => rfl)) pe_int (nomark _))
          (pss_cons (ps_set (i := 2) sc__law_take.nd rfl (by first | exact Or.inl rfl | exact Or.inr rfl) (pe_op op_modN (pe_callTy cr_int (by rfl) T.z_int (by decide +kernel) (pa_cons (pe_dget hu (pv 0) pe_str (fun _ _ => rfl)) pa_nil)) (pv 1)))
          (pss_cons (ps_dput hu (pv 0) pe_str (pe_op op_fdivW (pe_dget hu (pv 0) pe_str (fun _ _ => rfl)) (pv 1)) rfl)
          (pss_one (ps_ret (pv 2)))))
          pss_nil)
        (pss_cons (ps_dput hu (pv 0) pe_str (pe_op op_add (pe_dget hu (pv 0) pe_str (fun _ _ => rfl)) pe_int) rfl)
        (pss_cons (ps_set (i := 3) sc__law_take.nd rfl (by first | exact Or.inl rfl | exact Or.inr rfl) (pe_op op_modN (pe_callTy cr_int (by rfl) T.z_int (by decide +kernel) (pa_cons (pe_op op_add (pe_op op_pow (pe_op op_add (pe_dget hu (pv 0) pe_str (fun _ _ => rfl)) (pe_op op_mul pe_int (pe_dget hu (pv 0) pe_str (fun _ _ => rfl)))) pe_int) (pe_op op_mul pe_int (pe_dget hu (pv 0) pe_str (fun _ _ => rfl)))) pa_nil)) pe_int))
        (pss_cons (ps_set (i := 3) sc__law_take.nd rfl (by first | exact Or.inl rfl | exact Or.inr rfl) (pe_op op_modN (pe_callTy cr_int (by rfl) T.z_int (by decide +kernel) (pa_cons (pe_op op_pow (pe_op op_add (pv 3) (pe_op op_mul pe_int (pe_dget hu (pv 0) pe_str (fun _ _ => rfl)))) pe_int) pa_nil)) pe_int))
        (pss_one (ps_ret (pe_op op_modN (pe_callTy cr_int (by rfl) T.z_int (by decide +kernel) (pa_cons (pe_op op_fdivW (pv 3) pe_int) pa_nil)) (pv 1)))))))), ?_⟩
    walk_at "S"
    refine r_kDGs e (bag_d _ _ _ _) ?_
    walk_at "S"
    refine r_kIfS (fun c => ?_) (fun c => ?_)
    · walk_at "S"
      refine r_kDGs e (bag_d _ _ _ _) ?_
      walk_at "S"
      refine r_I (by omega) ?_
      walk_at "S"
      refine r_kDGs e (bag_d _ _ _ _) ?_
      walk_at "S"
      refine r_I (cdivw h0 h1) ?_
      walk_at "S"
      refine r_kDPs e (bag_len _ _ _ _) ?_
      walk_at "S"
      rw [bag_d']
      refine q _ _ (Int.fmod_nonneg_of_pos _ h0) (Int.fmod_lt_of_pos _ h0) (Kp.put (by simp)) ⟨_, _, _, _, upd_same, Int.ediv_nonneg b1 (by omega), b2, b3, b4, by omega⟩
    · walk_at "S"
      refine r_kDGs e (bag_t _ _ _ _) ?_
      walk_at "S"
      refine r_kDPs e (bag_len _ _ _ _) ?_
      rw [bag_t']
      have e' : upd H p (.dK (bagL d z (t + 1) r)) p = some (.dK (bagL d z (t + 1) r)) := upd_same
      generalize hH : upd H p (.dK (bagL d z (t + 1) r)) = H1 at e'
      have k1 : Kp [p] H H1 := by
        rw [← hH]
        exact Kp.put (by simp)
      walk_at "S"
      refine r_kDGs e' (bag_s _ _ _ _) ?_
      walk_at "S"
      refine r_kDGs e' (bag_t _ _ _ _) ?_
      walk_at "S"
      refine r_I (.inl (by decide)) ?_
      walk_at "S"
      refine r_I ⟨by decide, by decide, by omega⟩ ?_
      walk_at "S"
      refine r_kDGs e' (bag_t _ _ _ _) ?_
      walk_at "S"
      refine r_I (.inl (by decide)) ?_
      walk_at "S"
      refine r_I (by decide) ?_
      generalize hx : Int.fmod _ 2305843009213693921 = x
      have x0 : 0 ≤ x := hx ▸ Int.fmod_nonneg_of_pos _ (by decide)
      have x1 : x < 2305843009213693921 := hx ▸ Int.fmod_lt_of_pos _ (by decide)
      walk_at "S"
      refine r_kDGs e' (bag_t _ _ _ _) ?_
      walk_at "S"
      refine r_I (.inl (by decide)) ?_
      walk_at "S"
      refine r_I ⟨by decide, by decide, by omega⟩ ?_
      walk_at "S"
      refine r_I (by decide) ?_
      walk_at "S"
      refine r_I (cdivw (by decide) (by decide)) ?_
      walk_at "S"
      refine r_I (by omega) ?_
      exact q _ _ (Int.fmod_nonneg_of_pos _ h0) (Int.fmod_lt_of_pos _ h0) k1 ⟨_, _, _, _, e', b1, b2, b3, by omega, by omega⟩

abbrev s__law_bag : Stmt := top 4
theorem sc__law_bag : FnScope ["_law_script", "_law_at", "_law_cell", "_law_digits"] ["_law_script", "_law_at"] (defScope s__law_bag) :=
  ⟨rfl, rfl, rfl, by decide +kernel, rfl, by decide +kernel, by decide +kernel⟩
theorem ok__law_bag {f : Addr} {fd : FuncData} (F : Fun K "_law_bag" "_law_bag" s__law_bag f fd) (T : Txt mg) :
    FnOk P w K mg base CX0 1 f fd ["_law_script", "_law_at"] (sp__law_bag K) := by
  refine F.ok sc__law_bag (fun vs H Q E h => ?_) (fun cdv A outer s H vs Q E hr h => ?_)
  · obtain ⟨a, ns, k, rfl, _⟩ := h
    rfl
  · obtain ⟨a, ns, k, rfl, hS, hk, q⟩ := h
    have hu := hu_of hr
    have hu64 := hr.units
    refine ⟨_, (pss_cons (ps_set (i := 2) sc__law_bag.nd rfl (by first | exact Or.inl rfl | exact Or.inr rfl) (pe_ifExp (pt_cmpR op_lt (pv 1) (pe_callB (K_len (K := K) rfl) (by rfl) T.z_len (by decide +kernel) (pa_cons (pv 0) pa_nil)) (nomark _)) (pe_ix (K_ixL (K := K) rfl) (pv 0) (pv 1) (fun _ _ => rfl)) pe_int))
        (pss_cons (ps_set (i := 3) sc__law_bag.nd rfl (by first | exact Or.inl rfl | exact Or.inr rfl) (pe_ifExp (pt_cmpR op_ge (pe_callB cr_abs (by rfl) T.z_abs (by decide +kernel) (pa_cons (pv 2) pa_nil)) (pe_op op_pow pe_int pe_int) (nomark _)) (pe_callB cr_abs (by rfl) T.z_abs (by decide +kernel) (pa_cons (pv 2) pa_nil)) pe_int))
        (pss_one (ps_ret (pe_disp (pps_cons pe_str (pv 3) (pps_cons pe_str (pe_op op_modN (pe_callTy cr_int (by rfl) T.z_int (by decide +kernel) (pa_cons (pv 2) pa_nil)) pe_int) (pps_cons pe_str (pe_op op_mul pe_int (pv 1)) (pps_cons pe_str pe_int pps_nil)))) (by rfl) (by rfl) (fun z => by cases z) (by decide)))))), ?_⟩
    have rest : ∀ c d : Int, 0 ≤ d → ∀ (p : Addr) (H1 : Hp), H p = none → Kp [] H H1 → H1 p = some (.dK []) →
        kDisp Q p ((bagL d (Int.fmod c 2305843009213693951) (31 * (k : Int)) 0).map fun kv => (kV kv.1, kv.2)) H1 := fun c d hd p H1 np k1 e1 => by
      refine r_kDisp e1 (by show 4 ≤ 15; decide) fun H2 k2 e2 => ?_
      rw [bag_mk] at e2
      exact q p H2 np (k1.nil.trans k2 |>.drop np) ⟨_, _, _, _, e2, hd, Int.fmod_nonneg_of_pos _ (by decide), Int.fmod_lt_of_pos _ (by decide), by omega, by omega⟩
    have nn : ∀ c : Int, 0 ≤ (if c < 0 then -c else c) := fun c => by
      split <;> omega
    walk_at "S"
    refine r_lenL hS ?_
    walk_at "S"
    refine r_kIf (fun c => ?_) (fun c => ?_)
    all_goals
      walk_at "S"
    · have c' : (k : Int) < ((ns.map V.int).length : Nat) := of_decide_eq_true c
      obtain ⟨v, hv, hm, _⟩ := atI_in (l := ns.map V.int) (i := (k : Int)) (by omega) c'
      obtain ⟨z, _, rfl⟩ := List.mem_map.mp hm
      refine r_ixL hS hv ?_
      walk_at "S"
      refine r_I ⟨by decide, by decide, by decide⟩ ?_
      walk_at "S"
      refine r_kIf (fun c => ?_) (fun c => ?_)
      all_goals
        walk_at "S"
        refine r_disp fun p H1 np k1 e1 => ?_
        walk_at "S"
        refine r_I (by decide) ?_
        walk_at "S"
        refine r_I (.inl (by decide)) ?_
        walk_at "S"
      · exact rest z _ (nn z) p H1 np k1 e1
      · exact rest z _ (by decide) p H1 np k1 e1
    · refine r_I ⟨by decide, by decide, by decide⟩ ?_
      walk_at "S"
      refine r_kIf (fun c => ?_) (fun c => ?_)
      all_goals
        walk_at "S"
        refine r_disp fun p H1 np k1 e1 => ?_
        walk_at "S"
        refine r_I (by decide) ?_
        walk_at "S"
        refine r_I (.inl (by decide)) ?_
        walk_at "S"
      · exact rest 0 _ (nn 0) p H1 np k1 e1
      · exact rest 0 _ (by decide) p H1 np k1 e1
/-- _law_of(bag, some), some a list of texts: one of them -/
def sp__law_of (K : PySem.W.Frag) : Sp := fun vs H Q _ => ∃ (p a : Addr) (n : Nat) (ws : List Str), vs = [.ref p, .ref a] ∧ BagAt H p (n + 1) ∧ SqL K H a (ws.map V.str) ∧ 0 < ws.length ∧ ws.length ≤ 1000000 ∧
  ∀ (w : Str) H', w ∈ ws → Kp [p] H H' → BagAt H' p n → Q (.str w) H'
theorem sql_bag {H H' : Hp} {p a : Addr} {xs : List V} {n : Nat} (h : SqL K H a xs) (b : BagAt H p n) (k : Kp [p] H H') : SqL K H' a xs := by
  obtain ⟨d, s, t, r, e, _⟩ := b
  exact sql_but h k e (fun _ z => nomatch z) (fun _ _ z => nomatch z)
abbrev s__law_of : Stmt := top 6
theorem sc__law_of : FnScope ["_law_bag_here", "_law_some"] ["_law_bag_here", "_law_some"] (defScope s__law_of) :=
  ⟨rfl, rfl, rfl, by decide +kernel, rfl, by decide +kernel, by decide +kernel⟩
theorem ok__law_of {f : Addr} {fd : FuncData} (F : Fun K "_law_of" "_law_of" s__law_of f fd) (T : Txt mg) (U__law_take : Use P w K mg base 1 "_law_take" ["_law_bag_here", "_law_many"] (sp__law_take)) :
    FnOk P w K mg base CX0 2 f fd ["_law_bag_here", "_law_some"] (sp__law_of K) := by
  refine F.ok sc__law_of (fun vs H Q E h => ?_) (fun cdv A outer s H vs Q E hr h => ?_)
  · obtain ⟨p, a, n, ws, rfl, _⟩ := h
    rfl
  · obtain ⟨p, a, n, ws, rfl, hb, hS, h0, h1, q⟩ := h
    have hu := hu_of hr
    have hu64 := hr.units
    refine ⟨_, (pss_one (ps_ret (pe_ix (K_ixL (K := K) rfl) (pv 1) (pe_use U__law_take (hr.mono (by decide)) (by rfl) (pa_cons (pv 0) (pa_cons (pe_callB (K_len (K := K) rfl) (by rfl) T.z_len (by decide +kernel) (pa_cons (pv 1) pa_nil)) pa_nil))) (fun _ _ => rfl)))), ?_⟩
    walk_at "S"
    refine r_lenL hS ?_
    walk_at "S"
    have hl : (ws.map V.str).length = ws.length := List.length_map _
    refine ⟨p, n, _, rfl, hb, by rw [hl]; omega, by rw [hl]; omega, fun r H1 r0 r1 k1 b1 => ?_⟩
    obtain ⟨v, hv, hm, _⟩ := atI_in (l := ws.map V.str) r0 r1
    obtain ⟨z, hz, rfl⟩ := List.mem_map.mp hm
    refine r_ixL (sql_bag hS hb k1) hv ?_
    exact q z H1 hz k1 b1

/-! ### names: one to eight letters a to z, none of them reserved -/
def reserved : List Str := ["kind", "def", "set", "ask", "call", "again", "check", "mean", "if", "else", "end", "return", "refuse", "is", "self", "cls"]
def res13 : List Str := ["kind", "def", "set", "ask", "call", "again", "check", "mean", "if", "else", "end", "return", "refuse"]
def res3 : List Str := ["is", "self", "cls"]
theorem reserved_eq : reserved = res13 ++ res3 := rfl
def letters : Str := "abcdefghijklmnopqrstuvwxyz"
def NameOk (w : Str) : Prop := 1 ≤ w.cps.toList.length ∧ w.cps.toList.length ≤ 8 ∧ (∀ c ∈ w.cps.toList, 97 ≤ c ∧ c ≤ 122) ∧ w ∉ reserved
instance (w : Str) : Decidable (NameOk w) := by
  unfold NameOk
  infer_instance
def menu8 : List Str := ["a", "b", "c", "n", "text", "cents", "rest", "whole"]
def qs : List Str := letters.cps.toList.map fun c => ("q" : Str) ++ ⟨#[c]⟩
theorem menu_ok : ∀ w ∈ menu8, NameOk w := by decide +kernel
theorem qs_ok : ∀ w ∈ qs, NameOk w := by decide +kernel
theorem qs_len : qs.length = 26 := by decide +kernel
theorem qs_nd : qs.Nodup := by decide +kernel
theorem letters_len : letters.cps.toList.length = 26 := by decide +kernel
theorem letters_in : ∀ c ∈ letters.cps.toList, 97 ≤ c ∧ c ≤ 122 := by decide +kernel
theorem str_length (z : Str) : z.length = z.cps.toList.length := by
  show z.cps.size = _
  simp
theorem str_app (a b : Str) : (a ++ b).cps.toList = a.cps.toList ++ b.cps.toList := by
  show (a.cps ++ b.cps).toList = _
  simp
theorem nodup_le {α : Type} [DecidableEq α] : ∀ {l m : List α}, l.Nodup → (∀ x ∈ l, x ∈ m) → l.length ≤ m.length
  | [], _, _, _ => Nat.zero_le _
  | x :: l, m, h, s => by
    have hx := List.nodup_cons.mp h
    have ih := nodup_le (l := l) (m := m.erase x) hx.2 fun y hy => by
      have n : y ≠ x := fun e => hx.1 (e ▸ hy)
      exact (List.mem_erase_of_ne n).mpr (s y (List.mem_cons_of_mem _ hy))
    have mx := s x List.mem_cons_self
    rw [List.length_erase_of_mem mx] at ih
    have : 0 < m.length := List.length_pos_of_mem mx
    rw [List.length_cons]
    omega
/-- among the 26 words one is not taken -/
theorem qs_left {ws : List Str} (h : ws.length ≤ 25) : (qs.filter fun w => decide (w ∉ ws)) ≠ [] := by
  intro e
  have all : ∀ w ∈ qs, w ∈ ws := fun w hw => by
    by_cases c : w ∈ ws
    · exact c
    · have m : w ∈ qs.filter fun w => decide (w ∉ ws) := List.mem_filter.mpr ⟨hw, decide_eq_true c⟩
      rw [e] at m
      cases m
  have := nodup_le qs_nd all
  rw [qs_len] at this
  omega
/-- _law_name(bag, taken), taken a list of at most 25 texts: a name that is none of them -/
def sp__law_name (K : PySem.W.Frag) : Sp := fun vs H Q _ => ∃ (p a : Addr) (n : Nat) (ws : List Str), vs = [.ref p, .ref a] ∧ BagAt H p (n + 12) ∧ SqL K H a (ws.map V.str) ∧ ws.length ≤ 25 ∧
  ∀ (w : Str) H', NameOk w → w ∉ ws → Kp [p] H H' → BagAt H' p n → Q (.str w) H'
abbrev s__law_name : Stmt := top 7
theorem sc__law_name : FnScope ["_law_bag_here", "_law_taken", "_law_letters", "_law_word", "_law_k", "_law_reserved", "_law_letter", "_law_one"] ["_law_bag_here", "_law_taken"] (defScope s__law_name) :=
  ⟨rfl, rfl, rfl, by decide +kernel, rfl, by decide +kernel, by decide +kernel⟩
theorem ok__law_name {f : Addr} {fd : FuncData} (F : Fun K "_law_name" "_law_name" s__law_name f fd) (T : Txt mg) (U__law_take : Use P w K mg base 1 "_law_take" ["_law_bag_here", "_law_many"] (sp__law_take)) (U__law_of : Use P w K mg base 2 "_law_of" ["_law_bag_here", "_law_some"] (sp__law_of K)) :
    FnOk P w K mg base CX0 3 f fd ["_law_bag_here", "_law_taken"] (sp__law_name K) := by
  refine F.ok sc__law_name (fun vs H Q E h => ?_) (fun cdv A outer s H vs Q E hr h => ?_)
  · obtain ⟨p, a, n, ws, rfl, _⟩ := h
    rfl
  · obtain ⟨p, a, n, ws, rfl, hb, hS, hw, q⟩ := h
    have hu := hu_of hr
    have hu64 := hr.units
    refine ⟨_, (pss_cons (ps_set (i := 2) sc__law_name.nd rfl (by first | exact Or.inl rfl | exact Or.inr rfl) pe_str)
        (pss_cons (ps_set (i := 3) sc__law_name.nd rfl (by first | exact Or.inl rfl | exact Or.inr rfl) (pe_use U__law_of (hr.mono (by decide)) (by rfl) (pa_cons (pv 0) (pa_cons (pe_lst (pa_cons pe_str (pa_cons pe_str (pa_cons pe_str (pa_cons pe_str (pa_cons pe_str (pa_cons pe_str (pa_cons pe_str (pa_cons pe_str pa_nil))))))))) pa_nil))))
        (pss_cutS (ps_if (pt_cmpR op_eq (pe_use U__law_take (hr.mono (by decide)) (by rfl) (pa_cons (pv 0) (pa_cons pe_int pa_nil))) pe_int (nomark _))
          (pss_cons (ps_set (i := 3) sc__law_name.nd rfl (by first | exact Or.inl rfl | exact Or.inr rfl) pe_str)
          (pss_one (ps_for PassesOwn.never (by rfl) (pi_range1 (by rfl) T.z_range (pa_cons (pe_op op_add pe_int (pe_use U__law_take (hr.mono (by decide)) (by rfl) (pa_cons (pv 0) (pa_cons pe_int pa_nil)))) pa_nil)) (pg_name (i := 4) sc__law_name.nd rfl (by first | exact Or.inl rfl | exact Or.inr rfl))
            (pss_one (ps_set (i := 3) sc__law_name.nd rfl (by first | exact Or.inl rfl | exact Or.inr rfl) (pe_op op_addT (pv 3) (pe_ix ix_str (pv 2) (pe_use U__law_take (hr.mono (by decide)) (by rfl) (pa_cons (pv 0) (pa_cons pe_int pa_nil))) (fun _ _ => rfl))))))))
          pss_nil)
        (pss_cons (ps_set (i := 5) sc__law_name.nd rfl (by first | exact Or.inl rfl | exact Or.inr rfl) (pe_lst (pa_cons pe_str (pa_cons pe_str (pa_cons pe_str (pa_cons pe_str (pa_cons pe_str (pa_cons pe_str (pa_cons pe_str (pa_cons pe_str (pa_cons pe_str (pa_cons pe_str (pa_cons pe_str (pa_cons pe_str (pa_cons pe_str pa_nil)))))))))))))))
        (pss_cons (ps_if (pt_cutT (PW.pt (pw_or (pt_cmpR (K_in (K := K) rfl) (pv 3) (pv 5) (by with_unfolding_all rfl)) (pw_or (pt_cmpR (K_in (K := K) rfl) (pv 3) (pe_lst (pa_cons pe_str (pa_cons pe_str (pa_cons pe_str pa_nil)))) (by with_unfolding_all rfl)) (pw_or1 (pt_cmpR (K_in (K := K) rfl) (pv 3) (pv 1) (by with_unfolding_all rfl)))))))
          (pss_one (ps_ret (pe_ix (K_ixL (K := K) rfl) (pe_lc (own := [("_law_one", 7)]) (by rfl) sc__law_name.nd (K_pil (K := K) rfl (pe_lc (own := [("_law_letter", 6)]) (by rfl) sc__law_name.nd (pi_str (pv 2)) (blkOk_by (own := [("_law_letter", 6)]) (N := ["_law_bag_here", "_law_taken", "_law_letters", "_law_word", "_law_k", "_law_reserved", "_law_letter", "_law_one"]) (sc := defScope s__law_name) (by decide +kernel)) (fun _ _ _ _ _ => (pg_name (i := 6) sc__law_name.nd rfl (by first | exact Or.inl rfl | exact Or.inr rfl))) (fun _ _ _ _ _ => pts_nil) (fun _ _ _ _ _ => (pe_op op_addT pe_str (pv 6))))) (blkOk_by (own := [("_law_one", 7)]) (N := ["_law_bag_here", "_law_taken", "_law_letters", "_law_word", "_law_k", "_law_reserved", "_law_letter", "_law_one"]) (sc := defScope s__law_name) (by decide +kernel)) (fun _ _ _ _ _ => (pg_name (i := 7) sc__law_name.nd rfl (by first | exact Or.inl rfl | exact Or.inr rfl))) (fun _ _ _ _ _ => pts_one (pt_cmpR (K_notIn (K := K) rfl) (pv 7) (pv 1) (by with_unfolding_all rfl))) (fun _ _ _ _ _ => (pv 7))) pe_int (fun _ _ => rfl))))
          pss_nil)
        (pss_one (ps_ret (pv 3)))))))), ?_⟩
    walk_at "S"
    refine r_kLst (by show 8 ≤ sizeLine; decide) fun l1 H1 n1 k1 e1 => ?_
    walk_at "S"
    refine ⟨p, l1, n + 11, menu8, rfl, hb.kp k1 not_nil, SqL.of e1, by decide, by decide, fun w0 H2 m0 k2 b2 => ?_⟩
    have w0ok := menu_ok w0 m0
    have k02 : Kp [p] H H2 := (k1.nil).trans k2
    walk_at "S"
    refine r_cutS (fun σ' H' => ∃ (w1 : Str) (v : Option V), σ' = [some (.ref p), some (.ref a), some (.str letters), some (.str w1), v, none, none, none] ∧
      (1 ≤ w1.cps.toList.length ∧ w1.cps.toList.length ≤ 8 ∧ ∀ c ∈ w1.cps.toList, 97 ≤ c ∧ c ≤ 122) ∧ Kp [p] H H' ∧ BagAt H' p n) ?_ ?_
    · walk_at "S"
      refine ⟨p, n + 10, 2, rfl, b2, by decide, by decide, fun r H3 r0 r1 k3 b3 => ?_⟩
      have k03 : Kp [p] H H3 := k02.trans k3
      walk_at "S"
      refine r_kIfS (fun c => ?_) (fun c => ?_)
      all_goals
        walk_at "S"
      · refine ⟨p, n + 9, 8, rfl, b3, by decide, by decide, fun m H4 m0 m1 k4 b4 => ?_⟩
        have k04 : Kp [p] H H4 := k03.trans k4
        walk_at "S"
        refine r_cRng1 ⟨by omega, by omega⟩ ?_
        refine r_kForR (fun i σ' H' => ∃ (w1 : Str) (v : Option V), σ' = [some (.ref p), some (.ref a), some (.str letters), some (.str w1), v, none, none, none] ∧
          (w1.cps.toList.length = i ∧ ∀ c ∈ w1.cps.toList, 97 ≤ c ∧ c ≤ 122) ∧ Kp [p] H H' ∧ BagAt H' p (n + (9 - i))) ⟨"", none, rfl, ⟨rfl, fun c hc => by cases hc⟩, k04, b4⟩ ?_ ?_
        · rintro i σ' H5 hi ⟨w1, v, rfl, ⟨hl, hc⟩, k5, b5⟩
          have hi8 : i < 8 := by omega
          walk_at "S"
          refine ⟨p, n + (9 - (i + 1)), 26, rfl, b5.mono (by omega), by decide, by decide, fun g H6 g0 g1 k6 b6 => ?_⟩
          obtain ⟨d, hd, hm, _⟩ := atI_in (l := letters.cps.toList) (i := g) g0 (by rw [letters_len]; exact g1)
          refine r_ixS (by decide +kernel) hd ?_
          refine r_addT ?_ ?_
          · rw [str_length, str_length, hl]
            show i + 1 ≤ sizeLine
            have : 9 ≤ sizeLine := by decide
            omega
          walk_at "S"
          refine ⟨_, _, rfl, ⟨?_, fun c hc' => ?_⟩, k5.trans k6, b6⟩
          · rw [str_app, List.length_append, hl]
            rfl
          · rw [str_app] at hc'
            rcases List.mem_append.mp hc' with z | z
            · exact hc c z
            · obtain rfl := List.mem_singleton.mp z
              exact letters_in _ hm
        · rintro σ' H5 ⟨w1, v, rfl, ⟨hl, hc⟩, k5, b5⟩
          exact ⟨w1, v, rfl, ⟨by omega, by omega, hc⟩, k5, b5.mono (by omega)⟩
      · exact ⟨w0, none, rfl, ⟨w0ok.1, w0ok.2.1, w0ok.2.2.1⟩, k03, b3.mono (by omega)⟩
    rintro σ' H4 ⟨w1, v, rfl, ⟨hl1, hl8, hc⟩, k4, b4⟩
    walk_at "S"
    refine r_kLst (by show 13 ≤ sizeLine; decide) fun l2 H5 n5 k5 e5 => ?_
    have k05 : Kp [p] H H5 := k4.trans k5.nil
    walk_at "S"
    have hS5 : SqL K H5 a (ws.map V.str) := sql_bag hS hb k05
    refine r_cutT (fun b H' => Kp [p] H H' ∧ BagAt H' p n ∧ b = decide (w1 ∈ reserved ∨ w1 ∈ ws)) ?_ ?_
    · walk_at "S"
      refine r_inL (ws := res13) (SqL.of e5) ?_
      walk_at "S"
      refine r_kOr (fun c => ?_) (fun c => ?_)
      · refine ⟨k05, b4.kp k5 not_nil, ?_⟩
        have c' : w1 ∈ res13 := of_decide_eq_true c
        exact (decide_eq_true (.inl (by rw [reserved_eq]; exact List.mem_append_left _ c'))).symm
      have c1 : w1 ∉ res13 := of_decide_eq_false c
      walk_at "S"
      refine r_kLst (by show 3 ≤ sizeLine; decide) fun l3 H6 n6 k6 e6 => ?_
      walk_at "S"
      have k06 : Kp [p] H H6 := k05.trans k6.nil
      have b6 : BagAt H6 p n := (b4.kp k5 not_nil).kp k6 not_nil
      refine r_inL (ws := res3) (SqL.of e6) ?_
      walk_at "S"
      refine r_kOr (fun c => ?_) (fun c => ?_)
      · refine ⟨k06, b6, ?_⟩
        have c' : w1 ∈ res3 := of_decide_eq_true c
        exact (decide_eq_true (.inl (by rw [reserved_eq]; exact List.mem_append_right _ c'))).symm
      have c2 : w1 ∉ res3 := of_decide_eq_false c
      have c3 : w1 ∉ reserved := fun m => by
        rw [reserved_eq] at m
        exact (List.mem_append.mp m).elim c1 c2
      walk_at "S"
      refine r_inL (sql_bag hS hb k06) ?_
      walk_at "S"
      refine ⟨k06, b6, ?_⟩
      by_cases c : w1 ∈ ws
      · rw [decide_eq_true c, decide_eq_true (.inr c)]
      · rw [decide_eq_false c, decide_eq_false fun z => z.elim c3 c]
    · rintro b H' ⟨k6, b6, rfl⟩
      refine r_kIfS (fun c => ?_) (fun c => ?_)
      all_goals
        walk_at "S"
      · have hS6 : SqL K H' a (ws.map V.str) := sql_bag hS hb k6
        refine r_kLcS (fun D i acc H2 => Kp [] H' H2 ∧ acc = ((letters.cps.toList.take i).map fun c => ("q" : Str) ++ ⟨#[c]⟩).map V.str) (fun D H2 nD k7 e7 => ⟨k7, rfl⟩) ?_ ?_
        · rintro D i acc d H2 nD hd eD ⟨k7, rfl⟩
          walk_at "S"
          refine r_addT ?_ ?_
          · show 1 + 1 ≤ sizeLine
            decide
          refine r_kApp eD ?_ fun H3 k8 e8 => ⟨k7.step nD k8, ?_⟩
          · rw [List.length_map, List.length_map, List.length_take]
            have : 26 < sizeLine := by decide
            rw [letters_len]
            omega
          · rw [take_map _ hd, List.map_append]
            rfl
        · rintro D acc H2 nD eD ⟨k7, rfl⟩
          rw [List.take_length] at eD
          have eD : H2 D = some (.lst (qs.map V.str)) := eD
          have hS7 : SqL K H2 a (ws.map V.str) := sql_kp hS6 k7 not_nil
          refine r_cWL (SqL.of eD) ?_
          refine r_kLcL (fun E i acc H3 => Kp [] H2 H3 ∧ acc = ((qs.take i).filter fun w => decide (w ∉ ws)).map V.str) (fun E H3 nE k8 e8 => ⟨k8, rfl⟩) (fun E i acc H3 _ h => sql_kp (SqL.of eD) h.1 not_nil) ?_ ?_
          · rintro E i acc x H3 nE hx eE ⟨k8, rfl⟩
            obtain ⟨u, hu', rfl⟩ := map_at hx
            walk_at "S"
            refine r_notInL (sql_kp hS7 k8 not_nil) ?_
            walk_at "S"
            have ht := take_filter (fun w => decide (w ∉ ws)) hu'
            refine r_kKeep (fun c => ?_) (fun c => ?_)
            · walk_at "S"
              refine r_kApp eE ?_ fun H4 k9 e9 => ⟨k8.step nE k9, ?_⟩
              · rw [List.length_map]
                have h1 : ((qs.take i).filter fun w => decide (w ∉ ws)).length ≤ (qs.take i).length := List.length_filter_le _ _
                have h2 : (qs.take i).length ≤ qs.length := by
                  rw [List.length_take]
                  omega
                rw [qs_len] at h2
                have : 26 < sizeLine := by decide
                omega
              · have c' : decide (u ∉ ws) = true := by simpa using c
                rw [ht, if_pos c', List.map_append]
                rfl
            · have c' : ¬ decide (u ∉ ws) = true := by simpa using c
              exact ⟨_, eE, k8, by rw [ht, if_neg c', List.append_nil]⟩
          · rintro E acc H3 nE eE ⟨k8, rfl⟩
            rw [List.length_map, List.take_length] at eE
            walk_at "S"
            cases hf : qs.filter fun w => decide (w ∉ ws) with
            | nil => exact absurd hf (qs_left hw)
            | cons z zs =>
              have hz : z ∈ qs.filter fun w => decide (w ∉ ws) := by
                rw [hf]
                exact List.mem_cons_self
              obtain ⟨hq, hn⟩ := List.mem_filter.mp hz
              rw [hf] at eE
              refine r_ixL (SqL.of eE) (v := .str z) (atI_nat (j := 0) rfl) ?_
              exact q z H3 (qs_ok z hq) (of_decide_eq_true hn) (k6.trans (k7.trans k8).nil) ((b6.kp k7 not_nil).kp k8 not_nil)
      · have c' : ¬ (w1 ∈ reserved ∨ w1 ∈ ws) := of_decide_eq_false c
        exact q w1 H' ⟨hl1, hl8, hc, fun m => c' (.inl m)⟩ (fun m => c' (.inr m)) k6 b6

/-! ### ranks, compressed -/
def sp_ranks (K : PySem.W.Frag) : Sp := fun vs H Q _ => ∃ (a : Addr) (ns : List Int), vs = [.ref a] ∧ SqL K H a (ns.map V.int) ∧ ns.length ≤ 60 ∧
  ∀ (r : Addr) (H' : Hp) (kvs : List (Key × V)), H r = none → Kp [] H H' → H' r = some (.dK kvs) → (∀ n ∈ srt ns, valV kvs (Sum.inl n) = some (.int (rank ns n : Int))) → Q (.ref r) H'
abbrev s_ranks : Stmt := top 1
theorem sc_ranks : FnScope ["numbers", "rank", "number"] ["numbers"] (defScope s_ranks) :=
  ⟨rfl, rfl, rfl, by decide +kernel, rfl, by decide +kernel, by decide +kernel⟩
theorem ok_ranks {f : Addr} {fd : FuncData} (F : Fun K "ranks" "ranks" s_ranks f fd) (T : Txt mg) :
    FnOk P w K mg base CX0 1 f fd ["numbers"] (sp_ranks K) := by
  refine F.ok sc_ranks (fun vs H Q E h => ?_) (fun cdv A outer s H vs Q E hr h => ?_)
  · obtain ⟨a, ns, rfl, _⟩ := h
    rfl
  · obtain ⟨a, ns, rfl, hS, hl, q⟩ := h
    have hu := hu_of hr
    have hu64 := hr.units
    refine ⟨_, (pss_one (ps_ret (pe_dc (own := [("rank", 1), ("number", 2)]) (by rfl) sc_ranks.nd (K_enum (K := K) rfl (by rfl) T.z_enumerate (pa_cons (pe_callB (cr_sortedSet rfl) (by rfl) T.z_sorted (by decide +kernel) (pa_cons (pe_callTy (K_setI (K := K) (w := w) rfl rfl rfl) (by rfl) T.z_set (by decide +kernel) (pa_cons (pe_op op_cat (pe_lst (pa_cons pe_int pa_nil)) (pe_callTy (K_list (K := K) rfl) (by rfl) T.z_list (by decide +kernel) (pa_cons (pv 0) pa_nil))) pa_nil)) pa_nil)) pa_nil)) (blkOk_by (own := [("rank", 1), ("number", 2)]) (N := ["numbers", "rank", "number"]) (sc := defScope s_ranks) (by decide +kernel)) (fun _ _ _ _ _ => (K_gtup (K := K) (n := 2) rfl (by rfl) (pgs_cons (pg_name (i := 1) sc_ranks.nd rfl (by first | exact Or.inl rfl | exact Or.inr rfl)) (pgs_cons (pg_name (i := 2) sc_ranks.nd rfl (by first | exact Or.inl rfl | exact Or.inr rfl)) pgs_nil)))) (fun _ _ _ _ _ => pts_nil) (fun _ _ _ _ _ => (pv 2)) (fun _ _ _ _ _ => (pv 1))))), ?_⟩
    walk_at "S"
    refine r_kLst (by show 1 ≤ sizeLine; decide) fun l1 H1 n1 k1 e1 => ?_
    walk_at "S"
    refine r_listL (k1.sql hS) fun l2 H2 n2 k2 e2 => ?_
    walk_at "S"
    refine ⟨l1, l2, _, _, rfl, rfl, k2 _ _ e1 not_nil, e2, ?_, fun l3 n3 => ?_⟩
    · rw [List.length_map]
      show 1 + ns.length ≤ sizeLine
      have : 61 ≤ sizeLine := by decide
      omega
    have e3 : upd H2 l3 (.lst ([V.int 0] ++ ns.map V.int)) l3 = some (.lst ((0 :: ns).map V.int)) := upd_same
    have k3 : Kp [] H2 (upd H2 l3 (.lst ([V.int 0] ++ ns.map V.int))) := Kp.new n3
    generalize upd H2 l3 (.lst ([V.int 0] ++ ns.map V.int)) = H3 at e3 k3
    walk_at "S"
    refine ⟨l3, 0 :: ns, rfl, SqL.of e3, by rw [List.length_cons]; omega, fun l4 c n4 hc => ?_⟩
    have e4 : upd H3 l4 (SetO w l4 (fun j => decide (j ∈ 0 :: ns)) c) l4 = some (SetO w l4 (fun j => decide (j ∈ 0 :: ns)) c) := upd_same
    have k4 : Kp [] H3 (upd H3 l4 (SetO w l4 (fun j => decide (j ∈ 0 :: ns)) c)) := Kp.new n4
    generalize upd H3 l4 (SetO w l4 (fun j => decide (j ∈ 0 :: ns)) c) = H4 at e4 k4
    walk_at "S"
    refine ⟨l4, _, c, rfl, e4, by rw [List.length_cons] at hc; omega, fun ss l5 pw mem len n5 => ?_⟩
    have ess : ss = srt ns := rising_eq pw (pw_srt ns) fun k => by
      rw [mem, mem_srt]
      simp
    subst ess
    have e5 : upd H4 l5 (.lst ((srt ns).map V.int)) l5 = some (.lst ((srt ns).map V.int)) := upd_same
    have k5 : Kp [] H4 (upd H4 l5 (.lst ((srt ns).map V.int))) := Kp.new n5
    generalize upd H4 l5 (.lst ((srt ns).map V.int)) = H5 at e5 k5
    have k05 : Kp [] H H5 := k1.trans (k2.trans (k3.trans (k4.trans k5)))
    walk_at "S"
    refine r_cEnum (SqL.of e5) ?_
    refine r_kDc walk_enum (fun D i kvs H' => Kp [] H5 H' ∧ kvs.length ≤ i ∧ ∀ j n, j < i → (srt ns)[j]? = some n → valV kvs (Sum.inl n) = some (.int (j : Int))) (fun D H' nD k e => ⟨k, Nat.zero_le _, fun j n hj => absurd hj (Nat.not_lt_zero _)⟩) (fun D i acc H' _ h => sql_kp (SqL.of e5) h.1 not_nil) ?_ ?_
    · rintro D i kvs x H' H'' nD hi eD ⟨k6, hlen, hv⟩ ⟨t, u, v, rfl, nt, rfl, hu, hx⟩
      obtain ⟨n, hn, rfl⟩ := map_at hx
      cases hu
      have e6 : upd H' t (.tup [.int (i : Int), .int n]) t = some (.tup [.int (i : Int), .int n]) := upd_same
      have k7 : Kp [] H' (upd H' t (.tup [.int (i : Int), .int n])) := Kp.new nt
      generalize upd H' t (.tup [.int (i : Int), .int n]) = H6 at e6 k7
      refine r_gtup (SqT.of e6) rfl ?_
      walk_at "S"
      refine r_kPut (k := Sum.inl n) rfl (k7 _ _ eD not_nil) ?_ fun H7 k8 e8 => ⟨(k6.trans k7).step nD k8, ?_, fun j m hj hm => ?_⟩
      · rw [List.length_map] at hi
        have h1 := len_srt ns
        have : 62 < sizeLine := by decide
        omega
      · by_cases c : valV kvs (Sum.inl n : Key) = none
        · rw [putK_new _ c, List.length_append]
          show kvs.length + 1 ≤ i + 1
          omega
        · have : (putK kvs (Sum.inl n : Key) (V.int (i : Int))).length = kvs.length := by
            unfold putK
            have hs : (kvs.any fun kv => decide (kv.1 = (Sum.inl n : Key))) = true := by
              rw [valV_any]
              cases e : valV kvs (Sum.inl n : Key) with
              | none => exact absurd e c
              | some _ => rfl
            rw [if_pos hs, List.length_map]
          omega
      · rw [valV_put]
        by_cases c : m = n
        · subst c
          have e1 := idx_at (pw_srt ns) hm
          have e2 := idx_at (pw_srt ns) hn
          rw [if_pos rfl, ← e1, ← e2]
        · have c' : ¬ (Sum.inl m : Key) = Sum.inl n := fun z => c (Sum.inl.inj z)
          rw [if_neg c']
          rcases Nat.lt_or_eq_of_le (Nat.le_of_lt_succ hj) with z | z
          · exact hv j m z hm
          · subst z
            rw [hm] at hn
            exact absurd (Option.some.inj hn) c
    · rintro D kvs H' nD eD ⟨k6, hlen, hv⟩
      refine q D H' kvs (k05.free nD not_nil) (k05.trans k6) eD fun n hn => ?_
      have e := at_idx hn
      exact hv _ n (by rw [List.length_map]; exact List.idxOf_lt_length_of_mem hn) e
/-- compressed(values): a new tuple, the picture -/
def sp_compressed (K : PySem.W.Frag) : Sp := fun vs H Q _ => ∃ (a : Addr) (xs : List V) (ps : List (Str × Int)), vs = [.ref a] ∧ Sq K H a xs ∧ DtAll [] H xs (pds ps) ∧ ps.length ≤ 50 ∧
  ∀ (r : Addr) (H' : Hp), H r = none → Kp [] H H' → Dt [] H' (.ref r) (.tuple (pds (cmp ps))) → Q (.ref r) H'
theorem pds_at {ps : List (Str × Int)} {i : Nat} {d : PyData} (h : (pds ps)[i]? = some d) : ∃ k n, ps[i]? = some (k, n) ∧ d = .tuple [.str k, .int n] := by
  obtain ⟨⟨k, n⟩, e, rfl⟩ := map_at h
  exact ⟨k, n, e, rfl⟩
/-- one of such values -/
theorem pds_get {ex : List Addr} {H : Hp} {xs : List V} {ps : List (Str × Int)} {i : Nat} {x : V} (h : DtAll ex H xs (pds ps)) (e : xs[i]? = some x) : ∃ k n t, ps[i]? = some (k, n) ∧ x = .ref t ∧ t ∉ ex ∧ H t = some (.tup [.str k, .int n]) := by
  obtain ⟨d, hd, hx⟩ := h.at e
  obtain ⟨k, n, hp, rfl⟩ := pds_at hd
  obtain ⟨t, rfl, m, et⟩ := hx.pair
  exact ⟨k, n, t, hp, rfl, m, et⟩
abbrev s_compressed : Stmt := top 2
theorem sc_compressed : FnScope ["values", "kind", "number", "places"] ["values"] (defScope s_compressed) :=
  ⟨rfl, rfl, rfl, by decide +kernel, rfl, by decide +kernel, by decide +kernel⟩
theorem ok_compressed {f : Addr} {fd : FuncData} (F : Fun K "compressed" "compressed" s_compressed f fd) (T : Txt mg) (U_ranks : Use P w K mg base 1 "ranks" ["numbers"] (sp_ranks K)) :
    FnOk P w K mg base CX0 2 f fd ["values"] (sp_compressed K) := by
  refine F.ok sc_compressed (fun vs H Q E h => ?_) (fun cdv A outer s H vs Q E hr h => ?_)
  · obtain ⟨a, xs, ps, rfl, _⟩ := h
    rfl
  · obtain ⟨a, xs, ps, rfl, hS, hD, hl, q⟩ := h
    have hu := hu_of hr
    have hu64 := hr.units
    refine ⟨_, (pss_cons (ps_set (i := 3) sc_compressed.nd rfl (by first | exact Or.inl rfl | exact Or.inr rfl) (pe_use U_ranks (hr.mono (by decide)) (by rfl) (pa_cons (pe_lc (own := [("kind", 1), ("number", 2)]) (by rfl) sc_compressed.nd (K_pis (K := K) rfl (pv 0)) (blkOk_by (own := [("kind", 1), ("number", 2)]) (N := ["values", "kind", "number", "places"]) (sc := defScope s_compressed) (by decide +kernel)) (fun _ _ _ _ _ => (K_gtup (K := K) (n := 2) rfl (by rfl) (pgs_cons (pg_name (i := 1) sc_compressed.nd rfl (by first | exact Or.inl rfl | exact Or.inr rfl)) (pgs_cons (pg_name (i := 2) sc_compressed.nd rfl (by first | exact Or.inl rfl | exact Or.inr rfl)) pgs_nil)))) (fun _ _ _ _ _ => pts_nil) (fun _ _ _ _ _ => (pv 2))) pa_nil)))
        (pss_one (ps_ret (pe_callTy (K_tuple (K := K) rfl) (by rfl) T.z_tuple (by decide +kernel) (pa_cons (pe_lc (own := [("kind", 1), ("number", 2)]) (by rfl) sc_compressed.nd (K_pis (K := K) rfl (pv 0)) (blkOk_by (own := [("kind", 1), ("number", 2)]) (N := ["values", "kind", "number", "places"]) (sc := defScope s_compressed) (by decide +kernel)) (fun _ _ _ _ _ => (K_gtup (K := K) (n := 2) rfl (by rfl) (pgs_cons (pg_name (i := 1) sc_compressed.nd rfl (by first | exact Or.inl rfl | exact Or.inr rfl)) (pgs_cons (pg_name (i := 2) sc_compressed.nd rfl (by first | exact Or.inl rfl | exact Or.inr rfl)) pgs_nil)))) (fun _ _ _ _ _ => pts_nil) (fun _ _ _ _ _ => (pe_tup (pa_cons (pv 1) (pa_cons (pe_dget hu (pv 3) (pv 2) (fun _ _ => rfl)) pa_nil))))) pa_nil))))), ?_⟩
    have hlen : xs.length = ps.length := by
      rw [hD.length]
      exact List.length_map _
    walk_at "S"
    refine r_kLcQ (fun D i acc H' => Kp [] H H' ∧ acc = ((ps.take i).map Prod.snd).map V.int) hS (fun D H' nD k e => ⟨k, rfl⟩) (fun D i acc H' _ h => h.1) ?_ ?_
    · rintro D i acc x H1 nD hx eD ⟨k1, rfl⟩
      obtain ⟨k, n, t, hp, rfl, _, et⟩ := pds_get hD hx
      refine r_gtup (SqT.of (k1 _ _ et not_nil)) rfl ?_
      walk_at "S"
      refine r_kApp eD ?_ fun H2 k2 e2 => ⟨k1.step nD k2, ?_⟩
      · rw [List.length_map, List.length_map, List.length_take]
        have : 50 < sizeLine := by decide
        omega
      · rw [take_map _ hp, List.map_append]
        rfl
    · rintro D acc H1 nD eD ⟨k1, rfl⟩
      rw [hlen, List.take_length] at eD
      have eD : H1 D = some (.lst ((nums ps).map V.int)) := eD
      walk_at "S"
      refine ⟨D, nums ps, rfl, SqL.of eD, by unfold nums; rw [List.length_map]; omega, fun r H2 kvs nr k2 er hv => ?_⟩
      have k02 : Kp [] H H2 := k1.trans k2
      walk_at "S"
      refine r_kLcQ (fun E i acc H' => Kp [] H2 H' ∧ DtAll [E] H' acc (pds ((cmp ps).take i))) (hS.kp k02 not_nil) (fun E H' nE k e => ⟨k, .nil⟩) (fun E i acc H' _ h => h.1) ?_ ?_
      · rintro E i acc x H3 nE hx eE ⟨k3, hA⟩
        obtain ⟨k, n, t, hp, rfl, _, et⟩ := pds_get hD hx
        refine r_gtup (SqT.of ((k02.trans k3) _ _ et not_nil)) rfl ?_
        walk_at "S"
        have hn : n ∈ srt (nums ps) := (mem_srt _ _).mpr (.inr (List.mem_map.mpr ⟨_, mem_at hp, rfl⟩))
        refine r_kDGi (k3 _ _ er not_nil) (hv n hn) ?_
        walk_at "S"
        refine r_kTup (by show 2 ≤ sizeLine; decide) fun u H4 nu k4 eu => ?_
        have uE : u ∉ [E] := not_one (ne_none eE nu)
        have hA4 := (hA.mono (k4.nil)).snoc (.tup uE eu (.cons (.str k) (.cons (.int (rank (nums ps) n : Int)) .nil)))
        refine r_kApp (k4 _ _ eE not_nil) ?_ fun H5 k5 e5 => ⟨(k3.trans k4).step nE k5, ?_⟩
        · have h1 := hA.length
          unfold pds at h1
          rw [List.length_map, List.length_take, cmp_length] at h1
          have : 50 < sizeLine := by decide
          omega
        · have hc : (cmp ps)[i]? = some (k, (rank (nums ps) n : Int)) := by
            unfold cmp
            rw [List.getElem?_map, hp]
            rfl
          have e6 : pds ((cmp ps).take (i + 1)) = pds ((cmp ps).take i) ++ [.tuple [.str k, .int (rank (nums ps) n : Int)]] := by
            unfold pds
            rw [take_map _ hc]
            rfl
          rw [e6]
          exact hA4.mono k5
      · rintro E acc H3 nE eE ⟨k3, hA⟩
        have hl2 : xs.length = (cmp ps).length := by rw [hlen, cmp_length]
        rw [hl2, List.take_length] at hA
        walk_at "S"
        refine r_tupleL (SqL.of eE) fun u H4 nu k4 eu => ?_
        refine q u H4 ((k02.trans k3).free nu not_nil) (k02.trans (k3.trans k4)) (.tup not_nil eu ((hA.less (ex' := []) fun _ m => absurd m not_nil).mono k4))

/-! ### the law's own picture, its values -/
def sp__law_picture (K : PySem.W.Frag) : Sp := fun vs H Q _ => ∃ (a : Addr) (xs : List V) (ps : List (Str × Int)), vs = [.ref a] ∧ SqL K H a xs ∧ DtAll [] H xs (pds ps) ∧ ps.length ≤ 50 ∧
  ∀ (r : Addr) (H' : Hp), H r = none → Kp [] H H' → Dt [] H' (.ref r) (.tuple (pds (cmp ps))) → Q (.ref r) H'
abbrev s__law_picture : Stmt := top 8
theorem sc__law_picture : FnScope ["_law_values_here", "_law_kind", "_law_number", "_law_numbers"] ["_law_values_here"] (defScope s__law_picture) :=
  ⟨rfl, rfl, rfl, by decide +kernel, rfl, by decide +kernel, by decide +kernel⟩
theorem ok__law_picture {f : Addr} {fd : FuncData} (F : Fun K "_law_picture" "_law_picture" s__law_picture f fd) (T : Txt mg) :
    FnOk P w K mg base CX0 1 f fd ["_law_values_here"] (sp__law_picture K) := by
  refine F.ok sc__law_picture (fun vs H Q E h => ?_) (fun cdv A outer s H vs Q E hr h => ?_)
  · obtain ⟨a, xs, ps, rfl, _⟩ := h
    rfl
  · obtain ⟨a, xs, ps, rfl, hS, hD, hl, q⟩ := h
    have hu := hu_of hr
    have hu64 := hr.units
    refine ⟨_, (pss_cons (ps_set (i := 3) sc__law_picture.nd rfl (by first | exact Or.inl rfl | exact Or.inr rfl) (pe_callB (cr_sortedSet rfl) (by rfl) T.z_sorted (by decide +kernel) (pa_cons (pe_callTy (K_setI (K := K) (w := w) rfl rfl rfl) (by rfl) T.z_set (by decide +kernel) (pa_cons (pe_op op_cat (pe_lst (pa_cons pe_int pa_nil)) (pe_lc (own := [("_law_kind", 1), ("_law_number", 2)]) (by rfl) sc__law_picture.nd (K_pil (K := K) rfl (pv 0)) (blkOk_by (own := [("_law_kind", 1), ("_law_number", 2)]) (N := ["_law_values_here", "_law_kind", "_law_number", "_law_numbers"]) (sc := defScope s__law_picture) (by decide +kernel)) (fun _ _ _ _ _ => (K_gtup (K := K) (n := 2) rfl (by rfl) (pgs_cons (pg_name (i := 1) sc__law_picture.nd rfl (by first | exact Or.inl rfl | exact Or.inr rfl)) (pgs_cons (pg_name (i := 2) sc__law_picture.nd rfl (by first | exact Or.inl rfl | exact Or.inr rfl)) pgs_nil)))) (fun _ _ _ _ _ => pts_nil) (fun _ _ _ _ _ => (pv 2)))) pa_nil)) pa_nil)))
        (pss_one (ps_ret (pe_callTy (K_tuple (K := K) rfl) (by rfl) T.z_tuple (by decide +kernel) (pa_cons (pe_lc (own := [("_law_kind", 1), ("_law_number", 2)]) (by rfl) sc__law_picture.nd (K_pil (K := K) rfl (pv 0)) (blkOk_by (own := [("_law_kind", 1), ("_law_number", 2)]) (N := ["_law_values_here", "_law_kind", "_law_number", "_law_numbers"]) (sc := defScope s__law_picture) (by decide +kernel)) (fun _ _ _ _ _ => (K_gtup (K := K) (n := 2) rfl (by rfl) (pgs_cons (pg_name (i := 1) sc__law_picture.nd rfl (by first | exact Or.inl rfl | exact Or.inr rfl)) (pgs_cons (pg_name (i := 2) sc__law_picture.nd rfl (by first | exact Or.inl rfl | exact Or.inr rfl)) pgs_nil)))) (fun _ _ _ _ _ => pts_nil) (fun _ _ _ _ _ => (pe_tup (pa_cons (pv 1) (pa_cons (K_bm (K := K) rfl PySem.F.plainAttrs_list PySem.F.slot_list_index PySem.F.type_list_index (K_index (K := K) rfl) (pv 3) (pa_cons (pv 2) pa_nil)) pa_nil))))) pa_nil))))), ?_⟩
    have hlen : xs.length = ps.length := by
      rw [hD.length]
      exact List.length_map _
    walk_at "S"
    refine r_kLst (by show 1 ≤ sizeLine; decide) fun l1 H1 n1 k1 e1 => ?_
    walk_at "S"
    refine r_cWL (k1.sql hS) ?_
    refine r_kLcL (fun D i acc H' => Kp [] H1 H' ∧ acc = ((ps.take i).map Prod.snd).map V.int) (fun D H' nD k e => ⟨k, rfl⟩) (fun D i acc H' _ h => (k1.trans h.1).sql hS) ?_ ?_
    · rintro D i acc x H2 nD hx eD ⟨k2, rfl⟩
      obtain ⟨k, n, t, hp, rfl, _, et⟩ := pds_get hD hx
      refine r_gtup (SqT.of ((k1.trans k2) _ _ et not_nil)) rfl ?_
      walk_at "S"
      refine r_kApp eD ?_ fun H3 k3 e3 => ⟨k2.step nD k3, ?_⟩
      · rw [List.length_map, List.length_map, List.length_take]
        have : 50 < sizeLine := by decide
        omega
      · rw [take_map _ hp, List.map_append]
        rfl
    rintro D acc H2 nD eD ⟨k2, rfl⟩
    rw [hlen, List.take_length] at eD
    have eD : H2 D = some (.lst ((nums ps).map V.int)) := eD
    have hnl : (nums ps).length = ps.length := List.length_map _
    walk_at "S"
    refine ⟨l1, D, _, _, rfl, rfl, k2 _ _ e1 not_nil, eD, ?_, fun l3 n3 => ?_⟩
    · rw [List.length_map]
      show 1 + (nums ps).length ≤ sizeLine
      have : 61 ≤ sizeLine := by decide
      omega
    have e3 : upd H2 l3 (.lst ([V.int 0] ++ (nums ps).map V.int)) l3 = some (.lst ((0 :: nums ps).map V.int)) := upd_same
    have k3 : Kp [] H2 (upd H2 l3 (.lst ([V.int 0] ++ (nums ps).map V.int))) := Kp.new n3
    generalize upd H2 l3 (.lst ([V.int 0] ++ (nums ps).map V.int)) = H3 at e3 k3
    walk_at "S"
    refine ⟨l3, 0 :: nums ps, rfl, SqL.of e3, by rw [List.length_cons]; omega, fun l4 c n4 hc => ?_⟩
    have e4 : upd H3 l4 (SetO w l4 (fun j => decide (j ∈ 0 :: nums ps)) c) l4 = some (SetO w l4 (fun j => decide (j ∈ 0 :: nums ps)) c) := upd_same
    have k4 : Kp [] H3 (upd H3 l4 (SetO w l4 (fun j => decide (j ∈ 0 :: nums ps)) c)) := Kp.new n4
    generalize upd H3 l4 (SetO w l4 (fun j => decide (j ∈ 0 :: nums ps)) c) = H4 at e4 k4
    walk_at "S"
    refine ⟨l4, _, c, rfl, e4, by rw [List.length_cons] at hc; omega, fun ss l5 pw mem len n5 => ?_⟩
    have ess : ss = srt (nums ps) := rising_eq pw (pw_srt _) fun k => by
      rw [mem, mem_srt]
      simp
    subst ess
    have e5 : upd H4 l5 (.lst ((srt (nums ps)).map V.int)) l5 = some (.lst ((srt (nums ps)).map V.int)) := upd_same
    have k5 : Kp [] H4 (upd H4 l5 (.lst ((srt (nums ps)).map V.int))) := Kp.new n5
    generalize upd H4 l5 (.lst ((srt (nums ps)).map V.int)) = H5 at e5 k5
    have k05 : Kp [] H H5 := k1.trans (k2.trans (k3.trans (k4.trans k5)))
    walk_at "S"
    refine r_cWL (k05.sql hS) ?_
    refine r_kLcL (fun E i acc H' => Kp [] H5 H' ∧ DtAll [E] H' acc (pds ((cmp ps).take i))) (fun E H' nE k e => ⟨k, .nil⟩) (fun E i acc H' _ h => (k05.trans h.1).sql hS) ?_ ?_
    · rintro E i acc x H6 nE hx eE ⟨k6, hA⟩
      obtain ⟨k, n, t, hp, rfl, _, et⟩ := pds_get hD hx
      refine r_gtup (SqT.of ((k05.trans k6) _ _ et not_nil)) rfl ?_
      walk_at "S"
      have hn : n ∈ srt (nums ps) := (mem_srt _ _).mpr (.inr (List.mem_map.mpr ⟨_, mem_at hp, rfl⟩))
      refine r_kBMl (SqL.of (k6 _ _ e5 not_nil)) ?_
      walk_at "S"
      refine r_indexI (SqL.of (k6 _ _ e5 not_nil)) hn ?_
      walk_at "S"
      refine r_kTup (by show 2 ≤ sizeLine; decide) fun u H7 nu k7 eu => ?_
      have uE : u ∉ [E] := not_one (ne_none eE nu)
      have hA7 := (hA.mono (k7.nil)).snoc (.tup uE eu (.cons (.str k) (.cons (.int (rank (nums ps) n : Int)) .nil)))
      refine r_kApp (k7 _ _ eE not_nil) ?_ fun H8 k8 e8 => ⟨(k6.trans k7).step nE k8, ?_⟩
      · have h1 := hA.length
        unfold pds at h1
        rw [List.length_map, List.length_take, cmp_length] at h1
        have : 50 < sizeLine := by decide
        omega
      · have hc : (cmp ps)[i]? = some (k, (rank (nums ps) n : Int)) := by
          unfold cmp
          rw [List.getElem?_map, hp]
          rfl
        have e6 : pds ((cmp ps).take (i + 1)) = pds ((cmp ps).take i) ++ [.tuple [.str k, .int (rank (nums ps) n : Int)]] := by
          unfold pds
          rw [take_map _ hc]
          rfl
        rw [e6]
        exact hA7.mono k8
    · rintro E acc H6 nE eE ⟨k6, hA⟩
      have hl2 : xs.length = (cmp ps).length := by rw [hlen, cmp_length]
      rw [hl2, List.take_length] at hA
      walk_at "S"
      refine r_tupleL (SqL.of eE) fun u H7 nu k7 eu => ?_
      exact q u H7 ((k05.trans k6).free nu not_nil) (k05.trans (k6.trans k7)) (.tup not_nil eu ((hA.less (ex' := []) fun _ m => absurd m not_nil).mono k7))
/-- _law_values(bag): a new list of at most 40 values, their numbers not below 0 -/
def sp__law_values (K : PySem.W.Frag) : Sp := fun vs H Q _ => ∃ (p : Addr) (n : Nat), vs = [.ref p] ∧ BagAt H p (n + 1000) ∧
  ∀ (r : Addr) (H' : Hp) (ps : List (Str × Int)), H r = none → Kp [p] H H' → BagAt H' p n → ps.length ≤ 40 → (∀ k ∈ nums ps, 0 ≤ k) → (∀ q ∈ ps, PyData.strOk q.1 = true) → Dt [p] H' (.ref r) (.list (pds ps)) → Q (.ref r) H'
abbrev s__law_values : Stmt := top 9
theorem sc__law_values : FnScope ["_law_bag_here", "_law_turn", "_law_names", "_law_found", "_law_last", "_law_way"] ["_law_bag_here"] (defScope s__law_values) :=
  ⟨rfl, rfl, rfl, by decide +kernel, rfl, by decide +kernel, by decide +kernel⟩
theorem ok__law_values {f : Addr} {fd : FuncData} (F : Fun K "_law_values" "_law_values" s__law_values f fd) (T : Txt mg) (U__law_take : Use P w K mg base 1 "_law_take" ["_law_bag_here", "_law_many"] (sp__law_take)) (U__law_of : Use P w K mg base 2 "_law_of" ["_law_bag_here", "_law_some"] (sp__law_of K)) (U__law_name : Use P w K mg base 3 "_law_name" ["_law_bag_here", "_law_taken"] (sp__law_name K)) :
    FnOk P w K mg base CX0 4 f fd ["_law_bag_here"] (sp__law_values K) := by
  refine F.ok sc__law_values (fun vs H Q E h => ?_) (fun cdv A outer s H vs Q E hr h => ?_)
  · obtain ⟨p, n, rfl, _⟩ := h
    rfl
  · obtain ⟨p, n, rfl, hb, q⟩ := h
    have hu := hu_of hr
    have hu64 := hr.units
    refine ⟨_, (pss_cons (ps_setLc (i := 2) (own := [("_law_turn", 1)]) (by rfl) sc__law_values.nd rfl rfl (sw_true rfl rfl rfl (by decide +kernel)) (pi_range1 (by rfl) T.z_range (pa_cons (pe_op op_add pe_int (pe_use U__law_take (hr.mono (by decide)) (by rfl) (pa_cons (pv 0) (pa_cons pe_int pa_nil)))) pa_nil)) (blkOk_by (own := [("_law_turn", 1)]) (N := ["_law_bag_here", "_law_turn", "_law_names", "_law_found", "_law_last", "_law_way"]) (sc := defScope s__law_values) (by decide +kernel)) (fun _ _ _ _ _ => (pg_name (i := 1) sc__law_values.nd rfl (by first | exact Or.inl rfl | exact Or.inr rfl))) (fun _ _ _ _ _ => pts_nil) (fun _ _ _ _ _ => (pe_use U__law_name (hr.mono (by decide)) (by rfl) (pa_cons (pv 0) (pa_cons (pe_lst pa_nil) pa_nil)))))
        (pss_cons (ps_par (i := 3) (j := 4) (by rfl) sc__law_values.nd rfl rfl (by decide) rfl rfl (pa_cons (pe_lst pa_nil) (pa_cons pe_int pa_nil)) (by rfl))
        (pss_cons (ps_for PassesOwn.never (by rfl) (pi_range1 (by rfl) T.z_range (pa_cons (pe_use U__law_take (hr.mono (by decide)) (by rfl) (pa_cons (pv 0) (pa_cons pe_int pa_nil))) pa_nil)) (pg_name (i := 1) sc__law_values.nd rfl (by first | exact Or.inl rfl | exact Or.inr rfl))
          (pss_cons (ps_set (i := 5) sc__law_values.nd rfl (by first | exact Or.inl rfl | exact Or.inr rfl) (pe_use U__law_take (hr.mono (by decide)) (by rfl) (pa_cons (pv 0) (pa_cons pe_int pa_nil))))
          (pss_cutS (ps_if (pt_cmpR op_eq (pv 5) pe_int (nomark _))
            (pss_one (ps_set (i := 4) sc__law_values.nd rfl (by first | exact Or.inl rfl | exact Or.inr rfl) pe_int))
            pss_nil)
          (pss_cutS (ps_if (pt_cmpR op_eq (pv 5) pe_int (nomark _))
            (pss_one (ps_set (i := 4) sc__law_values.nd rfl (by first | exact Or.inl rfl | exact Or.inr rfl) (pe_callB (cr_min2 rfl) (by rfl) T.z_min (by decide +kernel) (pa_cons (pe_op op_add (pv 4) pe_int) (pa_cons (pe_op op_sub (pe_op op_pow pe_int pe_int) pe_int) pa_nil)))))
            pss_nil)
          (pss_cutS (ps_if (pt_cmpR op_eq (pv 5) pe_int (nomark _))
            (pss_one (ps_set (i := 4) sc__law_values.nd rfl (by first | exact Or.inl rfl | exact Or.inr rfl) (pe_use U__law_take (hr.mono (by decide)) (by rfl) (pa_cons (pv 0) (pa_cons (pe_op op_pow pe_int pe_int) pa_nil)))))
            pss_nil)
          (pss_cutS (ps_if (pt_cmpR op_eq (pv 5) pe_int (nomark _))
            (pss_one (ps_set (i := 4) sc__law_values.nd rfl (by first | exact Or.inl rfl | exact Or.inr rfl) (pe_use U__law_take (hr.mono (by decide)) (by rfl) (pa_cons (pv 0) (pa_cons pe_int pa_nil)))))
            pss_nil)
          (pss_one (ps_expr (K_bm (K := K) rfl PySem.F.plainAttrs_list PySem.F.slot_list_append PySem.F.type_list_append mt_append (pv 3) (pa_cons (pe_tup (pa_cons (pe_use U__law_of (hr.mono (by decide)) (by rfl) (pa_cons (pv 0) (pa_cons (pv 2) pa_nil))) (pa_cons (pv 4) pa_nil))) pa_nil))))))))))
        (pss_one (ps_ret (pv 3)))))), ?_⟩
    walk_at "S"
    refine ⟨p, n + 999, 4, rfl, hb, by decide, by decide, fun m H1 m0 m1 k1 b1 => ?_⟩
    walk_at "S"
    refine r_cRng1 ⟨by omega, by omega⟩ ?_
    refine r_kLcR (fun D i acc H' => ∃ ws : List Str, acc = ws.map V.str ∧ ws.length = i ∧ (∀ u ∈ ws, PyData.strOk u = true) ∧ Kp [p] H1 H' ∧ BagAt H' p (n + 900 + 12 * (4 - i))) (fun D H' nD k e => ⟨[], rfl, rfl, (fun u hu => by cases hu), k.nil, (b1.kp k not_nil).mono (by omega)⟩) ?_ ?_
    · rintro D i acc H2 nD hi eD ⟨ws, rfl, hw, hok, k2, b2⟩
      obtain ⟨ob, hob⟩ := b1.some
      have Dp : D ≠ p := ne_none hob nD
      walk_at "S"
      refine r_kLst (xs := []) (Nat.zero_le _) fun l H3 nl k3 e3 => ?_
      walk_at "S"
      refine ⟨p, l, n + 900 + 12 * (4 - (i + 1)), [], rfl, (b2.kp k3 not_nil).mono (by omega), SqL.of e3, by decide, fun u H4 uok _ k4 b4 => ?_⟩
      refine r_kApp (k4 _ _ (k3 _ _ eD not_nil) (not_one Dp)) ?_ fun H5 k5 e5 => ⟨ws ++ [u], ?_, ?_, ?_, (k2.trans (k3.nil.trans k4)).step nD k5, b4.kp k5 (not_one Dp.symm)⟩
      · rw [List.length_map]
        have : 5 < sizeLine := by decide
        omega
      · rw [List.map_append]
        rfl
      · rw [List.length_append, hw]
        rfl
      · intro z hz
        rcases List.mem_append.mp hz with m | m
        · exact hok z m
        · rw [List.mem_singleton.mp m]
          exact strOk_of (fun c hc => (uok.2.2.1 c hc).2) (by decide)
    rintro N acc H2 nN eN ⟨ws, rfl, hw, hok, k2, b2⟩
    have k02 : Kp [p] H H2 := k1.trans k2
    have b2 : BagAt H2 p (n + 900) := b2.mono (by omega)
    have hw4 : 0 < ws.length ∧ ws.length ≤ 4 := by omega
    have Np : N ≠ p := by
      obtain ⟨ob, hob⟩ := b1.some
      exact ne_none hob nN
    walk_at "S"
    refine r_kLst (xs := []) (Nat.zero_le _) fun L H3 nL k3 eL => ?_
    walk_at "S"
    refine ⟨_, _, rfl, ?_⟩
    have b3 := b2.kp k3 not_nil
    have Lp : L ≠ p := by
      obtain ⟨ob, hob⟩ := b2.some
      exact ne_none hob nL
    have LN : L ≠ N := ne_none eN nL
    have nL0 : H L = none := k02.free nL (not_one Lp)
    walk_at "S"
    refine ⟨p, n + 899, 41, rfl, b3, by decide, by decide, fun m H4 m0 m1 k4 b4 => ?_⟩
    walk_at "S"
    refine r_cRng1 ⟨by omega, by omega⟩ ?_
    -- what holds between two turns, and between two ifs
    have shape : ∀ (H' : Hp), Prop := fun H' => True
    refine r_kForR (fun i σ' H' => ∃ (v1 v5 : Option V) (last : Int) (acc : List V) (ps : List (Str × Int)), σ' = [some (.ref p), v1, some (.ref N), some (.ref L), some (.int last), v5] ∧ 0 ≤ last ∧
      Kp [p] H H' ∧ H' N = some (.lst (ws.map V.str)) ∧ H' L = some (.lst acc) ∧ DtAll [L, p] H' acc (pds ps) ∧ ps.length = i ∧ (∀ k ∈ nums ps, 0 ≤ k) ∧ (∀ q ∈ ps, PyData.strOk q.1 = true) ∧ BagAt H' p (n + 4 * (100 - i)))
      ⟨none, none, 0, [], [], rfl, Int.le_refl 0, k02.trans (k3.nil.trans k4), k4 _ _ (k3 _ _ eN not_nil) (not_one Np), k4 _ _ eL (not_one Lp), .nil, rfl, (fun k hk => by simp [nums] at hk), (fun k hk => by cases hk), b4.mono (by omega)⟩ ?_ ?_
    · rintro i σ' H5 hi ⟨v1, v5, last, acc, ps, rfl, l0, k5, e5N, e5L, hA, hps, hnn, hso, b5⟩
      have hi40 : i < 40 := by omega
      walk_at "S"
      refine ⟨p, n + 4 * (100 - i) - 1, 5, rfl, b5.mono (by omega), by decide, by decide, fun way H6 w0 w1 k6 b6 => ?_⟩
      have M : ∀ (c : Nat) (h : c ≤ 3), True := fun _ _ => trivial
      walk_at "S"
      refine r_cutS (fun σ' H' => ∃ last : Int, σ' = [some (.ref p), some (.int (i : Int)), some (.ref N), some (.ref L), some (.int last), some (.int way)] ∧ 0 ≤ last ∧ Kp [p] H5 H' ∧ BagAt H' p (n + 4 * (100 - i) - 1)) ?_ ?_
      · walk_at "S"
        refine r_kIfS (fun c => ?_) (fun c => ?_)
        all_goals walk_at "S"
        · exact ⟨0, rfl, Int.le_refl 0, k6, b6⟩
        · exact ⟨last, rfl, l0, k6, b6⟩
      clear l0 k6 b6
      rintro σ' H7 ⟨last, rfl, l0, k6, b6⟩
      refine r_cutS (fun σ' H' => ∃ last : Int, σ' = [some (.ref p), some (.int (i : Int)), some (.ref N), some (.ref L), some (.int last), some (.int way)] ∧ 0 ≤ last ∧ Kp [p] H5 H' ∧ BagAt H' p (n + 4 * (100 - i) - 1)) ?_ ?_
      · walk_at "S"
        refine r_kIfS (fun c => ?_) (fun c => ?_)
        all_goals walk_at "S"
        · refine r_I ⟨by decide, by decide, by decide⟩ ?_
          walk_at "S"
          refine ⟨_, rfl, ?_, k6, b6⟩
          have : (0 : Int) ≤ 10 ^ (30 : Int).toNat - 1 := by decide
          split <;> omega
        · exact ⟨last, rfl, l0, k6, b6⟩
      clear l0 k6 b6
      rintro σ' H8 ⟨last, rfl, l0, k6, b6⟩
      refine r_cutS (fun σ' H' => ∃ last : Int, σ' = [some (.ref p), some (.int (i : Int)), some (.ref N), some (.ref L), some (.int last), some (.int way)] ∧ 0 ≤ last ∧ Kp [p] H5 H' ∧ BagAt H' p (n + 4 * (100 - i) - 2)) ?_ ?_
      · walk_at "S"
        refine r_kIfS (fun c => ?_) (fun c => ?_)
        all_goals walk_at "S"
        · refine r_I ⟨by decide, by decide, by decide⟩ ?_
          walk_at "S"
          refine ⟨p, n + 4 * (100 - i) - 2, _, rfl, b6.mono (by omega), by decide, by decide, fun r H9 r0 r1 k7 b7 => ?_⟩
          walk_at "S"
          exact ⟨r, rfl, r0, k6.trans k7, b7⟩
        · exact ⟨last, rfl, l0, k6, b6.mono (by omega)⟩
      clear l0 k6 b6
      rintro σ' H9 ⟨last, rfl, l0, k6, b6⟩
      refine r_cutS (fun σ' H' => ∃ last : Int, σ' = [some (.ref p), some (.int (i : Int)), some (.ref N), some (.ref L), some (.int last), some (.int way)] ∧ 0 ≤ last ∧ Kp [p] H5 H' ∧ BagAt H' p (n + 4 * (100 - i) - 3)) ?_ ?_
      · walk_at "S"
        refine r_kIfS (fun c => ?_) (fun c => ?_)
        all_goals walk_at "S"
        · refine ⟨p, n + 4 * (100 - i) - 3, 7, rfl, b6.mono (by omega), by decide, by decide, fun r H10 r0 r1 k7 b7 => ?_⟩
          walk_at "S"
          exact ⟨r, rfl, r0, k6.trans k7, b7⟩
        · exact ⟨last, rfl, l0, k6, b6.mono (by omega)⟩
      clear l0 k6 b6
      rintro σ' H10 ⟨last, rfl, l0, k6, b6⟩
      have e6N := k6 _ _ e5N (not_one Np)
      have e6L := k6 _ _ e5L (not_one Lp)
      walk_at "S"
      refine r_kBMl (SqL.of e6L) ?_
      walk_at "S"
      refine ⟨p, N, n + 4 * (100 - i) - 4, ws, rfl, b6.mono (by omega), SqL.of e6N, hw4.1, by omega, fun u H11 um k7 b7 => ?_⟩
      walk_at "S"
      refine r_kTup (by show 2 ≤ sizeLine; decide) fun t H12 nt k8 et => ?_
      walk_at "S"
      have e8L := k8 _ _ (k7 _ _ e6L (not_one Lp)) not_nil
      have tL : t ≠ L := ne_none (k7 _ _ e6L (not_one Lp)) nt
      have tp : t ≠ p := by
        obtain ⟨ob, hob⟩ := b7.some
        exact ne_none hob nt
      have hA8 : DtAll [L, p] H12 acc (pds ps) := hA.mono (((k6.trans k7).trans k8.nil).mono fun b hb => List.mem_cons_of_mem _ hb)
      refine r_append e8L ?_ fun H13 k9 e9 => ?_
      · have h1 := hA.length
        unfold pds at h1
        rw [List.length_map] at h1
        have : 50 < sizeLine := by decide
        omega
      · walk_at "S"
        have k513 : Kp [p] H H13 := (k5.trans (k6.trans (k7.trans k8.nil))).step nL0 k9
        refine ⟨_, _, last, _, ps ++ [(u, last)], rfl, l0, k513, k9 _ _ (k8 _ _ (k7 _ _ e6N (not_one Np)) not_nil) (not_one LN.symm), e9, ?_, ?_, ?_, ?_, ((b7.kp k8 not_nil).kp k9 (not_one Lp.symm)).mono (by omega)⟩
        · have := (hA8.snoc (.tup (not_two tL tp) et (.cons (.str u) (.cons (.int last) .nil)))).mono (k9.mono fun b hb => by rw [List.mem_singleton.mp hb]; exact List.mem_cons_self)
          unfold pds
          rw [List.map_append]
          exact this
        · rw [List.length_append, hps]
          rfl
        · intro k hk
          unfold nums at hk
          rw [List.map_append] at hk
          rcases List.mem_append.mp hk with z | z
          · exact hnn k z
          · rw [List.mem_singleton.mp z]
            exact l0
        · intro k hk
          rcases List.mem_append.mp hk with z | z
          · exact hso k z
          · rw [List.mem_singleton.mp z]
            exact hok u um
    · rintro σ' H5 ⟨v1, v5, last, acc, ps, rfl, l0, k5, e5N, e5L, hA, hps, hnn, hso, b5⟩
      walk_at "S"
      exact q L H5 ps nL0 k5 (b5.mono (by omega)) (by omega) hnn hso (.lst (not_one Lp) e5L (hA.less fun b hb => List.mem_cons_of_mem _ hb))
/-- the law: True -/
def sp_law (K : PySem.W.Frag) : Sp := fun vs H Q _ => ∃ (a : Addr) (ns : List Int), vs = [.ref a] ∧ SqL K H a (ns.map V.int) ∧ ns.length ≤ 63 ∧ ∀ H', Q (.bl true) H'
theorem shp_pd {q : Str × Int} (h : PyData.strOk q.1 = true) : Shp 1 (pd q) := Shp.tuple (n := 0) fun d hd => by
  rcases List.mem_cons.mp hd with rfl | hd
  · exact Shp.str h 0
  · rcases List.mem_cons.mp hd with rfl | hd
    · exact Shp.int _ 0
    · cases hd
theorem shp_pds {ps : List (Str × Int)} (h : ∀ q ∈ ps, PyData.strOk q.1 = true) : ∀ d ∈ pds ps, Shp 1 d := fun d hd => by
  obtain ⟨q, hq, rfl⟩ := List.mem_map.mp hd
  exact shp_pd (h q hq)
theorem ok_cmp {ps : List (Str × Int)} (h : ∀ q ∈ ps, PyData.strOk q.1 = true) : ∀ q ∈ cmp ps, PyData.strOk q.1 = true := fun q hq => by
  obtain ⟨z, hz, rfl⟩ := List.mem_map.mp hq
  exact h z hz
abbrev s_law : Stmt := top 10
theorem sc_law : FnScope ["_law_script", "_law_at", "_law_bag_here", "_law_values_here", "_law_handed", "_law_told", "_law_one"] ["_law_script"] (defScope s_law) :=
  ⟨rfl, rfl, rfl, by decide +kernel, rfl, by decide +kernel, by decide +kernel⟩
theorem ok_law {f : Addr} {fd : FuncData} (F : Fun K "law" "law" s_law f fd) (T : Txt mg) (U_compressed : Use P w K mg base 2 "compressed" ["values"] (sp_compressed K)) (U__law_bag : Use P w K mg base 1 "_law_bag" ["_law_script", "_law_at"] (sp__law_bag K)) (U__law_take : Use P w K mg base 1 "_law_take" ["_law_bag_here", "_law_many"] (sp__law_take)) (U__law_picture : Use P w K mg base 1 "_law_picture" ["_law_values_here"] (sp__law_picture K)) (U__law_values : Use P w K mg base 4 "_law_values" ["_law_bag_here"] (sp__law_values K)) :
    FnOk P w K mg base CX0 5 f fd ["_law_script"] (sp_law K) := by
  refine F.ok sc_law (fun vs H Q E h => ?_) (fun cdv A outer s H vs Q E hr h => ?_)
  · obtain ⟨a, ns, rfl, _⟩ := h
    rfl
  · obtain ⟨a, ns, rfl, hS, hl, q⟩ := h
    have hu := hu_of hr
    have hu64 := hr.units
    refine ⟨_, (pss_cons (ps_for PassesOwn.never (by rfl) (pi_range1 (by rfl) T.z_range (pa_cons (pe_callB (cr_max2 rfl) (by rfl) T.z_max (by decide +kernel) (pa_cons pe_int (pa_cons (pe_callB (cr_min2 rfl) (by rfl) T.z_min (by decide +kernel) (pa_cons pe_int (pa_cons (pe_callB (K_len (K := K) rfl) (by rfl) T.z_len (by decide +kernel) (pa_cons (pv 0) pa_nil)) pa_nil))) pa_nil))) pa_nil)) (pg_name (i := 1) sc_law.nd rfl (by first | exact Or.inl rfl | exact Or.inr rfl))
          (pss_cons (ps_set (i := 2) sc_law.nd rfl (by first | exact Or.inl rfl | exact Or.inr rfl) (pe_use U__law_bag (hr.mono (by decide)) (by rfl) (pa_cons (pv 0) (pa_cons (pv 1) pa_nil))))
          (pss_cons (ps_set (i := 3) sc_law.nd rfl (by first | exact Or.inl rfl | exact Or.inr rfl) (pe_use U__law_values (hr.mono (by decide)) (by rfl) (pa_cons (pv 2) pa_nil)))
          (pss_cons (ps_set (i := 4) sc_law.nd rfl (by first | exact Or.inl rfl | exact Or.inr rfl) (pe_callTy (K_list (K := K) rfl) (by rfl) T.z_list (by decide +kernel) (pa_cons (pv 3) pa_nil)))
          (pss_cons (ps_set (i := 5) sc_law.nd rfl (by first | exact Or.inl rfl | exact Or.inr rfl) (pe_cutE (pe_use U_compressed (hr.mono (by decide)) (by rfl) (pa_cons (pe_ifExp (pt_cmpR op_eq (pe_use U__law_take (hr.mono (by decide)) (by rfl) (pa_cons (pv 2) (pa_cons pe_int pa_nil))) pe_int (nomark _)) (pv 4) (pe_callTy (K_tuple (K := K) rfl) (by rfl) T.z_tuple (by decide +kernel) (pa_cons (pv 3) pa_nil))) pa_nil))))
          (pss_cons (ps_if (pt_cutT (PW.pt (pw_or (pt_not (pt_val (pe_callB (K_isi (K := K) rfl) (by rfl) T.z_isinstance (by decide +kernel) (pa_cons (pv 5) (pa_cons (pe_bltn (v := .ty "tuple") (u := .type "tuple") (by rfl) T.z_tuple (by decide +kernel) rfl) pa_nil))))) (pw_or (pt_cmpR op_ne (pe_callB (K_len (K := K) rfl) (by rfl) T.z_len (by decide +kernel) (pa_cons (pv 5) pa_nil)) (pe_callB (K_len (K := K) rfl) (by rfl) T.z_len (by decide +kernel) (pa_cons (pv 3) pa_nil)) (nomark _)) (pw_or1 (pt_cmpR (K_neD (K := K) rfl hu64) (pv 4) (pv 3) (nomark _)))))))
            (pss_one (ps_ret pe_bl))
            pss_nil)
          (pss_cons (ps_for PassesOwn.never (by rfl) (K_pit (K := K) rfl (pv 5)) (pg_name (i := 6) sc_law.nd rfl (by first | exact Or.inl rfl | exact Or.inr rfl))
            (pss_one (ps_if (pt_cutT (PW.pt (pw_or (pt_not (pt_val (pe_callB (K_isi (K := K) rfl) (by rfl) T.z_isinstance (by decide +kernel) (pa_cons (pv 6) (pa_cons (pe_bltn (v := .ty "tuple") (u := .type "tuple") (by rfl) T.z_tuple (by decide +kernel) rfl) pa_nil))))) (pw_or (pt_cmpR op_ne (pe_callB (K_len (K := K) rfl) (by rfl) T.z_len (by decide +kernel) (pa_cons (pv 6) pa_nil)) pe_int (nomark _)) (pw_or (pt_not (pt_val (pe_callB (K_isi (K := K) rfl) (by rfl) T.z_isinstance (by decide +kernel) (pa_cons (pe_ix (K_ixT (K := K) rfl) (pv 6) pe_int (fun _ _ => rfl)) (pa_cons (pe_bltn (v := .ty "int") (u := .type "int") (by rfl) T.z_int (by decide +kernel) rfl) pa_nil))))) (pw_or1 (pt_val (pe_callB (K_isi (K := K) rfl) (by rfl) T.z_isinstance (by decide +kernel) (pa_cons (pe_ix (K_ixT (K := K) rfl) (pv 6) pe_int (fun _ _ => rfl)) (pa_cons (pe_bltn (v := .ty "bool") (u := .type "bool") (by rfl) T.z_bool (by decide +kernel) rfl) pa_nil))))))))))
              (pss_one (ps_ret pe_bl))
              pss_nil)))
          (pss_one (ps_if (pt_cutT (PW.pt (pw_or (pt_cmpR (K_neD (K := K) rfl hu64) (pv 5) (pe_use U__law_picture (hr.mono (by decide)) (by rfl) (pa_cons (pv 3) pa_nil)) (nomark _)) (pw_or1 (pt_cmpR (K_neD (K := K) rfl hu64) (pe_use U_compressed (hr.mono (by decide)) (by rfl) (pa_cons (pe_callTy (K_list (K := K) rfl) (by rfl) T.z_list (by decide +kernel) (pa_cons (pv 5) pa_nil)) pa_nil)) (pv 5) (nomark _))))))
            (pss_one (ps_ret pe_bl))
            pss_nil)))))))))
        (pss_one (ps_ret pe_bl))), ?_⟩
    walk_at "S"
    refine r_lenL hS ?_
    walk_at "S"
    have hlen : (ns.map V.int).length = ns.length := List.length_map _
    refine r_cRng1 ?_ ?_
    · rw [hlen]
      split <;> split <;> omega
    refine r_kForR (fun i σ' H' => ∃ v1 v2 v3 v4 v5 v6, σ' = [some (.ref a), v1, v2, v3, v4, v5, v6] ∧ Kp [] H H') ⟨none, none, none, none, none, none, rfl, Kp.refl _ _⟩ ?_ ?_
    · rintro i σ' H1 hi ⟨v1, v2, v3, v4, v5, v6, rfl, k1⟩
      have hi63 : i ≤ 63 := by
        rw [hlen] at hi
        split at hi <;> split at hi <;> omega
      walk_at "S"
      refine ⟨a, ns, i, rfl, k1.sql hS, by omega, fun p H2 np k2 b2 => ?_⟩
      walk_at "S"
      refine ⟨p, 69999999000, rfl, b2, fun r H3 ps nr k3 b3 hps hnn hso hD => ?_⟩
      obtain ⟨r', xs, e, rp, er, hA⟩ := hD.list
      cases e
      have hxl : xs.length = ps.length := by
        rw [hA.length]
        exact List.length_map _
      have k03 : Kp [] H1 H3 := (k2.nil.trans k3).drop np
      walk_at "S"
      refine r_listL (SqL.of er) fun d H4 nd k4 ed => ?_
      have hA4 : DtAll [p] H4 xs (pds ps) := hA.mono k4.nil
      have dp : d ≠ p := by
        obtain ⟨ob, hob⟩ := b3.some
        exact ne_none hob nd
      have er4 := k4 _ _ er not_nil
      walk_at "S"
      refine r_cutE (fun x H7 => ∃ t, x = .ref t ∧ Kp [p] H4 H7 ∧ Dt [] H7 (.ref t) (.tuple (pds (cmp ps)))) ?_ ?_
      · walk_at "S"
        refine ⟨p, 69999998999, 2, rfl, b3.kp k4 not_nil, by decide, by decide, fun m H5 m0 m1 k5 b5 => ?_⟩
        have hA5 : DtAll [] H5 xs (pds ps) := (hA4.mono k5).less fun _ z => absurd z not_nil
        have er5 := k5 _ _ er4 rp
        have ed5 := k5 _ _ ed (not_one dp)
        -- the argument: the list or a tuple
        have both : ∀ (g : Addr) (H6 : Hp), Kp [] H5 H6 → Sq K H6 g xs → sp_compressed K [.ref g] H6 (fun x H7 => ∃ t, x = .ref t ∧ Kp [p] H4 H7 ∧ Dt [] H7 (.ref t) (.tuple (pds (cmp ps)))) E0 := fun g H6 k6 hg =>
          ⟨g, xs, ps, rfl, hg, hA5.mono k6, by omega, fun t H7 nt k7 ht => ⟨t, rfl, k5.trans (k6.trans k7).nil, ht⟩⟩
        walk_at "S"
        refine r_kIf (fun c => ?_) (fun c => ?_)
        all_goals walk_at "S"
        · exact both d H5 (Kp.refl _ _) (.inl (SqL.of ed5))
        · refine r_tupleL (SqL.of er5) fun t H6 nt k6 et => ?_
          walk_at "S"
          exact both t H6 k6 (.inr (SqT.of et))
      rintro x H7 ⟨t, rfl, k7, hT⟩
      have hA7 : DtAll [] H7 xs (pds ps) := (hA4.mono k7).less fun _ z => absurd z not_nil
      have er7 := k7 _ _ er4 rp
      have ed7 := k7 _ _ ed (not_one dp)
      have k17 : Kp [] H1 H7 := (k2.nil.trans (k3.trans (k4.nil.trans k7))).drop np
      have hT' := hT
      obtain ⟨t', ys, e, _, et, hB⟩ := hT.tuple
      cases e
      have hyl : ys.length = ps.length := by
        rw [hB.length]
        show (pds (cmp ps)).length = _
        unfold pds
        rw [List.length_map, cmp_length]
      have hr7 : Dt [] H7 (.ref r) (.list (pds ps)) := .lst not_nil er7 hA7
      have hd7 : Dt [] H7 (.ref d) (.list (pds ps)) := .lst not_nil ed7 hA7
      have sp : Shp 2 (.list (pds ps)) := Shp.list (shp_pds hso)
      have sc : Shp 2 (.tuple (pds (cmp ps))) := Shp.tuple (shp_pds (ok_cmp hso))
      walk_at "S"
      refine r_cutT (fun b H' => H7 = H' ∧ b = false) ?_ ?_
      · walk_at "S"
        refine r_isiTy (.base (.tup et)) (b := true) (by decide +kernel) ?_
        walk_at "S"
        refine r_kOr0 rfl ?_
        walk_at "S"
        refine r_lenT (SqT.of et) ?_
        walk_at "S"
        refine r_lenL (SqL.of er7) ?_
        walk_at "S"
        refine r_kOr0 (by rw [hyl, hxl]; simp) ?_
        walk_at "S"
        refine r_neD0 hd7 hr7 sp (by decide) ?_
        walk_at "S"
        exact ⟨rfl, rfl⟩
      rintro b H' ⟨rfl, rfl⟩
      refine r_kIfS0 rfl ?_
      walk_at "S"
      refine r_cWT (SqT.of et) ?_
      refine r_kForT (fun j σ' H' => ∃ v, σ' = [some (.ref a), some (.int (i : Int)), some (.ref p), some (.ref r), some (.ref d), some (.ref t), v] ∧ Kp [] H7 H') ⟨v6, rfl, Kp.refl _ _⟩ (fun j σ' H' _ ⟨_, _, k⟩ => k _ _ et not_nil |> SqT.of) ?_ ?_
      · rintro j y σ' H8 hy ⟨v, rfl, k8⟩
        obtain ⟨u, n, b, hp, rfl, _, eb⟩ := pds_get hB hy
        have eb8 := k8 _ _ eb not_nil
        walk_at "S"
        refine r_cutT (fun b H' => H8 = H' ∧ b = false) ?_ ?_
        · walk_at "S"
          refine r_isiTy (.base (.tup eb8)) (b := true) (by decide +kernel) ?_
          walk_at "S"
          refine r_kOr0 rfl ?_
          walk_at "S"
          refine r_lenT (SqT.of eb8) ?_
          walk_at "S"
          refine r_kOr0 rfl ?_
          walk_at "S"
          refine r_ixT (SqT.of eb8) (atI_nat (j := 1) rfl) ?_
          walk_at "S"
          refine r_isiTy (.base (.int _)) (b := true) (by decide +kernel) ?_
          walk_at "S"
          refine r_kOr0 rfl ?_
          walk_at "S"
          refine r_ixT (SqT.of eb8) (atI_nat (j := 1) rfl) ?_
          walk_at "S"
          refine r_isiTy (.base (.int _)) (b := false) (by decide +kernel) ?_
          walk_at "S"
          exact ⟨rfl, rfl⟩
        rintro b H' ⟨rfl, rfl⟩
        refine r_kIfS0 rfl ?_
        walk_at "S"
        exact ⟨_, rfl, k8⟩
      rintro σ' H8 ⟨v, rfl, k8⟩
      walk_at "S"
      refine r_cutT (fun b H' => Kp [] H8 H' ∧ b = false) ?_ ?_
      · walk_at "S"
        refine ⟨r, xs, ps, rfl, k8.sql (SqL.of er7), hA7.mono k8, by omega, fun z H9 nz k9 hz => ?_⟩
        refine r_neD0 (hT'.mono (k8.trans k9)) hz sc (by decide) ?_
        walk_at "S"
        refine r_kOr0 rfl ?_
        walk_at "S"
        have k89 := k8.trans k9
        refine r_listT (SqT.of (k89 _ _ et not_nil)) fun m H10 nm k10 em => ?_
        walk_at "S"
        have hB10 : DtAll [] H10 ys (pds (cmp ps)) := hB.mono (k89.trans k10)
        refine ⟨m, ys, cmp ps, rfl, .inl (SqL.of em), hB10, by rw [cmp_length]; omega, fun z2 H11 nz2 k11 hz2 => ?_⟩
        rw [cmp_cmp hnn] at hz2
        walk_at "S"
        refine r_neD0 hz2 (hT'.mono (k89.trans (k10.trans k11))) sc (by decide) ?_
        walk_at "S"
        exact ⟨k9.trans (k10.trans k11), rfl⟩
      rintro b H' ⟨k9, rfl⟩
      refine r_kIfS0 rfl ?_
      walk_at "S"
      exact ⟨_, _, _, _, _, _, rfl, k1.trans (k17.trans (k8.trans k9))⟩
    · rintro σ' H1 ⟨v1, v2, v3, v4, v5, v6, rfl, k1⟩
      walk_at "S"
      exact q H1

end
theorem all_mk {l : PySem.W.OpenLaw} {w : World} {K : PySem.W.Frag} {h : Heap} {mg : Str → Option Value} {fa f1 f2 f3 f4 f5 f6 f7 f8 f9 : Addr} (X : K.In h) (G : h.Ns mainGlobals mg) (hfa : mg "law" = some (.ref fa))
    {od1 an1 od2 an2 od3 an3 od4 an4 od5 an5 od6 an6 od7 an7 od8 an8 od9 an9 : Option Addr} {sl1 sl2 sl3 sl4 sl5 sl6 sl7 sl8 sl9 : Array (Option Value)} {oc1 kV1 dc1 pm1 cd1 ct1 oc2 kV2 dc2 pm2 cd2 ct2 oc3 kV3 dc3 pm3 cd3 ct3 oc4 kV4 dc4 pm4 cd4 ct4 oc5 kV5 dc5 pm5 cd5 ct5 oc6 kV6 dc6 pm6 cd6 ct6 oc7 kV7 dc7 pm7 cd7 ct7 oc8 kV8 dc8 pm8 cd8 ct8 oc9 kV9 dc9 pm9 cd9 ct9 : Value}
    (a1 : PySem.W.nsIn K mainGlobals "ranks" = some (some (.ref f1))) (l1 : K.lookup f1 = some ⟨oc1, od1, .func (PySem.W.fnOf "ranks" "ranks" (defArgs s_ranks) (defBody s_ranks) (defScope s_ranks) .none kV1 dc1 pm1 an1 cd1 ct1), sl1⟩) (c1 : PySem.W.codeIn K cd1 "ranks" = true) (k1 : PySem.W.keepIn K (.ref f1) = true)
    (a2 : PySem.W.nsIn K mainGlobals "_law_bag" = some (some (.ref f2))) (l2 : K.lookup f2 = some ⟨oc2, od2, .func (PySem.W.fnOf "_law_bag" "_law_bag" (defArgs s__law_bag) (defBody s__law_bag) (defScope s__law_bag) .none kV2 dc2 pm2 an2 cd2 ct2), sl2⟩) (c2 : PySem.W.codeIn K cd2 "_law_bag" = true) (k2 : PySem.W.keepIn K (.ref f2) = true)
    (a3 : PySem.W.nsIn K mainGlobals "_law_take" = some (some (.ref f3))) (l3 : K.lookup f3 = some ⟨oc3, od3, .func (PySem.W.fnOf "_law_take" "_law_take" (defArgs s__law_take) (defBody s__law_take) (defScope s__law_take) .none kV3 dc3 pm3 an3 cd3 ct3), sl3⟩) (c3 : PySem.W.codeIn K cd3 "_law_take" = true) (k3 : PySem.W.keepIn K (.ref f3) = true)
    (a4 : PySem.W.nsIn K mainGlobals "_law_picture" = some (some (.ref f4))) (l4 : K.lookup f4 = some ⟨oc4, od4, .func (PySem.W.fnOf "_law_picture" "_law_picture" (defArgs s__law_picture) (defBody s__law_picture) (defScope s__law_picture) .none kV4 dc4 pm4 an4 cd4 ct4), sl4⟩) (c4 : PySem.W.codeIn K cd4 "_law_picture" = true) (k4 : PySem.W.keepIn K (.ref f4) = true)
    (a5 : PySem.W.nsIn K mainGlobals "compressed" = some (some (.ref f5))) (l5 : K.lookup f5 = some ⟨oc5, od5, .func (PySem.W.fnOf "compressed" "compressed" (defArgs s_compressed) (defBody s_compressed) (defScope s_compressed) .none kV5 dc5 pm5 an5 cd5 ct5), sl5⟩) (c5 : PySem.W.codeIn K cd5 "compressed" = true) (k5 : PySem.W.keepIn K (.ref f5) = true)
    (a6 : PySem.W.nsIn K mainGlobals "_law_of" = some (some (.ref f6))) (l6 : K.lookup f6 = some ⟨oc6, od6, .func (PySem.W.fnOf "_law_of" "_law_of" (defArgs s__law_of) (defBody s__law_of) (defScope s__law_of) .none kV6 dc6 pm6 an6 cd6 ct6), sl6⟩) (c6 : PySem.W.codeIn K cd6 "_law_of" = true) (k6 : PySem.W.keepIn K (.ref f6) = true)
    (a7 : PySem.W.nsIn K mainGlobals "_law_name" = some (some (.ref f7))) (l7 : K.lookup f7 = some ⟨oc7, od7, .func (PySem.W.fnOf "_law_name" "_law_name" (defArgs s__law_name) (defBody s__law_name) (defScope s__law_name) .none kV7 dc7 pm7 an7 cd7 ct7), sl7⟩) (c7 : PySem.W.codeIn K cd7 "_law_name" = true) (k7 : PySem.W.keepIn K (.ref f7) = true)
    (a8 : PySem.W.nsIn K mainGlobals "_law_values" = some (some (.ref f8))) (l8 : K.lookup f8 = some ⟨oc8, od8, .func (PySem.W.fnOf "_law_values" "_law_values" (defArgs s__law_values) (defBody s__law_values) (defScope s__law_values) .none kV8 dc8 pm8 an8 cd8 ct8), sl8⟩) (c8 : PySem.W.codeIn K cd8 "_law_values" = true) (k8 : PySem.W.keepIn K (.ref f8) = true)
    (a9 : PySem.W.nsIn K mainGlobals "law" = some (some (.ref f9))) (l9 : K.lookup f9 = some ⟨oc9, od9, .func (PySem.W.fnOf "law" "law" (defArgs s_law) (defBody s_law) (defScope s_law) .none kV9 dc9 pm9 an9 cd9 ct9), sl9⟩) (c9 : PySem.W.codeIn K cd9 "law" = true) (k9 : PySem.W.keepIn K (.ref f9) = true)
    (z_tuple : PySem.W.nsIn K mainGlobals "tuple" = some none) (z_sorted : PySem.W.nsIn K mainGlobals "sorted" = some none) (z_range : PySem.W.nsIn K mainGlobals "range" = some none) (z_abs : PySem.W.nsIn K mainGlobals "abs" = some none) (z_int : PySem.W.nsIn K mainGlobals "int" = some none) (z_set : PySem.W.nsIn K mainGlobals "set" = some none) (z_max : PySem.W.nsIn K mainGlobals "max" = some none) (z_list : PySem.W.nsIn K mainGlobals "list" = some none) (z_enumerate : PySem.W.nsIn K mainGlobals "enumerate" = some none) (z_len : PySem.W.nsIn K mainGlobals "len" = some none) (z_min : PySem.W.nsIn K mainGlobals "min" = some none) (z_isinstance : PySem.W.nsIn K mainGlobals "isinstance" = some none) (z_bool : PySem.W.nsIn K mainGlobals "bool" = some none) :
    ∃ fd : FuncData, (∀ (s : Shared) (v : Value), BindsTo s fd ⟨[v], []⟩ [("_law_script", v)]) ∧ ∀ base : Heap, K.In base → base.Ns mainGlobals mg → FnOk l.prog w K mg base CX0 5 fa fd ["_law_script"] (sp_law K) := by
  have e := hfa.symm.trans (PySem.W.mg_of X G a9)
  cases e
  have T : Txt mg := ⟨PySem.W.mg_none_of X G z_tuple, PySem.W.mg_none_of X G z_sorted, PySem.W.mg_none_of X G z_range, PySem.W.mg_none_of X G z_abs, PySem.W.mg_none_of X G z_int, PySem.W.mg_none_of X G z_set, PySem.W.mg_none_of X G z_max, PySem.W.mg_none_of X G z_list, PySem.W.mg_none_of X G z_enumerate, PySem.W.mg_none_of X G z_len, PySem.W.mg_none_of X G z_min, PySem.W.mg_none_of X G z_isinstance, PySem.W.mg_none_of X G z_bool⟩
  have F1 := fun_mk (st := s_ranks) l1 c1 k1
  have b1 := F1.binds (ps := ["numbers"]) fun _ _ _ _ _ _ us hl => match us, hl with | [_], _ => rfl
  have F2 := fun_mk (st := s__law_bag) l2 c2 k2
  have b2 := F2.binds (ps := ["_law_script", "_law_at"]) fun _ _ _ _ _ _ us hl => match us, hl with | [_, _], _ => rfl
  have F3 := fun_mk (st := s__law_take) l3 c3 k3
  have b3 := F3.binds (ps := ["_law_bag_here", "_law_many"]) fun _ _ _ _ _ _ us hl => match us, hl with | [_, _], _ => rfl
  have F4 := fun_mk (st := s__law_picture) l4 c4 k4
  have b4 := F4.binds (ps := ["_law_values_here"]) fun _ _ _ _ _ _ us hl => match us, hl with | [_], _ => rfl
  have F5 := fun_mk (st := s_compressed) l5 c5 k5
  have b5 := F5.binds (ps := ["values"]) fun _ _ _ _ _ _ us hl => match us, hl with | [_], _ => rfl
  have F6 := fun_mk (st := s__law_of) l6 c6 k6
  have b6 := F6.binds (ps := ["_law_bag_here", "_law_some"]) fun _ _ _ _ _ _ us hl => match us, hl with | [_, _], _ => rfl
  have F7 := fun_mk (st := s__law_name) l7 c7 k7
  have b7 := F7.binds (ps := ["_law_bag_here", "_law_taken"]) fun _ _ _ _ _ _ us hl => match us, hl with | [_, _], _ => rfl
  have F8 := fun_mk (st := s__law_values) l8 c8 k8
  have b8 := F8.binds (ps := ["_law_bag_here"]) fun _ _ _ _ _ _ us hl => match us, hl with | [_], _ => rfl
  have F9 := fun_mk (st := s_law) l9 c9 k9
  refine ⟨PySem.W.fnOf "law" "law" (defArgs s_law) (defBody s_law) (defScope s_law) .none kV9 dc9 pm9 an9 cd9 ct9, fun s v => .of_eq rfl, fun base _ _ => ?_⟩
  have U_ranks : Use l.prog w K mg base 1 "ranks" ["numbers"] (sp_ranks K) := ⟨_, _, ok_ranks F1 T, PySem.W.mg_of X G a1, k1, b1⟩
  have U__law_bag : Use l.prog w K mg base 1 "_law_bag" ["_law_script", "_law_at"] (sp__law_bag K) := ⟨_, _, ok__law_bag F2 T, PySem.W.mg_of X G a2, k2, b2⟩
  have U__law_take : Use l.prog w K mg base 1 "_law_take" ["_law_bag_here", "_law_many"] (sp__law_take) := ⟨_, _, ok__law_take F3 T, PySem.W.mg_of X G a3, k3, b3⟩
  have U__law_picture : Use l.prog w K mg base 1 "_law_picture" ["_law_values_here"] (sp__law_picture K) := ⟨_, _, ok__law_picture F4 T, PySem.W.mg_of X G a4, k4, b4⟩
  have U_compressed : Use l.prog w K mg base 2 "compressed" ["values"] (sp_compressed K) := ⟨_, _, ok_compressed F5 T U_ranks, PySem.W.mg_of X G a5, k5, b5⟩
  have U__law_of : Use l.prog w K mg base 2 "_law_of" ["_law_bag_here", "_law_some"] (sp__law_of K) := ⟨_, _, ok__law_of F6 T U__law_take, PySem.W.mg_of X G a6, k6, b6⟩
  have U__law_name : Use l.prog w K mg base 3 "_law_name" ["_law_bag_here", "_law_taken"] (sp__law_name K) := ⟨_, _, ok__law_name F7 T U__law_take U__law_of, PySem.W.mg_of X G a7, k7, b7⟩
  have U__law_values : Use l.prog w K mg base 4 "_law_values" ["_law_bag_here"] (sp__law_values K) := ⟨_, _, ok__law_values F8 T U__law_take U__law_of U__law_name, PySem.W.mg_of X G a8, k8, b8⟩
  exact ok_law F9 T U_compressed U__law_bag U__law_take U__law_picture U__law_values
theorem walk {l : PySem.W.OpenLaw} {q : Program} {loose : List Str} {XP : (Str → Option Value) → Heap → Prop} {YP : World → Heap → Prop} {d : DefRec} {K : Params → PySem.W.Frag} (hn : l.most = some 63) (hdf : d.params.defaults = [])
    (hY : ∀ (w : World) (h : Heap), YP w h → (K w.params).In h)
    (F : ∀ (w : World) (mg : Str → Option Value) (fa : Addr) (h : Heap), (K w.params).In h → h.Ns mainGlobals mg → mg d.name = some (.ref fa) →
      ∃ fd : FuncData, (∀ (s : Shared) (u : Value), BindsTo s fd ⟨[u], []⟩ [("_law_script", u)]) ∧ ∀ base : Heap, (K w.params).In base → base.Ns mainGlobals mg → FnOk l.prog w (K w.params) mg base CX0 5 fa fd ["_law_script"] (sp_law (K w.params))) :
    PySem.W.WalkO q loose XP YP l.row.toRowW d [] (fun f vs => PySem.call f vs) :=
  L2.walk_of (n := 63) (k := 5) (x := "_law_script") (CX := fun _ => CX0) (sp := fun w => sp_law (K w.params)) hn (by decide) hdf ⟨rfl, by decide, by decide⟩ hY F (fun _ _ a ns hl _ hS => ⟨a, ns, rfl, hS, hl, fun _ => rfl⟩) fun _ _ _ _ _ z => z
end My
open PySem PySem.W PyProof.Rows
set_option maxRecDepth 100000 in
set_option maxHeartbeats 0 in
theorem PySem.Challenge.cw_silentswaps_k04_compressed_holds : PySem.Challenge.rw_silentswaps_k04_compressed.Holds := by
  w_on; o_law; k_head; (case hw => w_witness2)
  k_fill
  refine My.walk (l := PySem.Challenge.rw_silentswaps_k04_compressed) rfl rfl (fun w h Y => PySem.W.kIn_of Y) ?F
  case F =>
    intro w mg fa h KX G hmg
    refine' My.all_mk KX G hmg ?a1 ?l1 ?c1 ?k1 ?a2 ?l2 ?c2 ?k2 ?a3 ?l3 ?c3 ?k3 ?a4 ?l4 ?c4 ?k4 ?a5 ?l5 ?c5 ?k5 ?a6 ?l6 ?c6 ?k6 ?a7 ?l7 ?c7 ?k7 ?a8 ?l8 ?c8 ?k8 ?a9 ?l9 ?c9 ?k9 ?z_tuple ?z_sorted ?z_range ?z_abs ?z_int ?z_set ?z_max ?z_list ?z_enumerate ?z_len ?z_min ?z_isinstance ?z_bool
    (case a1 => k_is)
    (case l1 => k_is)
    (case c1 => k_is)
    (case k1 => k_is)
    (case a2 => k_is)
    (case l2 => k_is)
    (case c2 => k_is)
    (case k2 => k_is)
    (case a3 => k_is)
    (case l3 => k_is)
    (case c3 => k_is)
    (case k3 => k_is)
    (case a4 => k_is)
    (case l4 => k_is)
    (case c4 => k_is)
    (case k4 => k_is)
    (case a5 => k_is)
    (case l5 => k_is)
    (case c5 => k_is)
    (case k5 => k_is)
    (case a6 => k_is)
    (case l6 => k_is)
    (case c6 => k_is)
    (case k6 => k_is)
    (case a7 => k_is)
    (case l7 => k_is)
    (case c7 => k_is)
    (case k7 => k_is)
    (case a8 => k_is)
    (case l8 => k_is)
    (case c8 => k_is)
    (case k8 => k_is)
    (case a9 => k_is)
    (case l9 => k_is)
    (case c9 => k_is)
    (case k9 => k_is)
    (case z_tuple => k_is)
    (case z_sorted => k_is)
    (case z_range => k_is)
    (case z_abs => k_is)
    (case z_int => k_is)
    (case z_set => k_is)
    (case z_max => k_is)
    (case z_list => k_is)
    (case z_enumerate => k_is)
    (case z_len => k_is)
    (case z_min => k_is)
    (case z_isinstance => k_is)
    (case z_bool => k_is)
#print axioms PySem.Challenge.cw_silentswaps_k04_compressed_holds
