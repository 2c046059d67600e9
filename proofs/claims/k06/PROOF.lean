import PyProof.Rows.All
import Wide.All
import OpenK.AllK
import Wide.FinOn
import HandS.ForMost
import HandS.Wide
import HandS.IsInst
import HandS.DictComp
import HandS.SortInts
import HandS.TupAny
import HandS.Conv
import HandS.Strs
import HandS.Walk
import HandS.More
import HandS.Star
import HandS.Codes
import HandS.SetFor
import HandS.Comp
import HandS.GenList
import HandS.Words
import HandS.WordsExc
import HandS.SortKw
import KE.SortData
import KE.DataMinMax
import PySem.Challenge.RW_silentswaps_k06_one_value_more
set_option Elab.async false
set_option maxRecDepth 100000

set_option maxHeartbeats 4000000
/-! Rd: what the proofs of this repo share. Frames (Kp), data in the heap (Dt), defs as callers use them (Use), readings as rules from back to front (r_..), the tactic rows walk_at "s" (one step), walk_at "S" (many). -/
namespace Rd
open PySem PySem.Spec L2

/-! ### frames -/
def Kp (ex : List Addr) (H H' : Hp) : Prop := ∀ b o, H b = some o → b ∉ ex → H' b = some o
theorem Kp.refl (ex : List Addr) (H : Hp) : Kp ex H H := fun _ _ e _ => e
theorem Kp.trans {ex : List Addr} {H H1 H2 : Hp} (a : Kp ex H H1) (b : Kp ex H1 H2) : Kp ex H H2 := fun c o e n => b c o (a c o e n) n
theorem Kp.mono {ex ex' : List Addr} {H H' : Hp} (a : Kp ex H H') (s : ∀ b ∈ ex, b ∈ ex') : Kp ex' H H' := fun c o e n => a c o e fun m => n (s c m)
theorem Kp.nil {ex : List Addr} {H H' : Hp} (a : Kp [] H H') : Kp ex H H' := a.mono fun _ m => nomatch m
theorem Kp.drop {l : Addr} {ex : List Addr} {H H' : Hp} (a : Kp (l :: ex) H H') (n : H l = none) : Kp ex H H' := fun c o e m => by
  refine a c o e fun z => ?_
  rcases List.mem_cons.mp z with q | q
  · subst q
    rw [n] at e
    cases e
  · exact m q
theorem Kp.free {ex : List Addr} {H H' : Hp} {q : Addr} (a : Kp ex H H') (n : H' q = none) (m : q ∉ ex) : H q = none := by
  cases e : H q with
  | none => rfl
  | some o =>
    rw [a q o e m] at n
    cases n
theorem Kp.new {ex : List Addr} {H : Hp} {p : Addr} {o : HO} (n : H p = none) : Kp ex H (upd H p o) := fun b u e _ => by
  rw [upd_ne (ne_of_none e n)]
  exact e
theorem Kp.put {ex : List Addr} {H : Hp} {p : Addr} {o : HO} (m : p ∈ ex) : Kp ex H (upd H p o) := fun b u e n => by
  rw [upd_ne fun (z : b = p) => n (z ▸ m)]
  exact e
theorem Kp.get {ex : List Addr} {H H' : Hp} {b : Addr} {o : HO} (a : Kp ex H H') (e : H b = some o) (n : b ∉ ex) : H' b = some o := a b o e n
theorem Kp.sql {K : PySem.W.Frag} {H H' : Hp} {a : Addr} {xs : List V} (k : Kp [] H H') (h : SqL K H a xs) : SqL K H' a xs :=
  Same.seq (fun b o e => k b o e (by simp)) h
theorem not_nil {b : Addr} : b ∉ ([] : List Addr) := fun m => nomatch m
theorem not_one {b p : Addr} (h : b ≠ p) : b ∉ [p] := fun m => h (List.mem_singleton.mp m)
theorem not_two {b p q : Addr} (h : b ≠ p) (h' : b ≠ q) : b ∉ [p, q] := fun m => by
  rcases List.mem_cons.mp m with e | e
  · exact h e
  · exact h' (List.mem_singleton.mp e)
theorem ne_none {H : Hp} {a b : Addr} {o : HO} (h : H a = some o) (h' : H b = none) : b ≠ a := fun e => ne_of_none h h' e.symm

/-! ### data -/
mutual
inductive Dt (ex : List Addr) (H : Hp) : V → PyData → Prop
  | non : Dt ex H .non .none
  | bl (b : Bool) : Dt ex H (.bl b) (.bool b)
  | int (i : Int) : Dt ex H (.int i) (.int i)
  | str (x : Str) : Dt ex H (.str x) (.str x)
  | lst {a : Addr} {xs : List V} {ds : List PyData} : a ∉ ex → H a = some (.lst xs) → DtAll ex H xs ds → Dt ex H (.ref a) (.list ds)
  | tup {a : Addr} {xs : List V} {ds : List PyData} : a ∉ ex → H a = some (.tup xs) → DtAll ex H xs ds → Dt ex H (.ref a) (.tuple ds)
inductive DtAll (ex : List Addr) (H : Hp) : List V → List PyData → Prop
  | nil : DtAll ex H [] []
  | cons {v : V} {vs : List V} {d : PyData} {ds : List PyData} : Dt ex H v d → DtAll ex H vs ds → DtAll ex H (v :: vs) (d :: ds)
end
mutual
theorem Dt.mono' {ex ex' : List Addr} {H H' : Hp} (k : Kp ex H H') (s : ∀ b ∈ ex', b ∈ ex) : ∀ (d : PyData) (v : V), Dt ex H v d → Dt ex' H' v d
  | .none, _, h => by cases h; exact .non
  | .bool b, _, h => by cases h; exact .bl b
  | .int i, _, h => by cases h; exact .int i
  | .str x, _, h => by cases h; exact .str x
  | .list ds, _, h => by
    cases h with
    | lst n e al => exact .lst (fun m => n (s _ m)) (k _ _ e n) (DtAll.mono' k s ds _ al)
  | .tuple ds, _, h => by
    cases h with
    | tup n e al => exact .tup (fun m => n (s _ m)) (k _ _ e n) (DtAll.mono' k s ds _ al)
  | .dict _, _, h => by cases h
theorem DtAll.mono' {ex ex' : List Addr} {H H' : Hp} (k : Kp ex H H') (s : ∀ b ∈ ex', b ∈ ex) : ∀ (ds : List PyData) (vs : List V), DtAll ex H vs ds → DtAll ex' H' vs ds
  | [], _, h => by cases h; exact .nil
  | d :: ds, _, h => by
    cases h with
    | cons h1 h2 => exact .cons (Dt.mono' k s d _ h1) (DtAll.mono' k s ds _ h2)
end
theorem Dt.mono {ex : List Addr} {H H' : Hp} {v : V} {d : PyData} (h : Dt ex H v d) (k : Kp ex H H') : Dt ex H' v d := Dt.mono' k (fun _ m => m) d v h
theorem DtAll.mono {ex : List Addr} {H H' : Hp} {vs : List V} {ds : List PyData} (h : DtAll ex H vs ds) (k : Kp ex H H') : DtAll ex H' vs ds := DtAll.mono' k (fun _ m => m) ds vs h
theorem Dt.less {ex ex' : List Addr} {H : Hp} {v : V} {d : PyData} (h : Dt ex H v d) (s : ∀ b ∈ ex', b ∈ ex) : Dt ex' H v d := Dt.mono' (Kp.refl ex H) s d v h
theorem DtAll.less {ex ex' : List Addr} {H : Hp} {vs : List V} {ds : List PyData} (h : DtAll ex H vs ds) (s : ∀ b ∈ ex', b ∈ ex) : DtAll ex' H vs ds := DtAll.mono' (Kp.refl ex H) s ds vs h
mutual
theorem Dt.more' {ex : List Addr} {H : Hp} {l : Addr} (n : H l = none) : ∀ (d : PyData) (v : V), Dt ex H v d → Dt (l :: ex) H v d
  | .none, _, h => by cases h; exact .non
  | .bool b, _, h => by cases h; exact .bl b
  | .int i, _, h => by cases h; exact .int i
  | .str x, _, h => by cases h; exact .str x
  | .list ds, _, h => by
    cases h with
    | lst m e al => exact .lst (fun z => (List.mem_cons.mp z).elim (ne_of_none e n) m) e (DtAll.more' n ds _ al)
  | .tuple ds, _, h => by
    cases h with
    | tup m e al => exact .tup (fun z => (List.mem_cons.mp z).elim (ne_of_none e n) m) e (DtAll.more' n ds _ al)
  | .dict _, _, h => by cases h
theorem DtAll.more' {ex : List Addr} {H : Hp} {l : Addr} (n : H l = none) : ∀ (ds : List PyData) (vs : List V), DtAll ex H vs ds → DtAll (l :: ex) H vs ds
  | [], _, h => by cases h; exact .nil
  | d :: ds, _, h => by
    cases h with
    | cons h1 h2 => exact .cons (Dt.more' n d _ h1) (DtAll.more' n ds _ h2)
end
/-- an address that is new to the heap is none of the data's -/
theorem Dt.more {ex : List Addr} {H : Hp} {v : V} {d : PyData} {l : Addr} (h : Dt ex H v d) (n : H l = none) : Dt (l :: ex) H v d := Dt.more' n d v h
theorem DtAll.more {ex : List Addr} {H : Hp} {vs : List V} {ds : List PyData} {l : Addr} (h : DtAll ex H vs ds) (n : H l = none) : DtAll (l :: ex) H vs ds := DtAll.more' n ds vs h
mutual
theorem Dt.dp' {K : PySem.W.Frag} {ex : List Addr} {H : Hp} : ∀ (d : PyData) (v : V), Dt ex H v d → Dp K H v d
  | .none, _, h => by cases h; exact .non
  | .bool b, _, h => by cases h; exact .bl b
  | .int i, _, h => by cases h; exact .int i
  | .str x, _, h => by cases h; exact .str x
  | .list ds, _, h => by
    cases h with
    | lst n e al => exact .lst (SqL.of e) (DtAll.dp' ds _ al)
  | .tuple ds, _, h => by
    cases h with
    | tup n e al => exact .tup (SqT.of e) (DtAll.dp' ds _ al)
  | .dict _, _, h => by cases h
theorem DtAll.dp' {K : PySem.W.Frag} {ex : List Addr} {H : Hp} : ∀ (ds : List PyData) (vs : List V), DtAll ex H vs ds → DpAll K H vs ds
  | [], _, h => by cases h; exact .nil
  | d :: ds, _, h => by
    cases h with
    | cons h1 h2 => exact .cons (Dt.dp' d _ h1) (DtAll.dp' ds _ h2)
end
theorem Dt.dp {K : PySem.W.Frag} {ex : List Addr} {H : Hp} {v : V} {d : PyData} (h : Dt ex H v d) : Dp K H v d := Dt.dp' d v h
theorem Dt.list {ex : List Addr} {H : Hp} {v : V} {ds : List PyData} (h : Dt ex H v (.list ds)) : ∃ a xs, v = .ref a ∧ a ∉ ex ∧ H a = some (.lst xs) ∧ DtAll ex H xs ds := by
  cases h with
  | lst n e al => exact ⟨_, _, rfl, n, e, al⟩
theorem Dt.tuple {ex : List Addr} {H : Hp} {v : V} {ds : List PyData} (h : Dt ex H v (.tuple ds)) : ∃ a xs, v = .ref a ∧ a ∉ ex ∧ H a = some (.tup xs) ∧ DtAll ex H xs ds := by
  cases h with
  | tup n e al => exact ⟨_, _, rfl, n, e, al⟩
theorem DtAll.length {ex : List Addr} {H : Hp} : ∀ {vs : List V} {ds : List PyData}, DtAll ex H vs ds → vs.length = ds.length
  | [], _, h => by cases h; rfl
  | _ :: _, _, h => by
    cases h with
    | cons _ h2 => exact congrArg (· + 1) (DtAll.length h2)
theorem DtAll.at {ex : List Addr} {H : Hp} : ∀ {vs : List V} {ds : List PyData} {i : Nat} {v : V}, DtAll ex H vs ds → vs[i]? = some v → ∃ d, ds[i]? = some d ∧ Dt ex H v d
  | [], _, i, v, h, e => by simp at e
  | _ :: _, _, 0, v, h, e => by
    cases h with
    | cons h1 _ =>
      cases e
      exact ⟨_, rfl, h1⟩
  | _ :: _, _, i + 1, v, h, e => by
    cases h with
    | cons _ h2 => exact DtAll.at (i := i) h2 e
theorem DtAll.append {ex : List Addr} {H : Hp} : ∀ {vs ws : List V} {ds es : List PyData}, DtAll ex H vs ds → DtAll ex H ws es → DtAll ex H (vs ++ ws) (ds ++ es)
  | [], _, _, _, h, g => by cases h; exact g
  | _ :: _, _, _, _, h, g => by
    cases h with
    | cons h1 h2 => exact .cons h1 (DtAll.append h2 g)
theorem DtAll.snoc {ex : List Addr} {H : Hp} {vs : List V} {ds : List PyData} {v : V} {d : PyData} (h : DtAll ex H vs ds) (g : Dt ex H v d) : DtAll ex H (vs ++ [v]) (ds ++ [d]) := h.append (.cons g .nil)
theorem DtAll.strs {ex : List Addr} {H : Hp} : ∀ {vs : List V} {ws : List Str}, DtAll ex H vs (ws.map PyData.str) → vs = ws.map V.str
  | [], [], _ => rfl
  | [], _ :: _, h => by cases h
  | _ :: _, [], h => by cases h
  | v :: vs, w :: ws, h => by
    cases h with
    | cons h1 h2 =>
      cases h1
      rw [DtAll.strs h2]
      rfl
theorem DtAll.of_strs {ex : List Addr} {H : Hp} : ∀ (ws : List Str), DtAll ex H (ws.map V.str) (ws.map PyData.str)
  | [] => .nil
  | w :: ws => .cons (.str w) (DtAll.of_strs ws)
theorem DtAll.ints {ex : List Addr} {H : Hp} : ∀ {vs : List V} {ns : List Int}, DtAll ex H vs (ns.map PyData.int) → vs = ns.map V.int
  | [], [], _ => rfl
  | [], _ :: _, h => by cases h
  | _ :: _, [], h => by cases h
  | v :: vs, w :: ws, h => by
    cases h with
    | cons h1 h2 =>
      cases h1
      rw [DtAll.ints h2]
      rfl
theorem DtAll.of_ints {ex : List Addr} {H : Hp} : ∀ (ns : List Int), DtAll ex H (ns.map V.int) (ns.map PyData.int)
  | [] => .nil
  | n :: ns => .cons (.int n) (DtAll.of_ints ns)
/-- a pair of a text and a number -/
theorem Dt.pair {ex : List Addr} {H : Hp} {v : V} {x : Str} {n : Int} (h : Dt ex H v (.tuple [.str x, .int n])) : ∃ a, v = .ref a ∧ a ∉ ex ∧ H a = some (.tup [.str x, .int n]) := by
  obtain ⟨a, xs, rfl, m, e, al⟩ := h.tuple
  cases al with
  | cons h1 h2 =>
    cases h2 with
    | cons h3 h4 =>
      cases h4
      cases h1
      cases h3
      exact ⟨a, rfl, m, e⟩

/-! ### a def as its callers use it -/
def Use (P : Program) (w : World) (K : PySem.W.Frag) (mg : Str → Option Value) (base : Heap) (n : Nat) (x : Str) (ps : List Str) (sp : Sp) : Prop :=
  ∃ f fd, FnOk P w K mg base CX0 n f fd ps sp ∧ mg x = some (.ref f) ∧ PySem.W.keepIn K (.ref f) = true ∧ Binds K fd ps []
def tUse (sp : Sp) (t : TA) : TE := fun σ H Q => t σ H fun vs H1 => sp vs H1 Q E0
theorem tUse_eq (sp : Sp) (t : TA) : tCall sp [] E0 t = tUse sp t := by
  funext σ H Q
  show (t σ H fun vs H1 => sp (vs ++ []) H1 Q E0) = (t σ H fun vs H1 => sp vs H1 Q E0)
  simp only [List.append_nil]
theorem pe_use {X : Cx} {n : Nat} {x : Str} {ps : List Str} {sp : Sp} {e : Expr} {es : List Expr} {t : TA} {p pos : Pos} (U : Use X.prog X.w X.K X.mg X.base n x ps sp) (hr : Room n X.A) (hg : Gl X x) (ha : PA X (e :: es) t)
    (hdb : (x == ("__debug__" : Str)) = false := by decide) (he : starEach (e :: es) X.env = (false, eval e X.env) :: starEach es X.env := by rfl) (hpl : (backTo pos (starEach es X.env)).any (·.1) = false := by rfl) :
    PE X (.Call (.Name x p) (e :: es) [] pos) (tUse sp t) := by
  obtain ⟨f, fd, F, hm, hk, hb⟩ := U
  rw [← tUse_eq]
  exact pe_call F hr hg hm hk hb .nil pass0 ha hdb he hpl
theorem pe_use0 {X : Cx} {n : Nat} {x : Str} {ps : List Str} {sp : Sp} {p pos : Pos} (U : Use X.prog X.w X.K X.mg X.base n x ps sp) (hr : Room n X.A) (hg : Gl X x)
    (hdb : (x == ("__debug__" : Str)) = false := by decide) : PE X (.Call (.Name x p) [] [] pos) (tUse sp tNil) := by
  obtain ⟨f, fd, F, hm, hk, hb⟩ := U
  rw [← tUse_eq]
  exact pe_call0 F hr hg hm hk hb .nil pass0 hdb
/-- not A as a value, A a test of any kind -/
theorem pe_notP {X : Cx} {a : Expr} {t : TE} {pos : Pos} (h : PE X a t) : PE X (.UnaryOp .Not a pos) (tNotV t) := pe_not h

/-! ### readings, from back to front -/
section
variable {σ : St} {H : Hp} {Q : VK} {QB : Bool → Hp → Prop} {QA : List V → Hp → Prop} {v x y : V} {i : Nat} {ta tb tc te tv td ty : TE} {t u c : TT} {tr : TA} {r : R2} {g : TG} {gs : TGs}
  {nx bk ct : St → Hp → Prop} {rt : VK} {t1 t2 : TS} {K : PySem.W.Frag} {b : Bool}
theorem r_var (h : σ[i]? = some (some v)) (q : Q v H) : tVar i σ H Q := ⟨v, h, q⟩
theorem r_c (q : Q v H) : tC v σ H Q := q
theorem r_op (q : ta σ H fun x H1 => tb σ H1 fun y H2 => r x y H2 Q) : tOp r ta tb σ H Q := q
theorem r_un {f : V → Hp → VK → Prop} (q : ta σ H fun x H1 => f x H1 Q) : tUn f ta σ H Q := q
def kB (QB : Bool → Hp → Prop) : VK := fun x H => ∃ k, x = .bl k ∧ QB k H
theorem r_kB (q : QB b H) : kB QB (.bl b) H := ⟨b, rfl, q⟩
theorem r_test (q : te σ H (kB QB)) : tTest te σ H QB := q
theorem r_tB (q : te σ H (kB QB)) : tB te σ H QB := q
def kAnd (u : TT) (σ : St) (QB : Bool → Hp → Prop) : Bool → Hp → Prop := fun c H => if c = true then u σ H QB else QB false H
def kOr (u : TT) (σ : St) (QB : Bool → Hp → Prop) : Bool → Hp → Prop := fun c H => if c = true then QB true H else u σ H QB
theorem r_and (q : t σ H (kAnd u σ QB)) : tAnd t u σ H QB := q
theorem r_or (q : t σ H (kOr u σ QB)) : tOr t u σ H QB := q
theorem r_not (q : t σ H fun c H1 => QB (!c) H1) : tNot t σ H QB := q
theorem r_kAnd (h1 : b = true → u σ H QB) (h2 : b = false → QB false H) : kAnd u σ QB b H := by
  unfold kAnd
  cases b
  · exact h2 rfl
  · exact h1 rfl
theorem r_kOr (h1 : b = true → QB true H) (h2 : b = false → u σ H QB) : kOr u σ QB b H := by
  unfold kOr
  cases b
  · exact h2 rfl
  · exact h1 rfl
theorem r_kAnd1 (h : b = true) (q : u σ H QB) : kAnd u σ QB b H := by
  subst h
  exact q
theorem r_kAnd0 (h : b = false) (q : QB false H) : kAnd u σ QB b H := by
  subst h
  exact q
theorem r_kOr1 (h : b = true) (q : QB true H) : kOr u σ QB b H := by
  subst h
  exact q
theorem r_kOr0 (h : b = false) (q : u σ H QB) : kOr u σ QB b H := by
  subst h
  exact q
def kAndV (tb : TE) (σ : St) (Q : VK) : VK := fun x H1 => ∃ c, x = .bl c ∧ if c = true then tb σ H1 Q else Q (.bl false) H1
def kOrV (tb : TE) (σ : St) (Q : VK) : VK := fun x H1 => ∃ c, x = .bl c ∧ if c = true then Q (.bl true) H1 else tb σ H1 Q
theorem r_andV (q : ta σ H (kAndV tb σ Q)) : tAndV ta tb σ H Q := q
theorem r_orV (q : ta σ H (kOrV tb σ Q)) : tOrV ta tb σ H Q := q
theorem r_kAndV (h1 : b = true → tb σ H Q) (h2 : b = false → Q (.bl false) H) : kAndV tb σ Q (.bl b) H := by
  refine ⟨b, rfl, ?_⟩
  cases b
  · exact h2 rfl
  · exact h1 rfl
theorem r_kOrV (h1 : b = true → Q (.bl true) H) (h2 : b = false → tb σ H Q) : kOrV tb σ Q (.bl b) H := by
  refine ⟨b, rfl, ?_⟩
  cases b
  · exact h2 rfl
  · exact h1 rfl
def kNotV (Q : VK) : VK := fun x H1 => ∃ c, x = .bl c ∧ Q (.bl (!c)) H1
theorem r_notV (q : ta σ H (kNotV Q)) : tNotV ta σ H Q := q
theorem r_kNotV (q : Q (.bl (!b)) H) : kNotV Q (.bl b) H := ⟨b, rfl, q⟩
def kIf (ta tb : TE) (σ : St) (Q : VK) : Bool → Hp → Prop := fun c H => if c = true then ta σ H Q else tb σ H Q
theorem r_if (q : t σ H (kIf ta tb σ Q)) : tIf t ta tb σ H Q := q
theorem r_kIf (h1 : b = true → ta σ H Q) (h2 : b = false → tb σ H Q) : kIf ta tb σ Q b H := by
  unfold kIf
  cases b
  · exact h2 rfl
  · exact h1 rfl
theorem r_kIf1 (h : b = true) (q : ta σ H Q) : kIf ta tb σ Q b H := by
  subst h
  exact q
theorem r_kIf0 (h : b = false) (q : tb σ H Q) : kIf ta tb σ Q b H := by
  subst h
  exact q
theorem r_nilA (q : QA [] H) : tNil σ H QA := q
theorem r_consA (q : ta σ H fun x H1 => tr σ H1 fun xs H2 => QA (x :: xs) H2) : tCons ta tr σ H QA := q
theorem r_use {sp : Sp} (q : tr σ H fun vs H1 => sp vs H1 Q E0) : tUse sp tr σ H Q := q
theorem r_cb {f : List V → Hp → VK → Prop} (q : tr σ H fun vs H1 => f vs H1 Q) : tCB f tr σ H Q := q
/-! operators on numbers -/
theorem r_I0 {f : Int → Int → V} {m n : Int} (q : Q (f m n) H) : rI0 f (.int m) (.int n) H Q := ⟨m, n, rfl, rfl, q⟩
theorem r_I {C : Int → Int → Prop} {f : Int → Int → V} {m n : Int} (h : C m n) (q : Q (f m n) H) : rI C f (.int m) (.int n) H Q := ⟨m, n, rfl, rfl, h, q⟩
theorem r_U {f : Int → V} {m : Int} (q : Q (f m) H) : rU f (.int m) H Q := ⟨m, rfl, q⟩
theorem r_eq (h : scal x y = true) (q : Q (.bl (decide (x = y))) H) : rEq x y H Q := ⟨h, q⟩
theorem r_ne (h : scal x y = true) (q : Q (.bl (!decide (x = y))) H) : rNe x y H Q := ⟨h, q⟩
theorem r_eqI {m n : Int} (q : Q (.bl (decide (m = n))) H) : rEq (.int m) (.int n) H Q := by
  refine ⟨rfl, ?_⟩
  have e : decide (V.int m = V.int n) = decide (m = n) := by
    by_cases h : m = n
    · subst h
      simp
    · rw [decide_eq_false h, decide_eq_false fun z => h (V.int.inj z)]
  rw [e]
  exact q
theorem r_neI {m n : Int} (q : Q (.bl (!decide (m = n))) H) : rNe (.int m) (.int n) H Q := by
  refine ⟨rfl, ?_⟩
  have e : decide (V.int m = V.int n) = decide (m = n) := by
    by_cases h : m = n
    · subst h
      simp
    · rw [decide_eq_false h, decide_eq_false fun z => h (V.int.inj z)]
  rw [e]
  exact q
/-! statements -/
theorem r_seq (q : t1 ⟨t2 ⟨nx, rt, bk, ct⟩, rt, bk, ct⟩ σ H) : tSeq t1 t2 ⟨nx, rt, bk, ct⟩ σ H := q
theorem r_next (q : nx σ H) : tNext ⟨nx, rt, bk, ct⟩ σ H := q
theorem r_brk (q : bk σ H) : tBreak ⟨nx, rt, bk, ct⟩ σ H := q
theorem r_cont (q : ct σ H) : tCont ⟨nx, rt, bk, ct⟩ σ H := q
theorem r_asg (q : te σ H fun x H1 => g x σ H1 nx) : tAsg te g ⟨nx, rt, bk, ct⟩ σ H := q
theorem r_drop (q : te σ H fun _ H1 => nx σ H1) : tDrop te ⟨nx, rt, bk, ct⟩ σ H := q
theorem r_ret (q : te σ H rt) : tRet te ⟨nx, rt, bk, ct⟩ σ H := q
theorem r_retN (q : rt .non H) : tRetN ⟨nx, rt, bk, ct⟩ σ H := q
def kIfS (t1 t2 : TS) (D : Ends) (σ : St) : Bool → Hp → Prop := fun b H => if b = true then t1 D σ H else t2 D σ H
theorem r_ifS (q : c σ H (kIfS t1 t2 ⟨nx, rt, bk, ct⟩ σ)) : tIfS c t1 t2 ⟨nx, rt, bk, ct⟩ σ H := q
theorem r_kIfS {D : Ends} (h1 : b = true → t1 D σ H) (h2 : b = false → t2 D σ H) : kIfS t1 t2 D σ b H := by
  unfold kIfS
  cases b
  · exact h2 rfl
  · exact h1 rfl
theorem r_kIfS1 {D : Ends} (h : b = true) (q : t1 D σ H) : kIfS t1 t2 D σ b H := by
  subst h
  exact q
theorem r_kIfS0 {D : Ends} (h : b = false) (q : t2 D σ H) : kIfS t1 t2 D σ b H := by
  subst h
  exact q
theorem r_name {QS : St → Hp → Prop} (q : QS (σ.set i (some v)) H) : gName i v σ H QS := q
theorem r_par {j : Nat} (q : tr σ H fun vs H1 => ∃ v w, vs = [v, w] ∧ nx ((σ.set i (some v)).set j (some w)) H1) : tPar i j tr ⟨nx, rt, bk, ct⟩ σ H := q
/-! displays, dicts -/
def kLst (Q : VK) : List V → Hp → Prop := fun xs H1 => xs.length ≤ sizeLine ∧ ∀ p, H1 p = none → Q (.ref p) (upd H1 p (.lst xs))
def kTup (Q : VK) : List V → Hp → Prop := fun xs H1 => xs.length ≤ sizeLine ∧ ∀ p, H1 p = none → Q (.ref p) (upd H1 p (.tup xs))
theorem r_lst (q : tr σ H (kLst Q)) : tLst tr σ H Q := q
theorem r_tup (q : tr σ H (kTup Q)) : tTup tr σ H Q := q
theorem r_kLst {xs : List V} (h : xs.length ≤ sizeLine) (q : ∀ p H', H p = none → Kp [] H H' → H' p = some (.lst xs) → Q (.ref p) H') : kLst Q xs H :=
  ⟨h, fun p n => q p _ n (Kp.new n) upd_same⟩
theorem r_kTup {xs : List V} (h : xs.length ≤ sizeLine) (q : ∀ p H', H p = none → Kp [] H H' → H' p = some (.tup xs) → Q (.ref p) H') : kTup Q xs H :=
  ⟨h, fun p n => q p _ n (Kp.new n) upd_same⟩
def kDG (Q : VK) : V → V → Hp → Prop := fun x y H2 => ∃ a v, x = .ref a ∧ DGet H2 a y (some v) ∧ Q v H2
theorem r_dget (q : td σ H fun x H1 => ty σ H1 fun y H2 => kDG Q x y H2) : tDGet td ty σ H Q := q
theorem r_kDGs {a : Addr} {kvs : List (Key × V)} {z : Str} (e : H a = some (.dK kvs)) (h : valV kvs (Sum.inr z) = some v) (q : Q v H) : kDG Q (.ref a) (.str z) H :=
  ⟨a, v, rfl, .inl ⟨kvs, Sum.inr z, .inl e, rfl, h.symm⟩, q⟩
theorem r_kDGi {a : Addr} {kvs : List (Key × V)} {z : Int} (e : H a = some (.dK kvs)) (h : valV kvs (Sum.inl z) = some v) (q : Q v H) : kDG Q (.ref a) (.int z) H :=
  ⟨a, v, rfl, .inl ⟨kvs, Sum.inl z, .inl e, rfl, h.symm⟩, q⟩
def kDP (nx : St → Hp → Prop) (σ : St) : V → V → V → Hp → Prop := fun v x y H3 => ∃ a H4, x = .ref a ∧ DPut H3 a y v H4 ∧ nx σ H4
theorem r_dput (q : tv σ H fun v H1 => td σ H1 fun x H2 => ty σ H2 fun y H3 => kDP nx σ v x y H3) : sDPut td ty tv ⟨nx, rt, bk, ct⟩ σ H := q
theorem r_kDPs {a : Addr} {kvs : List (Key × V)} {z : Str} (e : H a = some (.dK kvs)) (h : kvs.length < sizeLine) (q : nx σ (upd H a (.dK (putK kvs (Sum.inr z) v)))) : kDP nx σ v (.ref a) (.str z) H :=
  ⟨a, _, rfl, .inl ⟨kvs, Sum.inr z, e, rfl, h, rfl⟩, q⟩
end

section
variable {σ : St} {H : Hp} {Q : VK} {QA : List V → Hp → Prop} {v x y : V} {K : PySem.W.Frag} {xs : List V} {p : Addr}
/-! built-ins -/
abbrev R1 := List V → Hp → VK → Prop
def cInt : R1 := fun xs H Q => (∃ i, xs = [.int i] ∧ Q (.int i) H) ∨ ∃ k, xs = [.bl k] ∧ Q (.int (if k then 1 else 0)) H
def cAbs : R1 := fun xs H Q => ∃ i, xs = [.int i] ∧ Q (.int (if i < 0 then -i else i)) H
def cMax2 : R1 := fun xs H Q => ∃ i j, xs = [.int i, .int j] ∧ Q (.int (if j > i then j else i)) H
def cMin2 : R1 := fun xs H Q => ∃ i j, xs = [.int i, .int j] ∧ Q (.int (if j < i then j else i)) H
def cStrI : R1 := fun xs H Q => ∃ i, xs = [.int i] ∧ i.natAbs.log2 < 1920 ∧ Q (.str (toString i)) H
def cLen (K : PySem.W.Frag) : R1 := fun xs H Q => ∃ p ys, xs = [.ref p] ∧ (SqL K H p ys ∨ SqT K H p ys) ∧ Q (.int (ys.length : Nat)) H
def cLenS : R1 := fun xs H Q => ∃ z, xs = [.str z] ∧ z.length ≤ sizeLine ∧ Q (.int (z.length : Nat)) H
def cList (K : PySem.W.Frag) : R1 := fun xs H Q => ∃ p ys, xs = [.ref p] ∧ (SqL K H p ys ∨ SqT K H p ys) ∧ ∀ l, H l = none → Q (.ref l) (upd H l (.lst ys))
def cTuple (K : PySem.W.Frag) : R1 := fun xs H Q => ∃ p ys, xs = [.ref p] ∧ ((SqL K H p ys ∧ ∀ l, H l = none → Q (.ref l) (upd H l (.tup ys))) ∨ (SqT K H p ys ∧ Q (.ref p) H))
section
variable {X : Cx}
theorem cr_int : CallR X (.type "int") cInt := call_int1
theorem cr_abs : CallR X (.builtin "abs") cAbs := call_abs
theorem cr_max2 (hc : X.calm = true) : CallR X (.builtin "max") cMax2 := call_max2 hc
theorem cr_min2 (hc : X.calm = true) : CallR X (.builtin "min") cMin2 := call_min2 hc
theorem cr_strI : CallR X (.type "str") cStrI := call_str_int
theorem cr_len : CallR X (.builtin "len") (cLen X.K) := call_len_seq
theorem cr_lenS : CallR X (.builtin "len") cLenS := call_len_str
theorem cr_list : CallR X (.type "list") (cList X.K) := call_list_of
theorem cr_tuple : CallR X (.type "tuple") (cTuple X.K) := call_tuple_of
end
theorem r_intB {b : Bool} (q : Q (.int (if b = true then 1 else 0)) H) : cInt [.bl b] H Q := .inr ⟨b, rfl, q⟩
theorem r_int {n : Int} (q : Q (.int n) H) : cInt [.int n] H Q := .inl ⟨n, rfl, q⟩
theorem r_abs {n : Int} (q : Q (.int (if n < 0 then -n else n)) H) : cAbs [.int n] H Q := ⟨n, rfl, q⟩
theorem r_max2 {m n : Int} (q : Q (.int (if n > m then n else m)) H) : cMax2 [.int m, .int n] H Q := ⟨m, n, rfl, q⟩
theorem r_min2 {m n : Int} (q : Q (.int (if n < m then n else m)) H) : cMin2 [.int m, .int n] H Q := ⟨m, n, rfl, q⟩
theorem r_strI {n : Int} (h : n.natAbs.log2 < 1920) (q : Q (.str (toString n)) H) : cStrI [.int n] H Q := ⟨n, rfl, h, q⟩
theorem r_lenL (h : SqL K H p xs) (q : Q (.int (xs.length : Nat)) H) : cLen K [.ref p] H Q := ⟨p, xs, rfl, .inl h, q⟩
theorem r_lenT (h : SqT K H p xs) (q : Q (.int (xs.length : Nat)) H) : cLen K [.ref p] H Q := ⟨p, xs, rfl, .inr h, q⟩
theorem r_lenS {z : Str} (h : z.length ≤ sizeLine) (q : Q (.int (z.length : Nat)) H) : cLenS [.str z] H Q := ⟨z, rfl, h, q⟩
theorem r_listL (h : SqL K H p xs) (q : ∀ l H', H l = none → Kp [] H H' → H' l = some (.lst xs) → Q (.ref l) H') : cList K [.ref p] H Q := ⟨p, xs, rfl, .inl h, fun l n => q l _ n (Kp.new n) upd_same⟩
theorem r_listT (h : SqT K H p xs) (q : ∀ l H', H l = none → Kp [] H H' → H' l = some (.lst xs) → Q (.ref l) H') : cList K [.ref p] H Q := ⟨p, xs, rfl, .inr h, fun l n => q l _ n (Kp.new n) upd_same⟩
theorem r_tupleL (h : SqL K H p xs) (q : ∀ l H', H l = none → Kp [] H H' → H' l = some (.tup xs) → Q (.ref l) H') : cTuple K [.ref p] H Q := ⟨p, xs, rfl, .inl ⟨h, fun l n => q l _ n (Kp.new n) upd_same⟩⟩
theorem r_tupleT (h : SqT K H p xs) (q : Q (.ref p) H) : cTuple K [.ref p] H Q := ⟨p, xs, rfl, .inr ⟨h, q⟩⟩
theorem r_ixL {i : Int} (h : SqL K H p xs) (e : atI xs i = some v) (q : Q v H) : rIxL K (.ref p) (.int i) H Q := ⟨p, xs, i, v, rfl, rfl, h, e, q⟩
theorem r_ixT {i : Int} (h : SqT K H p xs) (e : atI xs i = some v) (q : Q v H) : rIxT K (.ref p) (.int i) H Q := ⟨p, xs, i, v, rfl, rfl, h, e, q⟩
theorem r_ixS {z : Str} {i : Int} {c : Nat} (h : z.length ≤ sizeLine) (e : atI z.cps.toList i = some c) (q : Q (.str ⟨#[c]⟩) H) : rIxS (.str z) (.int i) H Q := ⟨z, i, c, rfl, rfl, h, e, q⟩
/-- an item at a number that lies within -/
theorem atI_in {α : Type} {l : List α} {i : Int} (h0 : 0 ≤ i) (h1 : i < (l.length : Int)) : ∃ v, atI l i = some v ∧ v ∈ l ∧ l[i.toNat]? = some v := by
  have hk : i.toNat < l.length := by omega
  have e : l[i.toNat]? = some l[i.toNat] := List.getElem?_eq_getElem hk
  have ei : i = ((i.toNat : Nat) : Int) := by omega
  have q : atI l ((i.toNat : Nat) : Int) = some l[i.toNat] := atI_nat e
  rw [← ei] at q
  exact ⟨l[i.toNat], q, List.getElem_mem hk, e⟩
/-! a display of a dict -/
def kDisp (Q : VK) (p : Addr) : List (V × V) → Hp → Prop := fun ps H2 => H2 p = some (.dK []) ∧ ∃ kvs : List (Key × V), ps = kvs.map (fun kv => (kV kv.1, kv.2)) ∧ kvs.length ≤ 15 ∧ Q (.ref p) (upd H2 p (.dK (mergeK [] kvs)))
theorem r_disp {trs : List (TE × TE)} (q : ∀ p H1, H p = none → Kp [] H H1 → H1 p = some (.dK []) → tPairs trs σ H1 (kDisp Q p)) : tDisp trs σ H Q := fun p n => q p _ n (Kp.new n) upd_same
theorem r_pnil {R : List (V × V) → Hp → Prop} (q : R [] H) : tPairs [] σ H R := q
theorem r_pcons {R : List (V × V) → Hp → Prop} {tk tv : TE} {r : List (TE × TE)} (q : tk σ H fun x H1 => tv σ H1 fun y H2 => tPairs r σ H2 fun ps H3 => R ((x, y) :: ps) H3) : tPairs ((tk, tv) :: r) σ H R := q
theorem r_kDisp {p : Addr} {kvs : List (Key × V)} (e : H p = some (.dK [])) (h : kvs.length ≤ 15) (q : ∀ H', Kp [p] H H' → H' p = some (.dK (mergeK [] kvs)) → Q (.ref p) H') : kDisp Q p (kvs.map fun kv => (kV kv.1, kv.2)) H :=
  ⟨e, kvs, rfl, h, q _ (Kp.put (by simp)) upd_same⟩
end

theorem sql_kp {K : PySem.W.Frag} {ex : List Addr} {H H' : Hp} {a : Addr} {xs : List V} (h : SqL K H a xs) (k : Kp ex H H') (m : a ∉ ex) : SqL K H' a xs := by
  rcases h with (h | ⟨o, h⟩) | h
  · exact .inl (.inl (k _ _ h m))
  · exact .inl (.inr ⟨o, k _ _ h m⟩)
  · exact .inr h
/-- a list stays where only the object o at p changes, which is no list -/
theorem sql_but {K : PySem.W.Frag} {H H' : Hp} {a p : Addr} {xs : List V} {o : HO} (h : SqL K H a xs) (k : Kp [p] H H') (e : H p = some o) (d : ∀ ys, o ≠ .lst ys) (d' : ∀ ob u, o ≠ .frz ob u) : SqL K H' a xs := by
  rcases h with (h | ⟨ob, h⟩) | h
  · exact .inl (.inl (k _ _ h (not_one (ne_of h e fun z => d _ z.symm))))
  · exact .inl (.inr ⟨ob, k _ _ h (not_one (ne_of h e fun z => d' _ _ z.symm))⟩)
  · exact .inr h
theorem sqt_kp {K : PySem.W.Frag} {ex : List Addr} {H H' : Hp} {a : Addr} {xs : List V} (h : SqT K H a xs) (k : Kp ex H H') (m : a ∉ ex) : SqT K H' a xs := by
  rcases h with (h | ⟨o, h⟩) | h
  · exact .inl (.inl (k _ _ h m))
  · exact .inl (.inr ⟨o, k _ _ h m⟩)
  · exact .inr h
section
variable {σ : St} {H : Hp} {Q : VK} {QA : List V → Hp → Prop} {v x y : V} {K : PySem.W.Frag} {xs : List V} {p : Addr} {te tk tv : TE} {tr : TA} {g : TG} {tb : TS} {tt : TT} {wi : TI} {nx bk ct : St → Hp → Prop} {rt : VK}
  {J : It} {n : Nat} {G : Hp → Prop} {Y : Nat → Hp → V → Hp → Prop} {vs : List Nat}
/-! what is walked -/
def cRng1 (R : It → Hp → Prop) : List V → Hp → Prop := fun ws H1 => ∃ j : Int, ws = [.int j] ∧ -(2 ^ 62) ≤ j ∧ j < 2 ^ 62 ∧ R (Itr 0 j.toNat) H1
def cRng2 (R : It → Hp → Prop) : List V → Hp → Prop := fun ws H1 => ∃ i j : Int, ws = [.int i, .int j] ∧ (-(2 ^ 62) ≤ i ∧ i < 2 ^ 62 ∧ -(2 ^ 62) ≤ j ∧ j < 2 ^ 62) ∧ R (Itr i (j - i).toNat) H1
def cWL (K : PySem.W.Frag) (R : It → Hp → Prop) : V → Hp → Prop := fun x H1 => ∃ a, x = .ref a ∧ (∃ xs, SqL K H1 a xs) ∧ R (Itl K a) H1
def cWT (K : PySem.W.Frag) (R : It → Hp → Prop) : V → Hp → Prop := fun x H1 => ∃ a, x = .ref a ∧ (∃ xs, SqT K H1 a xs) ∧ R (Itt K a) H1
def cWS (R : It → Hp → Prop) : V → Hp → Prop := fun v H1 => ∃ x, v = .str x ∧ R (Its x) H1
def cEnum (K : PySem.W.Frag) (R : It → Hp → Prop) : List V → Hp → Prop := fun ws H1 => ∃ a xs, ws = [.ref a] ∧ SqL K H1 a xs ∧ R (Ite K a) H1
def cZip (K : PySem.W.Frag) (R : It → Hp → Prop) : List V → Hp → Prop := fun ws H1 => ∃ a b xs ys, ws = [.ref a, .ref b] ∧ SqL K H1 a xs ∧ SqL K H1 b ys ∧ R (Itz K a b) H1
variable {R : It → Hp → Prop}
theorem r_rng1 (q : tr σ H (cRng1 R)) : iRng1 tr σ H R := q
theorem r_rng2 (q : tr σ H (cRng2 R)) : iRng2 tr σ H R := q
theorem r_wl (q : te σ H (cWL K R)) : iList K te σ H R := q
theorem r_wt (q : te σ H (cWT K R)) : iTup K te σ H R := q
theorem r_ws (q : te σ H (cWS R)) : iStr te σ H R := q
theorem r_enum (q : tr σ H (cEnum K R)) : iEnum K tr σ H R := q
theorem r_zip (q : tr σ H (cZip K R)) : iZip K tr σ H R := q
theorem r_cRng1 {j : Int} (h : -(2 ^ 62) ≤ j ∧ j < 2 ^ 62) (q : R (Itr 0 j.toNat) H) : cRng1 R [.int j] H := ⟨j, rfl, h.1, h.2, q⟩
theorem r_cRng2 {i j : Int} (h : -(2 ^ 62) ≤ i ∧ i < 2 ^ 62 ∧ -(2 ^ 62) ≤ j ∧ j < 2 ^ 62) (q : R (Itr i (j - i).toNat) H) : cRng2 R [.int i, .int j] H := ⟨i, j, rfl, h, q⟩
theorem r_cWL (h : SqL K H p xs) (q : R (Itl K p) H) : cWL K R (.ref p) H := ⟨p, rfl, ⟨xs, h⟩, q⟩
theorem r_cWT (h : SqT K H p xs) (q : R (Itt K p) H) : cWT K R (.ref p) H := ⟨p, rfl, ⟨xs, h⟩, q⟩
theorem r_cWS {z : Str} (q : R (Its z) H) : cWS R (.str z) H := ⟨z, rfl, q⟩
theorem r_cEnum (h : SqL K H p xs) (q : R (Ite K p) H) : cEnum K R [.ref p] H := ⟨p, xs, rfl, h, q⟩
theorem r_cZip {p' : Addr} {ys : List V} (h : SqL K H p xs) (h' : SqL K H p' ys) (q : R (Itz K p p') H) : cZip K R [.ref p, .ref p'] H := ⟨p, p', xs, ys, rfl, h, h', q⟩
/-! for -/
def kFor (g : TG) (tb : TS) (D : Ends) (σ : St) : It → Hp → Prop := fun J H1 => ∃ W : Nat → Nat → St → Hp → Prop, (∃ m, W 0 m σ H1) ∧ ∀ i m σ H, W i m σ H →
  (J.stop i H ∧ D.nx σ H) ∨ (J.go i H ∧ ∃ N : St → Hp → Prop, (∀ σ' H', N σ' H' → ∃ m', m' < m ∧ W (i + 1) m' σ' H') ∧ ∀ x H', J.yld i H x H' → g x σ H' fun σ2 H2 => tb { D with nx := N, ct := N, bk := D.nx } σ2 H2)
theorem r_for (q : wi σ H (kFor g tb ⟨nx, rt, bk, ct⟩ σ)) : tFor wi g tb ⟨nx, rt, bk, ct⟩ σ H := q
theorem r_kFor (w : Walk J n G Y) (Pv : Nat → St → Hp → Prop) (h0 : Pv 0 σ H) (hG : ∀ i σ H, i ≤ n → Pv i σ H → G H)
    (hs : ∀ i x σ H H', i < n → Pv i σ H → Y i H x H' → g x σ H' fun σ2 H2 => tb ⟨Pv (i + 1), rt, nx, Pv (i + 1)⟩ σ2 H2) (hd : ∀ σ H, Pv n σ H → nx σ H) : kFor g tb ⟨nx, rt, bk, ct⟩ σ J H :=
  for_it w (D := ⟨nx, rt, bk, ct⟩) Pv h0 hG hs hd
theorem r_kForR {m : Nat} (Pv : Nat → St → Hp → Prop) (h0 : Pv 0 σ H)
    (hs : ∀ (i : Nat) σ H, i < m → Pv i σ H → g (.int (i : Int)) σ H fun σ2 H2 => tb ⟨Pv (i + 1), rt, nx, Pv (i + 1)⟩ σ2 H2) (hd : ∀ σ H, Pv m σ H → nx σ H) : kFor g tb ⟨nx, rt, bk, ct⟩ σ (Itr 0 m) H := by
  refine r_kFor walk_range Pv h0 (fun _ _ _ _ _ => trivial) (fun i x σ H H' hi hp y => ?_) hd
  obtain ⟨rfl, rfl⟩ := y
  have e : V.int ((0 : Int) + (i : Int)) = V.int (i : Int) := congrArg V.int (by omega)
  show g (V.int ((0 : Int) + (i : Int))) σ _ _
  rw [e]
  exact hs i σ _ hi hp
theorem r_kForL (Pv : Nat → St → Hp → Prop) (h0 : Pv 0 σ H) (hl : ∀ i σ H, i ≤ xs.length → Pv i σ H → SqL K H p xs)
    (hs : ∀ (i : Nat) x σ H, xs[i]? = some x → Pv i σ H → g x σ H fun σ2 H2 => tb ⟨Pv (i + 1), rt, nx, Pv (i + 1)⟩ σ2 H2) (hd : ∀ σ H, Pv xs.length σ H → nx σ H) : kFor g tb ⟨nx, rt, bk, ct⟩ σ (Itl K p) H := by
  refine r_kFor walk_list Pv h0 hl (fun i x σ H H' hi hp y => ?_) hd
  obtain ⟨rfl, e⟩ := y
  exact hs i x σ _ e hp
theorem r_kForT (Pv : Nat → St → Hp → Prop) (h0 : Pv 0 σ H) (hl : ∀ i σ H, i ≤ xs.length → Pv i σ H → SqT K H p xs)
    (hs : ∀ (i : Nat) x σ H, xs[i]? = some x → Pv i σ H → g x σ H fun σ2 H2 => tb ⟨Pv (i + 1), rt, nx, Pv (i + 1)⟩ σ2 H2) (hd : ∀ σ H, Pv xs.length σ H → nx σ H) : kFor g tb ⟨nx, rt, bk, ct⟩ σ (Itt K p) H := by
  refine r_kFor walk_tup Pv h0 hl (fun i x σ H H' hi hp y => ?_) hd
  obtain ⟨rfl, e⟩ := y
  exact hs i x σ _ e hp
/-! [e for ..]: Pv by the new list's place, the turn, what is made so far, the heap -/
def kN (Pv : List V → Hp → Prop) (D : Addr) : Hp → Prop := fun H' => ∃ acc, H' D = some (.lst acc) ∧ Pv acc H'
def kApp (D : Addr) (N : Hp → Prop) : VK := fun y H4 => ∃ acc, H4 D = some (.lst acc) ∧ acc.length < sizeLine ∧ N (upd H4 D (.lst (acc ++ [y])))
def kKeep (te : TE) (σ : St) (D : Addr) (N : Hp → Prop) : Bool → Hp → Prop := fun b H3 => if b = true then te σ H3 (kApp D N) else N H3
def kTurn (tt : TT) (te : TE) (σ0 : St) (vs : List Nat) (D : Addr) (N : Hp → Prop) : St → Hp → Prop := fun σ2 H2 => wipe σ2 vs = σ0 ∧ tt σ2 H2 (kKeep te σ2 D N)
def kLc (g : TG) (tt : TT) (te : TE) (vs : List Nat) (σ : St) (Q : VK) : It → Hp → Prop := fun J H1 => ∀ D, H1 D = none → ∃ W : Nat → Nat → Hp → Prop, (∃ m, W 0 m (upd H1 D (.lst []))) ∧ ∀ i m H, W i m H →
  (J.stop i H ∧ Q (.ref D) H) ∨ (J.go i H ∧ ∃ Nx : Hp → Prop, (∀ H', Nx H' → ∃ m', m' < m ∧ W (i + 1) m' H') ∧ ∀ x H', J.yld i H x H' → g x (wipe σ vs) H' fun σ2 H2 => wipe σ2 vs = wipe σ vs ∧ tt σ2 H2 fun b H3 =>
    if b = true then te σ2 H3 fun y H4 => ∃ acc, H4 D = some (.lst acc) ∧ acc.length < sizeLine ∧ Nx (upd H4 D (.lst (acc ++ [y]))) else Nx H3)
theorem r_lc (q : wi σ H (kLc g tt te vs σ Q)) : tLc wi g tt te vs σ H Q := q
theorem r_kTurn {σ0 : St} {D : Addr} {N : Hp → Prop} (h : wipe σ vs = σ0) (q : tt σ H (kKeep te σ D N)) : kTurn tt te σ0 vs D N σ H := ⟨h, q⟩
theorem r_yes {QB : Bool → Hp → Prop} (q : QB true H) : tYes σ H QB := q
theorem r_kKeep1 {D : Addr} {N : Hp → Prop} {b : Bool} (h : b = true) (q : te σ H (kApp D N)) : kKeep te σ D N b H := by
  subst h
  exact q
theorem r_kKeep0 {D : Addr} {acc : List V} {Pv : List V → Hp → Prop} {b : Bool} (h : b = false) (e : H D = some (.lst acc)) (q : Pv acc H) : kKeep te σ D (kN Pv D) b H := by
  subst h
  exact ⟨acc, e, q⟩
theorem r_kKeep {D : Addr} {N : Hp → Prop} {b : Bool} (h1 : b = true → te σ H (kApp D N)) (h0 : b = false → N H) : kKeep te σ D N b H := by
  cases b
  · exact h0 rfl
  · exact h1 rfl
theorem r_kApp {D : Addr} {acc : List V} {Pv : List V → Hp → Prop} (e : H D = some (.lst acc)) (h : acc.length < sizeLine) (q : ∀ H5, Kp [D] H H5 → H5 D = some (.lst (acc ++ [y])) → Pv (acc ++ [y]) H5) : kApp D (kN Pv D) y H :=
  ⟨acc, e, h, acc ++ [y], upd_same, q _ (Kp.put (by simp)) upd_same⟩
theorem r_kLc (w : Walk J n G Y) (Pv : Addr → Nat → List V → Hp → Prop) (h0 : ∀ D H', H D = none → Kp [] H H' → H' D = some (.lst []) → Pv D 0 [] H') (hG : ∀ D i acc H', i ≤ n → Pv D i acc H' → G H')
    (hs : ∀ D i acc x H' H'', H D = none → i < n → H' D = some (.lst acc) → Pv D i acc H' → Y i H' x H'' → g x (wipe σ vs) H'' (kTurn tt te (wipe σ vs) vs D (kN (Pv D (i + 1)) D)))
    (hd : ∀ D acc H', H D = none → H' D = some (.lst acc) → Pv D n acc H' → Q (.ref D) H') : kLc g tt te vs σ Q J H := by
  intro D hD
  exact lc_it w (fun i => kN (Pv D i) D) ⟨[], upd_same, h0 D _ hD (Kp.new hD) upd_same⟩ (fun i H' hi ⟨acc, _, p⟩ => hG D i acc H' hi p) (fun i x H' H'' hi ⟨acc, e, p⟩ y => hs D i acc x H' H'' hD hi e p y) (fun H' ⟨acc, e, p⟩ => hd D acc H' hD e p)
theorem r_kLcL (Pv : Addr → Nat → List V → Hp → Prop) (h0 : ∀ D H', H D = none → Kp [] H H' → H' D = some (.lst []) → Pv D 0 [] H') (hG : ∀ D i acc H', i ≤ xs.length → Pv D i acc H' → SqL K H' p xs)
    (hs : ∀ D (i : Nat) acc x H', H D = none → xs[i]? = some x → H' D = some (.lst acc) → Pv D i acc H' → g x (wipe σ vs) H' (kTurn tt te (wipe σ vs) vs D (kN (Pv D (i + 1)) D)))
    (hd : ∀ D acc H', H D = none → H' D = some (.lst acc) → Pv D xs.length acc H' → Q (.ref D) H') : kLc g tt te vs σ Q (Itl K p) H := by
  refine r_kLc walk_list Pv h0 hG (fun D i acc x H' H'' hD hi e hp y => ?_) hd
  obtain ⟨rfl, e'⟩ := y
  exact hs D i acc x _ hD e' e hp
theorem r_kLcT (Pv : Addr → Nat → List V → Hp → Prop) (h0 : ∀ D H', H D = none → Kp [] H H' → H' D = some (.lst []) → Pv D 0 [] H') (hG : ∀ D i acc H', i ≤ xs.length → Pv D i acc H' → SqT K H' p xs)
    (hs : ∀ D (i : Nat) acc x H', H D = none → xs[i]? = some x → H' D = some (.lst acc) → Pv D i acc H' → g x (wipe σ vs) H' (kTurn tt te (wipe σ vs) vs D (kN (Pv D (i + 1)) D)))
    (hd : ∀ D acc H', H D = none → H' D = some (.lst acc) → Pv D xs.length acc H' → Q (.ref D) H') : kLc g tt te vs σ Q (Itt K p) H := by
  refine r_kLc walk_tup Pv h0 hG (fun D i acc x H' H'' hD hi e hp y => ?_) hd
  obtain ⟨rfl, e'⟩ := y
  exact hs D i acc x _ hD e' e hp
theorem r_kLcR {m : Nat} (Pv : Addr → Nat → List V → Hp → Prop) (h0 : ∀ D H', H D = none → Kp [] H H' → H' D = some (.lst []) → Pv D 0 [] H')
    (hs : ∀ D (i : Nat) acc H', H D = none → i < m → H' D = some (.lst acc) → Pv D i acc H' → g (.int (i : Int)) (wipe σ vs) H' (kTurn tt te (wipe σ vs) vs D (kN (Pv D (i + 1)) D)))
    (hd : ∀ D acc H', H D = none → H' D = some (.lst acc) → Pv D m acc H' → Q (.ref D) H') : kLc g tt te vs σ Q (Itr 0 m) H := by
  refine r_kLc walk_range Pv h0 (fun _ _ _ _ _ _ => trivial) (fun D i acc x H' H'' hD hi e hp y => ?_) hd
  obtain ⟨rfl, rfl⟩ := y
  have e : V.int ((0 : Int) + (i : Int)) = V.int (i : Int) := congrArg V.int (by omega)
  show g (V.int ((0 : Int) + (i : Int))) (wipe σ vs) _ _
  rw [e]
  exact hs D i acc _ hD hi (by assumption) hp
theorem r_kLcS {z : Str} (Pv : Addr → Nat → List V → Hp → Prop) (h0 : ∀ D H', H D = none → Kp [] H H' → H' D = some (.lst []) → Pv D 0 [] H')
    (hs : ∀ D (i : Nat) acc c H', H D = none → z.cps.toList[i]? = some c → H' D = some (.lst acc) → Pv D i acc H' → g (.str ⟨#[c]⟩) (wipe σ vs) H' (kTurn tt te (wipe σ vs) vs D (kN (Pv D (i + 1)) D)))
    (hd : ∀ D acc H', H D = none → H' D = some (.lst acc) → Pv D z.cps.toList.length acc H' → Q (.ref D) H') : kLc g tt te vs σ Q (Its z) H := by
  refine r_kLc walk_str Pv h0 (fun _ _ _ _ _ _ => trivial) (fun D i acc x H' H'' hD hi e hp y => ?_) (fun D acc H' a b c => hd D acc H' a b (by simpa using c))
  obtain ⟨rfl, c, e', rfl⟩ := y
  exact hs D i acc c _ hD (by simpa using e') e hp
/-! {k: v for ..} -/
def kND (Pv : List (Key × V) → Hp → Prop) (D : Addr) : Hp → Prop := fun H' => ∃ kvs, H' D = some (.dK kvs) ∧ Pv kvs H'
def kPut (D : Addr) (N : Hp → Prop) (y : V) : VK := fun z H5 => ∃ kvs k, y = kV k ∧ H5 D = some (.dK kvs) ∧ kvs.length < sizeLine ∧ N (upd H5 D (.dK (putK kvs k z)))
def kKeepD (tk tv : TE) (σ : St) (D : Addr) (N : Hp → Prop) : Bool → Hp → Prop := fun b H3 => if b = true then tk σ H3 (fun y H4 => tv σ H4 (kPut D N y)) else N H3
def kTurnD (tt : TT) (tk tv : TE) (σ0 : St) (vs : List Nat) (D : Addr) (N : Hp → Prop) : St → Hp → Prop := fun σ2 H2 => wipe σ2 vs = σ0 ∧ tt σ2 H2 (kKeepD tk tv σ2 D N)
def kDc (g : TG) (tt : TT) (tk tv : TE) (vs : List Nat) (σ : St) (Q : VK) : It → Hp → Prop := fun J H1 => ∀ D, H1 D = none → ∃ W : Nat → Nat → Hp → Prop, (∃ m, W 0 m (upd H1 D (.dK []))) ∧ ∀ i m H, W i m H →
  (J.stop i H ∧ Q (.ref D) H) ∨ (J.go i H ∧ ∃ Nx : Hp → Prop, (∀ H', Nx H' → ∃ m', m' < m ∧ W (i + 1) m' H') ∧ ∀ x H', J.yld i H x H' → g x (wipe σ vs) H' fun σ2 H2 => wipe σ2 vs = wipe σ vs ∧ tt σ2 H2 fun b H3 =>
    if b = true then tk σ2 H3 fun y H4 => tv σ2 H4 fun z H5 => ∃ kvs k, y = kV k ∧ H5 D = some (.dK kvs) ∧ kvs.length < sizeLine ∧ Nx (upd H5 D (.dK (putK kvs k z))) else Nx H3)
theorem r_dc (q : wi σ H (kDc g tt tk tv vs σ Q)) : tDc wi g tt tk tv vs σ H Q := q
theorem r_kTurnD {σ0 : St} {D : Addr} {N : Hp → Prop} (h : wipe σ vs = σ0) (q : tt σ H (kKeepD tk tv σ D N)) : kTurnD tt tk tv σ0 vs D N σ H := ⟨h, q⟩
theorem r_kKeepD1 {D : Addr} {N : Hp → Prop} {b : Bool} (h : b = true) (q : tk σ H (fun y H4 => tv σ H4 (kPut D N y))) : kKeepD tk tv σ D N b H := by
  subst h
  exact q
theorem r_kPut {D : Addr} {kvs : List (Key × V)} {k : Key} {Pv : List (Key × V) → Hp → Prop} (ey : x = kV k) (e : H D = some (.dK kvs)) (h : kvs.length < sizeLine) (q : ∀ H5, Kp [D] H H5 → H5 D = some (.dK (putK kvs k y)) → Pv (putK kvs k y) H5) : kPut D (kND Pv D) x y H :=
  ⟨kvs, k, ey, e, h, _, upd_same, q _ (Kp.put (by simp)) upd_same⟩
theorem r_kDc (w : Walk J n G Y) (Pv : Addr → Nat → List (Key × V) → Hp → Prop) (h0 : ∀ D H', H D = none → Kp [] H H' → H' D = some (.dK []) → Pv D 0 [] H') (hG : ∀ D i acc H', i ≤ n → Pv D i acc H' → G H')
    (hs : ∀ D i acc x H' H'', H D = none → i < n → H' D = some (.dK acc) → Pv D i acc H' → Y i H' x H'' → g x (wipe σ vs) H'' (kTurnD tt tk tv (wipe σ vs) vs D (kND (Pv D (i + 1)) D)))
    (hd : ∀ D acc H', H D = none → H' D = some (.dK acc) → Pv D n acc H' → Q (.ref D) H') : kDc g tt tk tv vs σ Q J H := by
  intro D hD
  refine ⟨fun i m H' => m = n - i ∧ i ≤ n ∧ kND (Pv D i) D H', ⟨n, by simp, Nat.zero_le _, [], upd_same, h0 D _ hD (Kp.new hD) upd_same⟩, ?_⟩
  rintro i m H' ⟨rfl, hi, acc, e, p⟩
  have q := hG D i acc H' hi p
  by_cases hlt : i < n
  · exact .inr ⟨w.goes i H' hlt q, kND (Pv D (i + 1)) D, fun H2 p' => ⟨n - (i + 1), by omega, rfl, hlt, p'⟩, fun x H2 y => hs D i acc x H' H2 hD hlt e p (w.yields i H' x H2 hlt q y)⟩
  · have e' : i = n := by omega
    subst e'
    exact .inl ⟨w.stops H' q, hd D acc H' hD e p⟩
/-! targets that are tuples -/
theorem r_gtup {K : PySem.W.Frag} {m : Nat} {t : TGs} {QS : St → Hp → Prop} {a : Addr} (h : SqT K H a xs) (hl : xs.length = m) (q : t xs σ H QS) : gTup K m t (.ref a) σ H QS := ⟨a, xs, rfl, h, hl, q⟩
theorem r_gnil {QS : St → Hp → Prop} (q : QS σ H) : gNil [] σ H QS := ⟨rfl, q⟩
theorem r_gcons {t : TG} {u : TGs} {QS : St → Hp → Prop} (q : t x σ H fun σ' H' => u xs σ' H' QS) : gCons t u (x :: xs) σ H QS := ⟨x, xs, rfl, q⟩
/-! methods of lists -/
def kBM (K : PySem.W.Frag) (T : String) (r : V → List V → Hp → VK → Prop) (tr : TA) (σ : St) (Q : VK) : VK := fun x H1 => tyV K T x H1 ∧ tr σ H1 fun xs H2 => r x xs H2 Q
theorem r_bm {T : String} {r : V → List V → Hp → VK → Prop} (q : te σ H (kBM K T r tr σ Q)) : tBM K T r te tr σ H Q := q
theorem r_kBMl {r : V → List V → Hp → VK → Prop} (h : SqL K H p xs) (q : tr σ H fun ys H2 => r (.ref p) ys H2 Q) : kBM K "list" r tr σ Q (.ref p) H := ⟨.inl ⟨rfl, _, h⟩, q⟩
def kBM0 (K : PySem.W.Frag) (T : String) (r : V → List V → Hp → VK → Prop) (Q : VK) : VK := fun x H1 => tyV K T x H1 ∧ r x [] H1 Q
theorem r_bm0 {T : String} {r : V → List V → Hp → VK → Prop} (q : te σ H (kBM0 K T r Q)) : tBM0 K T r te σ H Q := q
theorem r_kBM0l {r : V → List V → Hp → VK → Prop} (h : SqL K H p xs) (q : r (.ref p) [] H Q) : kBM0 K "list" r Q (.ref p) H := ⟨.inl ⟨rfl, _, h⟩, q⟩
theorem r_append (e : H p = some (.lst xs)) (h : xs.length < sizeLine) (q : ∀ H', Kp [p] H H' → H' p = some (.lst (xs ++ [x])) → Q .non H') : rAppend (.ref p) [x] H Q := ⟨p, xs, x, rfl, rfl, e, h, q _ (Kp.put (by simp)) upd_same⟩
/-! texts -/
def rAddT : R2 := fun x y H Q => ∃ i j, x = .str i ∧ y = .str j ∧ i.length + j.length ≤ sizeLine ∧ Q (.str (i ++ j)) H
theorem op_addT {X : Cx} : OpR X (binaryOp .Add) rAddT := op_add_str
theorem r_addT {a b : Str} (h : a.length + b.length ≤ sizeLine) (q : Q (.str (a ++ b)) H) : rAddT (.str a) (.str b) H Q := ⟨a, b, rfl, rfl, h, q⟩
theorem r_eqS {a b : Str} (q : Q (.bl (decide (a = b))) H) : rEq (.str a) (.str b) H Q := by
  refine ⟨rfl, ?_⟩
  have e : decide (V.str a = V.str b) = decide (a = b) := by
    by_cases h : a = b
    · subst h
      simp
    · rw [decide_eq_false h, decide_eq_false fun z => h (V.str.inj z)]
  rw [e]
  exact q
theorem r_neS {a b : Str} (q : Q (.bl (!decide (a = b))) H) : rNe (.str a) (.str b) H Q := by
  refine ⟨rfl, ?_⟩
  have e : decide (V.str a = V.str b) = decide (a = b) := by
    by_cases h : a = b
    · subst h
      simp
    · rw [decide_eq_false h, decide_eq_false fun z => h (V.str.inj z)]
  rw [e]
  exact q
/-! in, not in, of texts in a list -/
theorem eqV_str (a b : Str) : eqV (.str a) (.str b) = decide (a = b) := by
  show (a == b) = decide (a = b)
  by_cases h : a = b
  · subst h
    simp
  · rw [decide_eq_false h]
    exact beq_eq_false_iff_ne.mpr h
theorem inV_strs (x : Str) : ∀ ws : List Str, inV (.str x) (ws.map V.str) = decide (x ∈ ws)
  | [] => by simp [inV]
  | w :: ws => by
    have ih := inV_strs x ws
    unfold inV at ih
    unfold inV
    rw [List.map_cons, List.any_cons, ih, eqV_str]
    by_cases h : x = w
    · subst h
      simp
    · have h' : ¬ w = x := fun e => h e.symm
      simp [h, h']
theorem flat_strs (ws : List Str) : (ws.map V.str).all flatV = true := by
  rw [List.all_eq_true]
  intro v hv
  obtain ⟨w, _, rfl⟩ := List.mem_map.mp hv
  rfl
theorem r_inL {z : Str} {ws : List Str} (h : SqL K H p (ws.map V.str)) (q : Q (.bl (decide (z ∈ ws))) H) : rIn K false (.str z) (.ref p) H Q := by
  refine ⟨p, _, rfl, .inl h, rfl, flat_strs ws, ?_⟩
  show Q (.bl (inV (.str z) (ws.map V.str))) H
  rw [inV_strs]
  exact q
theorem r_notInL {z : Str} {ws : List Str} (h : SqL K H p (ws.map V.str)) (q : Q (.bl (!decide (z ∈ ws))) H) : rIn K true (.str z) (.ref p) H Q := by
  refine ⟨p, _, rfl, .inl h, rfl, flat_strs ws, ?_⟩
  show Q (.bl (!inV (.str z) (ws.map V.str))) H
  rw [inV_strs]
  exact q
end

/-! the layer's rules with K named: within a comprehension's block it could not be found otherwise -/
section
variable {X : Cx} {K : PySem.W.Frag} (hK : X.K = K)
include hK
theorem K_in : OpR X (compareOp .In) (rIn K false) := by
  subst hK
  exact op_in_seq
theorem K_notIn : OpR X (compareOp .NotIn) (rIn K true) := by
  subst hK
  exact op_notIn_seq
theorem K_eqD (hu : X.A.units + 64 < cLine) : OpR X (compareOp .Eq) (rEqD K) := by
  subst hK
  exact op_eqD hu
theorem K_neD (hu : X.A.units + 64 < cLine) : OpR X (compareOp .NotEq) (rNeD K) := by
  subst hK
  exact op_neD hu
theorem K_len : CallR X (.builtin "len") (cLen K) := by
  subst hK
  exact cr_len
theorem K_list : CallR X (.type "list") (cList K) := by
  subst hK
  exact cr_list
theorem K_tuple : CallR X (.type "tuple") (cTuple K) := by
  subst hK
  exact cr_tuple
theorem K_ixL : IxR X (rIxL K) := by
  subst hK
  exact ix_list
theorem K_ixT : IxR X (rIxT K) := by
  subst hK
  exact ix_tup
theorem K_sum (hc : X.calm = true) : CallR X (.builtin "sum") (rSum K) := by
  subst hK
  exact cr_sum hc
theorem K_max (hc : X.calm = true) : CallR X (.builtin "max") (rMax K) := by
  subst hK
  exact cr_max hc
theorem K_min (hc : X.calm = true) : CallR X (.builtin "min") (rMin K) := by
  subst hK
  exact cr_min hc
theorem K_any (hc : X.calm = true) : CallR X (.builtin "any") (rAny K) := by
  subst hK
  exact cr_any hc
theorem K_all (hc : X.calm = true) : CallR X (.builtin "all") (rAll K) := by
  subst hK
  exact cr_all hc
theorem K_sortedI : CallR X (.builtin "sorted") (rSortedI K) := by
  subst hK
  exact cr_sortedI
theorem K_sortedS : CallR X (.builtin "sorted") (rSortedS K) := by
  subst hK
  exact cr_sortedS
theorem K_isi : CallR X (.builtin "isinstance") (rIsi K) := by
  subst hK
  exact call_isi
theorem K_isiT : CallR X (.builtin "isinstance") (rIsiT K) := by
  subst hK
  exact call_isiT
theorem K_slL : SlR X (rSlL K) := by
  subst hK
  exact sl_list
theorem K_slT : SlR X (rSlT K) := by
  subst hK
  exact sl_tup
theorem K_catT : OpR X (binaryOp .Add) (rCatA K) := by
  subst hK
  exact op_catA
theorem K_index : MtR X "list.index" (rIndex K) := by
  subst hK
  exact mt_index
theorem K_pil {tg l : Expr} {tl : TE} (hl : PE X l tl) : PI X tg l (iList K tl) := by
  subst hK
  exact pi_list hl
theorem K_pit {tg l : Expr} {tl : TE} (hl : PE X l tl) : PI X tg l (iTup K tl) := by
  subst hK
  exact pi_tup hl
theorem K_enum {e : Expr} {ta : TA} {p pos tpos : Pos} {elts : List Expr} {kk : Nat} (hg : Gl X "enumerate") (hm : X.mg "enumerate" = none) (ha : PA X [e] ta) (hs : starEach [e] X.env = [(false, eval e X.env)] := by rfl) :
    PI X (.Tuple elts kk tpos) (.Call (.Name "enumerate" p) [e] [] pos) (iEnum K ta) := by
  subst hK
  exact pi_enum hg hm ha hs
theorem K_zip {e e2 : Expr} {ta : TA} {p pos tpos : Pos} {elts : List Expr} {kk : Nat} (hg : Gl X "zip") (hm : X.mg "zip" = none) (ha : PA X [e, e2] ta) (hs : starEach [e, e2] X.env = (false, eval e X.env) :: starEach [e2] X.env := by rfl) (hpl : (backTo pos (starEach [e2] X.env)).any (·.1) = false := by rfl) :
    PI X (.Tuple elts kk tpos) (.Call (.Name "zip" p) [e, e2] [] pos) (iZip K ta) := by
  subst hK
  exact pi_zip hg hm ha hs hpl
theorem K_bm {o e : Expr} {es : List Expr} {T : String} {name : Str} {id : String} {r : V → List V → Hp → VK → Prop} {to : TE} {t : TA} {apos cpos : Pos} (pa : PlainAttrs T) (slot : Slot T name id) (hty : typeOf (.builtin id) = pure (.type "method_descriptor")) (hm : MtR X id r) (ho : PE X o to) (ha : PA X (e :: es) t) (hbase : attributeBase o name X.env (eval o X.env) = eval o X.env := by rfl) (hfew : ((backTo cpos (starEach (e :: es) X.env)).all (fun x => !x.1) && (backToKw cpos (keywordEach [] X.env)).all (fun x => x.1.isSome) && decide ((e :: es).length + ([] : List Keyword).length + (if ([] : List Keyword).isEmpty then 0 else 1) < 30)) = true := by rfl) (hline : (apos.endLine == cpos.line) = true := by rfl) (hs : starEach (e :: es) X.env = (false, eval e X.env) :: starEach es X.env := by rfl) (hplain : (backTo cpos (starEach es X.env)).any (·.1) = false := by rfl) : PE X (.Call (.Attribute o name apos) (e :: es) [] cpos) (tBM K T r to t) := by
  subst hK
  exact pe_bm pa slot hty hm ho ha hbase hfew hline hs hplain
theorem K_bm0 {o : Expr} {T : String} {name : Str} {id : String} {r : V → List V → Hp → VK → Prop} {to : TE} {apos cpos : Pos} (pa : PlainAttrs T) (slot : Slot T name id) (hty : typeOf (.builtin id) = pure (.type "method_descriptor")) (hm : MtR X id r) (ho : PE X o to) (hbase : attributeBase o name X.env (eval o X.env) = eval o X.env := by rfl) (hline : (apos.endLine == cpos.line) = true := by rfl) : PE X (.Call (.Attribute o name apos) [] [] cpos) (tBM0 K T r to) := by
  subst hK
  exact pe_bm0 pa slot hty hm ho hbase hline
theorem K_gtup {es : List Expr} {k : Nat} {t : TGs} {n : Nat} {pos : Pos} (hc : X.calm = true) (h : PGs X es t) (hn : (assignEach es X.env).length = n := by rfl) (hst : (assignEach es X.env).findIdx? (·.1) = none := by rfl) : PG X (.Tuple es k pos) (gTup K n t) := by
  subst hK
  exact pg_tup hc h hn hst
theorem K_fld {e : Expr} {f : Str} {pos : Pos} {ta : TE} (he : PE X e ta) (hb : attributeBase e f X.env (eval e X.env) = eval e X.env) : PE X (.Attribute e f pos) (tFld K ta f) := by
  subst hK
  exact pe_fld he hb
theorem K_join {o e : Expr} {to te : TE} {apos pos : Pos} (ho : PE X o to) (he : PE X e te) (hs : starEach [e] X.env = [(false, eval e X.env)] := by rfl) (hbase : attributeBase o "join" X.env (eval o X.env) = eval o X.env := by rfl) (hline : (apos.endLine == pos.line) = true := by rfl) : PE X (.Call (.Attribute o "join" apos) [e] [] pos) (tM1 (fun x xs H Q => ∃ a p, ∃ ys : List Str, x = .str a ∧ xs = [.ref p] ∧ (SqL K H p (ys.map V.str) ∨ SqT K H p (ys.map V.str)) ∧ (ys.map (·.length)).sum + ys.length * a.length ≤ 16777216 ∧ Q (.str (Txt.join a ys)) H) to te) := by
  subst hK
  exact pe_join ho he hs hbase hline
end

/-! cuts: what stands behind is read once -/
section
variable {X : Cx}
def tCutS (t u : TS) : TS := fun D σ H => ∃ M : St → Hp → Prop, t { D with nx := M } σ H ∧ ∀ σ' H', M σ' H' → u D σ' H'
theorem pss_cutS {st : Stmt} {more : List Stmt} {t u : TS} (a : PS X st t) (b : PSs X more u) : PSs X (st :: more) (tCutS t u) := by
  constructor
  intro pins s σ H D I ⟨M, hm, hu⟩
  refine wpAny_execs_cons (thn (a.run pins s σ H { D with nx := M } I hm) fun f s1 w => ?_)
  match f, w with
  | .next, ⟨σ', H', I', w'⟩ => exact b.run pins s1 σ' H' D I' (hu σ' H' w')
  | .ret _, w => exact w
  | .brk, w => exact w
  | .cont, w => exact w
theorem r_cutS {t u : TS} {nx bk ct : St → Hp → Prop} {rt : VK} {σ : St} {H : Hp} (M : St → Hp → Prop) (h : t ⟨M, rt, bk, ct⟩ σ H) (q : ∀ σ' H', M σ' H' → u ⟨nx, rt, bk, ct⟩ σ' H') : tCutS t u ⟨nx, rt, bk, ct⟩ σ H := ⟨M, h, q⟩
def tCutT (t : TT) : TT := fun σ H Q => ∃ M : Bool → Hp → Prop, t σ H M ∧ ∀ b H', M b H' → Q b H'
theorem pt_cutT {e : Expr} {t : TT} (a : PT X e t) : PT X e (tCutT t) := by
  constructor
  intro pins s σ H Q I ⟨M, hm, hq⟩
  exact wpAny_mono (a.run pins s σ H M I hm) (fun b s' ⟨H', I', w⟩ => ⟨H', I', hq b H' w⟩) fun _ _ z => z
theorem r_cutT {t : TT} {σ : St} {H : Hp} {QB : Bool → Hp → Prop} (M : Bool → Hp → Prop) (h : t σ H M) (q : ∀ b H', M b H' → QB b H') : tCutT t σ H QB := ⟨M, h, q⟩
def tCutE (t : TE) : TE := fun σ H Q => ∃ M : VK, t σ H M ∧ ∀ x H', M x H' → Q x H'
theorem pe_cutE {e : Expr} {t : TE} (a : PE X e t) : PE X e (tCutE t) := by
  constructor
  intro pins s σ H Q I ⟨M, hm, hq⟩
  exact wpAny_mono (a.run pins s σ H M I hm) (fun u s' ⟨v, H', I', r, w⟩ => ⟨v, H', I', r, hq v H' w⟩) fun _ _ z => z
theorem r_cutE {t : TE} {σ : St} {H : Hp} {Q : VK} (M : VK) (h : t σ H M) (q : ∀ x H', M x H' → Q x H') : tCutE t σ H Q := ⟨M, h, q⟩
end

/-! lists by turns -/
theorem take_more {α : Type} : ∀ {l : List α} {i : Nat} {x : α}, l[i]? = some x → l.take (i + 1) = l.take i ++ [x]
  | [], i, x, h => by simp at h
  | a :: l, 0, x, h => by
    cases h
    rfl
  | a :: l, i + 1, x, h => by
    have ih := take_more (l := l) (i := i) (x := x) h
    rw [List.take_succ_cons, ih]
    rfl
theorem take_map {α β : Type} {l : List α} {i : Nat} {x : α} (f : α → β) (h : l[i]? = some x) : (l.take (i + 1)).map f = (l.take i).map f ++ [f x] := by
  rw [take_more h, List.map_append]
  rfl
theorem take_filter {α : Type} {l : List α} {i : Nat} {x : α} (f : α → Bool) (h : l[i]? = some x) : (l.take (i + 1)).filter f = (l.take i).filter f ++ (if f x = true then [x] else []) := by
  rw [take_more h, List.filter_append]
  cases e : f x <;> simp [e]
theorem map_at {α β : Type} {l : List α} {i : Nat} {y : β} {f : α → β} (h : (l.map f)[i]? = some y) : ∃ x, l[i]? = some x ∧ y = f x := by
  rw [List.getElem?_map] at h
  cases e : l[i]? with
  | none =>
    rw [e] at h
    cases h
  | some x =>
    rw [e] at h
    exact ⟨x, rfl, (Option.some.inj h).symm⟩
theorem lt_at {α : Type} {l : List α} {i : Nat} {x : α} (h : l[i]? = some x) : i < l.length := (List.getElem?_eq_some_iff.mp h).1
theorem mem_at {α : Type} {l : List α} {i : Nat} {x : α} (h : l[i]? = some x) : x ∈ l := List.mem_of_getElem? h
/-- a word's heap behind a new list at D has grown by a change of D -/
theorem Kp.step {D : Addr} {ex : List Addr} {H H1 H2 : Hp} (a : Kp ex H H1) (n : H D = none) (b : Kp [D] H1 H2) : Kp ex H H2 :=
  Kp.drop (l := D) ((a.mono fun _ m => List.mem_cons_of_mem _ m).trans (b.mono fun x m => by rw [List.mem_singleton.mp m]; exact List.mem_cons_self)) n

/-! a walk over a list or a tuple -/
def iSeq (K : PySem.W.Frag) (tl : TE) : TI := fun σ H R => tl σ H fun x H1 => ∃ a, x = .ref a ∧ (((∃ xs, SqL K H1 a xs) ∧ R (Itl K a) H1) ∨ ((∃ xs, SqT K H1 a xs) ∧ R (Itt K a) H1))
theorem K_pis {X : Cx} {K : PySem.W.Frag} (hK : X.K = K) {tg l : Expr} {tl : TE} (hl : PE X l tl) : PI X tg l (iSeq K tl) := by
  subst hK
  constructor
  intro pins s σ H R I h
  refine thn (hl.run pins s σ H _ I h) fun v s1 w => ?_
  obtain ⟨_, H1, I1, rv, a, rfl, w⟩ := w
  cases rv
  have fresh : ∀ b ∈ [s1.heap.objs.size], FpOk X pins H1 b := fun b m => (List.mem_singleton.mp m) ▸ I1.fpOk (Nat.le_refl _) (I1.hok.fresh (Nat.le_refl _))
  rcases w with ⟨⟨xs, hs⟩, w⟩ | ⟨⟨xs, hs⟩, w⟩
  · obtain ⟨_, _, pl, _⟩ := I1.list hs
    exact wpAny_pyIter_list pl.isList ⟨_, [s1.heap.objs.size], _, _, H1, rfl, I1.kept (t' := s1.toks) fun _ _ => Heap.get?_push_of_some _, turn_list a _, ⟨_, Heap.get?_push_size _ rfl, rfl, rfl⟩, fresh, w⟩
  · obtain ⟨_, _, pl, _⟩ := I1.tuple hs
    exact wpAny_pyIter_tuple pl ⟨_, [s1.heap.objs.size], _, _, H1, rfl, I1.kept (t' := s1.toks) fun _ _ => Heap.get?_push_of_some _, turn_tuple a _, ⟨_, Heap.get?_push_size _ rfl, rfl, rfl⟩, fresh, w⟩
def cWQ (K : PySem.W.Frag) (R : It → Hp → Prop) : V → Hp → Prop := fun x H1 => ∃ a, x = .ref a ∧ (((∃ xs, SqL K H1 a xs) ∧ R (Itl K a) H1) ∨ ((∃ xs, SqT K H1 a xs) ∧ R (Itt K a) H1))
section
variable {σ : St} {H : Hp} {Q : VK} {K : PySem.W.Frag} {te : TE} {R : It → Hp → Prop} {p : Addr} {xs : List V} {x : V}
theorem r_wq (q : te σ H (cWQ K R)) : iSeq K te σ H R := q
theorem r_cWQl (h : SqL K H p xs) (q : R (Itl K p) H) : cWQ K R (.ref p) H := ⟨p, rfl, .inl ⟨⟨xs, h⟩, q⟩⟩
theorem r_cWQt (h : SqT K H p xs) (q : R (Itt K p) H) : cWQ K R (.ref p) H := ⟨p, rfl, .inr ⟨⟨xs, h⟩, q⟩⟩
/-- a list or a tuple -/
def Sq (K : PySem.W.Frag) (H : Hp) (p : Addr) (xs : List V) : Prop := SqL K H p xs ∨ SqT K H p xs
theorem Sq.kp {ex : List Addr} {H' : Hp} (h : Sq K H p xs) (k : Kp ex H H') (m : p ∉ ex) : Sq K H' p xs := h.elim (fun z => .inl (sql_kp z k m)) fun z => .inr (sqt_kp z k m)
theorem r_lenQ (h : Sq K H p xs) (q : Q (.int (xs.length : Nat)) H) : cLen K [.ref p] H Q := ⟨p, xs, rfl, h, q⟩
theorem r_listQ (h : Sq K H p xs) (q : ∀ l H', H l = none → Kp [] H H' → H' l = some (.lst xs) → Q (.ref l) H') : cList K [.ref p] H Q := ⟨p, xs, rfl, h, fun l n => q l _ n (Kp.new n) upd_same⟩
/-! isinstance -/
theorem r_isiTy {T n : String} {b : Bool} (h : TyX K H x (.type T)) (e : kitB T n = some b) (q : Q (.bl b) H) : rIsi K [x, .ty n] H Q := ⟨x, .ty n, _, _, b, rfl, .ty n, h, kit_ty e, q⟩
/-! [e for ..] over a list or a tuple -/
theorem r_kLcQ {g : TG} {tt : TT} {vs : List Nat} (Pv : Addr → Nat → List V → Hp → Prop) (hq : Sq K H p xs) (h0 : ∀ D H', H D = none → Kp [] H H' → H' D = some (.lst []) → Pv D 0 [] H') (hG : ∀ D i acc H', i ≤ xs.length → Pv D i acc H' → Kp [] H H')
    (hs : ∀ D (i : Nat) acc x H', H D = none → xs[i]? = some x → H' D = some (.lst acc) → Pv D i acc H' → g x (wipe σ vs) H' (kTurn tt te (wipe σ vs) vs D (kN (Pv D (i + 1)) D)))
    (hd : ∀ D acc H', H D = none → H' D = some (.lst acc) → Pv D xs.length acc H' → Q (.ref D) H') : cWQ K (kLc g tt te vs σ Q) (.ref p) H := by
  rcases hq with h | h
  · exact r_cWQl h (r_kLcL Pv h0 (fun D i acc H' hi p => sql_kp h (hG D i acc H' hi p) not_nil) hs hd)
  · exact r_cWQt h (r_kLcT Pv h0 (fun D i acc H' hi p => sqt_kp h (hG D i acc H' hi p) not_nil) hs hd)
end

/-! list.index of a number -/
theorem eqV_int (a b : Int) : eqV (.int a) (.int b) = (a == b) := rfl
theorem flat_ints (ns : List Int) : (ns.map V.int).all flatV = true := by
  rw [List.all_eq_true]
  intro v hv
  obtain ⟨w, _, rfl⟩ := List.mem_map.mp hv
  rfl
theorem lt_idx {n : Int} : ∀ {l : List Int} {m : Nat} {z : Int}, m < l.idxOf n → l[m]? = some z → z ≠ n
  | [], m, z, _, e => by simp at e
  | x :: l, m, z, h, e => by
    rw [List.idxOf_cons] at h
    by_cases c : x = n
    · subst c
      simp at h
    · have c' : (x == n) = false := beq_eq_false_iff_ne.mpr c
      rw [c'] at h
      cases m with
      | zero =>
        cases e
        exact c
      | succ m =>
        exact lt_idx (l := l) (m := m) (Nat.lt_of_succ_lt_succ h) e
theorem r_indexI {K : PySem.W.Frag} {H : Hp} {Q : VK} {p : Addr} {ns : List Int} {n : Int} (h : SqL K H p (ns.map V.int)) (m : n ∈ ns) (q : Q (.int (ns.idxOf n : Nat)) H) : rIndex K (.ref p) [.int n] H Q := by
  have hi := List.idxOf_lt_length_of_mem m
  have e : ns[ns.idxOf n]? = some n := by rw [List.getElem?_eq_getElem hi, List.getElem_idxOf]
  refine ⟨p, _, .int n, ns.idxOf n, .int n, rfl, rfl, h, rfl, flat_ints ns, ?_, beq_self_eq_true n, fun j z' hj hz => ?_, q⟩
  · rw [List.getElem?_map, e]
    rfl
  · obtain ⟨z, hz', rfl⟩ := map_at hz
    exact beq_eq_false_iff_ne.mpr (lt_idx hj hz')
/-! == of data -/
def Shp (n : Nat) (d : PyData) : Prop := d.canLay0 = true ∧ d.depth ≤ n
theorem Shp.ok {n : Nat} {d : PyData} (h : Shp n d) (hn : n ≤ 64) : SeqAt.shaped d = true := Bool.and_eq_true_iff.mpr ⟨h.1, decide_eq_true (Nat.le_trans h.2 hn)⟩
theorem Shp.all {n : Nat} : ∀ {l : List PyData}, (∀ d ∈ l, Shp n d) → PyData.canLayAll0 l = true ∧ PyData.depthAll l ≤ n
  | [], _ => ⟨rfl, Nat.zero_le _⟩
  | d :: l, h => by
    have h1 := h d List.mem_cons_self
    have h2 := Shp.all (l := l) fun x hx => h x (List.mem_cons_of_mem _ hx)
    exact ⟨Bool.and_eq_true_iff.mpr ⟨h1.1, h2.1⟩, Nat.max_le.mpr ⟨h1.2, h2.2⟩⟩
theorem Shp.list {n : Nat} {l : List PyData} (h : ∀ d ∈ l, Shp n d) : Shp (n + 1) (.list l) := ⟨(Shp.all h).1, Nat.succ_le_succ (Shp.all h).2⟩
theorem Shp.tuple {n : Nat} {l : List PyData} (h : ∀ d ∈ l, Shp n d) : Shp (n + 1) (.tuple l) := ⟨(Shp.all h).1, Nat.succ_le_succ (Shp.all h).2⟩
theorem Shp.int (i : Int) (n : Nat) : Shp n (.int i) := ⟨rfl, Nat.zero_le _⟩
theorem Shp.bool (b : Bool) (n : Nat) : Shp n (.bool b) := ⟨rfl, Nat.zero_le _⟩
theorem Shp.none (n : Nat) : Shp n .none := ⟨rfl, Nat.zero_le _⟩
theorem Shp.str {x : Str} (h : PyData.strOk x = true) (n : Nat) : Shp n (.str x) := ⟨h, Nat.zero_le _⟩
theorem strOk_of {x : Str} {m : Nat} (h : ∀ c ∈ x.cps.toList, c ≤ m) (hm : m < 0x110000) : PyData.strOk x = true := by
  unfold PyData.strOk
  rw [← Array.all_toList, List.all_eq_true]
  intro c hc
  have := h c hc
  exact decide_eq_true (by omega)
section
variable {H : Hp} {Q : VK} {K : PySem.W.Frag} {x y : V} {d e : PyData} {ex ex' : List Addr} {n : Nat}
theorem r_eqD (hx : Dt ex H x d) (hy : Dt ex' H y e) (sx : Shp n d) (sy : Shp n e) (hn : n ≤ 64) (q : Q (.bl (PyData.eqv d e)) H) : rEqD K x y H Q := ⟨d, e, hx.dp, hy.dp, sx.ok hn, sy.ok hn, q⟩
theorem r_neD (hx : Dt ex H x d) (hy : Dt ex' H y e) (sx : Shp n d) (sy : Shp n e) (hn : n ≤ 64) (q : Q (.bl (!PyData.eqv d e)) H) : rNeD K x y H Q := ⟨d, e, hx.dp, hy.dp, sx.ok hn, sy.ok hn, q⟩
theorem r_eqD1 (hx : Dt ex H x d) (hy : Dt ex' H y d) (sx : Shp n d) (hn : n ≤ 64) (q : Q (.bl true) H) : rEqD K x y H Q := by
  refine r_eqD hx hy sx sx hn ?_
  rw [SeqAt.eqv_refl d sx.1]
  exact q
theorem r_neD0 (hx : Dt ex H x d) (hy : Dt ex' H y d) (sx : Shp n d) (hn : n ≤ 64) (q : Q (.bl false) H) : rNeD K x y H Q := by
  refine r_neD hx hy sx sx hn ?_
  rw [SeqAt.eqv_refl d sx.1]
  exact q
end
end Rd

set_option maxHeartbeats 4000000
/-! Ob: objects of own classes (fields, methods, making), their `in`, len, ==; isinstance of data; text in text; walks over a list or a tuple. -/
namespace Rd
open PySem PySem.Spec L2 StX

def UseM (P : Program) (w : World) (K : PySem.W.Frag) (mg : Str → Option Value) (base : Heap) (n : Nat) (C : Addr) (m : Str) (sp : Sp) : Prop := ∃ f, FnR P w K mg base CX0 n f sp ∧ Meth K C m f
def UseC (P : Program) (w : World) (K : PySem.W.Frag) (mg : Str → Option Value) (base : Heap) (n : Nat) (x : Str) (C : Addr) (sp : Sp) : Prop := ∃ f, FnR P w K mg base CX0 n f sp ∧ Mk K C f ∧ mg x = some (.ref C)
theorem fnr {P : Program} {w : World} {K : PySem.W.Frag} {mg : Str → Option Value} {base : Heap} {n : Nat} {f : Addr} {fd : FuncData} {ps : List Str} {sp : Sp} (F : FnOk P w K mg base CX0 n f fd ps sp) (b : Binds K fd ps []) : FnR P w K mg base CX0 n f sp :=
  (F.raw b .nil).imp fun vs H Q E h => by
    rw [List.append_nil]
    exact h

section
variable {σ : St} {H : Hp} {Q : VK} {QB : Bool → Hp → Prop} {v x y : V} {ta tb tc tv : TE} {tr : TA} {K : PySem.W.Frag} {C a dx : Addr} {fs : List (Str × V)} {f m : Str} {nx bk ct : St → Hp → Prop} {rt : VK} {sp : Sp} {r r' : R2} {b : Bool}
/-! fields -/
def kFld (K : PySem.W.Frag) (f : Str) (Q : VK) : VK := fun x H1 => ∃ a C dx fs v, x = .ref a ∧ H1 a = some (.ins C dx fs) ∧ Cls K C ∧ NoAttr K C f ∧ fs.lookup f = some v ∧ Q v H1
theorem r_fld (q : ta σ H (kFld K f Q)) : tFld K ta f σ H Q := q
theorem r_kFld (e : H a = some (.ins C dx fs)) (c : Cls K C) (n : NoAttr K C f) (l : fs.lookup f = some v) (q : Q v H) : kFld K f Q (.ref a) H := ⟨a, C, dx, fs, v, rfl, e, c, n, l, q⟩
def kSF (K : PySem.W.Frag) (f : Str) (y : V) (nx : St → Hp → Prop) (σ : St) : VK := fun x H2 => ∃ a C dx fs, x = .ref a ∧ H2 a = some (.ins C dx fs) ∧ Cls K C ∧ NoAttr K C f ∧ fs.length < 1000 ∧ nx σ (upd H2 a (.ins C dx (putF f y fs)))
theorem r_sfld (q : tv σ H fun y H1 => ta σ H1 (kSF K f y nx σ)) : sFld K ta tv f ⟨nx, rt, bk, ct⟩ σ H := q
theorem r_kSF (e : H a = some (.ins C dx fs)) (c : Cls K C) (n : NoAttr K C f) (l : fs.length < 1000) (q : ∀ H', Kp [a] H H' → H' a = some (.ins C dx (putF f y fs)) → nx σ H') : kSF K f y nx σ (.ref a) H :=
  ⟨a, C, dx, fs, rfl, e, c, n, l, q _ (Kp.put (by simp)) upd_same⟩
/-! methods, making -/
def kMeth (C : Addr) (m : Str) (sp : Sp) (t : TA) (σ : St) (Q : VK) : VK := fun x H1 => ∃ a dx fs, x = .ref a ∧ H1 a = some (.ins C dx fs) ∧ fs.lookup m = none ∧ t σ H1 fun vs H2 => sp (x :: vs) H2 Q E0
theorem r_methR (q : ta σ H (kMeth C m sp tr σ Q)) : tMethR C m sp E0 ta tr σ H Q := q
theorem r_kMeth (e : H a = some (.ins C dx fs)) (l : fs.lookup m = none) (q : tr σ H fun vs H2 => sp (.ref a :: vs) H2 Q E0) : kMeth C m sp tr σ Q (.ref a) H := ⟨a, dx, fs, rfl, e, l, q⟩
def kMade (x : Addr) (Q : VK) : VK := fun v H2 => v = .non ∧ Q (.ref x) H2
theorem r_kMade {p : Addr} (q : Q (.ref p) H) : kMade p Q .non H := ⟨rfl, q⟩
def kMake (C : Addr) (sp : Sp) (Q : VK) : List V → Hp → Prop := fun vs H1 => ∀ x dx, H1 x = none → H1 dx = none → dx ≠ x → sp (.ref x :: vs) (upd (upd H1 dx (.own x)) x (.ins C dx [])) (kMade x Q) E0
theorem r_makeR (q : tr σ H (kMake C sp Q)) : tMakeR C sp E0 tr σ H Q := q
theorem r_kMake {vs : List V} (q : ∀ a dx H', H a = none → Kp [] H H' → H' a = some (.ins C dx []) → sp (.ref a :: vs) H' (kMade a Q) E0) : kMake C sp Q vs H := fun a dx n n' d =>
  q a dx _ n ((Kp.new n').trans (Kp.new (by rw [upd_ne d.symm]; exact n))) upd_same
/-! a op b op c -/
def kCh (r' : R2) (y : V) (tc : TE) (σ : St) (Q : VK) : VK := fun z H3 => ∃ k, z = .bl k ∧ (if k = true then tc σ H3 fun w' H4 => r' y w' H4 Q else Q (.bl false) H3)
theorem r_chain (q : ta σ H fun x H1 => tb σ H1 fun y H2 => r x y H2 (kCh r' y tc σ Q)) : tChain r r' ta tb tc σ H Q := q
theorem r_kCh (h1 : b = true → tc σ H fun w' H4 => r' y w' H4 Q) (h2 : b = false → Q (.bl false) H) : kCh r' y tc σ Q (.bl b) H := by
  refine ⟨b, rfl, ?_⟩
  cases b
  · exact h2 rfl
  · exact h1 rfl
/-! text in text -/
def rInS : R2 := fun x y H Q => ∃ i j, x = .str i ∧ y = .str j ∧ Q (.bl (!(Builtin.Str.occurrences j i 0 j.length 1).isEmpty)) H
def rNinS : R2 := fun x y H Q => ∃ i j, x = .str i ∧ y = .str j ∧ Q (.bl (!(!(Builtin.Str.occurrences j i 0 j.length 1).isEmpty))) H
theorem op_inS {X : Cx} : OpR X (compareOp .In) rInS := op_in_str
theorem op_ninS {X : Cx} : OpR X (compareOp .NotIn) rNinS := op_notin_str
theorem r_inC {c : Nat} {z : Str} (q : Q (.bl (decide (c ∈ z.cps.toList))) H) : rInS (.str ⟨#[c]⟩) (.str z) H Q := by
  refine ⟨_, _, rfl, rfl, ?_⟩
  have e := StrLaws.found_one z c
  rw [show (!(Builtin.Str.occurrences z ⟨#[c]⟩ 0 z.length 1).isEmpty) = decide (c ∈ z.cps.toList) from e]
  exact q
theorem r_ninC {c : Nat} {z : Str} (q : Q (.bl (!decide (c ∈ z.cps.toList))) H) : rNinS (.str ⟨#[c]⟩) (.str z) H Q := by
  refine ⟨_, _, rfl, rfl, ?_⟩
  have e := StrLaws.found_one z c
  rw [show (!(Builtin.Str.occurrences z ⟨#[c]⟩ 0 z.length 1).isEmpty) = decide (c ∈ z.cps.toList) from e]
  exact q
/-! in a tuple of texts; all of truth values -/
theorem r_inT {z : Str} {ws : List Str} {p : Addr} (h : SqT K H p (ws.map V.str)) (q : Q (.bl (decide (z ∈ ws))) H) : rIn K false (.str z) (.ref p) H Q := by
  refine ⟨p, _, rfl, .inr h, rfl, flat_strs ws, ?_⟩
  show Q (.bl (inV (.str z) (ws.map V.str))) H
  rw [inV_strs]
  exact q
theorem r_ninT {z : Str} {ws : List Str} {p : Addr} (h : SqT K H p (ws.map V.str)) (q : Q (.bl (!decide (z ∈ ws))) H) : rIn K true (.str z) (.ref p) H Q := by
  refine ⟨p, _, rfl, .inr h, rfl, flat_strs ws, ?_⟩
  show Q (.bl (!inV (.str z) (ws.map V.str))) H
  rw [inV_strs]
  exact q
theorem r_all {bs : List Bool} {p : Addr} (h : SqL K H p (bs.map V.bl)) (q : Q (.bl (bs.all id)) H) : rAll K [.ref p] H Q := ⟨p, bs, rfl, h, q⟩
theorem r_any {bs : List Bool} {p : Addr} (h : SqL K H p (bs.map V.bl)) (q : Q (.bl (bs.any id)) H) : rAny K [.ref p] H Q := ⟨p, bs, rfl, h, q⟩
/-! two tuples, one behind the other -/
theorem r_catT {a b : Addr} {xs ys : List V} (ha : SqT K H a xs) (hb : SqT K H b ys) (hz : xs.length + ys.length ≤ sizeLine) (hy : ys ≠ []) (hx : xs = [] → Q (.ref b) H) (q : xs ≠ [] → ∀ p H', H p = none → Kp [] H H' → H' p = some (.tup (xs ++ ys)) → Q (.ref p) H') : rCatA K (.ref a) (.ref b) H Q :=
  ⟨a, b, xs, ys, rfl, rfl, ha, hb, hz, hx, fun _ e => absurd e hy, fun hx _ p n => q hx p _ n (Kp.new n) upd_same⟩
/-- the sum of two tuples, the second one not empty: some tuple -/
theorem r_catT' {a b : Addr} {xs ys : List V} (ha : SqT K H a xs) (hb : H b = some (.tup ys)) (hz : xs.length + ys.length ≤ sizeLine) (hy : ys ≠ []) (q : ∀ p H', Kp [] H H' → H' p = some (.tup (xs ++ ys)) → (p = b ∨ H p = none) → Q (.ref p) H') : rCatA K (.ref a) (.ref b) H Q := by
  refine r_catT ha (SqT.of hb) hz hy (fun e => ?_) fun _ p H' n k e => q p H' k e (.inr n)
  subst e
  exact q b H (Kp.refl _ _) hb (.inl rfl)
end

/-! `in`, len by own defs -/
def kOwnB (neg : Bool) (Q : VK) : VK := fun z H' => ∃ b, z = .bl b ∧ Q (.bl (b != neg)) H'
def rInOwn (C : Addr) (sp : Sp) (neg : Bool) : R2 := fun x y H Q => ∃ a dx fs, y = .ref a ∧ H a = some (.ins C dx fs) ∧ sp [.ref a, x] H (kOwnB neg Q) E0
def kOwnI (Q : VK) : VK := fun z H' => ∃ n : Int, z = .int n ∧ 0 ≤ n ∧ n < 2 ^ 63 ∧ Q (.int n) H'
def cLenOwn (C : Addr) (sp : Sp) : R1 := fun xs H Q => ∃ a dx fs, xs = [.ref a] ∧ H a = some (.ins C dx fs) ∧ sp [.ref a] H (kOwnI Q) E0
/-- x == y, both of the class at C -/
def rEqOwn (C : Addr) (sp : Sp) : R2 := fun x y H Q => ∃ a dx fs b dy gs, x = .ref a ∧ y = .ref b ∧ H a = some (.ins C dx fs) ∧ H b = some (.ins C dy gs) ∧ sp [.ref a, .ref b] H (fun z H' => ∃ c, z = .bl c ∧ Q (.bl c) H') E0
section
variable {X : Cx} {n : Nat} {C f : Addr} {sp : Sp}
theorem op_inOwn (hm : Meth X.K C "__contains__" f) (F : FnR X.prog X.w X.K X.mg X.base CX0 n f sp) (hr : Room n X.A) : OpR X (compareOp .In) (rInOwn C sp false) := by
  intro pins s σ H x y v u Q I rx ry h
  obtain ⟨a, dx, fs, rfl, ea, q⟩ := h
  cases (show u = Value.ref a from ry)
  obtain ⟨mA, O, _⟩ := ins_get I.hok ea
  obtain ⟨od, J, _⟩ := O.look
  obtain ⟨m, hF⟩ := I.fr
  refine PySem.W.in_K hF I.ok.mod.kin J hm.at_ hm.fn (wpAny_mono (wpAny_call (run_fnR (us := [.ref a, v]) (vs := [.ref a, x]) F hr pass0 I (.cons rfl (.cons rx .nil)) q)) (fun r s' z => ?_) fun _ _ x => x)
  obtain ⟨z', H', I', rz, b, rfl, qz⟩ := z
  cases (show r = Value.bool b from rz)
  refine wpAny_truthy_bool ⟨.bl b, H', I', rfl, ?_⟩
  have e : (b != false) = b := by cases b <;> rfl
  rw [e] at qz
  exact qz
theorem op_ninOwn (hm : Meth X.K C "__contains__" f) (F : FnR X.prog X.w X.K X.mg X.base CX0 n f sp) (hr : Room n X.A) : OpR X (compareOp .NotIn) (rInOwn C sp true) := by
  intro pins s σ H x y v u Q I rx ry h
  obtain ⟨a, dx, fs, rfl, ea, q⟩ := h
  cases (show u = Value.ref a from ry)
  obtain ⟨mA, O, _⟩ := ins_get I.hok ea
  obtain ⟨od, J, _⟩ := O.look
  obtain ⟨m, hF⟩ := I.fr
  refine PySem.W.notIn_K hF I.ok.mod.kin J hm.at_ hm.fn (wpAny_mono (wpAny_call (run_fnR (us := [.ref a, v]) (vs := [.ref a, x]) F hr pass0 I (.cons rfl (.cons rx .nil)) q)) (fun r s' z => ?_) fun _ _ x => x)
  obtain ⟨z', H', I', rz, b, rfl, qz⟩ := z
  cases (show r = Value.bool b from rz)
  refine wpAny_truthy_bool ⟨.bl (!b), H', I', rfl, ?_⟩
  have e : (b != true) = !b := by cases b <;> rfl
  rw [e] at qz
  exact qz
theorem cr_lenOwn (hm : Meth X.K C "__len__" f) (F : FnR X.prog X.w X.K X.mg X.base CX0 n f sp) (hr : Room (n + 1) X.A) : CallR X (.builtin "len") (cLenOwn C sp) := by
  intro pins s σ H xs us Q I r h
  obtain ⟨a, dx, fs, rfl, ea, q⟩ := h
  obtain ⟨u, rfl, ru⟩ := r.one
  cases (show u = Value.ref a from ru)
  obtain ⟨mA, O, _⟩ := ins_get I.hok ea
  obtain ⟨od, J, _⟩ := O.look
  obtain ⟨m, hF⟩ := I.fr
  refine PySem.W.len_K hF I.ok.mod.kin J hm.at_ hm.fn (wpAny_call (codeAny_mono (F X.A.in1 X.stack s H [.ref a] [.ref a] _ E0 hr.in1 I.env0.in1 (.cons rfl .nil) q) fun r s' z => ?_))
  cases r with
  | error e => exact False.elim z
  | ok fl =>
    cases fl with
    | ret u =>
      obtain ⟨z', H', I', rz, k, rfl, k0, k1, qz⟩ := I.after z
      obtain ⟨t, e⟩ := (show ∃ t, u = Value.int k t from rz)
      cases e
      exact ⟨⟨k0, k1⟩, .int k, H', I'.tok _, ⟨_, rfl⟩, qz⟩
    | next => exact False.elim z
    | brk => exact False.elim z
    | cont => exact False.elim z
theorem op_eqOwn (hm : Meth X.K C "__eq__" f) (F : FnR X.prog X.w X.K X.mg X.base CX0 n f sp) (hr : Room n X.A) : OpR X (compareOp .Eq) (rEqOwn C sp) := by
  intro pins s σ H x y v u Q I rx ry h
  obtain ⟨a, dx, fs, b, dy, gs, rfl, rfl, ea, eb, q⟩ := h
  cases (show v = Value.ref a from rx)
  cases (show u = Value.ref b from ry)
  obtain ⟨mA, O, _⟩ := ins_get I.hok ea
  obtain ⟨od, J, _⟩ := O.look
  obtain ⟨mB, O', _⟩ := ins_get I.hok eb
  obtain ⟨od', J', _⟩ := O'.look
  obtain ⟨m, hF⟩ := I.fr
  have nf : PySem.W.notFirst X.K C (.ref C) = true := by
    unfold PySem.W.notFirst
    simp
  refine PySem.W.cmp_K (op := .Eq) (tb := .ref C) hr.units0 hF I.ok.mod.kin J J'.type nf hm.at_ hm.fn ?_
  refine wpAny_mono (wpAny_call (run_fnR (us := [.ref a, .ref b]) (vs := [.ref a, .ref b]) F hr pass0 I (.cons rfl (.cons rfl .nil)) q)) (fun r s' z => ?_) fun _ _ x => x
  obtain ⟨z', H', I', rz, c, rfl, qz⟩ := z
  cases (show r = Value.bool c from rz)
  exact ⟨.bl c, H', I', rfl, qz⟩
end
section
variable {H : Hp} {Q : VK} {C a dx : Addr} {fs : List (Str × V)} {sp : Sp} {x : V} {neg b : Bool}
theorem r_inOwn (e : H a = some (.ins C dx fs)) (q : sp [.ref a, x] H (kOwnB neg Q) E0) : rInOwn C sp neg x (.ref a) H Q := ⟨a, dx, fs, rfl, e, q⟩
theorem r_kOwnB (q : Q (.bl (b != neg)) H) : kOwnB neg Q (.bl b) H := ⟨b, rfl, q⟩
end

/-! data of any kind: its type -/
def tyD : PyData → String
  | .none => "NoneType"
  | .bool _ => "bool"
  | .int _ => "int"
  | .str _ => "str"
  | .list _ => "list"
  | .tuple _ => "tuple"
  | .dict _ => "dict"
theorem Dt.tyx {K : PySem.W.Frag} {ex : List Addr} {H : Hp} {v : V} {d : PyData} (h : Dt ex H v d) : TyX K H v (.type (tyD d)) := by
  cases h with
  | non => exact .base .non
  | bl b => exact .base (.bl b)
  | int i => exact .base (.int i)
  | str x => exact .base (.str x)
  | lst _ e _ => exact .base (.lst e)
  | tup _ e _ => exact .base (.tup e)
def isStr : PyData → Bool
  | .str _ => true
  | _ => false
def isTup : PyData → Bool
  | .tuple _ => true
  | _ => false
def isLst : PyData → Bool
  | .list _ => true
  | _ => false
def isInt : PyData → Bool
  | .int _ => true
  | .bool _ => true
  | _ => false
def isBool : PyData → Bool
  | .bool _ => true
  | _ => false
theorem kit_D {n : String} {f : PyData → Bool} {d : PyData} (b0 b1 b2 b3 b4 b5 b6 : Bool) (h0 : kitB "NoneType" n = some b0) (h1 : kitB "bool" n = some b1) (h2 : kitB "int" n = some b2) (h3 : kitB "str" n = some b3) (h4 : kitB "list" n = some b4) (h5 : kitB "tuple" n = some b5) (h6 : kitB "dict" n = some b6)
    (e0 : f .none = b0) (e1 : ∀ b, f (.bool b) = b1) (e2 : ∀ b, f (.int b) = b2) (e3 : ∀ b, f (.str b) = b3) (e4 : ∀ b, f (.list b) = b4) (e5 : ∀ b, f (.tuple b) = b5) (e6 : ∀ b, f (.dict b) = b6) : kitB (tyD d) n = some (f d) := by
  cases d with
  | none => rw [e0]; exact h0
  | bool b => rw [e1]; exact h1
  | int b => rw [e2]; exact h2
  | str b => rw [e3]; exact h3
  | list b => rw [e4]; exact h4
  | tuple b => rw [e5]; exact h5
  | dict b => rw [e6]; exact h6
theorem kit_str (d : PyData) : kitB (tyD d) "str" = some (isStr d) :=
  kit_D false false false true false false false (by decide +kernel) (by decide +kernel) (by decide +kernel) (by decide +kernel) (by decide +kernel) (by decide +kernel) (by decide +kernel) rfl (fun _ => rfl) (fun _ => rfl) (fun _ => rfl) (fun _ => rfl) (fun _ => rfl) (fun _ => rfl)
theorem kit_tup (d : PyData) : kitB (tyD d) "tuple" = some (isTup d) :=
  kit_D false false false false false true false (by decide +kernel) (by decide +kernel) (by decide +kernel) (by decide +kernel) (by decide +kernel) (by decide +kernel) (by decide +kernel) rfl (fun _ => rfl) (fun _ => rfl) (fun _ => rfl) (fun _ => rfl) (fun _ => rfl) (fun _ => rfl)
theorem kit_lst (d : PyData) : kitB (tyD d) "list" = some (isLst d) :=
  kit_D false false false false true false false (by decide +kernel) (by decide +kernel) (by decide +kernel) (by decide +kernel) (by decide +kernel) (by decide +kernel) (by decide +kernel) rfl (fun _ => rfl) (fun _ => rfl) (fun _ => rfl) (fun _ => rfl) (fun _ => rfl) (fun _ => rfl)
theorem kit_int (d : PyData) : kitB (tyD d) "int" = some (isInt d) :=
  kit_D false true true false false false false (by decide +kernel) (by decide +kernel) (by decide +kernel) (by decide +kernel) (by decide +kernel) (by decide +kernel) (by decide +kernel) rfl (fun _ => rfl) (fun _ => rfl) (fun _ => rfl) (fun _ => rfl) (fun _ => rfl) (fun _ => rfl)
theorem kit_bool (d : PyData) : kitB (tyD d) "bool" = some (isBool d) :=
  kit_D false true false false false false false (by decide +kernel) (by decide +kernel) (by decide +kernel) (by decide +kernel) (by decide +kernel) (by decide +kernel) (by decide +kernel) rfl (fun _ => rfl) (fun _ => rfl) (fun _ => rfl) (fun _ => rfl) (fun _ => rfl) (fun _ => rfl)
section
variable {K : PySem.W.Frag} {ex : List Addr} {H : Hp} {Q : VK} {x : V} {d : PyData} {tp : Addr}
theorem r_isiStr (h : Dt ex H x d) (q : Q (.bl (isStr d)) H) : rIsi K [x, .ty "str"] H Q := r_isiTy h.tyx (kit_str d) q
theorem r_isiTup (h : Dt ex H x d) (q : Q (.bl (isTup d)) H) : rIsi K [x, .ty "tuple"] H Q := r_isiTy h.tyx (kit_tup d) q
theorem r_isiLst (h : Dt ex H x d) (q : Q (.bl (isLst d)) H) : rIsi K [x, .ty "list"] H Q := r_isiTy h.tyx (kit_lst d) q
theorem r_isiInt (h : Dt ex H x d) (q : Q (.bl (isInt d)) H) : rIsi K [x, .ty "int"] H Q := r_isiTy h.tyx (kit_int d) q
theorem r_isiBool (h : Dt ex H x d) (q : Q (.bl (isBool d)) H) : rIsi K [x, .ty "bool"] H Q := r_isiTy h.tyx (kit_bool d) q
theorem r_isiLT (h : Dt ex H x d) (e : H tp = some (.tup [.ty "list", .ty "tuple"])) (q : Q (.bl (isLst d || isTup d)) H) : rIsiT K [x, .ref tp] H Q := by
  refine ⟨x, tp, _, _, _, _, rfl, e, .cons (.ty "list") (.cons (.ty "tuple") .nil), h.tyx, ?_, q⟩
  refine kitAny_cons (kit_ty (kit_lst d)) (fun c => ?_) fun c => by rw [c]; rfl
  rw [c]
  refine kitAny_cons (kit_ty (kit_tup d)) (fun c => ?_) fun c => by rw [c]; rfl
  rw [c]
  rfl
end
mutual
theorem Dt.skip' {ex : List Addr} {H : Hp} {a : Addr} {o : HO} (e : H a = some o) (n1 : ∀ xs, o ≠ .lst xs) (n2 : ∀ xs, o ≠ .tup xs) : ∀ (d : PyData) (v : V), Dt ex H v d → Dt (a :: ex) H v d
  | .none, _, h => by cases h; exact .non
  | .bool b, _, h => by cases h; exact .bl b
  | .int i, _, h => by cases h; exact .int i
  | .str x, _, h => by cases h; exact .str x
  | .list ds, _, h => by
    cases h with
    | lst m e' al => exact .lst (fun z => (List.mem_cons.mp z).elim (fun q => n1 _ (Option.some.inj ((q ▸ e).symm.trans e'))) m) e' (DtAll.skip' e n1 n2 ds _ al)
  | .tuple ds, _, h => by
    cases h with
    | tup m e' al => exact .tup (fun z => (List.mem_cons.mp z).elim (fun q => n2 _ (Option.some.inj ((q ▸ e).symm.trans e'))) m) e' (DtAll.skip' e n1 n2 ds _ al)
  | .dict _, _, h => by cases h
theorem DtAll.skip' {ex : List Addr} {H : Hp} {a : Addr} {o : HO} (e : H a = some o) (n1 : ∀ xs, o ≠ .lst xs) (n2 : ∀ xs, o ≠ .tup xs) : ∀ (ds : List PyData) (vs : List V), DtAll ex H vs ds → DtAll (a :: ex) H vs ds
  | [], _, h => by cases h; exact .nil
  | d :: ds, _, h => by
    cases h with
    | cons h1 h2 => exact .cons (Dt.skip' e n1 n2 d _ h1) (DtAll.skip' e n1 n2 ds _ h2)
end
/-- nothing of the data lies where an object of another kind stands -/
theorem Dt.skip {ex : List Addr} {H : Hp} {a : Addr} {o : HO} {v : V} {d : PyData} (h : Dt ex H v d) (e : H a = some o) (n1 : ∀ xs, o ≠ .lst xs) (n2 : ∀ xs, o ≠ .tup xs) : Dt (a :: ex) H v d := Dt.skip' e n1 n2 d v h
theorem DtAll.skip {ex : List Addr} {H : Hp} {a : Addr} {o : HO} {vs : List V} {ds : List PyData} (h : DtAll ex H vs ds) (e : H a = some o) (n1 : ∀ xs, o ≠ .lst xs) (n2 : ∀ xs, o ≠ .tup xs) : DtAll (a :: ex) H vs ds := DtAll.skip' e n1 n2 ds vs h

theorem pe_globE {X : Cx} {x : Str} {v : V} {pos : Pos} (h : ∃ u, X.mg x = some u ∧ RelV v u) (hg : Gl X x) (hd : (x == ("__debug__" : Str)) = false := by decide) : PE X (.Name x pos) (tC v) := by
  obtain ⟨u, hm, r⟩ := h
  exact pe_glob hg hm r hd
/-! for over a list or a tuple -/
section
variable {σ : St} {H : Hp} {K : PySem.W.Frag} {xs : List V} {p : Addr} {g : TG} {tb : TS} {nx bk ct : St → Hp → Prop} {rt : VK}
theorem r_kForQ (Pv : Nat → St → Hp → Prop) (hq : Sq K H p xs) (h0 : Pv 0 σ H) (hl : ∀ i σ H', i ≤ xs.length → Pv i σ H' → ∃ ex, p ∉ ex ∧ Kp ex H H')
    (hs : ∀ (i : Nat) x σ H, xs[i]? = some x → Pv i σ H → g x σ H fun σ2 H2 => tb ⟨Pv (i + 1), rt, nx, Pv (i + 1)⟩ σ2 H2) (hd : ∀ σ H, Pv xs.length σ H → nx σ H) : cWQ K (kFor g tb ⟨nx, rt, bk, ct⟩ σ) (.ref p) H := by
  rcases hq with h | h
  · exact r_cWQl h (r_kForL Pv h0 (fun i σ H' hi q => let ⟨_, m, k⟩ := hl i σ H' hi q; sql_kp h k m) hs hd)
  · exact r_cWQt h (r_kForT Pv h0 (fun i σ H' hi q => let ⟨_, m, k⟩ := hl i σ H' hi q; sqt_kp h k m) hs hd)
end
/-! displays of data -/
def ED (te : TE) (σ : St) (H : Hp) (d : PyData) : Prop := ∀ Q : VK, (∀ x H', Kp [] H H' → Dt [] H' x d → Q x H') → te σ H Q
def AD (tr : TA) (σ : St) (H : Hp) (ds : List PyData) : Prop := ∀ QA : List V → Hp → Prop, (∀ xs H', Kp [] H H' → DtAll [] H' xs ds → QA xs H') → tr σ H QA
section
variable {σ : St} {H : Hp} {Q : VK} {d : PyData} {ds : List PyData} {te : TE} {tr : TA} {v : V} {i : Nat}
theorem r_ED (h : ED te σ H d) (q : ∀ x H', Kp [] H H' → Dt [] H' x d → Q x H') : te σ H Q := h Q q
theorem ED_c (h : Dt [] H v d) : ED (tC v) σ H d := fun _ q => q v H (Kp.refl _ _) h
theorem ED_var (e : σ[i]? = some (some v)) (h : Dt [] H v d) : ED (tVar i) σ H d := fun _ q => ⟨v, e, q v H (Kp.refl _ _) h⟩
theorem AD_nil : AD tNil σ H [] := fun _ q => q [] H (Kp.refl _ _) .nil
theorem AD_cons (h : ED te σ H d) (hr : ∀ H1, Kp [] H H1 → AD tr σ H1 ds) : AD (tCons te tr) σ H (d :: ds) := fun _ q =>
  h _ fun x H1 k1 h1 => hr H1 k1 _ fun xs H2 k2 h2 => q (x :: xs) H2 (k1.trans k2) (.cons (h1.mono k2) h2)
theorem ED_tup (h : AD tr σ H ds) (hl : ds.length ≤ sizeLine) : ED (tTup tr) σ H (.tuple ds) := fun _ q =>
  h _ fun xs H1 k1 h1 => ⟨h1.length ▸ hl, fun p n => q (.ref p) _ (k1.trans (Kp.new n)) (.tup not_nil upd_same (h1.mono (Kp.new n)))⟩
theorem ED_lst (h : AD tr σ H ds) (hl : ds.length ≤ sizeLine) : ED (tLst tr) σ H (.list ds) := fun _ q =>
  h _ fun xs H1 k1 h1 => ⟨h1.length ▸ hl, fun p n => q (.ref p) _ (k1.trans (Kp.new n)) (.lst not_nil upd_same (h1.mono (Kp.new n)))⟩
theorem r_neB {a b : Bool} (q : Q (.bl (!decide (a = b))) H) : rNe (.bl a) (.bl b) H Q := by
  refine ⟨rfl, ?_⟩
  have e : decide (V.bl a = V.bl b) = decide (a = b) := by cases a <;> cases b <;> rfl
  rw [e]
  exact q
theorem r_eqB {a b : Bool} (q : Q (.bl (decide (a = b))) H) : rEq (.bl a) (.bl b) H Q := by
  refine ⟨rfl, ?_⟩
  have e : decide (V.bl a = V.bl b) = decide (a = b) := by cases a <;> cases b <;> rfl
  rw [e]
  exact q
theorem idx_in {i : Int} {n : Nat} (h0 : 0 ≤ i) (h1 : i < n) : seqIndex? i n = some i.toNat := by
  unfold seqIndex?
  have e : ¬ i < 0 := by omega
  simp [e, h0, h1]
theorem r_popAt {l : Addr} {xs : List V} {i : Int} {y : V} (e : H l = some (.lst xs)) (h0 : 0 ≤ i) (h1 : i < (xs.length : Int)) (h2 : xs.length < 2 ^ 62) (hy : xs[i.toNat]? = some y) (q : ∀ H', Kp [l] H H' → H' l = some (.lst (xs.eraseIdx i.toNat)) → Q y H') : rPopAt (.ref l) [.int i] H Q :=
  ⟨l, xs, i, i.toNat, y, rfl, rfl, e, by omega, by omega, idx_in h0 h1, hy, q _ (Kp.put (by simp)) upd_same⟩
theorem r_cat {l b : Addr} {xs zs : List V} (e : H l = some (.lst xs)) (e' : H b = some (.lst zs)) (hz : xs.length + zs.length ≤ sizeLine) (q : ∀ p H', H p = none → Kp [] H H' → H' p = some (.lst (xs ++ zs)) → Q (.ref p) H') : rCat (.ref l) (.ref b) H Q :=
  ⟨l, b, xs, zs, rfl, rfl, e, e', hz, fun p n => q p _ n (Kp.new n) upd_same⟩
end
end Rd

set_option maxHeartbeats 4000000
/-! Sl: slices of lists and tuples as rules. -/
namespace Rd
open PySem L2 StX
section
variable {σ : St} {H : Hp} {Q : VK} {te : TE} {tl th : TO} {K : PySem.W.Frag} {p : Addr} {xs : List V} {r : V → Option Int → Option Int → Hp → VK → Prop} {R : Option Int → Hp → Prop} {x : V} {l u : Option Int}
def kS1 (r : V → Option Int → Option Int → Hp → VK → Prop) (tl th : TO) (σ : St) (Q : VK) : VK := fun x H1 => tl σ H1 fun l H2 => th σ H2 fun u H3 => r x l u H3 Q
def kS2 (r : V → Option Int → Option Int → Hp → VK → Prop) (th : TO) (σ : St) (Q : VK) (x : V) : Option Int → Hp → Prop := fun l H2 => th σ H2 fun u H3 => r x l u H3 Q
def kS3 (r : V → Option Int → Option Int → Hp → VK → Prop) (Q : VK) (x : V) (l : Option Int) : Option Int → Hp → Prop := fun u H3 => r x l u H3 Q
def kPart (R : Option Int → Hp → Prop) : VK := fun x H1 => ∃ i, x = .int i ∧ R (some i) H1
theorem r_sl (q : te σ H (kS1 r tl th σ Q)) : tSl r te tl th σ H Q := q
theorem r_kS1 (q : tl σ H (kS2 r th σ Q x)) : kS1 r tl th σ Q x H := q
theorem r_kS2 (q : th σ H (kS3 r Q x l)) : kS2 r th σ Q x l H := q
theorem r_kS3 (q : r x l u H Q) : kS3 r Q x l u H := q
theorem r_noPart (q : R none H) : tNoPart σ H R := q
theorem r_part (q : te σ H (kPart R)) : tPart te σ H R := q
theorem r_kPart {i : Int} (q : R (some i) H) : kPart R (.int i) H := ⟨i, rfl, q⟩
theorem r_slL (h : SqL K H p xs) (q : ∀ b H', H b = none → Kp [] H H' → H' b = some (.lst (cutV xs l u)) → Q (.ref b) H') : rSlL K (.ref p) l u H Q := ⟨p, xs, rfl, h, fun b n => q b _ n (Kp.new n) upd_same⟩
theorem r_slT (h : SqT K H p xs) (hw : ¬ (HT.sIx xs.length 0 l = 0 ∧ HT.sIx xs.length xs.length u = xs.length)) (q : ∀ b H', H b = none → Kp [] H H' → H' b = some (.tup (cutV xs l u)) → Q (.ref b) H') : rSlT K (.ref p) l u H Q := ⟨p, xs, rfl, h, hw, fun b n => q b _ n (Kp.new n) upd_same⟩
theorem cut_to (n : Nat) : cutV xs none (some (n : Int)) = xs.take n := by
  unfold cutV
  rw [HT.sIx_nat, HT.sIx_none, List.drop_zero, Nat.sub_zero]
  by_cases h : n ≤ xs.length
  · rw [Nat.min_eq_left h]
  · rw [Nat.min_eq_right (by omega), List.take_length, List.take_of_length_le (by omega)]
theorem cut_from (n : Nat) : cutV xs (some (n : Int)) none = xs.drop n := by
  unfold cutV
  rw [HT.sIx_nat, HT.sIx_none]
  by_cases h : n ≤ xs.length
  · rw [Nat.min_eq_left h, List.take_of_length_le (by rw [List.length_drop]; omega)]
  · rw [Nat.min_eq_right (by omega), List.drop_length, List.take_nil, List.drop_eq_nil_of_le (show xs.length ≤ n by omega)]
theorem cut_last : cutV xs none (some (-1)) = xs.take (xs.length - 1) := by
  have e : HT.sIx xs.length xs.length (some (-1)) = xs.length - 1 := by
    show (if (-1 : Int) < 0 then ((-1 : Int) + (xs.length : Int)).toNat else min ((-1 : Int).toNat) xs.length) = xs.length - 1
    rw [if_pos (by decide)]
    omega
  unfold cutV
  rw [e, HT.sIx_none, List.drop_zero, Nat.sub_zero]
theorem atI_last {α : Type} {l : List α} {v : α} (h : l[l.length - 1]? = some v) : atI l (-1) = some v := by
  have hl : l.length - 1 < l.length := (List.getElem?_eq_some_iff.mp h).1
  have e : ixN l.length (-1) = some (l.length - 1) := by
    unfold ixN
    rw [if_neg (by omega), if_pos (by omega)]
    have : ((-1 : Int) + (l.length : Int)).toNat = l.length - 1 := by omega
    rw [this]
  unfold atI
  rw [e]
  exact h
end
end Rd

set_option maxHeartbeats 4000000
/-! SetI: set(xs) of a list of numbers -/
namespace Rd
open PySem PySem.Spec PyProof.Rows L2
/-- a set as it is new in the world w -/
def nset (w : World) : Obj := { cls := .type "set", dict := none, data := .set #[] 0 (.fresh 0 0 (!w.params.followText "set-order")) }
def grown (w : World) (s : Shared) : Shared := { s with heap := s.heap.push (nset w) }
section
variable {P : Program} {w : World} {A : Around} {E : Value → Shared → Prop} {s : Shared}
theorem nset_at (h : Heap) : (h.push (nset w)).get? h.objs.size = some (nset w) := Heap.get?_push_size _ rfl
/-- what stands behind the call -/
def Laid (w : World) (s : Shared) (ns : List Int) (u : Shared) : Prop := ∃ (g : Heap) (k c : Nat), u = { s with heap := g, toks := k } ∧ SetR w g s.heap.objs.size (fun j => decide (j ∈ ns)) c ∧ c ≤ ns.length ∧ ∀ b o, s.heap.get? b = some o → g.get? b = some o
theorem set_loop {l : Addr} {items : Array Value} {ns : List Int} {R : Result → Shared → Prop} (hh : A.handled = none) (hl : s.heap.IsList l items) (hit : IntsAre items.toList ns) (hb : ns.length + 1 < scanBound) (hR : ∀ u, Laid w s ns u → R (.ok (.ret .none)) u) :
    codeAny (model P w) A (.builtin "set.update.loop" ⟨[.ref s.heap.objs.size, .ref (grown w s).heap.objs.size], []⟩) R { grown w s with heap := (grown w s).heap.push { cls := .type "list_iterator", data := .fields #[.ref l, .int 0 0] } } := by
  have hsz : items.size = ns.length := by
    have z := IntsAre.length hit
    rwa [Array.length_toList] at z
  have at0 := nset_at (w := w) s.heap
  have hl1 : (grown w s).heap.IsList l items := hl.push _
  have below : l < s.heap.objs.size := by
    obtain ⟨o, e, _⟩ := hl
    exact Heap.lt_size e
  have size1 : (grown w s).heap.objs.size = s.heap.objs.size + 1 := Heap.size_push ..
  have apart : l ≠ (grown w s).heap.objs.size := fun e => by
    rw [size1] at e
    exact absurd (e ▸ below) (Nat.not_lt.mpr (Nat.le_succ _))
  have notin : s.heap.objs.size ∉ [(grown w s).heap.objs.size, l] := by
    intro m
    rcases List.mem_cons.mp m with e | e
    · rw [size1] at e
      exact Nat.ne_of_lt (Nat.lt_succ_self _) e
    · exact Nat.ne_of_gt below (List.mem_singleton.mp e)
  have none1 : A.in1.handled = none := by simp [hh]
  have vals : ∀ (i : Nat) (v : Value), items[i]? = some v → ∃ k t, ns[i]? = some k ∧ v = .int k t := fun i v hv => by
    have hi : i < ns.length := hsz ▸ (Array.getElem?_eq_some_iff.mp hv).1
    obtain ⟨t, e⟩ := IntsAre.int_at hit i v ((Array.getElem?_toList ..).trans hv)
    exact ⟨ns[i], t, List.getElem?_eq_getElem hi, by rw [e, List.getD_eq_getElem?_getD, List.getElem?_eq_getElem hi] <;> rfl⟩
  refine set_update_ints (Walks.toS (Walks.list none1 _ l apart items)) s.heap.objs.size notin ns hsz hb vals (items.size - 0) 0 _ (Nat.sub_zero _) (Nat.zero_le _) ⟨⟨_, Heap.get?_push_size _ rfl, rfl, rfl⟩, hl1.push _⟩ ?_ ?_
  · exact ⟨0, Nat.le_refl 0, setR_new_at (Heap.get?_push_of_some _ at0)⟩
  · intro u c hm hc hS
    obtain ⟨g, g2, d, k, os⟩ := u
    obtain rfl : g2 = s.gens := hm.gens
    obtain rfl : d = s.drawn := hm.drawn
    obtain rfl : os = s.os := hm.os
    refine hR _ ⟨g, k, c, rfl, hS, hsz ▸ hc, fun b o e => ?_⟩
    have lt := Heap.lt_size e
    refine hm.heap b o (fun m => ?_) (Heap.get?_push_of_some _ (Heap.get?_push_of_some _ e))
    rcases List.mem_cons.mp m with z | z
    · exact Nat.ne_of_lt lt z
    · have z' := List.mem_singleton.mp z
      rw [size1] at z'
      exact Nat.ne_of_lt (Nat.lt_succ_of_lt lt) z'
set_option maxHeartbeats 8000000 in
theorem set_of_list {l : Addr} {items : Array Value} {ns : List Int} {Q : Value → Shared → Prop} (hh : A.handled = none) (hl : s.heap.IsList l items) (hit : IntsAre items.toList ns) (hb : ns.length + 1 < scanBound) (q : ∀ u, Laid w s ns u → Q (.ref s.heap.objs.size) u) :
    wpAny (model P w) A (call (.type "set") [.ref l]) Q E s := by
  obtain ⟨cc, mtl, mro⟩ := F.called_set.mro
  have fmade := F.called_set.made
  have fsub := F.called_set.sub
  refine wpAny_call (codeAny_of_tree (show wpAny _ _ (callAny (.type "set") _) _ _ _ from ?_))
  refine wpAny_pure ⟨Code.quiet_builtin _ (by decide +kernel), codeAny_builtin F.entry_type_call ?_⟩
  rw [Around.under_plain (weight_type_call_type "set" [.ref l] []) rfl]
  have fnot := F.called_set.notType
  have fcan := F.called_set.canCreate
  have fcall := F.typeCall_set_1 (.ref l)
  repeat any_goals first | assumption | wp_step
  refine codeAny_mono (code_set_led1 (.ref l) (E := E) (Q₁ := fun ob u => ob = .ref s.heap.objs.size ∧ u = grown w s) ⟨rfl, rfl⟩) fun r u hr => ?_
  match r, hr with
  | .error _, hr => exact hr
  | .ok .next, hr => exact hr.elim
  | .ok .brk, hr => exact hr.elim
  | .ok .cont, hr => exact hr.elim
  | .ok (.ret ob), ⟨e1, e2⟩ =>
    subst e1 e2
    have ty : Shared.TypeIs (grown w s) (.ref s.heap.objs.size) "set" := ⟨_, nset_at _, rfl⟩
    have flook := F.called_set.init.lookup
    have fbind := F.called_set.init.bind (.ref s.heap.objs.size)
    repeat any_goals first | assumption | wp_step
    refine codeAny_mono (codeAny_call_builtin (R := wants (fun r u => r = Value.none ∧ Laid w s ns u) E) F.called_set.init.plain F.entry_set_init (check_set_init_1 ty ?_)) fun r u hr => ?_
    · obtain ⟨ol, hol, hcl, nl, hdl⟩ := id hl
      obtain ⟨ocls, odict, odata, oslots⟩ := ol
      obtain rfl : ocls = _ := hcl
      obtain rfl : odata = _ := hdl
      have here := Heap.get?_push_of_some (nset w) hol
      have sub1 := F.sub_list_set
      have sub2 := F.sub_list_frozenset
      have nodict : (Value.type "list" == Value.type "dict") = false := by decide
      unfold Builtin.«set.__init__» noKeywords Builtin.Frozenset.updateFrom
      generalize hp : pyIter = it
      unfold grown
      wp_walk
      subst hp
      refine wpAny_pyIter_list (hl.push _) (wpAny_bind (wpAny_runValue ?_))
      refine set_loop (by simp [hh]) hl hit hb fun u hu => ?_
      refine wpAny_pure (show wpAny _ _ (ret Value.none) _ _ _ from wpAny_pure ⟨rfl, hu⟩)
    · match r, hr with
      | .error _, hr => exact hr
      | .ok .next, hr => exact hr.elim
      | .ok .brk, hr => exact hr.elim
      | .ok .cont, hr => exact hr.elim
      | .ok (.ret r), ⟨e1, hu⟩ =>
        subst e1
        repeat any_goals first | assumption | wp_step
        exact q _ hu
end
/-- set(xs), xs a list of numbers -/
def cSetI (K : PySem.W.Frag) (w : World) : R1 := fun xs H Q => ∃ (l : Addr) (ns : List Int), xs = [.ref l] ∧ SqL K H l (ns.map V.int) ∧ ns.length ≤ 1000 ∧
  ∀ (p : Addr) (c : Nat), H p = none → c ≤ ns.length → Q (.ref p) (upd H p (SetO w p (fun j => decide (j ∈ ns)) c))
theorem K_setI {X : Cx} {K : PySem.W.Frag} {w : World} (hK : X.K = K) (hw : X.w = w) (hc : X.calm = true) : CallR X (.type "set") (cSetI K w) := by
  subst hK hw
  intro pins s σ H xs us Q I r h
  obtain ⟨l, ns, rfl, hq, hb, q⟩ := h
  obtain ⟨u, rfl, ru⟩ := r.one
  cases ru
  obtain ⟨its, rv, pl, hz⟩ := I.list hq
  refine set_of_list (I.ok.hd hc) pl.isList (ns := ns) (by simpa using ints_of_vals rv) (Nat.lt_of_le_of_lt (Nat.succ_le_succ hb) (by decide)) fun u hu => ?_
  obtain ⟨g, k, c, rfl, hS, hc', hk⟩ := hu
  exact ⟨.ref _, _, I.laid (t' := k) (o := SetO X.w s.heap.objs.size (fun j => decide (j ∈ ns)) c) hk (Nat.le_refl _) (setO_new hS), rfl, q _ c (I.hok.fresh (Nat.le_refl _)) hc'⟩
end Rd

set_option maxHeartbeats 4000000
/-! SetL: len of a set of numbers. -/
namespace Rd
open PySem PySem.Spec L2
def rLenSet (w : World) : R1 := fun xs H Q => ∃ (a : Addr) (S : Int → Bool) (n : Nat), xs = [.ref a] ∧ H a = some (SetO w a S n) ∧ ∀ ks : List Int, ks.Nodup → ks.length = n → (∀ k, k ∈ ks ↔ S k = true) → Q (.int (n : Nat)) H
theorem K_lenSet {X : Cx} {w : World} (hw : X.w = w) : CallR X (.builtin "len") (rLenSet w) := by
  subst hw
  intro pins s σ H xs us Q I r h
  obtain ⟨a, S, n, rfl, ha, q⟩ := h
  obtain ⟨u, rfl, ru⟩ := r.one
  cases ru
  obtain ⟨o, es, ep, t, ho, hex, hd, hg, hnd, hm, hs, hf, hn, _⟩ := setO_get I ha
  have hsb : (scanBound : Int) < 2 ^ 63 := by decide
  refine call_len_set ho hex hd hf (by omega) ⟨.int (n : Nat), H, I.tok _, ⟨_, by rw [hn]⟩, q _ hnd ?_ fun k => (hm k).symm⟩
  rw [List.length_map, ← hn, Array.length_toList]
end Rd

set_option maxHeartbeats 4000000
/-! DatS: sorted of data, < of data, max(ints, default=d). -/
namespace Rd
open PySem PySem.Spec L2 StX
open PySem.W (AllAlike Sortable dataLe dataLt alike EachIs)
/-- the sorted data -/
def srtD (ds : List PyData) : List PyData := ds.mergeSort (dataLe false id)
theorem srtD_perm (ds : List PyData) : (srtD ds).Perm ds := List.mergeSort_perm _ _
theorem srtD_pw (ds : List PyData) : (srtD ds).Pairwise fun a b => dataLt b a = false := by
  have h := PySem.W.sort_pairwise (PySem.W.sortLe_total (PyProof.Rows.listOrd PyProof.Rows.itemOrd) false fun b : PyData => PySem.W.keyToks (id b)) ds
  refine List.Pairwise.imp (fun {a b} z => ?_) h
  have z' : (!dataLt (id b) (id a)) = true := z
  simpa using z'
def rSortedD (K : PySem.W.Frag) : List V → Hp → VK → Prop := fun vs H Q => ∃ (a : Addr) (bs : List (V × PyData)), vs = [.ref a] ∧ SqL K H a (bs.map Prod.fst) ∧ (∀ b ∈ bs, Dp K H b.1 b.2) ∧ AllAlike (bs.map Prod.snd) ∧ Sortable (bs.map Prod.snd) ∧ bs.length ≤ sizeLine ∧ (∀ b ∈ bs, b.2.depth ≤ 60) ∧
  ∀ p, H p = none → Q (.ref p) (upd H p (.lst ((bs.mergeSort (dataLe false Prod.snd)).map Prod.fst)))
theorem each_pairs {K : PySem.W.Frag} {R : Value → V × PyData → Prop} : ∀ {bs : List (V × PyData)} {us : List Value}, Vals (bs.map Prod.fst) us → (∀ b ∈ bs, ∀ u, RelV b.1 u → R u b) → EachIs R us bs
  | [], _, h, _ => by
    cases h
    exact .nil
  | b :: bs, _, h, g => by
    cases h with
    | cons r t => exact .cons (g b List.mem_cons_self _ r) (each_pairs (K := K) t fun b' m => g b' (List.mem_cons_of_mem _ m))
theorem each_vals : ∀ {us : List Value} {bs : List (V × PyData)}, EachIs (fun u b => RelV b.1 u) us bs → Vals (bs.map Prod.fst) us
  | _, _, .nil => .nil
  | _, _, .cons h t => .cons h (each_vals t)
section
variable {X : Cx}
theorem cr_sortedD (hu : X.A.units + 64 < cLine) : CallR X (.builtin "sorted") (rSortedD X.K) := by
  intro pins s σ H vs us Q I r h
  obtain ⟨a, bs, rfl, hs, hd, hal, hk, hl, hdep, q⟩ := h
  obtain ⟨its, rv, hp, _⟩ := I.list hs
  rw [Vals.ref1 r]
  refine PySem.W.sorted_data (R := fun u b => RelV b.1 u) (enc := Prod.snd) hp.isList (each_pairs (K := X.K) rv fun b _ u z => z) (each_pairs (K := X.K) rv fun b m u z => Dp.reads I b.2 b.1 u (hd b m) z) hal hk hl (fun b m => by
    have := hdep b m
    omega) fun out h1 h2 => ?_
  obtain ⟨ep, he'⟩ := PyProof.Rows.sortedAll_at s.heap its (List.toArray out)
  have hlen : ((bs.mergeSort (dataLe false Prod.snd)).map Prod.fst).length ≤ sizeLine := by
    rw [List.length_map, List.length_mergeSort]
    exact hl
  exact ⟨.ref _, upd H (s.heap.objs.size + 1) (.lst ((bs.mergeSort (dataLe false Prod.snd)).map Prod.fst)), I.laid (t' := s.toks) (fun _ _ => PyProof.Rows.sortedAll_old) (Nat.le_succ _) ⟨hlen, _, ep, by exact each_vals h2, he'⟩, rfl, q _ (I.hok.fresh (Nat.le_succ _))⟩
theorem K_sortedD {K : PySem.W.Frag} (hK : X.K = K) (hu : X.A.units + 64 < cLine) : CallR X (.builtin "sorted") (rSortedD K) := by
  subst hK
  exact cr_sortedD hu
def rLtD (K : PySem.W.Frag) : R2 := fun x y H Q => ∃ d e, Dp K H x d ∧ Dp K H y e ∧ alike d e = true ∧ d ≠ .none ∧ d.depth ≤ 60 ∧ Q (.bl (dataLt d e)) H
theorem op_ltD (hu : X.A.units + 64 < cLine) : OpR X (compareOp .Lt) (rLtD X.K) := by
  intro pins s σ H x y v u Q I rx ry h
  obtain ⟨d, e, hd, he, al, hn, dep, q⟩ := h
  obtain ⟨as, r1⟩ := Dp.reads I d x v hd rx
  obtain ⟨bs, r2⟩ := Dp.reads I e y u he ry
  exact PySem.W.rcLt_alike d e X.A s v u as bs r1 r2 al hn (by have := Nat.min_le_left d.depth e.depth; omega) _ _ _ _ ⟨.bl (dataLt d e), H, I, rfl, q⟩
theorem K_ltD {K : PySem.W.Frag} (hK : X.K = K) (hu : X.A.units + 64 < cLine) : OpR X (compareOp .Lt) (rLtD K) := by
  subst hK
  exact op_ltD hu
/-- max(ints, default=d) -/
def rMaxDf (K : PySem.W.Frag) : List V → List V → Hp → VK → Prop := fun vs zs H Q => ∃ (a : Addr) (ns : List Int) (d : Int), vs = [V.ref a] ∧ zs = [V.int d] ∧ SqL K H a (ns.map V.int) ∧ (ns = [] → Q (.int d) H) ∧ ∀ n r, ns = n :: r → Q (.int (r.foldl max n)) H
theorem reads_ints {h : Heap} : ∀ {ns : List Int} {us : List Value}, Vals (ns.map V.int) us → ∃ as, ReadsAll h us (ns.map PyData.int) as
  | [], _, r => by
    cases r
    exact ⟨_, .nil⟩
  | n :: ns, _, r => by
    cases r with
    | cons r1 r2 =>
      obtain ⟨t, rfl⟩ := r1
      obtain ⟨as, q⟩ := reads_ints (h := h) r2
      exact ⟨_, .cons (.int _ _) q⟩
theorem depth_ints : ∀ ns : List Int, PyData.depthAll (ns.map PyData.int) = 0
  | [] => rfl
  | n :: ns => by
    show max (PyData.int n).depth (PyData.depthAll (ns.map PyData.int)) = 0
    rw [depth_ints ns]
    rfl
theorem cr_maxDf (hu : X.A.units + 64 < cLine) (hc : X.calm = true) : CallRK X (.builtin "max") [Str.ofString "default"] (rMaxDf X.K) := by
  intro pins s σ H xs zs us ws Q I r1 r2 h
  obtain ⟨a, ns, d, rfl, rfl, hs, q0, q⟩ := h
  obtain ⟨its, rv, hp, _⟩ := I.list hs
  rw [Vals.ref1 r1]
  obtain ⟨wd, rfl, rd⟩ := r2.one
  obtain ⟨as, hr⟩ := reads_ints (h := s.heap) rv
  refine PySem.W.max_list_default (l := a) (vs := its.toArray) (xs := ns.map PyData.int) (as := as) (I.ok.hd hc) hp.isList hr ?_ (by rw [depth_ints]; omega) (fun e h' tk hk => ?_) fun y ys i v h' tk bs e _ rd' hk => ?_
  · refine ⟨fun x m y m' => ?_, fun x m => ?_⟩
    · obtain ⟨x', _, rfl⟩ := List.mem_map.mp m
      obtain ⟨y', _, rfl⟩ := List.mem_map.mp m'
      rfl
    · obtain ⟨x', _, rfl⟩ := List.mem_map.mp m
      exact fun z => nomatch z
  · exact ⟨.int d, H, I.kept hk, rd, q0 (List.map_eq_nil_iff.mp e)⟩
  · cases ns with
    | nil => cases e
    | cons n ns =>
      cases e
      rw [PySem.W.maxD_ints] at rd'
      cases rd' with
      | int _ t => exact ⟨.int _, H, I.kept hk, ⟨t, rfl⟩, q n ns rfl⟩
theorem K_maxDf {K : PySem.W.Frag} (hK : X.K = K) (hu : X.A.units + 64 < cLine) (hc : X.calm = true) : CallRK X (.builtin "max") [Str.ofString "default"] (rMaxDf K) := by
  subst hK
  exact cr_maxDf hu hc
end
section
variable {K : PySem.W.Frag} {H : Hp} {Q : VK} {p : Addr} {xs : List V} {ds : List PyData} {ex ex' : List Addr} {x y : V} {d e : PyData} {σ : St} {ns : List Int} {i : Int}
theorem zip_fst : ∀ {xs : List V} {ds : List PyData}, DtAll ex H xs ds → (xs.zip ds).map Prod.fst = xs ∧ (xs.zip ds).map Prod.snd = ds ∧ ∀ b ∈ xs.zip ds, Dt ex H b.1 b.2
  | _, _, h => by
    match h with
    | .nil => exact ⟨rfl, rfl, fun b m => nomatch m⟩
    | .cons h0 h1 =>
      obtain ⟨e1, e2, e3⟩ := zip_fst h1
      refine ⟨?_, ?_, fun b m => ?_⟩
      · rw [List.zip_cons_cons, List.map_cons, e1]
      · rw [List.zip_cons_cons, List.map_cons, e2]
      · rw [List.zip_cons_cons] at m
        rcases List.mem_cons.mp m with rfl | m
        · exact h0
        · exact e3 b m
theorem dtAll_of {bs : List (V × PyData)} (h : ∀ b ∈ bs, Dt ex H b.1 b.2) : DtAll ex H (bs.map Prod.fst) (bs.map Prod.snd) := by
  induction bs with
  | nil => exact .nil
  | cons b bs ih => exact .cons (h b List.mem_cons_self) (ih fun b' m => h b' (List.mem_cons_of_mem _ m))
theorem r_sortedD (hq : SqL K H p xs) (hd : DtAll ex H xs ds) (hal : AllAlike ds) (hk : Sortable ds) (hl : ds.length ≤ sizeLine) (hdep : ∀ d ∈ ds, d.depth ≤ 60)
    (q : ∀ l ys H', H l = none → Kp [] H H' → H' l = some (.lst ys) → DtAll ex H ys (srtD ds) → Q (.ref l) H') : rSortedD K [.ref p] H Q := by
  obtain ⟨e1, e2, e3⟩ := zip_fst hd
  have hlen : (xs.zip ds).length = ds.length := by
    rw [← e2, List.length_map]
    rw [e2]
  refine ⟨p, xs.zip ds, rfl, by rw [e1]; exact hq, fun b m => (e3 b m).dp, by rw [e2]; exact hal, by rw [e2]; exact hk, by rw [hlen]; exact hl, fun b m => hdep _ (by rw [← e2]; exact List.mem_map.mpr ⟨b, m, rfl⟩), fun l n => ?_⟩
  refine q l _ _ n (Kp.new n) upd_same ?_
  have es : ((xs.zip ds).mergeSort (dataLe false Prod.snd)).map Prod.snd = srtD ds := by
    have := PySem.W.sort_maps (r := dataLe false Prod.snd) (s := dataLe false id) Prod.snd (l := xs.zip ds) (fun a _ b _ => rfl)
    rw [this, e2]
    rfl
  rw [← es]
  exact dtAll_of fun b m => e3 b ((List.mergeSort_perm _ _).mem_iff.mp m)
theorem r_ltD (hx : Dt ex H x d) (hy : Dt ex' H y e) (al : alike d e = true) (hn : d ≠ .none) (dep : d.depth ≤ 60) (q : Q (.bl (dataLt d e)) H) : rLtD K x y H Q := ⟨d, e, hx.dp, hy.dp, al, hn, dep, q⟩
def kKw1 (r : List V → List V → Hp → VK → Prop) (tk : TA) (σ : St) (Q : VK) : List V → Hp → Prop := fun vs H1 => tk σ H1 fun zs H2 => r vs zs H2 Q
def kKw2 (r : List V → List V → Hp → VK → Prop) (vs : List V) (Q : VK) : List V → Hp → Prop := fun zs H2 => r vs zs H2 Q
theorem r_ckw {r : List V → List V → Hp → VK → Prop} {t tk : TA} (q : t σ H (kKw1 r tk σ Q)) : tCKw r t tk σ H Q := q
theorem r_kKw1 {r : List V → List V → Hp → VK → Prop} {tk : TA} {vs : List V} (q : tk σ H (kKw2 r vs Q)) : kKw1 r tk σ Q vs H := q
theorem r_kKw2 {r : List V → List V → Hp → VK → Prop} {vs zs : List V} (q : r vs zs H Q) : kKw2 r vs Q zs H := q
theorem r_maxDf (hs : SqL K H p (ns.map V.int)) (q0 : ns = [] → Q (.int i) H) (q : ∀ n r, ns = n :: r → Q (.int (r.foldl max n)) H) : rMaxDf K [.ref p] [.int i] H Q := ⟨p, ns, i, rfl, rfl, hs, q0, q⟩
end
end Rd

set_option maxHeartbeats 4000000
/-! Lc2: [e for x in a for y in b]. -/
namespace Rd
open PySem PySem.Spec L2 StX
def kIn2 (g1 : TG) (tt1 : TT) (te : TE) (vs1 : List Nat) (σ2 : St) (D : Addr) (Nx : Hp → Prop) : It → Hp → Prop := fun J1 H4 => ∃ W1 : Nat → Nat → Hp → Prop, (∃ m, W1 0 m H4) ∧ ∀ j k H, W1 j k H →
  (J1.stop j H ∧ Nx H) ∨ (J1.go j H ∧ ∃ Nx1 : Hp → Prop, (∀ H', Nx1 H' → ∃ k', k' < k ∧ W1 (j + 1) k' H') ∧ ∀ x H', J1.yld j H x H' → g1 x (wipe σ2 vs1) H' (kTurn tt1 te (wipe σ2 vs1) vs1 D Nx1))
def kKeep2 (wi1 : TI) (g1 : TG) (tt1 : TT) (te : TE) (vs1 : List Nat) (σ2 : St) (D : Addr) (Nx : Hp → Prop) : Bool → Hp → Prop := fun b H3 => if b = true then wi1 σ2 H3 (kIn2 g1 tt1 te vs1 σ2 D Nx) else Nx H3
def kTurn2 (tt : TT) (wi1 : TI) (g1 : TG) (tt1 : TT) (te : TE) (vs vs1 : List Nat) (σ0 : St) (D : Addr) (Nx : Hp → Prop) : St → Hp → Prop := fun σ2 H2 => wipe σ2 vs = σ0 ∧ tt σ2 H2 (kKeep2 wi1 g1 tt1 te vs1 σ2 D Nx)
def kLc2 (g : TG) (tt : TT) (wi1 : TI) (g1 : TG) (tt1 : TT) (te : TE) (vs vs1 : List Nat) (σ : St) (Q : VK) : It → Hp → Prop := fun J H1 => ∀ D, H1 D = none → ∃ W : Nat → Nat → Hp → Prop, (∃ m, W 0 m (upd H1 D (.lst []))) ∧ ∀ i m H, W i m H →
  (J.stop i H ∧ Q (.ref D) H) ∨ (J.go i H ∧ ∃ Nx : Hp → Prop, (∀ H', Nx H' → ∃ m', m' < m ∧ W (i + 1) m' H') ∧ ∀ x H', J.yld i H x H' → g x (wipe σ vs) H' (kTurn2 tt wi1 g1 tt1 te vs vs1 (wipe σ vs) D Nx))
section
variable {σ : St} {H : Hp} {Q : VK} {wi wi1 : TI} {g g1 : TG} {tt tt1 : TT} {te : TE} {vs vs1 : List Nat} {J J1 : It} {n : Nat} {G : Hp → Prop} {Y : Nat → Hp → V → Hp → Prop} {D p : Addr} {K : PySem.W.Frag} {xs : List V}
theorem r_lc2 (q : wi σ H (kLc2 g tt wi1 g1 tt1 te vs vs1 σ Q)) : tLc2 wi g tt wi1 g1 tt1 te vs vs1 σ H Q := q
theorem r_kTurn2 {σ0 : St} {Nx : Hp → Prop} (h : wipe σ vs = σ0) (q : tt σ H (kKeep2 wi1 g1 tt1 te vs1 σ D Nx)) : kTurn2 tt wi1 g1 tt1 te vs vs1 σ0 D Nx σ H := ⟨h, q⟩
theorem r_kKeep2 {Nx : Hp → Prop} {b : Bool} (h : b = true) (q : wi1 σ H (kIn2 g1 tt1 te vs1 σ D Nx)) : kKeep2 wi1 g1 tt1 te vs1 σ D Nx b H := by
  subst h
  exact q
theorem r_kLc2 (w : Walk J n G Y) (Pv : Addr → Nat → List V → Hp → Prop) (h0 : ∀ D H', H D = none → Kp [] H H' → H' D = some (.lst []) → Pv D 0 [] H') (hG : ∀ D i acc H', i ≤ n → Pv D i acc H' → G H')
    (hs : ∀ D i acc x H' H'', H D = none → i < n → H' D = some (.lst acc) → Pv D i acc H' → Y i H' x H'' → g x (wipe σ vs) H'' (kTurn2 tt wi1 g1 tt1 te vs vs1 (wipe σ vs) D (kN (Pv D (i + 1)) D)))
    (hd : ∀ D acc H', H D = none → H' D = some (.lst acc) → Pv D n acc H' → Q (.ref D) H') : kLc2 g tt wi1 g1 tt1 te vs vs1 σ Q J H := by
  intro D hD
  refine ⟨fun i m H => m = n - i ∧ i ≤ n ∧ kN (Pv D i) D H, ⟨n, by simp, Nat.zero_le _, [], upd_same, h0 D _ hD (Kp.new hD) upd_same⟩, ?_⟩
  rintro i m H' ⟨rfl, hi, acc, e, pv⟩
  have q := hG D i acc H' hi pv
  by_cases hlt : i < n
  · exact .inr ⟨w.goes i H' hlt q, kN (Pv D (i + 1)) D, fun H'' p' => ⟨n - (i + 1), by omega, rfl, hlt, p'⟩, fun x H'' y => hs D i acc x H' H'' hD hlt e pv (w.yields i H' x H'' hlt q y)⟩
  · have ei : i = n := by omega
    subst ei
    exact .inl ⟨w.stops H' q, hd D acc H' hD e pv⟩
theorem r_kIn2 (w : Walk J1 n G Y) (Pv : Nat → List V → Hp → Prop) {PN : List V → Hp → Prop} {acc0 : List V} (e0 : H D = some (.lst acc0)) (h0 : Pv 0 acc0 H) (hG : ∀ i acc H', i ≤ n → Pv i acc H' → G H')
    (hs : ∀ i acc x H' H'', i < n → H' D = some (.lst acc) → Pv i acc H' → Y i H' x H'' → g1 x (wipe σ vs1) H'' (kTurn tt1 te (wipe σ vs1) vs1 D (kN (Pv (i + 1)) D)))
    (hd : ∀ acc H', H' D = some (.lst acc) → Pv n acc H' → PN acc H') : kIn2 g1 tt1 te vs1 σ D (kN PN D) J1 H := by
  refine ⟨fun i m H => m = n - i ∧ i ≤ n ∧ kN (Pv i) D H, ⟨n, by simp, Nat.zero_le _, acc0, e0, h0⟩, ?_⟩
  rintro i m H' ⟨rfl, hi, acc, e, pv⟩
  have q := hG i acc H' hi pv
  by_cases hlt : i < n
  · exact .inr ⟨w.goes i H' hlt q, kN (Pv (i + 1)) D, fun H'' p' => ⟨n - (i + 1), by omega, rfl, hlt, p'⟩, fun x H'' y => hs i acc x H' H'' hlt e pv (w.yields i H' x H'' hlt q y)⟩
  · have ei : i = n := by omega
    subst ei
    exact .inl ⟨w.stops H' q, acc, e, hd acc H' e pv⟩
theorem r_kLc2Q (Pv : Addr → Nat → List V → Hp → Prop) (hq : Sq K H p xs) (h0 : ∀ D H', H D = none → Kp [] H H' → H' D = some (.lst []) → Pv D 0 [] H') (hG : ∀ D i acc H', i ≤ xs.length → Pv D i acc H' → Kp [] H H')
    (hs : ∀ D (i : Nat) acc x H', H D = none → xs[i]? = some x → H' D = some (.lst acc) → Pv D i acc H' → g x (wipe σ vs) H' (kTurn2 tt wi1 g1 tt1 te vs vs1 (wipe σ vs) D (kN (Pv D (i + 1)) D)))
    (hd : ∀ D acc H', H D = none → H' D = some (.lst acc) → Pv D xs.length acc H' → Q (.ref D) H') : cWQ K (kLc2 g tt wi1 g1 tt1 te vs vs1 σ Q) (.ref p) H := by
  rcases hq with h | h
  · refine r_cWQl h (r_kLc2 walk_list Pv h0 (fun D i acc H' hi p => sql_kp h (hG D i acc H' hi p) not_nil) (fun D i acc x H' H'' hD hi e hp y => ?_) hd)
    obtain ⟨rfl, ey⟩ := y
    exact hs D i acc x _ hD ey e hp
  · refine r_cWQt h (r_kLc2 walk_tup Pv h0 (fun D i acc H' hi p => sqt_kp h (hG D i acc H' hi p) not_nil) (fun D i acc x H' H'' hD hi e hp y => ?_) hd)
    obtain ⟨rfl, ey⟩ := y
    exact hs D i acc x _ hD ey e hp
theorem r_kIn2R {m : Nat} (Pv : Nat → List V → Hp → Prop) {PN : List V → Hp → Prop} {acc0 : List V} (e0 : H D = some (.lst acc0)) (h0 : Pv 0 acc0 H)
    (hs : ∀ (i : Nat) acc H', i < m → H' D = some (.lst acc) → Pv i acc H' → g1 (.int (i : Int)) (wipe σ vs1) H' (kTurn tt1 te (wipe σ vs1) vs1 D (kN (Pv (i + 1)) D)))
    (hd : ∀ acc H', H' D = some (.lst acc) → Pv m acc H' → PN acc H') : kIn2 g1 tt1 te vs1 σ D (kN PN D) (Itr 0 m) H := by
  refine r_kIn2 walk_range Pv e0 h0 (fun _ _ _ _ _ => trivial) (fun i acc x H' H'' hi e hp y => ?_) hd
  obtain ⟨rfl, rfl⟩ := y
  have e' : V.int ((0 : Int) + (i : Int)) = V.int (i : Int) := congrArg V.int (by omega)
  show g1 (V.int ((0 : Int) + (i : Int))) (wipe σ vs1) _ _
  rw [e']
  exact hs i acc _ hi e hp
end
end Rd

set_option maxHeartbeats 4000000
/-! Gn: for within a generator def's body. -/
namespace Rd
open PySem PySem.Spec L2 GenW PyProof.Rows
section
variable {prog : Program} {w : World} {A : Around} {R : GenEnd} {Y : Protocol} {n : Nat} {s₀ s : Shared} {c : Code} {fs : List Frame} {env : Env} {K : Flow → Sem PySem.Fin} {J : Value → Sem PySem.Fin} {gd : Bool → Bool} {lv : List Value → List Value}
theorem seg_For {M : Model} {target iter : Expr} {body orelse : List Stmt} {pos : Pos}
    (h : wpAny M (A.over c fs) (eval iter env) (fun x s₁ => wpAny M (A.over c fs) (pyIter x) (fun it s₂ => ∀ p, Seg M A R Y n s₀ (.forLoop target it body orelse env) (M.den (.forLoop target it body orelse env))
      (.ret (fun r => ((match r with | .ok f => (.pure f : Sem Flow) | .error e => .raise e).onRaise (cameBack env)).wrap K J gd lv) none (gd false) (lv []) c p [] :: fs) s₂) (fun x s' => Seg M A R Y n s₀ c (J x) fs s') s₁) (fun x s' => Seg M A R Y n s₀ c (J x) fs s') s)
    (hs : ∀ x, foldedSetIterable iter env x = pure x) : Seg M A R Y n s₀ c ((exec (.For target iter body orelse pos) env).wrap K J gd lv) fs s := by
  rw [exec_For]
  refine seg_bind_wrap (wpAny_standAt ?_)
  refine seg_bind_wrap (wpAny_mono h (fun x s₁ h₁ => ?_) fun _ _ z => z)
  rw [hs x]
  refine seg_bind_wrap (wpAny_pure ?_)
  refine seg_bind_wrap (wpAny_standAt ?_)
  refine seg_bind_wrap (wpAny_holding (wpAny_mono h₁ (fun it s₂ h₂ => ?_) fun _ _ z => z))
  exact seg_call h₂
abbrev noteGo (env : Env) (x : Value) : Sem Unit := do noteFrame x env; theTreesLotGoes x
theorem seg_forLoop {target : Expr} {it : Value} {body : List Stmt}
    (h : wpAny (model prog w) (A.over (.forLoop target it body [] env) fs) (pyNext it) (fun r s₁ => match r with
        | none => Seg (model prog w) A R Y n s₀ (.forLoop target it body [] env) (.pure (.again (.block [] env))) fs s₁
        | some v => wpAny (model prog w) (A.over (.forLoop target it body [] env) fs) (letOwnedTupleGo target it v) (fun _ s₂ => wpAny (model prog w) (A.over (.forLoop target it body [] env) fs) (assign target env v) (fun _ s₃ =>
            Seg (model prog w) A R Y n s₀ (.forLoop target it body [] env) ((execs body env).wrap (fun f => match f with
              | .next | .cont => .pure (.again (.forLoop target it body [] env))
              | .brk => .pure (.done .next)
              | .ret v => .pure (.done (.ret v))) (fun e => (noteGo env e).wrap (fun _ => .raise e) .raise id id) id id) fs s₃)
            (fun x s' => Seg (model prog w) A R Y n s₀ (.forLoop target it body [] env) ((noteGo env x).wrap (fun _ => .raise x) .raise id id) fs s') s₂)
            (fun x s' => Seg (model prog w) A R Y n s₀ (.forLoop target it body [] env) ((noteGo env x).wrap (fun _ => .raise x) .raise id id) fs s') s₁)
      (fun x s' => Seg (model prog w) A R Y n s₀ (.forLoop target it body [] env) ((noteGo env x).wrap (fun _ => .raise x) .raise id id) fs s') s) :
    Seg (model prog w) A R Y n s₀ (.forLoop target it body [] env) ((model prog w).den (.forLoop target it body [] env)) fs s := by
  show Seg _ A R Y n s₀ _ ((forTurn target it body [] env).onRaise (noteGo env)) fs s
  unfold forTurn
  rw [Sem.onRaise_eq_wrap]
  have ex : ∀ {x : Value} {s' : Shared}, Seg (model prog w) A R Y n s₀ (.forLoop target it body [] env) ((noteGo env x).wrap (fun _ => .raise x) .raise id id) fs s' →
      Seg (model prog w) A R Y n s₀ (.forLoop target it body [] env) ((noteGo env x).bind fun _ => .raise x) fs s' := fun {x s'} z => by
    rw [Sem.bind_eq_wrap]
    exact z
  refine seg_bind_wrap (wpAny_standAt ?_)
  refine seg_bind_wrap (wpAny_onRaise (wpAny_mono h (fun r s₁ h₁ => ?_) fun x s' z => wpAny_standAt (ex z)))
  cases r with
  | none => exact h₁
  | some v =>
    refine seg_bind_wrap (wpAny_mono h₁ (fun _ s₂ h₂ => ?_) fun x s' z => ex z)
    refine seg_bind_wrap (wpAny_mono h₂ (fun _ s₃ h₃ => ?_) fun x s' z => ex z)
    rw [Sem.bind_eq_wrap', Sem.wrap_wrap]
    rw [Sem.wrap_congr (execs body env) _ _ (K' := fun f => match f with
            | .next | .cont => .pure (.again (.forLoop target it body [] env))
            | .brk => .pure (.done .next)
            | .ret v => .pure (.done (.ret v))) (H' := fun e => (noteGo env e).wrap (fun _ => .raise e) .raise id id)
        (fun f => by cases f <;> rfl)
        (fun e => by
          show (noteGo env e).bind (fun _ => .raise e) = _
          rw [Sem.bind_eq_wrap])]
    exact h₃
end
section
variable {X : Cx}
def tGFor (wi : TI) (g : TG) (tb : TGn) : TGn := fun D ys σ H => wi σ H fun Jt H2 => ∃ W : Nat → Nat → List V → L2.St → Hp → Prop, (∃ m, W 0 m ys σ H2) ∧ ∀ i m ys σ H, W i m ys σ H →
  (Jt.stop i H ∧ D.nx ys σ H) ∨ (Jt.go i H ∧ ∃ N : List V → L2.St → Hp → Prop, (∀ ys' σ' H', N ys' σ' H' → ∃ m', m' < m ∧ W (i + 1) m' ys' σ' H') ∧ ∀ x H', Jt.yld i H x H' → g x σ H' fun σ2 H2 => tb { D with nx := N, ct := N, bk := D.nx } ys σ2 H2)
theorem fpOk_repin {pins pins' : List (Addr × Obj)} {H H' : Hp} {b : Addr} (h : FpOk X pins H b) (n : H' b = none) (k : ∀ p ∈ pins', ∃ p' ∈ pins, p'.1 = p.1) : FpOk X pins' H' b := by
  obtain ⟨_, f1, f2, f3, f4, f5⟩ := h
  refine ⟨n, f1, f2, f3, f4, fun p hp => ?_⟩
  rcases List.mem_append.mp hp with z | z
  · exact f5 p (List.mem_append_left _ z)
  · obtain ⟨p', hp', e⟩ := k p z
    rw [← e]
    exact f5 p' (List.mem_append_right _ hp')
theorem gs_for {tg iter : Expr} {body : List Stmt} {pos : Pos} {wi : TI} {g : TG} {tb : TGn} (hp : PassesOwn (model X.prog X.w) X.A X.env X.xe) (hc : X.calm = true) (hi : PI X tg iter wi) (hg : PG X tg g) (hb : GSs X body tb)
    (hs : ∀ x, foldedSetIterable iter X.env x = pure x := by intro _; rfl) : GS X (.For tg iter body [] pos) (tGFor wi g tb) := by
  refine ⟨fun A S ip R n ys s₀ c fs K J gd lv s σ H D gc hn k hI ht => ?_⟩
  obtain ⟨acc0, cc0, r0, I0⟩ := hI
  refine seg_For ?_ hs
  rw [gc.over]
  refine wpAny_mono (hi.run _ s σ H _ I0 ht) (fun v s1 h1 => wpAny_mono h1 (fun itv s2 h2 => ?_) fun x s' hx => k.exc n s₀ x s' hx) fun x s' hx => k.exc n s₀ x s' hx
  obtain ⟨it, fp, tn, Jt, H2, e, I2, T, st2, f2, W, ⟨m0, w0⟩, turn⟩ := h2
  subst e
  intro p
  have gl := fun (kk : Result → Sem PySem.Fin) => gc_loop (k := kk) (c' := .forLoop tg (.ref it) body [] X.env) (l := lv []) (kp := []) (p := p) gc rfl rfl
  have stat : ∀ {acc : Array Value} {cc : Nat} {H' : Hp}, (∀ b ∈ fp, H' b = none) → ∀ b ∈ fp, FpOk X ((S, lstObj acc cc) :: ip) H' b := fun {acc cc H'} hn b hb => fpOk_repin (f2 b hb) (hn b hb) fun p hp => by
    rcases List.mem_cons.mp hp with rfl | z
    · exact ⟨(S, lstObj acc0 cc0), List.mem_cons_self, rfl⟩
    · exact ⟨p, List.mem_cons_of_mem _ z, rfl⟩
  have fpS : ∀ b ∈ fp, b ≠ S := fun b hb => by
    obtain ⟨_, _, _, _, _, f5⟩ := f2 b hb
    exact fun z => f5 (S, lstObj acc0 cc0) (List.mem_append_right _ List.mem_cons_self) z.symm
  have loop : ∀ (m n i : Nat) (ys : List V) (s₀ s : Shared) (σ : L2.St) (H : Hp), n + ys.length = sizeLine → W i m ys σ H → GI X S ip ys σ H s → tn i s.heap → (∀ b ∈ fp, H b = none) →
      Seg (model X.prog X.w) A R (GY X S) n s₀ (.forLoop tg (.ref it) body [] X.env) ((model X.prog X.w).den (.forLoop tg (.ref it) body [] X.env))
        (.ret (fun r => ((match r with | .ok f => (.pure f : Sem Flow) | .error e => .raise e).onRaise (cameBack X.env)).wrap K J gd lv) none (gd false) (lv []) c p [] :: fs) s := by
    intro m
    induction m using Nat.strongRecOn with
    | ind m ih =>
      intro n i ys s₀ s σ H hn w hI st fr
      have ee : ∀ (n : Nat) (s₀ : Shared) (x : Value) (s' : Shared), X.xe x s' → Seg (model X.prog X.w) A R (GY X S) n s₀ (.forLoop tg (.ref it) body [] X.env)
          ((noteGo X.env x).wrap (fun _ => .raise x) .raise id id)
          (.ret (fun r => ((match r with | .ok f => (.pure f : Sem Flow) | .error e => .raise e).onRaise (cameBack X.env)).wrap K J gd lv) none (gd false) (lv []) c p [] :: fs) s' := fun n s₀ x s' hx => by
        refine seg_wrap ?_
        rw [(gl _).over]
        refine wpAny_bind (wpAny_mono (hp x s' hx) (fun _ s'' hcb => wpAny_theTreesLotGoes ?_) fun y s'' hcb => ?_)
        · exact seg_leaf (.error x) (seg_cameBack gc k hcb)
        · exact seg_leaf (.error y) (seg_cameBack gc k hcb)
      obtain ⟨acc, cc, r, I⟩ := hI
      refine seg_forLoop ?_
      rw [(gl _).over]
      rcases turn i m ys σ H w with ⟨stop, qn⟩ | ⟨go, N, hN, step⟩
      · refine wpAny_mono (T.done X rfl rfl rfl hc i _ s σ H X.xe I (stat fr) st stop) (fun r1 s4 hz => ?_) fun x s' hx => ee n s₀ x s' hx
        obtain ⟨hr, I4⟩ := hz
        subst hr
        refine seg_again rfl ?_
        exact seg_leaf (.ok .next) (k.ok n ys s₀ s4 .next hn ⟨σ, H, ⟨acc, cc, r, I4⟩, qn⟩)
      · refine wpAny_mono (T.item X rfl rfl rfl hc i _ s σ H X.xe I (stat fr) st go) (fun r1 s4 hz => ?_) fun x s' hx => ee n s₀ x s' hx
        obtain ⟨u, hr, h4⟩ := hz
        subst hr
        refine wpAny_mono h4 (fun _ s5 hz => ?_) fun x s' hx => ee n s₀ x s' hx
        obtain ⟨x, H5, I5, r5, y5, st5, fr5⟩ := hz
        have I5' := I5.pinned (stat fr5) (T.obj _ _ st5)
        refine wpAny_mono (hg.run _ s5 σ H5 x u _ I5' r5 (step x H5 y5)) (fun _ s6 hz => ?_) fun x s' hx => ee n s₀ x s' hx
        obtain ⟨σ6, H6, I6, q6⟩ := hz
        have gb : ∀ kk, GC X S (ip ++ pinsAt fp s5.heap) A (.forLoop tg (.ref it) body [] X.env) (.ret kk none (gd false) (lv []) c p [] :: fs) id := fun kk => by
          obtain ⟨g1, g2, g3, g4, g5, g6, g7⟩ := gl kk
          refine ⟨g1, fun q hq => ?_, g3, g4, g5, g6, g7⟩
          rcases List.mem_append.mp hq with z | z
          · exact g2 q z
          · exact fpS _ (of_pinsAt z).1
        have back : ∀ {ys' : List V} {σ7 : L2.St} {H7 : Hp} {s7 : Shared}, GI X S (ip ++ pinsAt fp s5.heap) ys' σ7 H7 s7 → GI X S ip ys' σ7 H7 s7 ∧ tn (i + 1) s7.heap ∧ ∀ b ∈ fp, H7 b = none := fun {ys' σ7 H7 s7} hG => by
          obtain ⟨acc', cc', r', I7⟩ := hG
          have I7 : Inv X (((S, lstObj acc' cc') :: ip) ++ pinsAt fp s5.heap) σ7 H7 s7 := I7
          refine ⟨⟨acc', cc', r', I7.unpinned⟩, T.keep _ _ _ st5 fun b hb o e => (I7.pin (b, o) (List.mem_append_right _ (List.mem_append_right _ (mem_pinsAt hb e)))).1, fun b hb => ?_⟩
          obtain ⟨o, e, d⟩ := T.obj _ _ st5 b hb
          exact (I7.pin (b, o) (List.mem_append_right _ (List.mem_append_right _ (mem_pinsAt hb e)))).2.1
        refine hb.run A S (ip ++ pinsAt fp s5.heap) R n ys s₀ _ _ _ _ id id s6 σ6 H6 { D with nx := N, ct := N, bk := D.nx } (gb _) hn ⟨fun n' ys' s₀' s3 f hn' hs => ?_, fun n' s₀' x s3 hx => ee n' s₀' x s3 hx⟩ ⟨acc, cc, r, I6⟩ q6
        cases f with
        | next =>
          obtain ⟨σ3, H3, I3, n3⟩ := hs
          obtain ⟨m', hm, w3⟩ := hN ys' σ3 H3 n3
          obtain ⟨b1, b2, b3⟩ := back I3
          exact seg_again rfl (ih m' hm n' (i + 1) ys' s₀' s3 σ3 H3 hn' w3 b1 b2 b3)
        | cont =>
          obtain ⟨σ3, H3, I3, n3⟩ := hs
          obtain ⟨m', hm, w3⟩ := hN ys' σ3 H3 n3
          obtain ⟨b1, b2, b3⟩ := back I3
          exact seg_again rfl (ih m' hm n' (i + 1) ys' s₀' s3 σ3 H3 hn' w3 b1 b2 b3)
        | brk =>
          obtain ⟨σ3, H3, I3, n3⟩ := hs
          exact seg_leaf (.ok .next) (k.ok n' ys' s₀' s3 .next hn' ⟨σ3, H3, (back I3).1, n3⟩)
        | ret v =>
          obtain ⟨z, σ3, H3, I3, rz, n3⟩ := hs
          exact seg_leaf (.ok (.ret v)) (k.ok n' ys' s₀' s3 (.ret v) hn' ⟨z, σ3, H3, (back I3).1, rz, n3⟩)
  exact loop m0 n 0 ys s₀ s2 σ H2 hn w0 ⟨acc0, cc0, r0, I2⟩ st2 fun b hb => (f2 b hb).1
end
/-! readings -/
def kGFor (g : TG) (tb : TGn) (D : GEnds) (ys : List V) (σ : L2.St) : It → Hp → Prop := fun Jt H2 => ∃ W : Nat → Nat → List V → L2.St → Hp → Prop, (∃ m, W 0 m ys σ H2) ∧ ∀ i m ys σ H, W i m ys σ H →
  (Jt.stop i H ∧ D.nx ys σ H) ∨ (Jt.go i H ∧ ∃ N : List V → L2.St → Hp → Prop, (∀ ys' σ' H', N ys' σ' H' → ∃ m', m' < m ∧ W (i + 1) m' ys' σ' H') ∧ ∀ x H', Jt.yld i H x H' → g x σ H' fun σ2 H2 => tb { D with nx := N, ct := N, bk := D.nx } ys σ2 H2)
section
open StX
variable {nx bk ct : List V → L2.St → Hp → Prop} {rt : List V → VK} {ys : List V} {σ : L2.St} {H : Hp} {t : TS} {a b : TGn} {te : TE} {wi : TI} {g : TG} {tb : TGn} {K : PySem.W.Frag} {p : Addr} {xs : List V} {x : V} {sp : SpG} {tr : TA} {Q : VK}
theorem r_gPlain (q : t ⟨nx ys, rt ys, bk ys, ct ys⟩ σ H) : tPlain t ⟨nx, rt, bk, ct⟩ ys σ H := q
theorem r_gThen (q : a ⟨fun ys' σ' H' => b ⟨nx, rt, bk, ct⟩ ys' σ' H', rt, bk, ct⟩ ys σ H) : tGThen a b ⟨nx, rt, bk, ct⟩ ys σ H := q
theorem r_gNil (q : nx ys σ H) : tG0 ⟨nx, rt, bk, ct⟩ ys σ H := q
def kYld (nx : List V → L2.St → Hp → Prop) (ys : List V) (σ : L2.St) : VK := fun x H1 => nx (ys ++ [x]) σ H1
theorem r_gYield (l : ys.length < sizeLine) (q : te σ H (kYld nx ys σ)) : tGYield te ⟨nx, rt, bk, ct⟩ ys σ H := ⟨l, q⟩
theorem r_kYld (q : nx (ys ++ [x]) σ H) : kYld nx ys σ x H := q
theorem r_gFor (q : wi σ H (kGFor g tb ⟨nx, rt, bk, ct⟩ ys σ)) : tGFor wi g tb ⟨nx, rt, bk, ct⟩ ys σ H := q
theorem r_kGForL (Pv : Nat → List V → L2.St → Hp → Prop) (h0 : Pv 0 ys σ H) (hl : ∀ i ys σ H, i ≤ xs.length → Pv i ys σ H → SqL K H p xs)
    (hs : ∀ (i : Nat) x ys σ H, xs[i]? = some x → Pv i ys σ H → g x σ H fun σ2 H2 => tb ⟨Pv (i + 1), rt, nx, Pv (i + 1)⟩ ys σ2 H2) (hd : ∀ ys σ H, Pv xs.length ys σ H → nx ys σ H) : kGFor g tb ⟨nx, rt, bk, ct⟩ ys σ (Itl K p) H := by
  refine ⟨fun i m ys σ H => m = xs.length - i ∧ i ≤ xs.length ∧ Pv i ys σ H, ⟨xs.length, by simp, Nat.zero_le _, h0⟩, ?_⟩
  rintro i m ys σ H ⟨rfl, hi, pv⟩
  have q := hl i ys σ H hi pv
  by_cases hlt : i < xs.length
  · refine .inr ⟨⟨xs, xs[i], q, by simp [hlt]⟩, Pv (i + 1), fun ys' σ' H' p' => ⟨xs.length - (i + 1), by omega, rfl, hlt, p'⟩, fun x H' y => ?_⟩
    obtain ⟨e, y⟩ := y
    subst e
    exact hs i x ys σ _ (y xs q) pv
  · have e : i = xs.length := by omega
    subst e
    exact .inl ⟨⟨xs, q, Nat.le_refl _⟩, hd ys σ H pv⟩
/-! a generator def as its callers use it: list(f(..)) -/
def UseG (P : Program) (w : World) (K : PySem.W.Frag) (mg : Str → Option Value) (base : Heap) (n : Nat) (x : Str) (ps : List Str) (sp : SpG) : Prop :=
  ∃ f fd, GFn P w K mg base n f fd ps sp ∧ mg x = some (.ref f) ∧ PySem.W.keepIn K (.ref f) = true ∧ Binds K fd ps []
def kOut (Q : VK) : List V → Hp → Prop := fun out H2 => ∀ p, H2 p = none → Q (.ref p) (upd H2 p (.lst out))
def kGen (sp : SpG) (Q : VK) : List V → Hp → Prop := fun vs H1 => sp vs H1 (kOut Q) E0
def tLsG (sp : SpG) (t : TA) : TE := fun σ H Q => t σ H (kGen sp Q)
theorem r_lsG (q : tr σ H (kGen sp Q)) : tLsG sp tr σ H Q := q
theorem r_kOut {out : List V} (q : ∀ p H', H p = none → Kp [] H H' → H' p = some (.lst out) → Q (.ref p) H') : kOut Q out H := fun p n => q p _ n (Kp.new n) upd_same
theorem tLsG_eq (sp : SpG) (t : TA) : tListG (tCallG sp [] E0 t) = tLsG sp t := by
  funext σ H Q
  show (t σ H fun vs H1 => sp (vs ++ []) H1 _ E0) = (t σ H fun vs H1 => sp vs H1 _ E0)
  simp only [List.append_nil]
  rfl
end
theorem noStop0 {K : PySem.W.Frag} : NoStop K E0 := fun _ _ _ z => z.elim
section
variable {X : Cx} {n : Nat} {x nm : Str} {ps : List Str} {sp : SpG} {e : Expr} {es : List Expr} {t : TA} {p pos pos' p' : Pos}
theorem pe_useG (U : UseG X.prog X.w X.K X.mg X.base n x ps sp) (hr : Room (n + 3) X.A) (hg : Gl X x) (hgl : Gl X "list") (hmg : X.mg "list" = none) (ha : PA X (e :: es) t)
    (hv : bootBuiltins "list" = some (.type "list") := by decide +kernel) (hdb : (x == ("__debug__" : Str)) = false := by decide) (he : starEach (e :: es) X.env = (false, eval e X.env) :: starEach es X.env := by rfl) (hpl : (backTo pos' (starEach es X.env)).any (·.1) = false := by rfl)
    (he2 : starEach [.Call (.Name x p) (e :: es) [] pos'] X.env = (false, eval (.Call (.Name x p) (e :: es) [] pos') X.env) :: starEach [] X.env := by rfl) :
    PE X (.Call (.Name "list" p') [.Call (.Name x p) (e :: es) [] pos'] [] pos) (tLsG sp t) := by
  obtain ⟨f, fd, F, hm, hk, hb⟩ := U
  rw [← tLsG_eq]
  exact pe_listG (pgen_call F (hr.mono (by omega)) hg hm hk hb .nil ha hdb he hpl) passL noStop0 hr hgl hmg hv (by decide) (by decide) he2
end
/-- a generator def by its body -/
theorem gen_ok {P : Program} {w : World} {K : PySem.W.Frag} {mg : Str → Option Value} {base : Heap} {x qual : Str} {st : Stmt} {f : Addr} {fd : FuncData} {N ps : List Str} {k : Nat} {sp : SpG} (F : Fun K x qual st f fd) (S : GScope N ps (defScope st)) (len : ∀ vs H Q E, sp vs H Q E → vs.length = ps.length)
    (hbody : ∀ (cdv : Value) (A : Around) (outer : List Env) (s : Shared) (H : Hp) (vs : List V) (Q : List V → Hp → Prop) (E : XK) (pn : List (Addr × Obj)), Room k (A.deeper (envOfC qual (defScope st) s.heap.objs.size f cdv)) → sp vs H Q E →
      ∃ t, GSs (gcxOf P w K mg base N qual (defScope st) f cdv A outer s H E pn) (defBody st) t ∧ t ⟨fun ys _ H' => Q ys H', fun ys v H' => v = .non ∧ Q ys H', fun _ _ _ => False, fun _ _ _ => False⟩ [] (start N vs) H) : GFn P w K mg base (k + 1) f fd ps sp := by
  obtain ⟨oc, od, kV, doc, pm, an, cdv, ct, osl, rfl, lk, hcd⟩ := F.ex
  exact gfn_of lk hcd S len fun A outer s H vs Q E pn hr h => hbody cdv A outer s H vs Q E pn hr h
end Rd

namespace My
open PySem L2 Rd StX
def top (i : Nat) : Stmt := PySem.Challenge.pw_silentswaps_k06_one_value_more.main.body.getD i (.Pass ⟨0, 0, 0, 0⟩)
local macro_rules | `(tactic| walk_at "s") => `(tactic| (first
  | (with_reducible refine r_seq ?_)
  | (with_reducible refine r_asg ?_)
  | ((with_reducible refine' r_var (v := ?v) ?hv ?_); (case hv => exact rfl))
  | (with_reducible refine r_c ?_)
  | (with_reducible refine r_name ?_)
  | (with_reducible refine r_op ?_)
  | (with_reducible refine r_un ?_)
  | (with_reducible refine r_consA ?_)
  | (with_reducible refine r_nilA ?_)
  | (with_reducible refine r_I0 ?_)
  | (with_reducible refine r_U ?_)
  | (with_reducible refine r_eqI ?_)
  | (with_reducible refine r_neI ?_)
  | (with_reducible refine r_test ?_)
  | (with_reducible refine r_tB ?_)
  | (with_reducible refine r_kB ?_)
  | (with_reducible refine r_ifS ?_)
  | (with_reducible refine r_if ?_)
  | (with_reducible refine r_and ?_)
  | (with_reducible refine r_or ?_)
  | (with_reducible refine r_not ?_)
  | (with_reducible refine r_ret ?_)
  | (with_reducible refine r_retN ?_)
  | (with_reducible refine r_next ?_)
  | (with_reducible refine r_drop ?_)
  | (with_reducible refine r_brk ?_)
  | (with_reducible refine r_cont ?_)
  | (with_reducible refine r_andV ?_)
  | (with_reducible refine r_orV ?_)
  | (with_reducible refine r_notV ?_)
  | (with_reducible refine r_kNotV ?_)
  | (with_reducible refine r_lst ?_)
  | (with_reducible refine r_tup ?_)
  | (with_reducible refine r_dget ?_)
  | (with_reducible refine r_dput ?_)
  | (with_reducible refine r_use ?_)
  | (with_reducible refine r_cb ?_)
  | (with_reducible refine r_par ?_)
  | (with_reducible refine r_int ?_)
  | (with_reducible refine r_abs ?_)
  | (with_reducible refine r_max2 ?_)
  | (with_reducible refine r_min2 ?_)
  | (with_reducible refine r_pnil ?_)
  | (with_reducible refine r_pcons ?_)
  | (with_reducible refine r_eqS ?_)
  | (with_reducible refine r_neS ?_)
  | (with_reducible refine r_for ?_)
  | (with_reducible refine r_rng1 ?_)
  | (with_reducible refine r_rng2 ?_)
  | (with_reducible refine r_wl ?_)
  | (with_reducible refine r_wt ?_)
  | (with_reducible refine r_wq ?_)
  | (with_reducible refine r_ws ?_)
  | (with_reducible refine r_cWS ?_)
  | (with_reducible refine r_enum ?_)
  | (with_reducible refine r_zip ?_)
  | (with_reducible refine r_lc ?_)
  | (with_reducible refine r_dc ?_)
  | ((with_reducible refine r_kTurn ?ht ?_); (case ht => rfl))
  | ((with_reducible refine r_kTurnD ?ht ?_); (case ht => rfl))
  | (with_reducible refine r_yes ?_)
  | ((with_reducible refine r_kKeep1 ?hk ?_); (case hk => rfl))
  | ((with_reducible refine r_kKeepD1 ?hk ?_); (case hk => rfl))
  | (with_reducible refine r_gcons ?_)
  | (with_reducible refine r_gnil ?_)
  | (with_reducible refine r_bm ?_)
  | (with_reducible refine r_bm0 ?_)
  | (with_reducible refine r_fld ?_)
  | (with_reducible refine r_sfld ?_)
  | (with_reducible refine r_methR ?_)
  | (with_reducible refine r_makeR ?_)
  | (with_reducible refine r_chain ?_)))
local macro_rules | `(tactic| walk_at "S") => `(tactic| repeat walk_at "s")
local macro_rules | `(tactic| walk_at "D") => `(tactic| repeat' (first
  | exact AD_nil
  | refine AD_cons ?_ (fun _ _ => ?_)
  | refine ED_tup ?_ (Nat.le_trans (m := 100) (Nat.le_of_ble_eq_true rfl) (by decide))
  | refine ED_lst ?_ (Nat.le_trans (m := 100) (Nat.le_of_ble_eq_true rfl) (by decide))
  | exact ED_c (by constructor)
  | exact ED_var rfl (by constructor)))
local macro_rules | `(tactic| walk_at "N") => `(tactic| repeat' (first
  | exact AN_nil
  | refine AN_cons ?_ (fun _ _ => ?_)
  | refine EN_tup ?_ (Nat.le_trans (m := 100) (Nat.le_of_ble_eq_true rfl) (by decide))
  | refine EN_lst ?_ (Nat.le_trans (m := 100) (Nat.le_of_ble_eq_true rfl) (by decide))
  | exact EN_c (fun _ => by constructor)
  | exact EN_var rfl (fun _ => by constructor)))

/-- what the walk asks of the module's names -/
structure Txt (K : PySem.W.Frag) (mg : Str → Option Value) : Prop where
  z_tuple : mg "tuple" = none
  z_sorted : mg "sorted" = none
  z_range : mg "range" = none
  z_abs : mg "abs" = none
  z_int : mg "int" = none
  z_set : mg "set" = none
  z_max : mg "max" = none
  z_list : mg "list" = none
  z_len : mg "len" = none
  z_enumerate : mg "enumerate" = none
  z_min : mg "min" = none
  z_isinstance : mg "isinstance" = none
section
variable {P : Program} {w : World} {K : PySem.W.Frag} {mg : Str → Option Value} {base : Heap}


/-! ### pictures: the mathematics -/
def insI (n : Int) : List Int → List Int
  | [] => [n]
  | m :: l => if n < m then n :: m :: l else if n = m then m :: l else m :: insI n l
def srt (ns : List Int) : List Int := ns.foldr insI [0]
theorem mem_insI (k n : Int) : ∀ l : List Int, k ∈ insI n l ↔ k = n ∨ k ∈ l
  | [] => by simp [insI]
  | m :: l => by
    unfold insI
    split
    · simp
    · split
      · rename_i h
        subst h
        simp
      · simp only [List.mem_cons, mem_insI k n l]
        constructor
        · rintro (h | h | h)
          · exact .inr (.inl h)
          · exact .inl h
          · exact .inr (.inr h)
        · rintro (h | h | h)
          · exact .inr (.inl h)
          · exact .inl h
          · exact .inr (.inr h)
theorem pw_insI (n : Int) : ∀ {l : List Int}, l.Pairwise (· < ·) → (insI n l).Pairwise (· < ·)
  | [], _ => List.pairwise_singleton _ _
  | m :: l, h => by
    have h' := List.pairwise_cons.mp h
    unfold insI
    split
    · rename_i c
      refine List.pairwise_cons.mpr ⟨fun x hx => ?_, h⟩
      rcases List.mem_cons.mp hx with e | e
      · omega
      · have := h'.1 x e
        omega
    · split
      · exact h
      · refine List.pairwise_cons.mpr ⟨fun x hx => ?_, pw_insI n h'.2⟩
        rcases (mem_insI x n l).mp hx with e | e
        · omega
        · exact h'.1 x e
theorem mem_srt (k : Int) : ∀ ns : List Int, k ∈ srt ns ↔ k = 0 ∨ k ∈ ns
  | [] => by simp [srt]
  | n :: ns => by
    show k ∈ insI n (srt ns) ↔ _
    rw [mem_insI, mem_srt k ns, List.mem_cons]
    constructor
    · rintro (h | h | h)
      · exact .inr (.inl h)
      · exact .inl h
      · exact .inr (.inr h)
    · rintro (h | h | h)
      · exact .inr (.inl h)
      · exact .inl h
      · exact .inr (.inr h)
theorem pw_srt : ∀ ns : List Int, (srt ns).Pairwise (· < ·)
  | [] => List.pairwise_singleton _ _
  | n :: ns => pw_insI n (pw_srt ns)
/-- two rising lists with the same members are one -/
theorem rising_eq : ∀ {l m : List Int}, l.Pairwise (· < ·) → m.Pairwise (· < ·) → (∀ k, k ∈ l ↔ k ∈ m) → l = m
  | [], [], _, _, _ => rfl
  | [], y :: m, _, _, h => by
    have := (h y).mpr List.mem_cons_self
    cases this
  | x :: l, [], _, _, h => by
    have := (h x).mp List.mem_cons_self
    cases this
  | x :: l, y :: m, a, b, h => by
    have a' := List.pairwise_cons.mp a
    have b' := List.pairwise_cons.mp b
    have e : x = y := by
      rcases List.mem_cons.mp ((h x).mp List.mem_cons_self) with e | e
      · exact e
      · rcases List.mem_cons.mp ((h y).mpr List.mem_cons_self) with e' | e'
        · exact e'.symm
        · have h1 := b'.1 x e
          have h2 := a'.1 y e'
          omega
    subst e
    refine congrArg (x :: ·) (rising_eq a'.2 b'.2 fun k => ⟨fun hk => ?_, fun hk => ?_⟩)
    · rcases List.mem_cons.mp ((h k).mp (List.mem_cons_of_mem _ hk)) with e | e
      · have := a'.1 k hk
        omega
      · exact e
    · rcases List.mem_cons.mp ((h k).mpr (List.mem_cons_of_mem _ hk)) with e | e
      · have := b'.1 k hk
        omega
      · exact e
theorem nodup_rising {l : List Int} (h : l.Pairwise (· < ·)) : l.Nodup := h.imp fun h e => by omega
/-- the number by which a number is replaced -/
def rank (ns : List Int) (n : Int) : Nat := (srt ns).idxOf n
theorem idx_at {l : List Int} {i : Nat} {n : Int} (h : l.Pairwise (· < ·)) (e : l[i]? = some n) : l.idxOf n = i := by
  obtain ⟨hi, rfl⟩ := List.getElem?_eq_some_iff.mp e
  exact (nodup_rising h).idxOf_getElem i hi
theorem at_idx {l : List Int} {n : Int} (m : n ∈ l) : l[l.idxOf n]? = some n := by
  have h := List.idxOf_lt_length_of_mem m
  rw [List.getElem?_eq_getElem h, List.getElem_idxOf]
def nums (ps : List (Str × Int)) : List Int := ps.map Prod.snd
def pd (q : Str × Int) : PyData := .tuple [.str q.1, .int q.2]
def pds (ps : List (Str × Int)) : List PyData := ps.map pd
/-- the picture of some values -/
def cmp (ps : List (Str × Int)) : List (Str × Int) := ps.map fun q => (q.1, (rank (nums ps) q.2 : Int))
theorem len_insI (n : Int) : ∀ l : List Int, (insI n l).length ≤ l.length + 1
  | [] => by simp [insI]
  | m :: l => by
    have := len_insI n l
    unfold insI
    split
    · simp
    · split
      · simp
      · simp only [List.length_cons]
        omega
theorem len_srt : ∀ ns : List Int, (srt ns).length ≤ ns.length + 1
  | [] => by simp [srt]
  | n :: ns => by
    have h1 := len_insI n (srt ns)
    have h2 := len_srt ns
    show (insI n (srt ns)).length ≤ _
    rw [List.length_cons]
    omega
theorem cmp_length (ps : List (Str × Int)) : (cmp ps).length = ps.length := List.length_map _
theorem nums_cmp (ps : List (Str × Int)) : nums (cmp ps) = (nums ps).map fun n => (rank (nums ps) n : Int) := by
  unfold nums cmp
  rw [List.map_map, List.map_map]
  rfl
/-- the numbers 0, 1, .. below k -/
def upto (k : Nat) : List Int := (List.range k).map fun i => ((i : Nat) : Int)
theorem pw_upto (k : Nat) : (upto k).Pairwise (· < ·) := by
  unfold upto
  rw [List.pairwise_map]
  exact List.pairwise_lt_range.imp fun h => by omega
theorem mem_upto (k : Nat) (n : Int) : n ∈ upto k ↔ 0 ≤ n ∧ n < (k : Int) := by
  unfold upto
  rw [List.mem_map]
  constructor
  · rintro ⟨i, hi, rfl⟩
    have := List.mem_range.mp hi
    omega
  · rintro ⟨h0, h1⟩
    exact ⟨n.toNat, List.mem_range.mpr (by omega), by omega⟩
/-- the compressed numbers are 0, 1, .. without a gap -/
theorem srt_cmp {ps : List (Str × Int)} (h : ∀ n ∈ nums ps, 0 ≤ n) : srt (nums (cmp ps)) = upto (srt (nums ps)).length := by
  refine rising_eq (pw_srt _) (pw_upto _) fun k => ?_
  rw [mem_srt, mem_upto, nums_cmp, List.mem_map]
  have z0 : (0 : Int) ∈ srt (nums ps) := (mem_srt _ _).mpr (.inl rfl)
  have hpos : 0 < (srt (nums ps)).length := List.length_pos_of_mem z0
  constructor
  · rintro (rfl | ⟨n, hn, rfl⟩)
    · omega
    · have m : n ∈ srt (nums ps) := (mem_srt _ _).mpr (.inr hn)
      have := List.idxOf_lt_length_of_mem m
      show 0 ≤ (((srt (nums ps)).idxOf n : Nat) : Int) ∧ (((srt (nums ps)).idxOf n : Nat) : Int) < _
      omega
  · rintro ⟨h0, h1⟩
    have hk : k.toNat < (srt (nums ps)).length := by omega
    have e := List.getElem?_eq_getElem hk
    have m := List.getElem_mem hk
    have ei := idx_at (pw_srt _) e
    rcases (mem_srt _ _).mp m with z | z
    · left
      -- 0 is the least
      cases hs : srt (nums ps) with
      | nil =>
        rw [hs] at hpos
        cases hpos
      | cons x l =>
        have pw := pw_srt (nums ps)
        rw [hs] at pw
        have hx : x = 0 := by
          rcases (mem_srt x (nums ps)).mp (by rw [hs]; exact List.mem_cons_self) with q | q
          · exact q
          · have q0 := h x q
            rw [hs] at z0
            rcases List.mem_cons.mp z0 with r | r
            · exact r.symm
            · have := (List.pairwise_cons.mp pw).1 0 r
              omega
        have e0 : (srt (nums ps))[0]? = some 0 := by
          rw [hs, hx]
          rfl
        have i0 := idx_at (pw_srt _) e0
        rw [z, i0] at ei
        omega
    · right
      refine ⟨_, z, ?_⟩
      show (((srt (nums ps)).idxOf _ : Nat) : Int) = k
      rw [ei]
      omega
theorem rank_cmp {ps : List (Str × Int)} (h : ∀ n ∈ nums ps, 0 ≤ n) {n : Int} (hn : n ∈ nums (cmp ps)) : (rank (nums (cmp ps)) n : Int) = n := by
  unfold rank
  have m : n ∈ srt (nums (cmp ps)) := (mem_srt _ _).mpr (.inr hn)
  rw [srt_cmp h] at m ⊢
  obtain ⟨h0, h1⟩ := (mem_upto _ _).mp m
  have e : (upto (srt (nums ps)).length)[n.toNat]? = some n := by
    unfold upto
    rw [List.getElem?_map, List.getElem?_range (by omega)]
    show some ((n.toNat : Nat) : Int) = some n
    rw [Int.toNat_of_nonneg h0]
  rw [idx_at (pw_upto _) e]
  omega
/-- compressing once more changes nothing -/
theorem cmp_cmp {ps : List (Str × Int)} (h : ∀ n ∈ nums ps, 0 ≤ n) : cmp (cmp ps) = cmp ps := by
  have e : ∀ q ∈ cmp ps, ((q.1, (rank (nums (cmp ps)) q.2 : Int)) : Str × Int) = q := fun q hq => by
    have hn : q.2 ∈ nums (cmp ps) := List.mem_map_of_mem hq
    rw [rank_cmp h hn]
  show (cmp ps).map (fun q => (q.1, (rank (nums (cmp ps)) q.2 : Int))) = cmp ps
  conv => rhs; rw [← List.map_id (cmp ps)]
  exact List.map_congr_left e

/-! ### one value more: the mathematics -/
open PySem.W (dataLt alike alikeAll keyToks keyToksAll AllAlike Sortable)
def shiftI (r n : Int) : Int := n + (if decide (r < n) = true then 1 else 0)
def sh (r : Int) (b : List (Str × Int)) : List (Str × Int) := b.map fun q => (q.1, shiftI r q.2)
def wom (b : List (Str × Int)) (k : Str) (j : Nat) : List (Str × Int) :=
  if j % 2 = 0 then b ++ [(k, ((j / 2 : Nat) : Int))] else sh ((j / 2 : Nat) : Int) b ++ [(k, ((j / 2 : Nat) : Int) + 1)]
def exts (ps : List (Str × Int)) (ks : List Str) : List (List (Str × Int)) := ks.flatMap fun k => (List.range (2 * (srt (nums ps)).length)).map fun j => wom (cmp ps) k j
def picD (f : List (Str × Int)) : PyData := .tuple (pds f)
def extD (ps : List (Str × Int)) (ks : List Str) : List PyData := srtD ((exts ps ks).map picD)
theorem shift_up {r n : Int} (h : r < n) : shiftI r n = n + 1 := by
  unfold shiftI
  rw [decide_eq_true h, if_pos rfl]
theorem shift_eq {r n : Int} (h : ¬ r < n) : shiftI r n = n := by
  unfold shiftI
  rw [decide_eq_false h, if_neg (by decide)]
  omega
theorem wom_even {b : List (Str × Int)} {k : Str} {j : Nat} (h : j % 2 = 0) : wom b k j = b ++ [(k, ((j / 2 : Nat) : Int))] := if_pos h
theorem wom_odd {b : List (Str × Int)} {k : Str} {j : Nat} (h : ¬ j % 2 = 0) : wom b k j = sh ((j / 2 : Nat) : Int) b ++ [(k, ((j / 2 : Nat) : Int) + 1)] := if_neg h
theorem nums_app (a b : List (Str × Int)) : nums (a ++ b) = nums a ++ nums b := List.map_append
theorem nums_sh (r : Int) (b : List (Str × Int)) : nums (sh r b) = (nums b).map (shiftI r) := by
  unfold nums sh
  rw [List.map_map, List.map_map]
  rfl
theorem wom_length {b : List (Str × Int)} {k : Str} {j : Nat} : (wom b k j).length = b.length + 1 := by
  unfold wom
  split
  · rw [List.length_append]
    rfl
  · rw [List.length_append]
    unfold sh
    rw [List.length_map]
    rfl
theorem srt_pos (ns : List Int) : 0 < (srt ns).length := List.length_pos_of_mem ((mem_srt 0 ns).mpr (.inl rfl))
/-- 0 and the compressed numbers are those below the number of places -/
theorem base_mem {ps : List (Str × Int)} (h : ∀ n ∈ nums ps, 0 ≤ n) (z : Int) : (z = 0 ∨ z ∈ nums (cmp ps)) ↔ (0 ≤ z ∧ z < ((srt (nums ps)).length : Int)) := by
  rw [← mem_srt, srt_cmp h, mem_upto]
theorem base_mem1 {ps : List (Str × Int)} (h : ∀ n ∈ nums ps, 0 ≤ n) {z : Int} (h0 : 0 < z) (h1 : z < ((srt (nums ps)).length : Int)) : z ∈ nums (cmp ps) :=
  ((base_mem h z).mpr ⟨by omega, h1⟩).elim (fun e => by omega) id
theorem base_lt {ps : List (Str × Int)} (h : ∀ n ∈ nums ps, 0 ≤ n) {z : Int} (m : z ∈ nums (cmp ps)) : 0 ≤ z ∧ z < ((srt (nums ps)).length : Int) := (base_mem h z).mp (.inr m)
/-- numbers without a gap are compressed already -/
theorem cmp_fix {f : List (Str × Int)} {m : Nat} (h : srt (nums f) = upto m) : cmp f = f := by
  have e : ∀ q ∈ f, ((q.1, (rank (nums f) q.2 : Int)) : Str × Int) = q := fun q hq => by
    have hn : q.2 ∈ nums f := List.mem_map_of_mem hq
    have hm : q.2 ∈ srt (nums f) := (mem_srt _ _).mpr (.inr hn)
    unfold rank
    rw [h] at hm ⊢
    obtain ⟨h0, h1⟩ := (mem_upto _ _).mp hm
    have e : (upto m)[q.2.toNat]? = some q.2 := by
      unfold upto
      rw [List.getElem?_map, List.getElem?_range (by omega)]
      show some ((q.2.toNat : Nat) : Int) = some q.2
      rw [Int.toNat_of_nonneg h0]
    rw [idx_at (pw_upto _) e, Int.toNat_of_nonneg h0]
  show f.map (fun q => (q.1, (rank (nums f) q.2 : Int))) = f
  conv => rhs; rw [← List.map_id f]
  exact List.map_congr_left e
theorem cmp_wom {ps : List (Str × Int)} (h : ∀ n ∈ nums ps, 0 ≤ n) {k : Str} {j : Nat} (hj : j < 2 * (srt (nums ps)).length) : cmp (wom (cmp ps) k j) = wom (cmp ps) k j := by
  by_cases c : j % 2 = 0
  · rw [wom_even c]
    refine cmp_fix (m := (srt (nums ps)).length) (rising_eq (pw_srt _) (pw_upto _) fun z => ?_)
    rw [mem_srt, mem_upto, ← base_mem h, nums_app, List.mem_append]
    constructor
    · rintro (e | e | e)
      · exact .inl e
      · exact .inr e
      · have : z = ((j / 2 : Nat) : Int) := List.mem_singleton.mp e
        exact (base_mem h z).mpr (by omega)
    · rintro (e | e)
      · exact .inl e
      · exact .inr (.inl e)
  · rw [wom_odd c]
    refine cmp_fix (m := (srt (nums ps)).length + 1) (rising_eq (pw_srt _) (pw_upto _) fun z => ?_)
    rw [mem_srt, mem_upto, nums_app, List.mem_append, nums_sh]
    constructor
    · rintro (e | e | e)
      · subst e
        have := srt_pos (nums ps)
        omega
      · obtain ⟨n, hn, rfl⟩ := List.mem_map.mp e
        obtain ⟨n0, n1⟩ := base_lt h hn
        by_cases d : ((j / 2 : Nat) : Int) < n
        · rw [shift_up d]
          omega
        · rw [shift_eq d]
          omega
      · have : z = ((j / 2 : Nat) : Int) + 1 := List.mem_singleton.mp e
        omega
    · rintro ⟨h0, h1⟩
      by_cases z0 : z = 0
      · exact .inl z0
      · refine .inr ?_
        by_cases z1 : z = ((j / 2 : Nat) : Int) + 1
        · exact .inr (List.mem_singleton.mpr z1)
        · refine .inl (List.mem_map.mpr ?_)
          by_cases d : z ≤ ((j / 2 : Nat) : Int)
          · exact ⟨z, base_mem1 h (by omega) (by omega), shift_eq (by omega)⟩
          · refine ⟨z - 1, base_mem1 h (by omega) (by omega), ?_⟩
            rw [shift_up (by omega)]
            omega
theorem take_len {α : Type} {a b : List α} {n : Nat} (h : a.length = n) : (a ++ b).take n = a := by
  subst h
  exact List.take_left
/-- without the last value it has the picture of the values -/
theorem cmp_take {ps : List (Str × Int)} (h : ∀ n ∈ nums ps, 0 ≤ n) {k : Str} {j : Nat} (hj : j < 2 * (srt (nums ps)).length) : cmp ((wom (cmp ps) k j).take ps.length) = cmp ps := by
  by_cases c : j % 2 = 0
  · rw [wom_even c, take_len (cmp_length ps)]
    exact cmp_cmp h
  · have hl : (sh ((j / 2 : Nat) : Int) (cmp ps)).length = ps.length := by
      unfold sh
      rw [List.length_map, cmp_length]
    rw [wom_odd c, take_len hl]
    have hs : srt (nums (sh ((j / 2 : Nat) : Int) (cmp ps))) = (upto (srt (nums ps)).length).map (shiftI ((j / 2 : Nat) : Int)) := by
      refine rising_eq (pw_srt _) ?_ fun z => ?_
      · rw [List.pairwise_map]
        refine (pw_upto _).imp fun {a b} hab => ?_
        by_cases d : ((j / 2 : Nat) : Int) < a
        · rw [shift_up d, shift_up (by omega)]
          omega
        · rw [shift_eq d]
          by_cases d' : ((j / 2 : Nat) : Int) < b
          · rw [shift_up d']
            omega
          · rw [shift_eq d']
            exact hab
      · rw [mem_srt, nums_sh]
        constructor
        · rintro (e | e)
          · subst e
            refine List.mem_map.mpr ⟨0, (mem_upto _ _).mpr ?_, shift_eq (by omega)⟩
            have := srt_pos (nums ps)
            omega
          · obtain ⟨n, hn, rfl⟩ := List.mem_map.mp e
            exact List.mem_map.mpr ⟨n, (mem_upto _ _).mpr (base_lt h hn), rfl⟩
        · intro e
          obtain ⟨n, hn, rfl⟩ := List.mem_map.mp e
          rcases (base_mem h n).mpr ((mem_upto _ _).mp hn) with e | e
          · subst e
            exact .inl (shift_eq (by omega))
          · exact .inr (List.mem_map.mpr ⟨n, e, rfl⟩)
    have pw : ((upto (srt (nums ps)).length).map (shiftI ((j / 2 : Nat) : Int))).Pairwise (· < ·) := hs ▸ pw_srt _
    have e : ∀ q ∈ cmp ps, ((q.1, (rank (nums (sh ((j / 2 : Nat) : Int) (cmp ps))) (shiftI ((j / 2 : Nat) : Int) q.2) : Int)) : Str × Int) = q := fun q hq => by
      obtain ⟨h0, h1⟩ := base_lt h (List.mem_map_of_mem (f := Prod.snd) hq)
      unfold rank
      rw [hs]
      have e : ((upto (srt (nums ps)).length).map (shiftI ((j / 2 : Nat) : Int)))[q.2.toNat]? = some (shiftI ((j / 2 : Nat) : Int) q.2) := by
        unfold upto
        rw [List.getElem?_map, List.getElem?_map, List.getElem?_range (by omega)]
        show some (shiftI _ ((q.2.toNat : Nat) : Int)) = _
        rw [Int.toNat_of_nonneg h0]
      rw [idx_at pw e, Int.toNat_of_nonneg h0]
    show (sh ((j / 2 : Nat) : Int) (cmp ps)).map (fun q => (q.1, (rank (nums (sh ((j / 2 : Nat) : Int) (cmp ps))) q.2 : Int))) = cmp ps
    have e2 : (sh ((j / 2 : Nat) : Int) (cmp ps)).map (fun q => (q.1, (rank (nums (sh ((j / 2 : Nat) : Int) (cmp ps))) q.2 : Int))) =
        (cmp ps).map fun q => (q.1, (rank (nums (sh ((j / 2 : Nat) : Int) (cmp ps))) (shiftI ((j / 2 : Nat) : Int) q.2) : Int)) := by
      conv => lhs; arg 2; unfold sh
      rw [List.map_map]
      rfl
    rw [e2]
    conv => rhs; rw [← List.map_id (cmp ps)]
    exact List.map_congr_left e
theorem wom_last {b : List (Str × Int)} {k : Str} {j n : Nat} (h : b.length = n) : ∃ v, (wom b k j)[n]? = some (k, v) := by
  subst h
  by_cases c : j % 2 = 0
  · rw [wom_even c]
    exact ⟨_, by rw [List.getElem?_append_right (Nat.le_refl _), Nat.sub_self]; rfl⟩
  · rw [wom_odd c]
    have hl : (sh ((j / 2 : Nat) : Int) b).length = b.length := by
      unfold sh
      rw [List.length_map]
    exact ⟨_, by rw [List.getElem?_append_right (by omega), hl, Nat.sub_self]; rfl⟩
theorem map_self {α : Type} {s : α → α} : ∀ {l : List α}, l = l.map s → ∀ x ∈ l, s x = x
  | [], _, x, m => nomatch m
  | a :: l, h, x, m => by
    rw [List.map_cons] at h
    obtain ⟨h1, h2⟩ := List.cons.inj h
    rcases List.mem_cons.mp m with e | m
    · rw [e]
      exact h1.symm
    · exact map_self h2 x m
theorem no_mix {ps : List (Str × Int)} (h : ∀ n ∈ nums ps, 0 ≤ n) {k : Str} {i j : Nat} (hi : i < 2 * (srt (nums ps)).length) (ci : i % 2 = 0) (cj : ¬ j % 2 = 0) : wom (cmp ps) k i ≠ wom (cmp ps) k j := fun e => by
  rw [wom_even ci, wom_odd cj] at e
  obtain ⟨e1, e2⟩ := List.append_inj' e rfl
  have e3 : ((i / 2 : Nat) : Int) = ((j / 2 : Nat) : Int) + 1 := (Prod.mk.inj (List.cons.inj e2).1).2
  have m := base_mem1 h (z := ((i / 2 : Nat) : Int)) (by omega) (by omega)
  obtain ⟨q, hq, eq⟩ := List.mem_map.mp m
  have e4 := map_self e1 q hq
  have e5 : shiftI ((j / 2 : Nat) : Int) q.2 = q.2 := congrArg Prod.snd e4
  rw [shift_up (by omega)] at e5
  omega
theorem wom_inj {ps : List (Str × Int)} (h : ∀ n ∈ nums ps, 0 ≤ n) {k : Str} {i j : Nat} (hi : i < 2 * (srt (nums ps)).length) (hj : j < 2 * (srt (nums ps)).length) (e : wom (cmp ps) k i = wom (cmp ps) k j) : i = j := by
  by_cases ci : i % 2 = 0 <;> by_cases cj : j % 2 = 0
  · rw [wom_even ci, wom_even cj] at e
    obtain ⟨_, e2⟩ := List.append_inj' e rfl
    have e3 : ((i / 2 : Nat) : Int) = ((j / 2 : Nat) : Int) := (Prod.mk.inj (List.cons.inj e2).1).2
    omega
  · exact absurd e (no_mix h hi ci cj)
  · exact absurd e.symm (no_mix h hj cj ci)
  · rw [wom_odd ci, wom_odd cj] at e
    obtain ⟨_, e2⟩ := List.append_inj' e rfl
    have e3 : ((i / 2 : Nat) : Int) + 1 = ((j / 2 : Nat) : Int) + 1 := (Prod.mk.inj (List.cons.inj e2).1).2
    omega
theorem exts_mem {ps f : List (Str × Int)} {ks : List Str} : f ∈ exts ps ks ↔ ∃ k ∈ ks, ∃ j, j < 2 * (srt (nums ps)).length ∧ f = wom (cmp ps) k j := by
  unfold exts
  rw [List.mem_flatMap]
  constructor
  · rintro ⟨k, hk, m⟩
    obtain ⟨j, hj, rfl⟩ := List.mem_map.mp m
    exact ⟨k, hk, j, List.mem_range.mp hj, rfl⟩
  · rintro ⟨k, hk, j, hj, rfl⟩
    exact ⟨k, hk, List.mem_map.mpr ⟨j, List.mem_range.mpr hj, rfl⟩⟩
theorem exts_nodup {ps : List (Str × Int)} (h : ∀ n ∈ nums ps, 0 ≤ n) {ks : List Str} (hk : ks.Nodup) : (exts ps ks).Nodup := by
  unfold exts List.Nodup
  rw [List.pairwise_flatMap]
  refine ⟨fun k _ => ?_, hk.imp fun {a b} hab x hx y hy e => ?_⟩
  · rw [List.pairwise_map]
    refine List.Pairwise.imp_of_mem (R := (· < ·)) (fun {i j} hi hj hij e => ?_) List.pairwise_lt_range
    have := wom_inj h (List.mem_range.mp hi) (List.mem_range.mp hj) e
    omega
  · obtain ⟨i, _, rfl⟩ := List.mem_map.mp hx
    obtain ⟨j, _, rfl⟩ := List.mem_map.mp hy
    obtain ⟨v, hv⟩ := wom_last (b := cmp ps) (k := a) (j := i) rfl
    obtain ⟨v', hv'⟩ := wom_last (b := cmp ps) (k := b) (j := j) rfl
    rw [e, hv'] at hv
    exact hab (Prod.mk.inj (Option.some.inj hv)).1.symm
theorem exts_length (ps : List (Str × Int)) : ∀ ks : List Str, (exts ps ks).length = 2 * (srt (nums ps)).length * ks.length
  | [] => by
    rw [List.length_nil, Nat.mul_zero]
    rfl
  | k :: ks => by
    have e : exts ps (k :: ks) = ((List.range (2 * (srt (nums ps)).length)).map fun j => wom (cmp ps) k j) ++ exts ps ks := List.flatMap_cons
    rw [e, List.length_append, List.length_map, List.length_range, exts_length ps ks, List.length_cons, Nat.mul_succ, Nat.add_comm]
theorem toks_pd (q : Str × Int) : keyToks (pd q) = [.inl 1, .inr q.1.cps.toList, .inl 1, .inl q.2, .inl 0] := by
  show keyToks (.tuple [.str q.1, .int q.2]) = _
  simp [keyToks, keyToksAll]
theorem toks_pds : ∀ {a b : List (Str × Int)}, keyToksAll (pds a) = keyToksAll (pds b) → a = b
  | [], [], _ => rfl
  | [], q :: b, h => by
    have h : [Sum.inl 0] = Sum.inl 1 :: (keyToks (pd q) ++ keyToksAll (pds b)) := h
    have := (List.cons.inj h).1
    cases this
  | q :: a, [], h => by
    have h : Sum.inl 1 :: (keyToks (pd q) ++ keyToksAll (pds a)) = [Sum.inl 0] := h
    have := (List.cons.inj h).1
    cases this
  | q :: a, p :: b, h => by
    have h : Sum.inl 1 :: (keyToks (pd q) ++ keyToksAll (pds a)) = Sum.inl 1 :: (keyToks (pd p) ++ keyToksAll (pds b)) := h
    have h := (List.cons.inj h).2
    rw [toks_pd, toks_pd] at h
    obtain ⟨_, h⟩ := List.cons.inj h
    obtain ⟨h1, h⟩ := List.cons.inj h
    obtain ⟨_, h⟩ := List.cons.inj h
    obtain ⟨h2, h⟩ := List.cons.inj h
    obtain ⟨_, h⟩ := List.cons.inj h
    have e1 := PySem.W.str_of_cps (Sum.inr.inj h1)
    have e2 := Sum.inl.inj h2
    have e3 := toks_pds h
    subst e3
    obtain ⟨x, n⟩ := q
    obtain ⟨y, m⟩ := p
    cases e1
    cases e2
    rfl
theorem pic_inj {a b : List (Str × Int)} (e : picD a = picD b) : a = b := by
  have h : keyToks (picD a) = keyToks (picD b) := congrArg keyToks e
  exact toks_pds h
theorem lt_or {a b : List (Str × Int)} (hne : a ≠ b) (h : dataLt (picD b) (picD a) = false) : dataLt (picD a) (picD b) = true := by
  cases e : dataLt (picD a) (picD b) with
  | true => rfl
  | false =>
    have h' : keyToks (picD a) = keyToks (picD b) := PyProof.Rows.lex_total _ _ e h
    exact absurd (toks_pds h') hne
theorem alike_pds : ∀ {a b : List (Str × Int)}, a.length = b.length → alikeAll (pds a) (pds b) = true
  | [], [], _ => by
    show alikeAll [] [] = true
    simp [alikeAll]
  | [], _ :: _, h => by cases h
  | _ :: _, [], h => by cases h
  | q :: a, p :: b, h => by
    have ih := alike_pds (a := a) (b := b) (Nat.succ.inj h)
    have h1 : alike (pd q) (pd p) = true := by
      show alike (.tuple [.str q.1, .int q.2]) (.tuple [.str p.1, .int p.2]) = true
      simp [alike, alikeAll]
    show alikeAll (pd q :: pds a) (pd p :: pds b) = true
    unfold alikeAll
    rw [h1, ih]
    rfl
theorem alike_pic {a b : List (Str × Int)} (h : a.length = b.length) : alike (picD a) (picD b) = true := by
  show alike (.tuple (pds a)) (.tuple (pds b)) = true
  unfold alike
  exact alike_pds h
theorem exts_len {ps f : List (Str × Int)} {ks : List Str} (m : f ∈ exts ps ks) : f.length = ps.length + 1 := by
  obtain ⟨k, _, j, _, rfl⟩ := exts_mem.mp m
  rw [wom_length, cmp_length]
theorem exts_alike (ps : List (Str × Int)) (ks : List Str) : AllAlike ((exts ps ks).map picD) := fun d hd d' hd' => by
  obtain ⟨f, hf, rfl⟩ := List.mem_map.mp hd
  obtain ⟨g, hg, rfl⟩ := List.mem_map.mp hd'
  exact alike_pic (by rw [exts_len hf, exts_len hg])
theorem exts_sortable (ps : List (Str × Int)) (ks : List Str) : Sortable ((exts ps ks).map picD) := .inl fun d hd => by
  obtain ⟨f, hf, rfl⟩ := List.mem_map.mp hd
  have hl := exts_len hf
  cases f with
  | nil => cases hl
  | cons q f => exact ⟨pd q, pds f, rfl⟩
theorem depth_pds : ∀ f : List (Str × Int), PyData.depthAll (pds f) ≤ 1
  | [] => Nat.zero_le _
  | q :: f => Nat.max_le.mpr ⟨Nat.le_refl _, depth_pds f⟩
theorem depth_pic (f : List (Str × Int)) : (picD f).depth ≤ 60 := by
  show PyData.depthAll (pds f) + 1 ≤ 60
  have := depth_pds f
  omega
theorem extD_mem {ps : List (Str × Int)} {ks : List Str} {d : PyData} (m : d ∈ extD ps ks) : ∃ f ∈ exts ps ks, d = picD f := by
  obtain ⟨f, hf, rfl⟩ := List.mem_map.mp ((srtD_perm _).mem_iff.mp m)
  exact ⟨f, hf, rfl⟩
theorem extD_length (ps : List (Str × Int)) (ks : List Str) : (extD ps ks).length = 2 * (srt (nums ps)).length * ks.length := by
  show (srtD _).length = _
  rw [(srtD_perm _).length_eq, List.length_map, exts_length]
theorem extD_strict {ps : List (Str × Int)} (h : ∀ n ∈ nums ps, 0 ≤ n) {ks : List Str} (hk : ks.Nodup) {i : Nat} {a b : PyData} (ha : (extD ps ks)[i]? = some a) (hb : (extD ps ks)[i + 1]? = some b) : dataLt a b = true := by
  obtain ⟨f, hf, rfl⟩ := extD_mem (mem_at ha)
  obtain ⟨g, hg, rfl⟩ := extD_mem (mem_at hb)
  have nd : (extD ps ks).Nodup := (srtD_perm _).nodup_iff.mpr (by
    unfold List.Nodup
    rw [List.pairwise_map]
    exact (exts_nodup h hk).imp fun {a b} hab e => hab (pic_inj e))
  obtain ⟨hi, ei⟩ := List.getElem?_eq_some_iff.mp ha
  obtain ⟨hj, ej⟩ := List.getElem?_eq_some_iff.mp hb
  have p1 := List.pairwise_iff_getElem.mp (srtD_pw ((exts ps ks).map picD)) i (i + 1) hi hj (Nat.lt_succ_self i)
  have p2 := List.pairwise_iff_getElem.mp nd i (i + 1) hi hj (Nat.lt_succ_self i)
  have p1 : dataLt ((extD ps ks)[i + 1]) ((extD ps ks)[i]) = false := p1
  rw [ei, ej] at p1 p2
  exact lt_or (fun e => p2 (by rw [e])) p1
theorem foldl_max_le : ∀ {l : List Int} {n y : Int}, y ≤ n → y ≤ l.foldl max n
  | [], _, _, h => h
  | a :: l, n, y, h => by
    rw [List.foldl_cons]
    exact foldl_max_le (by omega)
theorem foldl_max_ge : ∀ {l : List Int} {n y : Int}, y ∈ l → y ≤ l.foldl max n
  | a :: l, n, y, m => by
    rw [List.foldl_cons]
    rcases List.mem_cons.mp m with e | m
    · exact foldl_max_le (by omega)
    · exact foldl_max_ge m
theorem foldl_max_mem : ∀ (l : List Int) (n : Int), l.foldl max n = n ∨ l.foldl max n ∈ l
  | [], _ => .inl rfl
  | a :: l, n => by
    rw [List.foldl_cons]
    rcases foldl_max_mem l (max n a) with e | m
    · rw [e]
      by_cases c : n ≤ a
      · exact .inr (by rw [show max n a = a by omega]; exact List.mem_cons_self)
      · exact .inl (by omega)
    · exact .inr (List.mem_cons_of_mem _ m)
theorem places_some {ps : List (Str × Int)} (h : ∀ n ∈ nums ps, 0 ≤ n) {n : Int} {r : List Int} (e : nums (cmp ps) = n :: r) : r.foldl max n + 1 = ((srt (nums ps)).length : Int) := by
  have h1 : r.foldl max n ∈ nums (cmp ps) := by
    rw [e]
    rcases foldl_max_mem r n with q | q
    · rw [q]
      exact List.mem_cons_self
    · exact List.mem_cons_of_mem _ q
  obtain ⟨a0, a1⟩ := base_lt h h1
  have hp := srt_pos (nums ps)
  rcases (base_mem h (((srt (nums ps)).length : Int) - 1)).mpr (by omega) with q | q
  · omega
  · rw [e] at q
    rcases List.mem_cons.mp q with q | q
    · have := foldl_max_le (l := r) (n := n) (y := n) (by omega)
      omega
    · have := foldl_max_ge (l := r) (n := n) q
      omega
theorem places_none {ps : List (Str × Int)} (h : ∀ n ∈ nums ps, 0 ≤ n) (e : nums (cmp ps) = []) : (srt (nums ps)).length = 1 := by
  have hp := srt_pos (nums ps)
  rcases Nat.lt_or_ge 1 (srt (nums ps)).length with c | c
  · have := base_mem1 h (z := 1) (by omega) (by omega)
    rw [e] at this
    cases this
  · omega

/-! ### the draws: a dict of four numbers -/
def bagL (d s t r : Int) : List (Key × V) := [(Sum.inr "digits", .int d), (Sum.inr "seed", .int s), (Sum.inr "turn", .int t), (Sum.inr "room", .int r)]
/-- the draws of a cell stand at p, at least n of them are left -/
def BagAt (H : Hp) (p : Addr) (n : Nat) : Prop := ∃ d s t r : Int, H p = some (.dK (bagL d s t r)) ∧ 0 ≤ d ∧ 0 ≤ s ∧ s < 2305843009213693951 ∧ 0 ≤ t ∧ t + n ≤ 80000000000
theorem BagAt.mono {H : Hp} {p : Addr} {n m : Nat} (b : BagAt H p n) (h : m ≤ n) : BagAt H p m := by
  obtain ⟨d, s, t, r, e, h1, h2, h3, h4, h5⟩ := b
  exact ⟨d, s, t, r, e, h1, h2, h3, h4, by omega⟩
theorem BagAt.kp {H H' : Hp} {p : Addr} {n : Nat} {ex : List Addr} (b : BagAt H p n) (k : Kp ex H H') (m : p ∉ ex) : BagAt H' p n := by
  obtain ⟨d, s, t, r, e, h⟩ := b
  exact ⟨d, s, t, r, k _ _ e m, h⟩
theorem BagAt.some {H : Hp} {p : Addr} {n : Nat} (b : BagAt H p n) : ∃ o, H p = Option.some o := by
  obtain ⟨d, s, t, r, e, _⟩ := b
  exact ⟨_, e⟩
theorem bag_d (d s t r : Int) : valV (bagL d s t r) (Sum.inr "digits") = some (.int d) := by
  unfold bagL
  rw [valV_pos rfl]
theorem bag_s (d s t r : Int) : valV (bagL d s t r) (Sum.inr "seed") = some (.int s) := by
  unfold bagL
  rw [valV_neg (show ¬ (Sum.inr ("digits" : Str) : Key) = Sum.inr ("seed" : Str) by decide +kernel), valV_pos rfl]
theorem bag_t (d s t r : Int) : valV (bagL d s t r) (Sum.inr "turn") = some (.int t) := by
  unfold bagL
  rw [valV_neg (show ¬ (Sum.inr ("digits" : Str) : Key) = Sum.inr ("turn" : Str) by decide +kernel), valV_neg (show ¬ (Sum.inr ("seed" : Str) : Key) = Sum.inr ("turn" : Str) by decide +kernel), valV_pos rfl]
theorem bag_d' (d s t r z : Int) : putK (bagL d s t r) (Sum.inr "digits") (.int z) = bagL z s t r := by
  unfold putK bagL
  have e1 : ¬ (("seed" : Str) = "digits") := by decide +kernel
  have e2 : ¬ (("turn" : Str) = "digits") := by decide +kernel
  have e3 : ¬ (("room" : Str) = "digits") := by decide +kernel
  simp [e1, e2, e3]
theorem bag_t' (d s t r z : Int) : putK (bagL d s t r) (Sum.inr "turn") (.int z) = bagL d s z r := by
  unfold putK bagL
  have e1 : ¬ (("seed" : Str) = "turn") := by decide +kernel
  have e2 : ¬ (("digits" : Str) = "turn") := by decide +kernel
  have e3 : ¬ (("room" : Str) = "turn") := by decide +kernel
  simp [e1, e2, e3]
theorem bag_len (d s t r : Int) : (bagL d s t r).length < sizeLine := by
  show 4 < sizeLine
  decide
theorem bag_mk (d s t r : Int) : mergeK [] (bagL d s t r) = bagL d s t r := by
  have e1 : ¬ (("seed" : Str) = "digits") := by decide +kernel
  have e2 : ¬ (("turn" : Str) = "digits") := by decide +kernel
  have e3 : ¬ (("room" : Str) = "digits") := by decide +kernel
  have e4 : ¬ (("turn" : Str) = "seed") := by decide +kernel
  have e5 : ¬ (("room" : Str) = "seed") := by decide +kernel
  have e6 : ¬ (("room" : Str) = "turn") := by decide +kernel
  have f1 : ¬ (("digits" : Str) = "seed") := by decide +kernel
  have f2 : ¬ (("digits" : Str) = "turn") := by decide +kernel
  have f3 : ¬ (("digits" : Str) = "room") := by decide +kernel
  have f4 : ¬ (("seed" : Str) = "turn") := by decide +kernel
  have f5 : ¬ (("seed" : Str) = "room") := by decide +kernel
  have f6 : ¬ (("turn" : Str) = "room") := by decide +kernel
  simp [mergeK, bagL, putK, f1, f2, f3, f4, f5, f6]
/-- _law_bag(script, at): a new bag -/
def sp__law_bag (K : PySem.W.Frag) : Sp := fun vs H Q _ => ∃ (a : Addr) (ns : List Int) (k : Nat), vs = [.ref a, .int (k : Int)] ∧ SqL K H a (ns.map V.int) ∧ k ≤ 1000 ∧
  ∀ p H', H p = none → Kp [] H H' → BagAt H' p 70000000000 → Q (.ref p) H'
/-- _law_take(bag, many): some number from 0 to below many; nothing but the bag changes -/
def sp__law_take : Sp := fun vs H Q _ => ∃ (p : Addr) (n : Nat) (m : Int), vs = [.ref p, .int m] ∧ BagAt H p (n + 1) ∧ 0 < m ∧ m < 2 ^ 200 ∧
  ∀ (r : Int) H', 0 ≤ r → r < m → Kp [p] H H' → BagAt H' p n → Q (.int r) H'
theorem cdivw {i j : Int} (h : 0 < j) (h2 : j < 2 ^ 200) : CDivW i j := wide_div h (by omega : j.natAbs < 2 ^ 200) (by decide) (by decide)
abbrev s__law_take : Stmt := top 7
theorem sc__law_take : FnScope ["_law_bag_here", "_law_many", "_law_digit", "_law_mixed"] ["_law_bag_here", "_law_many"] (defScope s__law_take) :=
  ⟨rfl, rfl, rfl, by decide +kernel, rfl, by decide +kernel, by decide +kernel⟩
theorem ok__law_take {f : Addr} {fd : FuncData} (F : Fun K "_law_take" "_law_take" s__law_take f fd) (T : Txt K mg) :
    FnOk P w K mg base CX0 1 f fd ["_law_bag_here", "_law_many"] (sp__law_take) := by
  refine F.ok sc__law_take (fun vs H Q E h => ?_) (fun cdv A outer s H vs Q E hr h => ?_)
  · obtain ⟨p, n, m, rfl, _⟩ := h
    rfl
  · obtain ⟨p, n, m, rfl, hb, h0, h1, q⟩ := h
    obtain ⟨d, z, t, r, e, b1, b2, b3, b4, b5⟩ := hb
    have hu := hu_of hr
    have hu64 := hr.units
    refine ⟨_, (pss_cons (ps_if (pt_cmpR op_gt (pe_dget hu (pv 0) pe_str (fun _ _ => rfl)) pe_int (nomark _))
          (pss_cons (ps_set (i := 2) sc__law_take.nd rfl (by first | exact Or.inl rfl | exact Or.inr rfl) (pe_op op_modN (pe_callTy cr_int (by rfl) T.z_int (by decide +kernel) (pa_cons (pe_dget hu (pv 0) pe_str (fun _ _ => rfl)) pa_nil)) (pv 1)))
          (pss_cons (ps_dput hu (pv 0) pe_str (pe_op op_fdivW (pe_dget hu (pv 0) pe_str (fun _ _ => rfl)) (pv 1)) rfl)
          (pss_one (ps_ret (pv 2)))))
          pss_nil)
        (pss_cons (ps_dput hu (pv 0) pe_str (pe_op op_add (pe_dget hu (pv 0) pe_str (fun _ _ => rfl)) pe_int) rfl)
        (pss_cons (ps_set (i := 3) sc__law_take.nd rfl (by first | exact Or.inl rfl | exact Or.inr rfl) (pe_op op_modN (pe_callTy cr_int (by rfl) T.z_int (by decide +kernel) (pa_cons (pe_op op_add (pe_op op_pow (pe_op op_add (pe_dget hu (pv 0) pe_str (fun _ _ => rfl)) (pe_op op_mul pe_int (pe_dget hu (pv 0) pe_str (fun _ _ => rfl)))) pe_int) (pe_op op_mul pe_int (pe_dget hu (pv 0) pe_str (fun _ _ => rfl)))) pa_nil)) pe_int))
        (pss_cons (ps_set (i := 3) sc__law_take.nd rfl (by first | exact Or.inl rfl | exact Or.inr rfl) (pe_op op_modN (pe_callTy cr_int (by rfl) T.z_int (by decide +kernel) (pa_cons (pe_op op_pow (pe_op op_add (pv 3) (pe_op op_mul pe_int (pe_dget hu (pv 0) pe_str (fun _ _ => rfl)))) pe_int) pa_nil)) pe_int))
        (pss_one (ps_ret (pe_op op_modN (pe_callTy cr_int (by rfl) T.z_int (by decide +kernel) (pa_cons (pe_op op_fdivW (pv 3) pe_int) pa_nil)) (pv 1)))))))), ?_⟩
    walk_at "S"
    refine r_kDGs e (bag_d _ _ _ _) ?_
    walk_at "S"
    refine r_kIfS (fun c => ?_) (fun c => ?_)
    · walk_at "S"
      refine r_kDGs e (bag_d _ _ _ _) ?_
      walk_at "S"
      refine r_I (by omega) ?_
      walk_at "S"
      refine r_kDGs e (bag_d _ _ _ _) ?_
      walk_at "S"
      refine r_I (cdivw h0 h1) ?_
      walk_at "S"
      refine r_kDPs e (bag_len _ _ _ _) ?_
      walk_at "S"
      rw [bag_d']
      refine q _ _ (Int.fmod_nonneg_of_pos _ h0) (Int.fmod_lt_of_pos _ h0) (Kp.put (by simp)) ⟨_, _, _, _, upd_same, Int.ediv_nonneg b1 (by omega), b2, b3, b4, by omega⟩
    · walk_at "S"
      refine r_kDGs e (bag_t _ _ _ _) ?_
      walk_at "S"
      refine r_kDPs e (bag_len _ _ _ _) ?_
      rw [bag_t']
      have e' : upd H p (.dK (bagL d z (t + 1) r)) p = some (.dK (bagL d z (t + 1) r)) := upd_same
      generalize hH : upd H p (.dK (bagL d z (t + 1) r)) = H1 at e'
      have k1 : Kp [p] H H1 := by
        rw [← hH]
        exact Kp.put (by simp)
      walk_at "S"
      refine r_kDGs e' (bag_s _ _ _ _) ?_
      walk_at "S"
      refine r_kDGs e' (bag_t _ _ _ _) ?_
      walk_at "S"
      refine r_I (.inl (by decide)) ?_
      walk_at "S"
      refine r_I ⟨by decide, by decide, by omega⟩ ?_
      walk_at "S"
      refine r_kDGs e' (bag_t _ _ _ _) ?_
      walk_at "S"
      refine r_I (.inl (by decide)) ?_
      walk_at "S"
      refine r_I (by decide) ?_
      generalize hx : Int.fmod _ 2305843009213693921 = x
      have x0 : 0 ≤ x := hx ▸ Int.fmod_nonneg_of_pos _ (by decide)
      have x1 : x < 2305843009213693921 := hx ▸ Int.fmod_lt_of_pos _ (by decide)
      walk_at "S"
      refine r_kDGs e' (bag_t _ _ _ _) ?_
      walk_at "S"
      refine r_I (.inl (by decide)) ?_
      walk_at "S"
      refine r_I ⟨by decide, by decide, by omega⟩ ?_
      walk_at "S"
      refine r_I (by decide) ?_
      walk_at "S"
      refine r_I (cdivw (by decide) (by decide)) ?_
      walk_at "S"
      refine r_I (by omega) ?_
      exact q _ _ (Int.fmod_nonneg_of_pos _ h0) (Int.fmod_lt_of_pos _ h0) k1 ⟨_, _, _, _, e', b1, b2, b3, by omega, by omega⟩

abbrev s__law_bag : Stmt := top 6
theorem sc__law_bag : FnScope ["_law_script", "_law_at", "_law_cell", "_law_digits"] ["_law_script", "_law_at"] (defScope s__law_bag) :=
  ⟨rfl, rfl, rfl, by decide +kernel, rfl, by decide +kernel, by decide +kernel⟩
theorem ok__law_bag {f : Addr} {fd : FuncData} (F : Fun K "_law_bag" "_law_bag" s__law_bag f fd) (T : Txt K mg) :
    FnOk P w K mg base CX0 1 f fd ["_law_script", "_law_at"] (sp__law_bag K) := by
  refine F.ok sc__law_bag (fun vs H Q E h => ?_) (fun cdv A outer s H vs Q E hr h => ?_)
  · obtain ⟨a, ns, k, rfl, _⟩ := h
    rfl
  · obtain ⟨a, ns, k, rfl, hS, hk, q⟩ := h
    have hu := hu_of hr
    have hu64 := hr.units
    refine ⟨_, (pss_cons (ps_set (i := 2) sc__law_bag.nd rfl (by first | exact Or.inl rfl | exact Or.inr rfl) (pe_ifExp (pt_cmpR op_lt (pv 1) (pe_callB (K_len (K := K) rfl) (by rfl) T.z_len (by decide +kernel) (pa_cons (pv 0) pa_nil)) (nomark _)) (pe_ix (K_ixL (K := K) rfl) (pv 0) (pv 1) (fun _ _ => rfl)) pe_int))
        (pss_cons (ps_set (i := 3) sc__law_bag.nd rfl (by first | exact Or.inl rfl | exact Or.inr rfl) (pe_ifExp (pt_cmpR op_ge (pe_callB cr_abs (by rfl) T.z_abs (by decide +kernel) (pa_cons (pv 2) pa_nil)) (pe_op op_pow pe_int pe_int) (nomark _)) (pe_callB cr_abs (by rfl) T.z_abs (by decide +kernel) (pa_cons (pv 2) pa_nil)) pe_int))
        (pss_one (ps_ret (pe_disp (pps_cons pe_str (pv 3) (pps_cons pe_str (pe_op op_modN (pe_callTy cr_int (by rfl) T.z_int (by decide +kernel) (pa_cons (pv 2) pa_nil)) pe_int) (pps_cons pe_str (pe_op op_mul pe_int (pv 1)) (pps_cons pe_str pe_int pps_nil)))) (by rfl) (by rfl) (fun z => by cases z) (by decide)))))), ?_⟩
    have rest : ∀ c d : Int, 0 ≤ d → ∀ (p : Addr) (H1 : Hp), H p = none → Kp [] H H1 → H1 p = some (.dK []) →
        kDisp Q p ((bagL d (Int.fmod c 2305843009213693951) (31 * (k : Int)) 0).map fun kv => (kV kv.1, kv.2)) H1 := fun c d hd p H1 np k1 e1 => by
      refine r_kDisp e1 (by show 4 ≤ 15; decide) fun H2 k2 e2 => ?_
      rw [bag_mk] at e2
      exact q p H2 np (k1.nil.trans k2 |>.drop np) ⟨_, _, _, _, e2, hd, Int.fmod_nonneg_of_pos _ (by decide), Int.fmod_lt_of_pos _ (by decide), by omega, by omega⟩
    have nn : ∀ c : Int, 0 ≤ (if c < 0 then -c else c) := fun c => by
      split <;> omega
    walk_at "S"
    refine r_lenL hS ?_
    walk_at "S"
    refine r_kIf (fun c => ?_) (fun c => ?_)
    all_goals
      walk_at "S"
    · have c' : (k : Int) < ((ns.map V.int).length : Nat) := of_decide_eq_true c
      obtain ⟨v, hv, hm, _⟩ := atI_in (l := ns.map V.int) (i := (k : Int)) (by omega) c'
      obtain ⟨z, _, rfl⟩ := List.mem_map.mp hm
      refine r_ixL hS hv ?_
      walk_at "S"
      refine r_I ⟨by decide, by decide, by decide⟩ ?_
      walk_at "S"
      refine r_kIf (fun c => ?_) (fun c => ?_)
      all_goals
        walk_at "S"
        refine r_disp fun p H1 np k1 e1 => ?_
        walk_at "S"
        refine r_I (by decide) ?_
        walk_at "S"
        refine r_I (.inl (by decide)) ?_
        walk_at "S"
      · exact rest z _ (nn z) p H1 np k1 e1
      · exact rest z _ (by decide) p H1 np k1 e1
    · refine r_I ⟨by decide, by decide, by decide⟩ ?_
      walk_at "S"
      refine r_kIf (fun c => ?_) (fun c => ?_)
      all_goals
        walk_at "S"
        refine r_disp fun p H1 np k1 e1 => ?_
        walk_at "S"
        refine r_I (by decide) ?_
        walk_at "S"
        refine r_I (.inl (by decide)) ?_
        walk_at "S"
      · exact rest 0 _ (nn 0) p H1 np k1 e1
      · exact rest 0 _ (by decide) p H1 np k1 e1
/-- _law_of(bag, some), some a list: one of its items -/
def sp__law_of (K : PySem.W.Frag) : Sp := fun vs H Q _ => ∃ (p a : Addr) (n : Nat) (xs : List V), vs = [.ref p, .ref a] ∧ BagAt H p (n + 1) ∧ SqL K H a xs ∧ 0 < xs.length ∧ xs.length ≤ 1000000 ∧
  ∀ (v : V) H', v ∈ xs → Kp [p] H H' → BagAt H' p n → Q v H'
theorem sql_bag {H H' : Hp} {p a : Addr} {xs : List V} {n : Nat} (h : SqL K H a xs) (b : BagAt H p n) (k : Kp [p] H H') : SqL K H' a xs := by
  obtain ⟨d, s, t, r, e, _⟩ := b
  exact sql_but h k e (fun _ z => nomatch z) (fun _ _ z => nomatch z)
theorem r_ofS {H : Hp} {Q : VK} {p a : Addr} {n : Nat} {ws : List Str} (hb : BagAt H p (n + 1)) (hS : SqL K H a (ws.map V.str)) (h0 : 0 < ws.length) (h1 : ws.length ≤ 1000000) (q : ∀ (w : Str) H', w ∈ ws → Kp [p] H H' → BagAt H' p n → Q (.str w) H') : sp__law_of K [.ref p, .ref a] H Q E0 :=
  ⟨p, a, n, _, rfl, hb, hS, by rw [List.length_map]; exact h0, by rw [List.length_map]; exact h1, fun v H' m k b => by
    obtain ⟨w, hw, rfl⟩ := List.mem_map.mp m
    exact q w H' hw k b⟩
theorem r_ofI {H : Hp} {Q : VK} {p a : Addr} {n : Nat} {ws : List Int} (hb : BagAt H p (n + 1)) (hS : SqL K H a (ws.map V.int)) (h0 : 0 < ws.length) (h1 : ws.length ≤ 1000000) (q : ∀ (w : Int) H', w ∈ ws → Kp [p] H H' → BagAt H' p n → Q (.int w) H') : sp__law_of K [.ref p, .ref a] H Q E0 :=
  ⟨p, a, n, _, rfl, hb, hS, by rw [List.length_map]; exact h0, by rw [List.length_map]; exact h1, fun v H' m k b => by
    obtain ⟨w, hw, rfl⟩ := List.mem_map.mp m
    exact q w H' hw k b⟩
abbrev s__law_of : Stmt := top 8
theorem sc__law_of : FnScope ["_law_bag_here", "_law_some"] ["_law_bag_here", "_law_some"] (defScope s__law_of) :=
  ⟨rfl, rfl, rfl, by decide +kernel, rfl, by decide +kernel, by decide +kernel⟩
theorem ok__law_of {f : Addr} {fd : FuncData} (F : Fun K "_law_of" "_law_of" s__law_of f fd) (T : Txt K mg) (U__law_take : Use P w K mg base 1 "_law_take" ["_law_bag_here", "_law_many"] (sp__law_take)) :
    FnOk P w K mg base CX0 2 f fd ["_law_bag_here", "_law_some"] (sp__law_of K) := by
  refine F.ok sc__law_of (fun vs H Q E h => ?_) (fun cdv A outer s H vs Q E hr h => ?_)
  · obtain ⟨p, a, n, xs, rfl, _⟩ := h
    rfl
  · obtain ⟨p, a, n, xs, rfl, hb, hS, h0, h1, q⟩ := h
    have hu := hu_of hr
    have hu64 := hr.units
    refine ⟨_, (pss_one (ps_ret (pe_ix (K_ixL (K := K) rfl) (pv 1) (pe_use U__law_take (hr.mono (by first | decide | omega)) (by rfl) (pa_cons (pv 0) (pa_cons (pe_callB (K_len (K := K) rfl) (by rfl) T.z_len (by decide +kernel) (pa_cons (pv 1) pa_nil)) pa_nil))) (fun _ _ => rfl)))), ?_⟩
    walk_at "S"
    refine r_lenL hS ?_
    walk_at "S"
    refine ⟨p, n, _, rfl, hb, by omega, by omega, fun r H1 r0 r1 k1 b1 => ?_⟩
    obtain ⟨v, hv, hm, _⟩ := atI_in (l := xs) r0 r1
    refine r_ixL (sql_bag hS hb k1) hv ?_
    exact q v H1 hm k1 b1

/-! ### names: one to eight letters a to z, none of them reserved -/
def reserved : List Str := ["kind", "def", "set", "ask", "call", "again", "check", "mean", "if", "else", "end", "return", "refuse", "is", "self", "cls"]
def res13 : List Str := ["kind", "def", "set", "ask", "call", "again", "check", "mean", "if", "else", "end", "return", "refuse"]
def res3 : List Str := ["is", "self", "cls"]
theorem reserved_eq : reserved = res13 ++ res3 := rfl
def letters : Str := "abcdefghijklmnopqrstuvwxyz"
def NameOk (w : Str) : Prop := 1 ≤ w.cps.toList.length ∧ w.cps.toList.length ≤ 8 ∧ (∀ c ∈ w.cps.toList, 97 ≤ c ∧ c ≤ 122) ∧ w ∉ reserved
instance (w : Str) : Decidable (NameOk w) := by
  unfold NameOk
  infer_instance
def menu8 : List Str := ["a", "b", "c", "n", "text", "cents", "rest", "whole"]
def qs : List Str := letters.cps.toList.map fun c => ("q" : Str) ++ ⟨#[c]⟩
theorem menu_ok : ∀ w ∈ menu8, NameOk w := by decide +kernel
theorem qs_ok : ∀ w ∈ qs, NameOk w := by decide +kernel
theorem qs_len : qs.length = 26 := by decide +kernel
theorem qs_nd : qs.Nodup := by decide +kernel
theorem letters_len : letters.cps.toList.length = 26 := by decide +kernel
theorem letters_in : ∀ c ∈ letters.cps.toList, 97 ≤ c ∧ c ≤ 122 := by decide +kernel
theorem str_length (z : Str) : z.length = z.cps.toList.length := by
  show z.cps.size = _
  simp
theorem str_app (a b : Str) : (a ++ b).cps.toList = a.cps.toList ++ b.cps.toList := by
  show (a.cps ++ b.cps).toList = _
  simp
theorem nodup_le {α : Type} [DecidableEq α] : ∀ {l m : List α}, l.Nodup → (∀ x ∈ l, x ∈ m) → l.length ≤ m.length
  | [], _, _, _ => Nat.zero_le _
  | x :: l, m, h, s => by
    have hx := List.nodup_cons.mp h
    have ih := nodup_le (l := l) (m := m.erase x) hx.2 fun y hy => by
      have n : y ≠ x := fun e => hx.1 (e ▸ hy)
      exact (List.mem_erase_of_ne n).mpr (s y (List.mem_cons_of_mem _ hy))
    have mx := s x List.mem_cons_self
    rw [List.length_erase_of_mem mx] at ih
    have : 0 < m.length := List.length_pos_of_mem mx
    rw [List.length_cons]
    omega
/-- among the 26 words one is not taken -/
theorem qs_left {ws : List Str} (h : ws.length ≤ 25) : (qs.filter fun w => decide (w ∉ ws)) ≠ [] := by
  intro e
  have all : ∀ w ∈ qs, w ∈ ws := fun w hw => by
    by_cases c : w ∈ ws
    · exact c
    · have m : w ∈ qs.filter fun w => decide (w ∉ ws) := List.mem_filter.mpr ⟨hw, decide_eq_true c⟩
      rw [e] at m
      cases m
  have := nodup_le qs_nd all
  rw [qs_len] at this
  omega
/-- _law_name(bag, taken), taken a list of at most 25 texts: a name that is none of them -/
def sp__law_name (K : PySem.W.Frag) : Sp := fun vs H Q _ => ∃ (p a : Addr) (n : Nat) (ws : List Str), vs = [.ref p, .ref a] ∧ BagAt H p (n + 12) ∧ SqL K H a (ws.map V.str) ∧ ws.length ≤ 25 ∧
  ∀ (w : Str) H', NameOk w → w ∉ ws → Kp [p] H H' → BagAt H' p n → Q (.str w) H'
abbrev s__law_name : Stmt := top 9
theorem sc__law_name : FnScope ["_law_bag_here", "_law_taken", "_law_letters", "_law_word", "_law_k", "_law_reserved", "_law_letter", "_law_one"] ["_law_bag_here", "_law_taken"] (defScope s__law_name) :=
  ⟨rfl, rfl, rfl, by decide +kernel, rfl, by decide +kernel, by decide +kernel⟩
theorem ok__law_name {f : Addr} {fd : FuncData} (F : Fun K "_law_name" "_law_name" s__law_name f fd) (T : Txt K mg) (U__law_take : Use P w K mg base 1 "_law_take" ["_law_bag_here", "_law_many"] (sp__law_take)) (U__law_of : Use P w K mg base 2 "_law_of" ["_law_bag_here", "_law_some"] (sp__law_of K)) :
    FnOk P w K mg base CX0 3 f fd ["_law_bag_here", "_law_taken"] (sp__law_name K) := by
  refine F.ok sc__law_name (fun vs H Q E h => ?_) (fun cdv A outer s H vs Q E hr h => ?_)
  · obtain ⟨p, a, n, ws, rfl, _⟩ := h
    rfl
  · obtain ⟨p, a, n, ws, rfl, hb, hS, hw, q⟩ := h
    have hu := hu_of hr
    have hu64 := hr.units
    refine ⟨_, (pss_cons (ps_set (i := 2) sc__law_name.nd rfl (by first | exact Or.inl rfl | exact Or.inr rfl) pe_str)
        (pss_cons (ps_set (i := 3) sc__law_name.nd rfl (by first | exact Or.inl rfl | exact Or.inr rfl) (pe_use U__law_of (hr.mono (by first | decide | omega)) (by rfl) (pa_cons (pv 0) (pa_cons (pe_lst (pa_cons pe_str (pa_cons pe_str (pa_cons pe_str (pa_cons pe_str (pa_cons pe_str (pa_cons pe_str (pa_cons pe_str (pa_cons pe_str pa_nil))))))))) pa_nil))))
        (pss_cutS (ps_if (pt_cmpR op_eq (pe_use U__law_take (hr.mono (by first | decide | omega)) (by rfl) (pa_cons (pv 0) (pa_cons pe_int pa_nil))) pe_int (nomark _))
          (pss_cons (ps_set (i := 3) sc__law_name.nd rfl (by first | exact Or.inl rfl | exact Or.inr rfl) pe_str)
          (pss_one (ps_for PassesOwn.never (by rfl) (pi_range1 (by rfl) T.z_range (pa_cons (pe_op op_add pe_int (pe_use U__law_take (hr.mono (by first | decide | omega)) (by rfl) (pa_cons (pv 0) (pa_cons pe_int pa_nil)))) pa_nil)) (pg_name (i := 4) sc__law_name.nd rfl (by first | exact Or.inl rfl | exact Or.inr rfl))
            (pss_one (ps_set (i := 3) sc__law_name.nd rfl (by first | exact Or.inl rfl | exact Or.inr rfl) (pe_op op_addT (pv 3) (pe_ix ix_str (pv 2) (pe_use U__law_take (hr.mono (by first | decide | omega)) (by rfl) (pa_cons (pv 0) (pa_cons pe_int pa_nil))) (fun _ _ => rfl))))))))
          pss_nil)
        (pss_cons (ps_set (i := 5) sc__law_name.nd rfl (by first | exact Or.inl rfl | exact Or.inr rfl) (pe_lst (pa_cons pe_str (pa_cons pe_str (pa_cons pe_str (pa_cons pe_str (pa_cons pe_str (pa_cons pe_str (pa_cons pe_str (pa_cons pe_str (pa_cons pe_str (pa_cons pe_str (pa_cons pe_str (pa_cons pe_str (pa_cons pe_str pa_nil)))))))))))))))
        (pss_cons (ps_if (pt_cutT (PW.pt (pw_or (pt_cmpR (K_in (K := K) rfl) (pv 3) (pv 5) (by with_unfolding_all rfl)) (pw_or (pt_cmpR (K_in (K := K) rfl) (pv 3) (pe_lst (pa_cons pe_str (pa_cons pe_str (pa_cons pe_str pa_nil)))) (by with_unfolding_all rfl)) (pw_or1 (pt_cmpR (K_in (K := K) rfl) (pv 3) (pv 1) (by with_unfolding_all rfl)))))))
          (pss_one (ps_ret (pe_ix (K_ixL (K := K) rfl) (pe_lc (own := [("_law_one", 7)]) (by rfl) sc__law_name.nd (K_pil (K := K) rfl (pe_lc (own := [("_law_letter", 6)]) (by rfl) sc__law_name.nd (pi_str (pv 2)) (blkOk_by (own := [("_law_letter", 6)]) (N := ["_law_bag_here", "_law_taken", "_law_letters", "_law_word", "_law_k", "_law_reserved", "_law_letter", "_law_one"]) (sc := defScope s__law_name) (by decide +kernel)) (fun _ _ _ _ _ => (pg_name (i := 6) sc__law_name.nd rfl (by first | exact Or.inl rfl | exact Or.inr rfl))) (fun _ _ _ _ _ => pts_nil) (fun _ _ _ _ _ => (pe_op op_addT pe_str (pv 6))))) (blkOk_by (own := [("_law_one", 7)]) (N := ["_law_bag_here", "_law_taken", "_law_letters", "_law_word", "_law_k", "_law_reserved", "_law_letter", "_law_one"]) (sc := defScope s__law_name) (by decide +kernel)) (fun _ _ _ _ _ => (pg_name (i := 7) sc__law_name.nd rfl (by first | exact Or.inl rfl | exact Or.inr rfl))) (fun _ _ _ _ _ => pts_one (pt_cmpR (K_notIn (K := K) rfl) (pv 7) (pv 1) (by with_unfolding_all rfl))) (fun _ _ _ _ _ => (pv 7))) pe_int (fun _ _ => rfl))))
          pss_nil)
        (pss_one (ps_ret (pv 3)))))))), ?_⟩
    walk_at "S"
    refine r_kLst (by show 8 ≤ sizeLine; decide) fun l1 H1 n1 k1 e1 => ?_
    walk_at "S"
    refine r_ofS (n := n + 11) (ws := menu8) (hb.kp k1 not_nil) (SqL.of e1) (by decide) (by decide) fun w0 H2 m0 k2 b2 => ?_
    have w0ok := menu_ok w0 m0
    have k02 : Kp [p] H H2 := (k1.nil).trans k2
    walk_at "S"
    refine r_cutS (fun σ' H' => ∃ (w1 : Str) (v : Option V), σ' = [some (.ref p), some (.ref a), some (.str letters), some (.str w1), v, none, none, none] ∧
      (1 ≤ w1.cps.toList.length ∧ w1.cps.toList.length ≤ 8 ∧ ∀ c ∈ w1.cps.toList, 97 ≤ c ∧ c ≤ 122) ∧ Kp [p] H H' ∧ BagAt H' p n) ?_ ?_
    · walk_at "S"
      refine ⟨p, n + 10, 2, rfl, b2, by decide, by decide, fun r H3 r0 r1 k3 b3 => ?_⟩
      have k03 : Kp [p] H H3 := k02.trans k3
      walk_at "S"
      refine r_kIfS (fun c => ?_) (fun c => ?_)
      all_goals
        walk_at "S"
      · refine ⟨p, n + 9, 8, rfl, b3, by decide, by decide, fun m H4 m0 m1 k4 b4 => ?_⟩
        have k04 : Kp [p] H H4 := k03.trans k4
        walk_at "S"
        refine r_cRng1 ⟨by omega, by omega⟩ ?_
        refine r_kForR (fun i σ' H' => ∃ (w1 : Str) (v : Option V), σ' = [some (.ref p), some (.ref a), some (.str letters), some (.str w1), v, none, none, none] ∧
          (w1.cps.toList.length = i ∧ ∀ c ∈ w1.cps.toList, 97 ≤ c ∧ c ≤ 122) ∧ Kp [p] H H' ∧ BagAt H' p (n + (9 - i))) ⟨"", none, rfl, ⟨rfl, fun c hc => by cases hc⟩, k04, b4⟩ ?_ ?_
        · rintro i σ' H5 hi ⟨w1, v, rfl, ⟨hl, hc⟩, k5, b5⟩
          have hi8 : i < 8 := by omega
          walk_at "S"
          refine ⟨p, n + (9 - (i + 1)), 26, rfl, b5.mono (by omega), by decide, by decide, fun g H6 g0 g1 k6 b6 => ?_⟩
          obtain ⟨d, hd, hm, _⟩ := atI_in (l := letters.cps.toList) (i := g) g0 (by rw [letters_len]; exact g1)
          refine r_ixS (by decide +kernel) hd ?_
          refine r_addT ?_ ?_
          · rw [str_length, str_length, hl]
            show i + 1 ≤ sizeLine
            have : 9 ≤ sizeLine := by decide
            omega
          walk_at "S"
          refine ⟨_, _, rfl, ⟨?_, fun c hc' => ?_⟩, k5.trans k6, b6⟩
          · rw [str_app, List.length_append, hl]
            rfl
          · rw [str_app] at hc'
            rcases List.mem_append.mp hc' with z | z
            · exact hc c z
            · obtain rfl := List.mem_singleton.mp z
              exact letters_in _ hm
        · rintro σ' H5 ⟨w1, v, rfl, ⟨hl, hc⟩, k5, b5⟩
          exact ⟨w1, v, rfl, ⟨by omega, by omega, hc⟩, k5, b5.mono (by omega)⟩
      · exact ⟨w0, none, rfl, ⟨w0ok.1, w0ok.2.1, w0ok.2.2.1⟩, k03, b3.mono (by omega)⟩
    rintro σ' H4 ⟨w1, v, rfl, ⟨hl1, hl8, hc⟩, k4, b4⟩
    walk_at "S"
    refine r_kLst (by show 13 ≤ sizeLine; decide) fun l2 H5 n5 k5 e5 => ?_
    have k05 : Kp [p] H H5 := k4.trans k5.nil
    walk_at "S"
    have hS5 : SqL K H5 a (ws.map V.str) := sql_bag hS hb k05
    refine r_cutT (fun b H' => Kp [p] H H' ∧ BagAt H' p n ∧ b = decide (w1 ∈ reserved ∨ w1 ∈ ws)) ?_ ?_
    · walk_at "S"
      refine r_inL (ws := res13) (SqL.of e5) ?_
      walk_at "S"
      refine r_kOr (fun c => ?_) (fun c => ?_)
      · refine ⟨k05, b4.kp k5 not_nil, ?_⟩
        have c' : w1 ∈ res13 := of_decide_eq_true c
        exact (decide_eq_true (.inl (by rw [reserved_eq]; exact List.mem_append_left _ c'))).symm
      have c1 : w1 ∉ res13 := of_decide_eq_false c
      walk_at "S"
      refine r_kLst (by show 3 ≤ sizeLine; decide) fun l3 H6 n6 k6 e6 => ?_
      walk_at "S"
      have k06 : Kp [p] H H6 := k05.trans k6.nil
      have b6 : BagAt H6 p n := (b4.kp k5 not_nil).kp k6 not_nil
      refine r_inL (ws := res3) (SqL.of e6) ?_
      walk_at "S"
      refine r_kOr (fun c => ?_) (fun c => ?_)
      · refine ⟨k06, b6, ?_⟩
        have c' : w1 ∈ res3 := of_decide_eq_true c
        exact (decide_eq_true (.inl (by rw [reserved_eq]; exact List.mem_append_right _ c'))).symm
      have c2 : w1 ∉ res3 := of_decide_eq_false c
      have c3 : w1 ∉ reserved := fun m => by
        rw [reserved_eq] at m
        exact (List.mem_append.mp m).elim c1 c2
      walk_at "S"
      refine r_inL (sql_bag hS hb k06) ?_
      walk_at "S"
      refine ⟨k06, b6, ?_⟩
      by_cases c : w1 ∈ ws
      · rw [decide_eq_true c, decide_eq_true (.inr c)]
      · rw [decide_eq_false c, decide_eq_false fun z => z.elim c3 c]
    · rintro b H' ⟨k6, b6, rfl⟩
      refine r_kIfS (fun c => ?_) (fun c => ?_)
      all_goals
        walk_at "S"
      · have hS6 : SqL K H' a (ws.map V.str) := sql_bag hS hb k6
        refine r_kLcS (fun D i acc H2 => Kp [] H' H2 ∧ acc = ((letters.cps.toList.take i).map fun c => ("q" : Str) ++ ⟨#[c]⟩).map V.str) (fun D H2 nD k7 e7 => ⟨k7, rfl⟩) ?_ ?_
        · rintro D i acc d H2 nD hd eD ⟨k7, rfl⟩
          walk_at "S"
          refine r_addT ?_ ?_
          · show 1 + 1 ≤ sizeLine
            decide
          refine r_kApp eD ?_ fun H3 k8 e8 => ⟨k7.step nD k8, ?_⟩
          · rw [List.length_map, List.length_map, List.length_take]
            have : 26 < sizeLine := by decide
            rw [letters_len]
            omega
          · rw [take_map _ hd, List.map_append]
            rfl
        · rintro D acc H2 nD eD ⟨k7, rfl⟩
          rw [List.take_length] at eD
          have eD : H2 D = some (.lst (qs.map V.str)) := eD
          have hS7 : SqL K H2 a (ws.map V.str) := sql_kp hS6 k7 not_nil
          refine r_cWL (SqL.of eD) ?_
          refine r_kLcL (fun E i acc H3 => Kp [] H2 H3 ∧ acc = ((qs.take i).filter fun w => decide (w ∉ ws)).map V.str) (fun E H3 nE k8 e8 => ⟨k8, rfl⟩) (fun E i acc H3 _ h => sql_kp (SqL.of eD) h.1 not_nil) ?_ ?_
          · rintro E i acc x H3 nE hx eE ⟨k8, rfl⟩
            obtain ⟨u, hu', rfl⟩ := map_at hx
            walk_at "S"
            refine r_notInL (sql_kp hS7 k8 not_nil) ?_
            walk_at "S"
            have ht := take_filter (fun w => decide (w ∉ ws)) hu'
            refine r_kKeep (fun c => ?_) (fun c => ?_)
            · walk_at "S"
              refine r_kApp eE ?_ fun H4 k9 e9 => ⟨k8.step nE k9, ?_⟩
              · rw [List.length_map]
                have h1 : ((qs.take i).filter fun w => decide (w ∉ ws)).length ≤ (qs.take i).length := List.length_filter_le _ _
                have h2 : (qs.take i).length ≤ qs.length := by
                  rw [List.length_take]
                  omega
                rw [qs_len] at h2
                have : 26 < sizeLine := by decide
                omega
              · have c' : decide (u ∉ ws) = true := by simpa using c
                rw [ht, if_pos c', List.map_append]
                rfl
            · have c' : ¬ decide (u ∉ ws) = true := by simpa using c
              exact ⟨_, eE, k8, by rw [ht, if_neg c', List.append_nil]⟩
          · rintro E acc H3 nE eE ⟨k8, rfl⟩
            rw [List.length_map, List.take_length] at eE
            walk_at "S"
            cases hf : qs.filter fun w => decide (w ∉ ws) with
            | nil => exact absurd hf (qs_left hw)
            | cons z zs =>
              have hz : z ∈ qs.filter fun w => decide (w ∉ ws) := by
                rw [hf]
                exact List.mem_cons_self
              obtain ⟨hq, hn⟩ := List.mem_filter.mp hz
              rw [hf] at eE
              refine r_ixL (SqL.of eE) (v := .str z) (atI_nat (j := 0) rfl) ?_
              exact q z H3 (qs_ok z hq) (of_decide_eq_true hn) (k6.trans (k7.trans k8).nil) ((b6.kp k7 not_nil).kp k8 not_nil)
      · have c' : ¬ (w1 ∈ reserved ∨ w1 ∈ ws) := of_decide_eq_false c
        exact q w1 H' ⟨hl1, hl8, hc, fun m => c' (.inl m)⟩ (fun m => c' (.inr m)) k6 b6

/-! ### ranks, compressed -/
def sp_ranks (K : PySem.W.Frag) : Sp := fun vs H Q _ => ∃ (a : Addr) (ns : List Int), vs = [.ref a] ∧ SqL K H a (ns.map V.int) ∧ ns.length ≤ 60 ∧
  ∀ (r : Addr) (H' : Hp) (kvs : List (Key × V)), H r = none → Kp [] H H' → H' r = some (.dK kvs) → (∀ n ∈ srt ns, valV kvs (Sum.inl n) = some (.int (rank ns n : Int))) → Q (.ref r) H'
abbrev s_ranks : Stmt := top 1
theorem sc_ranks : FnScope ["numbers", "rank", "number"] ["numbers"] (defScope s_ranks) :=
  ⟨rfl, rfl, rfl, by decide +kernel, rfl, by decide +kernel, by decide +kernel⟩
theorem ok_ranks {f : Addr} {fd : FuncData} (F : Fun K "ranks" "ranks" s_ranks f fd) (T : Txt K mg) :
    FnOk P w K mg base CX0 1 f fd ["numbers"] (sp_ranks K) := by
  refine F.ok sc_ranks (fun vs H Q E h => ?_) (fun cdv A outer s H vs Q E hr h => ?_)
  · obtain ⟨a, ns, rfl, _⟩ := h
    rfl
  · obtain ⟨a, ns, rfl, hS, hl, q⟩ := h
    have hu := hu_of hr
    have hu64 := hr.units
    refine ⟨_, (pss_one (ps_ret (pe_dc (own := [("rank", 1), ("number", 2)]) (by rfl) sc_ranks.nd (K_enum (K := K) rfl (by rfl) T.z_enumerate (pa_cons (pe_callB (cr_sortedSet rfl) (by rfl) T.z_sorted (by decide +kernel) (pa_cons (pe_callTy (K_setI (K := K) (w := w) rfl rfl rfl) (by rfl) T.z_set (by decide +kernel) (pa_cons (pe_op op_cat (pe_lst (pa_cons pe_int pa_nil)) (pe_callTy (K_list (K := K) rfl) (by rfl) T.z_list (by decide +kernel) (pa_cons (pv 0) pa_nil))) pa_nil)) pa_nil)) pa_nil)) (blkOk_by (own := [("rank", 1), ("number", 2)]) (N := ["numbers", "rank", "number"]) (sc := defScope s_ranks) (by decide +kernel)) (fun _ _ _ _ _ => (K_gtup (K := K) (n := 2) rfl (by rfl) (pgs_cons (pg_name (i := 1) sc_ranks.nd rfl (by first | exact Or.inl rfl | exact Or.inr rfl)) (pgs_cons (pg_name (i := 2) sc_ranks.nd rfl (by first | exact Or.inl rfl | exact Or.inr rfl)) pgs_nil)))) (fun _ _ _ _ _ => pts_nil) (fun _ _ _ _ _ => (pv 2)) (fun _ _ _ _ _ => (pv 1))))), ?_⟩
    walk_at "S"
    refine r_kLst (by show 1 ≤ sizeLine; decide) fun l1 H1 n1 k1 e1 => ?_
    walk_at "S"
    refine r_listL (k1.sql hS) fun l2 H2 n2 k2 e2 => ?_
    walk_at "S"
    refine ⟨l1, l2, _, _, rfl, rfl, k2 _ _ e1 not_nil, e2, ?_, fun l3 n3 => ?_⟩
    · rw [List.length_map]
      show 1 + ns.length ≤ sizeLine
      have : 61 ≤ sizeLine := by decide
      omega
    have e3 : upd H2 l3 (.lst ([V.int 0] ++ ns.map V.int)) l3 = some (.lst ((0 :: ns).map V.int)) := upd_same
    have k3 : Kp [] H2 (upd H2 l3 (.lst ([V.int 0] ++ ns.map V.int))) := Kp.new n3
    generalize upd H2 l3 (.lst ([V.int 0] ++ ns.map V.int)) = H3 at e3 k3
    walk_at "S"
    refine ⟨l3, 0 :: ns, rfl, SqL.of e3, by rw [List.length_cons]; omega, fun l4 c n4 hc => ?_⟩
    have e4 : upd H3 l4 (SetO w l4 (fun j => decide (j ∈ 0 :: ns)) c) l4 = some (SetO w l4 (fun j => decide (j ∈ 0 :: ns)) c) := upd_same
    have k4 : Kp [] H3 (upd H3 l4 (SetO w l4 (fun j => decide (j ∈ 0 :: ns)) c)) := Kp.new n4
    generalize upd H3 l4 (SetO w l4 (fun j => decide (j ∈ 0 :: ns)) c) = H4 at e4 k4
    walk_at "S"
    refine ⟨l4, _, c, rfl, e4, by rw [List.length_cons] at hc; omega, fun ss l5 pw mem len n5 => ?_⟩
    have ess : ss = srt ns := rising_eq pw (pw_srt ns) fun k => by
      rw [mem, mem_srt]
      simp
    subst ess
    have e5 : upd H4 l5 (.lst ((srt ns).map V.int)) l5 = some (.lst ((srt ns).map V.int)) := upd_same
    have k5 : Kp [] H4 (upd H4 l5 (.lst ((srt ns).map V.int))) := Kp.new n5
    generalize upd H4 l5 (.lst ((srt ns).map V.int)) = H5 at e5 k5
    have k05 : Kp [] H H5 := k1.trans (k2.trans (k3.trans (k4.trans k5)))
    walk_at "S"
    refine r_cEnum (SqL.of e5) ?_
    refine r_kDc walk_enum (fun D i kvs H' => Kp [] H5 H' ∧ kvs.length ≤ i ∧ ∀ j n, j < i → (srt ns)[j]? = some n → valV kvs (Sum.inl n) = some (.int (j : Int))) (fun D H' nD k e => ⟨k, Nat.zero_le _, fun j n hj => absurd hj (Nat.not_lt_zero _)⟩) (fun D i acc H' _ h => sql_kp (SqL.of e5) h.1 not_nil) ?_ ?_
    · rintro D i kvs x H' H'' nD hi eD ⟨k6, hlen, hv⟩ ⟨t, u, v, rfl, nt, rfl, hu, hx⟩
      obtain ⟨n, hn, rfl⟩ := map_at hx
      cases hu
      have e6 : upd H' t (.tup [.int (i : Int), .int n]) t = some (.tup [.int (i : Int), .int n]) := upd_same
      have k7 : Kp [] H' (upd H' t (.tup [.int (i : Int), .int n])) := Kp.new nt
      generalize upd H' t (.tup [.int (i : Int), .int n]) = H6 at e6 k7
      refine r_gtup (SqT.of e6) rfl ?_
      walk_at "S"
      refine r_kPut (k := Sum.inl n) rfl (k7 _ _ eD not_nil) ?_ fun H7 k8 e8 => ⟨(k6.trans k7).step nD k8, ?_, fun j m hj hm => ?_⟩
      · rw [List.length_map] at hi
        have h1 := len_srt ns
        have : 62 < sizeLine := by decide
        omega
      · by_cases c : valV kvs (Sum.inl n : Key) = none
        · rw [putK_new _ c, List.length_append]
          show kvs.length + 1 ≤ i + 1
          omega
        · have : (putK kvs (Sum.inl n : Key) (V.int (i : Int))).length = kvs.length := by
            unfold putK
            have hs : (kvs.any fun kv => decide (kv.1 = (Sum.inl n : Key))) = true := by
              rw [valV_any]
              cases e : valV kvs (Sum.inl n : Key) with
              | none => exact absurd e c
              | some _ => rfl
            rw [if_pos hs, List.length_map]
          omega
      · rw [valV_put]
        by_cases c : m = n
        · subst c
          have e1 := idx_at (pw_srt ns) hm
          have e2 := idx_at (pw_srt ns) hn
          rw [if_pos rfl, ← e1, ← e2]
        · have c' : ¬ (Sum.inl m : Key) = Sum.inl n := fun z => c (Sum.inl.inj z)
          rw [if_neg c']
          rcases Nat.lt_or_eq_of_le (Nat.le_of_lt_succ hj) with z | z
          · exact hv j m z hm
          · subst z
            rw [hm] at hn
            exact absurd (Option.some.inj hn) c
    · rintro D kvs H' nD eD ⟨k6, hlen, hv⟩
      refine q D H' kvs (k05.free nD not_nil) (k05.trans k6) eD fun n hn => ?_
      have e := at_idx hn
      exact hv _ n (by rw [List.length_map]; exact List.idxOf_lt_length_of_mem hn) e
/-- compressed(values): a new tuple, the picture -/
def sp_compressed (K : PySem.W.Frag) : Sp := fun vs H Q _ => ∃ (a : Addr) (xs : List V) (ps : List (Str × Int)), vs = [.ref a] ∧ Sq K H a xs ∧ DtAll [] H xs (pds ps) ∧ ps.length ≤ 50 ∧
  ∀ (r : Addr) (H' : Hp), H r = none → Kp [] H H' → Dt [] H' (.ref r) (.tuple (pds (cmp ps))) → Q (.ref r) H'
theorem pds_at {ps : List (Str × Int)} {i : Nat} {d : PyData} (h : (pds ps)[i]? = some d) : ∃ k n, ps[i]? = some (k, n) ∧ d = .tuple [.str k, .int n] := by
  obtain ⟨⟨k, n⟩, e, rfl⟩ := map_at h
  exact ⟨k, n, e, rfl⟩
/-- one of such values -/
theorem pds_get {ex : List Addr} {H : Hp} {xs : List V} {ps : List (Str × Int)} {i : Nat} {x : V} (h : DtAll ex H xs (pds ps)) (e : xs[i]? = some x) : ∃ k n t, ps[i]? = some (k, n) ∧ x = .ref t ∧ t ∉ ex ∧ H t = some (.tup [.str k, .int n]) := by
  obtain ⟨d, hd, hx⟩ := h.at e
  obtain ⟨k, n, hp, rfl⟩ := pds_at hd
  obtain ⟨t, rfl, m, et⟩ := hx.pair
  exact ⟨k, n, t, hp, rfl, m, et⟩
abbrev s_compressed : Stmt := top 2
theorem sc_compressed : FnScope ["values", "kind", "number", "places"] ["values"] (defScope s_compressed) :=
  ⟨rfl, rfl, rfl, by decide +kernel, rfl, by decide +kernel, by decide +kernel⟩
theorem ok_compressed {f : Addr} {fd : FuncData} (F : Fun K "compressed" "compressed" s_compressed f fd) (T : Txt K mg) (U_ranks : Use P w K mg base 1 "ranks" ["numbers"] (sp_ranks K)) :
    FnOk P w K mg base CX0 2 f fd ["values"] (sp_compressed K) := by
  refine F.ok sc_compressed (fun vs H Q E h => ?_) (fun cdv A outer s H vs Q E hr h => ?_)
  · obtain ⟨a, xs, ps, rfl, _⟩ := h
    rfl
  · obtain ⟨a, xs, ps, rfl, hS, hD, hl, q⟩ := h
    have hu := hu_of hr
    have hu64 := hr.units
    refine ⟨_, (pss_cons (ps_set (i := 3) sc_compressed.nd rfl (by first | exact Or.inl rfl | exact Or.inr rfl) (pe_use U_ranks (hr.mono (by first | decide | omega)) (by rfl) (pa_cons (pe_lc (own := [("kind", 1), ("number", 2)]) (by rfl) sc_compressed.nd (K_pis (K := K) rfl (pv 0)) (blkOk_by (own := [("kind", 1), ("number", 2)]) (N := ["values", "kind", "number", "places"]) (sc := defScope s_compressed) (by decide +kernel)) (fun _ _ _ _ _ => (K_gtup (K := K) (n := 2) rfl (by rfl) (pgs_cons (pg_name (i := 1) sc_compressed.nd rfl (by first | exact Or.inl rfl | exact Or.inr rfl)) (pgs_cons (pg_name (i := 2) sc_compressed.nd rfl (by first | exact Or.inl rfl | exact Or.inr rfl)) pgs_nil)))) (fun _ _ _ _ _ => pts_nil) (fun _ _ _ _ _ => (pv 2))) pa_nil)))
        (pss_one (ps_ret (pe_callTy (K_tuple (K := K) rfl) (by rfl) T.z_tuple (by decide +kernel) (pa_cons (pe_lc (own := [("kind", 1), ("number", 2)]) (by rfl) sc_compressed.nd (K_pis (K := K) rfl (pv 0)) (blkOk_by (own := [("kind", 1), ("number", 2)]) (N := ["values", "kind", "number", "places"]) (sc := defScope s_compressed) (by decide +kernel)) (fun _ _ _ _ _ => (K_gtup (K := K) (n := 2) rfl (by rfl) (pgs_cons (pg_name (i := 1) sc_compressed.nd rfl (by first | exact Or.inl rfl | exact Or.inr rfl)) (pgs_cons (pg_name (i := 2) sc_compressed.nd rfl (by first | exact Or.inl rfl | exact Or.inr rfl)) pgs_nil)))) (fun _ _ _ _ _ => pts_nil) (fun _ _ _ _ _ => (pe_tup (pa_cons (pv 1) (pa_cons (pe_dget hu (pv 3) (pv 2) (fun _ _ => rfl)) pa_nil))))) pa_nil))))), ?_⟩
    have hlen : xs.length = ps.length := by
      rw [hD.length]
      exact List.length_map _
    walk_at "S"
    refine r_kLcQ (fun D i acc H' => Kp [] H H' ∧ acc = ((ps.take i).map Prod.snd).map V.int) hS (fun D H' nD k e => ⟨k, rfl⟩) (fun D i acc H' _ h => h.1) ?_ ?_
    · rintro D i acc x H1 nD hx eD ⟨k1, rfl⟩
      obtain ⟨k, n, t, hp, rfl, _, et⟩ := pds_get hD hx
      refine r_gtup (SqT.of (k1 _ _ et not_nil)) rfl ?_
      walk_at "S"
      refine r_kApp eD ?_ fun H2 k2 e2 => ⟨k1.step nD k2, ?_⟩
      · rw [List.length_map, List.length_map, List.length_take]
        have : 50 < sizeLine := by decide
        omega
      · rw [take_map _ hp, List.map_append]
        rfl
    · rintro D acc H1 nD eD ⟨k1, rfl⟩
      rw [hlen, List.take_length] at eD
      have eD : H1 D = some (.lst ((nums ps).map V.int)) := eD
      walk_at "S"
      refine ⟨D, nums ps, rfl, SqL.of eD, by unfold nums; rw [List.length_map]; omega, fun r H2 kvs nr k2 er hv => ?_⟩
      have k02 : Kp [] H H2 := k1.trans k2
      walk_at "S"
      refine r_kLcQ (fun E i acc H' => Kp [] H2 H' ∧ DtAll [E] H' acc (pds ((cmp ps).take i))) (hS.kp k02 not_nil) (fun E H' nE k e => ⟨k, .nil⟩) (fun E i acc H' _ h => h.1) ?_ ?_
      · rintro E i acc x H3 nE hx eE ⟨k3, hA⟩
        obtain ⟨k, n, t, hp, rfl, _, et⟩ := pds_get hD hx
        refine r_gtup (SqT.of ((k02.trans k3) _ _ et not_nil)) rfl ?_
        walk_at "S"
        have hn : n ∈ srt (nums ps) := (mem_srt _ _).mpr (.inr (List.mem_map.mpr ⟨_, mem_at hp, rfl⟩))
        refine r_kDGi (k3 _ _ er not_nil) (hv n hn) ?_
        walk_at "S"
        refine r_kTup (by show 2 ≤ sizeLine; decide) fun u H4 nu k4 eu => ?_
        have uE : u ∉ [E] := not_one (ne_none eE nu)
        have hA4 := (hA.mono (k4.nil)).snoc (.tup uE eu (.cons (.str k) (.cons (.int (rank (nums ps) n : Int)) .nil)))
        refine r_kApp (k4 _ _ eE not_nil) ?_ fun H5 k5 e5 => ⟨(k3.trans k4).step nE k5, ?_⟩
        · have h1 := hA.length
          unfold pds at h1
          rw [List.length_map, List.length_take, cmp_length] at h1
          have : 50 < sizeLine := by decide
          omega
        · have hc : (cmp ps)[i]? = some (k, (rank (nums ps) n : Int)) := by
            unfold cmp
            rw [List.getElem?_map, hp]
            rfl
          have e6 : pds ((cmp ps).take (i + 1)) = pds ((cmp ps).take i) ++ [.tuple [.str k, .int (rank (nums ps) n : Int)]] := by
            unfold pds
            rw [take_map _ hc]
            rfl
          rw [e6]
          exact hA4.mono k5
      · rintro E acc H3 nE eE ⟨k3, hA⟩
        have hl2 : xs.length = (cmp ps).length := by rw [hlen, cmp_length]
        rw [hl2, List.take_length] at hA
        walk_at "S"
        refine r_tupleL (SqL.of eE) fun u H4 nu k4 eu => ?_
        refine q u H4 ((k02.trans k3).free nu not_nil) (k02.trans (k3.trans k4)) (.tup not_nil eu ((hA.less (ex' := []) fun _ m => absurd m not_nil).mono k4))

/-! ### the law's own picture, its values -/
def sp__law_picture (K : PySem.W.Frag) : Sp := fun vs H Q _ => ∃ (a : Addr) (xs : List V) (ps : List (Str × Int)), vs = [.ref a] ∧ Sq K H a xs ∧ DtAll [] H xs (pds ps) ∧ ps.length ≤ 50 ∧
  ∀ (r : Addr) (H' : Hp), H r = none → Kp [] H H' → Dt [] H' (.ref r) (.tuple (pds (cmp ps))) → Q (.ref r) H'
abbrev s__law_picture : Stmt := top 10
theorem sc__law_picture : FnScope ["_law_values_here", "_law_kind", "_law_number", "_law_numbers"] ["_law_values_here"] (defScope s__law_picture) :=
  ⟨rfl, rfl, rfl, by decide +kernel, rfl, by decide +kernel, by decide +kernel⟩
theorem ok__law_picture {f : Addr} {fd : FuncData} (F : Fun K "_law_picture" "_law_picture" s__law_picture f fd) (T : Txt K mg) :
    FnOk P w K mg base CX0 1 f fd ["_law_values_here"] (sp__law_picture K) := by
  refine F.ok sc__law_picture (fun vs H Q E h => ?_) (fun cdv A outer s H vs Q E hr h => ?_)
  · obtain ⟨a, xs, ps, rfl, _⟩ := h
    rfl
  · obtain ⟨a, xs, ps, rfl, hS, hD, hl, q⟩ := h
    have hu := hu_of hr
    have hu64 := hr.units
    refine ⟨_, (pss_cons (ps_set (i := 3) sc__law_picture.nd rfl (by first | exact Or.inl rfl | exact Or.inr rfl) (pe_callB (cr_sortedSet rfl) (by rfl) T.z_sorted (by decide +kernel) (pa_cons (pe_callTy (K_setI (K := K) (w := w) rfl rfl rfl) (by rfl) T.z_set (by decide +kernel) (pa_cons (pe_op op_cat (pe_lst (pa_cons pe_int pa_nil)) (pe_lc (own := [("_law_kind", 1), ("_law_number", 2)]) (by rfl) sc__law_picture.nd (K_pis (K := K) rfl (pv 0)) (blkOk_by (own := [("_law_kind", 1), ("_law_number", 2)]) (N := ["_law_values_here", "_law_kind", "_law_number", "_law_numbers"]) (sc := defScope s__law_picture) (by decide +kernel)) (fun _ _ _ _ _ => (K_gtup (K := K) (n := 2) rfl (by rfl) (pgs_cons (pg_name (i := 1) sc__law_picture.nd rfl (by first | exact Or.inl rfl | exact Or.inr rfl)) (pgs_cons (pg_name (i := 2) sc__law_picture.nd rfl (by first | exact Or.inl rfl | exact Or.inr rfl)) pgs_nil)))) (fun _ _ _ _ _ => pts_nil) (fun _ _ _ _ _ => (pv 2)))) pa_nil)) pa_nil)))
        (pss_one (ps_ret (pe_callTy (K_tuple (K := K) rfl) (by rfl) T.z_tuple (by decide +kernel) (pa_cons (pe_lc (own := [("_law_kind", 1), ("_law_number", 2)]) (by rfl) sc__law_picture.nd (K_pis (K := K) rfl (pv 0)) (blkOk_by (own := [("_law_kind", 1), ("_law_number", 2)]) (N := ["_law_values_here", "_law_kind", "_law_number", "_law_numbers"]) (sc := defScope s__law_picture) (by decide +kernel)) (fun _ _ _ _ _ => (K_gtup (K := K) (n := 2) rfl (by rfl) (pgs_cons (pg_name (i := 1) sc__law_picture.nd rfl (by first | exact Or.inl rfl | exact Or.inr rfl)) (pgs_cons (pg_name (i := 2) sc__law_picture.nd rfl (by first | exact Or.inl rfl | exact Or.inr rfl)) pgs_nil)))) (fun _ _ _ _ _ => pts_nil) (fun _ _ _ _ _ => (pe_tup (pa_cons (pv 1) (pa_cons (K_bm (K := K) rfl PySem.F.plainAttrs_list PySem.F.slot_list_index PySem.F.type_list_index (K_index (K := K) rfl) (pv 3) (pa_cons (pv 2) pa_nil)) pa_nil))))) pa_nil))))), ?_⟩
    have hlen : xs.length = ps.length := by
      rw [hD.length]
      exact List.length_map _
    walk_at "S"
    refine r_kLst (by show 1 ≤ sizeLine; decide) fun l1 H1 n1 k1 e1 => ?_
    walk_at "S"
    refine r_kLcQ (fun D i acc H' => Kp [] H1 H' ∧ acc = ((ps.take i).map Prod.snd).map V.int) (hS.kp k1 not_nil) (fun D H' nD k e => ⟨k, rfl⟩) (fun D i acc H' _ h => h.1) ?_ ?_
    · rintro D i acc x H2 nD hx eD ⟨k2, rfl⟩
      obtain ⟨k, n, t, hp, rfl, _, et⟩ := pds_get hD hx
      refine r_gtup (SqT.of ((k1.trans k2) _ _ et not_nil)) rfl ?_
      walk_at "S"
      refine r_kApp eD ?_ fun H3 k3 e3 => ⟨k2.step nD k3, ?_⟩
      · rw [List.length_map, List.length_map, List.length_take]
        have : 50 < sizeLine := by decide
        omega
      · rw [take_map _ hp, List.map_append]
        rfl
    rintro D acc H2 nD eD ⟨k2, rfl⟩
    rw [hlen, List.take_length] at eD
    have eD : H2 D = some (.lst ((nums ps).map V.int)) := eD
    have hnl : (nums ps).length = ps.length := List.length_map _
    walk_at "S"
    refine ⟨l1, D, _, _, rfl, rfl, k2 _ _ e1 not_nil, eD, ?_, fun l3 n3 => ?_⟩
    · rw [List.length_map]
      show 1 + (nums ps).length ≤ sizeLine
      have : 61 ≤ sizeLine := by decide
      omega
    have e3 : upd H2 l3 (.lst ([V.int 0] ++ (nums ps).map V.int)) l3 = some (.lst ((0 :: nums ps).map V.int)) := upd_same
    have k3 : Kp [] H2 (upd H2 l3 (.lst ([V.int 0] ++ (nums ps).map V.int))) := Kp.new n3
    generalize upd H2 l3 (.lst ([V.int 0] ++ (nums ps).map V.int)) = H3 at e3 k3
    walk_at "S"
    refine ⟨l3, 0 :: nums ps, rfl, SqL.of e3, by rw [List.length_cons]; omega, fun l4 c n4 hc => ?_⟩
    have e4 : upd H3 l4 (SetO w l4 (fun j => decide (j ∈ 0 :: nums ps)) c) l4 = some (SetO w l4 (fun j => decide (j ∈ 0 :: nums ps)) c) := upd_same
    have k4 : Kp [] H3 (upd H3 l4 (SetO w l4 (fun j => decide (j ∈ 0 :: nums ps)) c)) := Kp.new n4
    generalize upd H3 l4 (SetO w l4 (fun j => decide (j ∈ 0 :: nums ps)) c) = H4 at e4 k4
    walk_at "S"
    refine ⟨l4, _, c, rfl, e4, by rw [List.length_cons] at hc; omega, fun ss l5 pw mem len n5 => ?_⟩
    have ess : ss = srt (nums ps) := rising_eq pw (pw_srt _) fun k => by
      rw [mem, mem_srt]
      simp
    subst ess
    have e5 : upd H4 l5 (.lst ((srt (nums ps)).map V.int)) l5 = some (.lst ((srt (nums ps)).map V.int)) := upd_same
    have k5 : Kp [] H4 (upd H4 l5 (.lst ((srt (nums ps)).map V.int))) := Kp.new n5
    generalize upd H4 l5 (.lst ((srt (nums ps)).map V.int)) = H5 at e5 k5
    have k05 : Kp [] H H5 := k1.trans (k2.trans (k3.trans (k4.trans k5)))
    walk_at "S"
    refine r_kLcQ (fun E i acc H' => Kp [] H5 H' ∧ DtAll [E] H' acc (pds ((cmp ps).take i))) (hS.kp k05 not_nil) (fun E H' nE k e => ⟨k, .nil⟩) (fun E i acc H' _ h => h.1) ?_ ?_
    · rintro E i acc x H6 nE hx eE ⟨k6, hA⟩
      obtain ⟨k, n, t, hp, rfl, _, et⟩ := pds_get hD hx
      refine r_gtup (SqT.of ((k05.trans k6) _ _ et not_nil)) rfl ?_
      walk_at "S"
      have hn : n ∈ srt (nums ps) := (mem_srt _ _).mpr (.inr (List.mem_map.mpr ⟨_, mem_at hp, rfl⟩))
      refine r_kBMl (SqL.of (k6 _ _ e5 not_nil)) ?_
      walk_at "S"
      refine r_indexI (SqL.of (k6 _ _ e5 not_nil)) hn ?_
      walk_at "S"
      refine r_kTup (by show 2 ≤ sizeLine; decide) fun u H7 nu k7 eu => ?_
      have uE : u ∉ [E] := not_one (ne_none eE nu)
      have hA7 := (hA.mono (k7.nil)).snoc (.tup uE eu (.cons (.str k) (.cons (.int (rank (nums ps) n : Int)) .nil)))
      refine r_kApp (k7 _ _ eE not_nil) ?_ fun H8 k8 e8 => ⟨(k6.trans k7).step nE k8, ?_⟩
      · have h1 := hA.length
        unfold pds at h1
        rw [List.length_map, List.length_take, cmp_length] at h1
        have : 50 < sizeLine := by decide
        omega
      · have hc : (cmp ps)[i]? = some (k, (rank (nums ps) n : Int)) := by
          unfold cmp
          rw [List.getElem?_map, hp]
          rfl
        have e6 : pds ((cmp ps).take (i + 1)) = pds ((cmp ps).take i) ++ [.tuple [.str k, .int (rank (nums ps) n : Int)]] := by
          unfold pds
          rw [take_map _ hc]
          rfl
        rw [e6]
        exact hA7.mono k8
    · rintro E acc H6 nE eE ⟨k6, hA⟩
      have hl2 : xs.length = (cmp ps).length := by rw [hlen, cmp_length]
      rw [hl2, List.take_length] at hA
      walk_at "S"
      refine r_tupleL (SqL.of eE) fun u H7 nu k7 eu => ?_
      exact q u H7 ((k05.trans k6).free nu not_nil) (k05.trans (k6.trans k7)) (.tup not_nil eu ((hA.less (ex' := []) fun _ m => absurd m not_nil).mono k7))

/-! ### with_one_more, extended -/
def sp_with_one_more (_K : PySem.W.Frag) : Sp := fun vs H Q _ => ∃ (a : Addr) (xs : List V) (b : List (Str × Int)) (k : Str) (j : Nat), vs = [.ref a, .str k, .int (j : Int)] ∧ H a = some (.tup xs) ∧ DtAll [] H xs (pds b) ∧ b.length ≤ 50 ∧
  ∀ (r : Addr) (H' : Hp), Kp [] H H' → Dt [] H' (.ref r) (picD (wom b k j)) → Q (.ref r) H'
abbrev s_with_one_more : Stmt := top 3
theorem sc_with_one_more : FnScope ["values", "kind", "place", "rank", "one", "number", "moved"] ["values", "kind", "place"] (defScope s_with_one_more) :=
  ⟨rfl, rfl, rfl, by decide +kernel, rfl, by decide +kernel, by decide +kernel⟩
theorem ok_with_one_more {f : Addr} {fd : FuncData} (F : Fun K "with_one_more" "with_one_more" s_with_one_more f fd) (T : Txt K mg) :
    FnOk P w K mg base CX0 1 f fd ["values", "kind", "place"] (sp_with_one_more K) := by
  refine F.ok sc_with_one_more (fun vs H Q E h => ?_) (fun cdv A outer s H vs Q E hr h => ?_)
  · obtain ⟨a, xs, b, k, j, rfl, _⟩ := h
    rfl
  · obtain ⟨a, xs, b, k, j, rfl, ea, al, hb, q⟩ := h
    have hu := hu_of hr
    have hu64 := hr.units
    refine ⟨_, (pss_cons (ps_set (i := 3) sc_with_one_more.nd rfl (by first | exact Or.inl rfl | exact Or.inr rfl) (pe_op op_fdivW (pv 2) pe_int))
        (pss_cons (ps_if (pt_cmpR op_eq (pe_op op_sub (pv 2) (pe_op op_mul pe_int (pv 3))) pe_int (nomark _))
          (pss_one (ps_ret (pe_op (K_catT (K := K) rfl) (pv 0) (pe_tup (pa_cons (pe_tup (pa_cons (pv 1) (pa_cons (pv 3) pa_nil))) pa_nil)))))
          pss_nil)
        (pss_cons (ps_set (i := 6) sc_with_one_more.nd rfl (by first | exact Or.inl rfl | exact Or.inr rfl) (pe_callTy (K_tuple (K := K) rfl) (by rfl) T.z_tuple (by decide +kernel) (pa_cons (pe_lc (own := [("one", 4), ("number", 5)]) (by rfl) sc_with_one_more.nd (K_pit (K := K) rfl (pv 0)) (blkOk_by (own := [("one", 4), ("number", 5)]) (N := ["values", "kind", "place", "rank", "one", "number", "moved"]) (sc := defScope s_with_one_more) (by decide +kernel)) (fun _ _ _ _ _ => (K_gtup (K := K) (n := 2) rfl (by rfl) (pgs_cons (pg_name (i := 4) sc_with_one_more.nd rfl (by first | exact Or.inl rfl | exact Or.inr rfl)) (pgs_cons (pg_name (i := 5) sc_with_one_more.nd rfl (by first | exact Or.inl rfl | exact Or.inr rfl)) pgs_nil)))) (fun _ _ _ _ _ => pts_nil) (fun _ _ _ _ _ => (pe_tup (pa_cons (pv 4) (pa_cons (pe_op op_add (pv 5) (pe_callTy cr_int (by rfl) T.z_int (by decide +kernel) (pa_cons (pe_cmpR op_gt (pv 5) (pv 3) (nomark _)) pa_nil))) pa_nil))))) pa_nil)))
        (pss_one (ps_ret (pe_op (K_catT (K := K) rfl) (pv 6) (pe_tup (pa_cons (pe_tup (pa_cons (pv 1) (pa_cons (pe_op op_add (pv 3) pe_int) pa_nil))) pa_nil)))))))), ?_⟩
    have hlen : xs.length = b.length := by
      rw [al.length]
      exact List.length_map _
    have big : 60 ≤ sizeLine := by decide
    walk_at "S"
    refine r_I (cdivw (by decide) (by decide)) ?_
    walk_at "S"
    refine r_I (.inl (by decide)) ?_
    walk_at "S"
    have hj : ((j : Int) / 2) = ((j / 2 : Nat) : Int) := by omega
    refine r_kIfS (fun c => ?_) (fun c => ?_)
    all_goals walk_at "S"
    · have c' : j % 2 = 0 := by
        have := of_decide_eq_true c
        omega
      refine r_kTup (xs := [V.str k, V.int ((j : Int) / 2)]) (by show 2 ≤ sizeLine; decide) fun t H1 nt k1 et => ?_
      walk_at "S"
      refine r_kTup (xs := [V.ref t]) (by show 1 ≤ sizeLine; decide) fun o H2 no k2 eo => ?_
      have ea2 := (k1.trans k2) _ _ ea not_nil
      refine r_catT' (ys := [V.ref t]) (SqT.of ea2) eo ?_ (fun z => nomatch z) fun r H3 k3 er _ => ?_
      · show _ + 1 ≤ _
        omega
      refine q r H3 (k1.trans (k2.trans k3)) ?_
      show Dt [] H3 (.ref r) (.tuple (pds (wom b k j)))
      rw [wom_even c', ← hj]
      show Dt [] H3 (.ref r) (.tuple ((b ++ [(k, (j : Int) / 2)]).map pd))
      rw [List.map_append]
      exact .tup not_nil er ((al.mono (k1.trans (k2.trans k3))).snoc (.tup not_nil ((k2.trans k3) _ _ et not_nil) (.cons (.str k) (.cons (.int _) .nil))))
    · have c' : ¬ j % 2 = 0 := by
        have := of_decide_eq_false c
        omega
      refine r_cWT (SqT.of ea) ?_
      refine r_kLcT (fun D i acc H' => Kp [] H H' ∧ DtAll [D] H' acc (pds (sh ((j : Int) / 2) (b.take i)))) (fun D H' nD k e => ⟨k, .nil⟩) (fun D i acc H' _ h => sqt_kp (SqT.of ea) h.1 not_nil) ?_ ?_
      · rintro D i acc x H1 nD hx eD ⟨k1, hA⟩
        obtain ⟨w, n, t, hp, rfl, _, et⟩ := pds_get al hx
        refine r_gtup (SqT.of (k1 _ _ et not_nil)) rfl ?_
        walk_at "S"
        refine r_intB ?_
        walk_at "S"
        refine r_kTup (xs := [V.str w, V.int (shiftI ((j : Int) / 2) n)]) (by show 2 ≤ sizeLine; decide) fun u H2 nu k2 eu => ?_
        have uD : u ∉ [D] := not_one (ne_none eD nu)
        have hA2 := (hA.mono (k2.nil)).snoc (.tup uD eu (.cons (.str w) (.cons (.int (shiftI ((j : Int) / 2) n)) .nil)))
        refine r_kApp (k2 _ _ eD not_nil) ?_ fun H3 k3 e3 => ⟨(k1.trans k2).step nD k3, ?_⟩
        · have h1 := hA.length
          unfold pds sh at h1
          rw [List.length_map, List.length_map, List.length_take] at h1
          omega
        · have e6 : pds (sh ((j : Int) / 2) (b.take (i + 1))) = pds (sh ((j : Int) / 2) (b.take i)) ++ [.tuple [.str w, .int (shiftI ((j : Int) / 2) n)]] := by
            unfold pds sh
            rw [take_map _ hp, List.map_append]
            rfl
          rw [e6]
          exact hA2.mono k3
      rintro D acc H1 nD eD ⟨k1, hA⟩
      rw [hlen, List.take_length] at hA
      have hal := hA.length
      walk_at "S"
      refine r_tupleL (SqL.of eD) fun m H2 nm k2 em => ?_
      walk_at "S"
      refine r_kTup (xs := [V.str k, V.int ((j : Int) / 2 + 1)]) (by show 2 ≤ sizeLine; decide) fun t H3 nt k3 et => ?_
      walk_at "S"
      refine r_kTup (xs := [V.ref t]) (by show 1 ≤ sizeLine; decide) fun o H4 no k4 eo => ?_
      have em4 := (k3.trans k4) _ _ em not_nil
      refine r_catT' (ys := [V.ref t]) (SqT.of em4) eo ?_ (fun z => nomatch z) fun r H5 k5 er _ => ?_
      · rw [hal]
        unfold pds sh
        rw [List.length_map, List.length_map]
        show _ + 1 ≤ _
        omega
      refine q r H5 (k1.trans (k2.trans (k3.trans (k4.trans k5)))) ?_
      show Dt [] H5 (.ref r) (.tuple (pds (wom b k j)))
      rw [wom_odd c', ← hj]
      show Dt [] H5 (.ref r) (.tuple ((sh ((j : Int) / 2) b ++ [(k, (j : Int) / 2 + 1)]).map pd))
      rw [List.map_append]
      exact .tup not_nil er (((hA.less (ex' := []) fun _ m => absurd m not_nil).mono (k2.trans (k3.trans (k4.trans k5)))).snoc (.tup not_nil ((k4.trans k5) _ _ et not_nil) (.cons (.str k) (.cons (.int _) .nil))))
/-- pictures have no lists: a list may change -/
theorem pds_keep {D : Addr} {H H' : Hp} {zs : List V} (e : H D = some (.lst zs)) (k : Kp [D] H H') : ∀ {f : List (Str × Int)} {vs : List V}, DtAll [] H vs (pds f) → DtAll [] H' vs (pds f)
  | [], _, h => by cases h; exact .nil
  | p :: f, _, h => by
    cases h with
    | cons h0 h =>
      refine .cons ?_ (pds_keep e k h)
      obtain ⟨t, rfl, _, et⟩ := Dt.pair h0
      exact .tup not_nil (k _ _ et (not_one fun z => by rw [z, e] at et; cases et)) (.cons (.str _) (.cons (.int _) .nil))
theorem pics_keep {D : Addr} {H H' : Hp} {zs : List V} (e : H D = some (.lst zs)) (k : Kp [D] H H') : ∀ {fs : List (List (Str × Int))} {vs : List V}, DtAll [] H vs (fs.map picD) → DtAll [] H' vs (fs.map picD)
  | [], _, h => by cases h; exact .nil
  | f :: fs, _, h => by
    cases h with
    | cons h0 h =>
      refine .cons ?_ (pics_keep e k h)
      obtain ⟨t, ys, rfl, _, et, al⟩ := Dt.tuple h0
      exact .tup not_nil (k _ _ et (not_one fun z => by rw [z, e] at et; cases et)) (pds_keep e k al)
def sp_extended (K : PySem.W.Frag) : SpG := fun vs H cont _ => ∃ (a c : Addr) (xs : List V) (ps : List (Str × Int)) (ks : List Str), vs = [.ref a, .ref c] ∧ Sq K H a xs ∧ DtAll [] H xs (pds ps) ∧ Sq K H c (ks.map V.str) ∧ ps.length ≤ 40 ∧ (∀ n ∈ nums ps, 0 ≤ n) ∧ ks.length ≤ 10 ∧
  ∀ out H', Kp [] H H' → DtAll [] H' out (extD ps ks) → cont out H'
abbrev s_extended : Stmt := top 4
theorem sc_extended : GScope ["values", "names", "base", "kind", "number", "places", "place", "found", "picture"] ["values", "names"] (defScope s_extended) :=
  ⟨rfl, rfl, rfl, by decide +kernel, rfl, by decide +kernel, by decide +kernel⟩
theorem ok_extended {f : Addr} {fd : FuncData} (F : Fun K "extended" "extended" s_extended f fd) (T : Txt K mg) (U_compressed : Use P w K mg base 2 "compressed" ["values"] (sp_compressed K)) (U_with_one_more : Use P w K mg base 1 "with_one_more" ["values", "kind", "place"] (sp_with_one_more K)) :
    GFn P w K mg base 3 f fd ["values", "names"] (sp_extended K) := by
  refine gen_ok F sc_extended (fun vs H Q E h => ?_) (fun cdv A outer s H vs Q E pn hr h => ?_)
  · obtain ⟨a, c, xs, ps, ks, rfl, _⟩ := h
    rfl
  · obtain ⟨a, c, xs, ps, ks, rfl, hS, hD, hC, hp, hn, hk, q⟩ := h
    have hu := hu_of hr
    have hu64 := hr.units
    refine ⟨_, (gss_cons (gs_ps (ps_set (i := 2) sc_extended.nd rfl (by first | exact Or.inl rfl | exact Or.inr rfl) (pe_use U_compressed (hr.mono (by first | decide | omega)) (by rfl) (pa_cons (pv 0) pa_nil))))
        (gss_cons (gs_ps (ps_set (i := 5) sc_extended.nd rfl (by first | exact Or.inl rfl | exact Or.inr rfl) (pe_op op_add (pe_op op_mul pe_int (pe_callBK (K_maxDf (K := K) rfl hu64 rfl) (by rfl) T.z_max (by decide +kernel) (pa_cons (pe_lc (own := [("kind", 3), ("number", 4)]) (by rfl) sc_extended.nd (K_pit (K := K) rfl (pv 2)) (blkOk_by (own := [("kind", 3), ("number", 4)]) (N := ["values", "names", "base", "kind", "number", "places", "place", "found", "picture"]) (sc := defScope s_extended) (by decide +kernel)) (fun _ _ _ _ _ => (K_gtup (K := K) (n := 2) rfl (by rfl) (pgs_cons (pg_name (i := 3) sc_extended.nd rfl (by first | exact Or.inl rfl | exact Or.inr rfl)) (pgs_cons (pg_name (i := 4) sc_extended.nd rfl (by first | exact Or.inl rfl | exact Or.inr rfl)) pgs_nil)))) (fun _ _ _ _ _ => pts_nil) (fun _ _ _ _ _ => (pv 4))) pa_nil) (pk_cons pe_int pk_nil))) pe_int)))
        (gss_cons (gs_ps (ps_setLc2 (i := 7) (own := [("kind", 3), ("place", 6)]) (vs1 := [6]) (by rfl) sc_extended.nd rfl rfl (sw_true rfl rfl rfl (by decide +kernel)) (K_pis (K := K) rfl (pv 1)) (blkOk_by (own := [("kind", 3), ("place", 6)]) (N := ["values", "names", "base", "kind", "number", "places", "place", "found", "picture"]) (sc := defScope s_extended) (by decide +kernel)) (by decide) (fun _ _ _ _ _ => (pg_name (i := 3) sc_extended.nd rfl (by first | exact Or.inl rfl | exact Or.inr rfl))) (fun _ _ _ _ _ => pts_nil) (fun _ _ _ _ _ => (pi_range1 (by rfl) T.z_range (pa_cons (pv 5) pa_nil))) (fun _ _ _ _ _ => (pg_name (i := 6) sc_extended.nd rfl (by first | exact Or.inl rfl | exact Or.inr rfl))) (fun _ _ _ _ _ => pts_nil) (fun _ _ _ _ _ => (pe_use U_with_one_more (hr.mono (by first | decide | omega)) (by rfl) (pa_cons (pv 2) (pa_cons (pv 3) (pa_cons (pv 6) pa_nil)))))))
        (gss_cons (gs_for owns_gcx (by rfl) (K_pil (K := K) rfl (pe_callB (K_sortedD (K := K) rfl hu64) (by rfl) T.z_sorted (by decide +kernel) (pa_cons (pv 7) pa_nil))) (pg_name (i := 8) sc_extended.nd rfl (by first | exact Or.inl rfl | exact Or.inr rfl))
          (gss_cons (gs_yield (pv 8))
          gss_nil))
        gss_nil)))), ?_⟩
    have big : 2000 ≤ sizeLine := by decide
    have hL : (srt (nums ps)).length ≤ 41 := by
      have h1 := len_srt (nums ps)
      have h2 : (nums ps).length = ps.length := List.length_map _
      omega
    have hexl : ∀ ks' : List Str, ks'.length ≤ 10 → (exts ps ks').length ≤ 820 := fun ks' h => by
      rw [exts_length]
      exact Nat.le_trans (Nat.mul_le_mul (Nat.mul_le_mul (Nat.le_refl 2) hL) h) (by decide)
    refine r_gThen ?_
    refine r_gPlain ?_
    walk_at "S"
    refine ⟨a, xs, ps, rfl, hS, hD, by omega, fun base H1 nb k1 hB => ?_⟩
    obtain ⟨b', bs, e, _, eB, aB⟩ := hB.tuple
    cases e
    have hbl : bs.length = ps.length := by
      rw [aB.length]
      unfold pds
      rw [List.length_map, cmp_length]
    walk_at "S"
    refine r_gThen ?_
    refine r_gPlain ?_
    walk_at "S"
    refine r_ckw ?_
    walk_at "S"
    refine r_cWT (SqT.of eB) ?_
    refine r_kLcT (fun D i acc H' => Kp [] H1 H' ∧ acc = (((cmp ps).take i).map Prod.snd).map V.int) (fun D H' nD k e => ⟨k, rfl⟩) (fun D i acc H' _ h => sqt_kp (SqT.of eB) h.1 not_nil) ?_ ?_
    · rintro D i acc x H2 nD hx eD ⟨k2, rfl⟩
      obtain ⟨w, n, t, he, rfl, _, et⟩ := pds_get aB hx
      refine r_gtup (SqT.of (k2 _ _ et not_nil)) rfl ?_
      walk_at "S"
      refine r_kApp eD ?_ fun H3 k3 e3 => ⟨k2.step nD k3, ?_⟩
      · rw [List.length_map, List.length_map, List.length_take, cmp_length]
        omega
      · rw [take_map _ he, List.map_append]
        rfl
    rintro M acc H2 nM eM ⟨k2, rfl⟩
    rw [hbl, ← cmp_length ps, List.take_length] at eM
    walk_at "S"
    refine r_kKw1 ?_
    walk_at "S"
    refine r_kKw2 ?_
    have key : ∀ (Q' : VK), Q' (.int (((srt (nums ps)).length : Int) - 1)) H2 → rMaxDf K [.ref M] [.int 0] H2 Q' := fun Q' q' => by
      refine r_maxDf (ns := nums (cmp ps)) (SqL.of eM) (fun e => ?_) fun n r e => ?_
      · have e1 := places_none hn e
        rw [e1] at q'
        exact q'
      · have e1 := places_some hn e
        have e2 : r.foldl max n = ((srt (nums ps)).length : Int) - 1 := by omega
        rw [e2]
        exact q'
    refine key _ ?_
    walk_at "S"
    refine r_I (.inl (by decide)) ?_
    walk_at "S"
    refine r_gThen ?_
    refine r_gPlain ?_
    walk_at "S"
    have k02 := k1.trans k2
    have eB2 := k2 _ _ eB not_nil
    have aB2 := aB.mono k2
    refine r_lc2 ?_
    walk_at "S"
    refine r_kLc2Q (fun D i acc H' => Kp [] H2 H' ∧ DtAll [] H' acc ((exts ps (ks.take i)).map picD)) (hC.kp k02 not_nil) (fun D H' nD k e => ⟨k, .nil⟩) (fun D i acc H' _ h => h.1) ?_ ?_
    · rintro D i acc x H3 nD hx eD ⟨k3, hA⟩
      obtain ⟨w, hw, rfl⟩ := map_at hx
      have hi := lt_at hw
      walk_at "S"
      refine r_kTurn2 rfl ?_
      walk_at "S"
      refine r_kKeep2 rfl ?_
      walk_at "S"
      have e2 : (2 * (((srt (nums ps)).length : Int) - 1) + 2).toNat = 2 * (srt (nums ps)).length := by
        have := srt_pos (nums ps)
        omega
      refine r_cRng1 ⟨by omega, by omega⟩ ?_
      rw [e2]
      refine r_kIn2R (fun j acc H' => Kp [] H2 H' ∧ DtAll [] H' acc ((exts ps (ks.take i) ++ (List.range j).map fun j => wom (cmp ps) w j).map picD)) eD ⟨k3, by
          show DtAll [] H3 acc ((exts ps (ks.take i) ++ []).map picD)
          rw [List.append_nil]
          exact hA⟩ ?_ ?_
      · rintro j acc H4 hj eD4 ⟨k4, hA4⟩
        walk_at "S"
        refine ⟨base, bs, cmp ps, w, j, rfl, k4 _ _ eB2 not_nil, aB2.mono k4, by rw [cmp_length]; omega, fun r H5 k5 hr5 => ?_⟩
        have eD5 := k5 _ _ eD4 not_nil
        have hA5 := (hA4.mono k5).snoc hr5
        have el : DtAll [] H5 (acc ++ [V.ref r]) ((exts ps (ks.take i) ++ (List.range (j + 1)).map fun j => wom (cmp ps) w j).map picD) := by
          have ee : (exts ps (ks.take i) ++ (List.range (j + 1)).map fun j => wom (cmp ps) w j) = (exts ps (ks.take i) ++ (List.range j).map fun j => wom (cmp ps) w j) ++ [wom (cmp ps) w j] := by
            rw [List.range_succ, List.map_append, List.append_assoc]
            rfl
          rw [ee, List.map_append]
          exact hA5
        refine r_kApp eD5 ?_ fun H6 k6 e6 => ⟨(k4.trans k5).step nD k6, pics_keep eD5 k6 el⟩
        have h1 := hA4.length
        rw [List.length_map, List.length_append, List.length_map, List.length_range] at h1
        have h2 := hexl (ks.take i) (by rw [List.length_take]; omega)
        omega
      · rintro acc H4 eD4 ⟨k4, hA4⟩
        refine ⟨k4, ?_⟩
        have e5 : exts ps (ks.take (i + 1)) = exts ps (ks.take i) ++ (List.range (2 * (srt (nums ps)).length)).map fun j => wom (cmp ps) w j := by
          rw [take_more hw]
          unfold exts
          rw [List.flatMap_append, List.flatMap_singleton]
        rw [e5]
        exact hA4
    rintro F acc H3 nF eF ⟨k3, hA⟩
    rw [List.length_map, List.take_length] at hA
    walk_at "S"
    refine r_gThen ?_
    refine r_gFor ?_
    walk_at "S"
    refine r_sortedD (SqL.of eF) hA (exts_alike ps ks) (exts_sortable ps ks) (by rw [List.length_map]; have := hexl ks hk; omega) (fun d m => by
        obtain ⟨f, _, rfl⟩ := List.mem_map.mp m
        exact depth_pic f) fun S ys H4 nS k4 eS hY => ?_
    have hyl : ys.length = (extD ps ks).length := hY.length
    have hyl2 : (extD ps ks).length ≤ 820 := by
      show (srtD _).length ≤ 820
      rw [(srtD_perm _).length_eq, List.length_map]
      exact hexl ks hk
    refine r_cWL (SqL.of eS) ?_
    refine r_kGForL (fun i out σ' H' => out = ys.take i ∧ H' = H4 ∧ ∃ v3 v4 v5 v6 v8, σ' = [some (.ref a), some (.ref c), some (.ref base), v3, v4, v5, v6, some (.ref F), v8]) ⟨rfl, rfl, _, _, _, _, _, rfl⟩ (fun i out σ' H' _ h => by
        obtain ⟨_, rfl, _⟩ := h
        exact SqL.of eS) ?_ ?_
    · rintro i x out σ' H' hx ⟨rfl, rfl, v3, v4, v5, v6, v8, rfl⟩
      walk_at "S"
      refine r_gThen ?_
      refine r_gYield ?_ ?_
      · rw [List.length_take]
        omega
      walk_at "S"
      refine r_kYld ?_
      refine r_gNil ?_
      exact ⟨(take_more hx).symm, rfl, _, _, _, _, _, rfl⟩
    · rintro out σ' H' ⟨rfl, rfl, _⟩
      rw [List.take_length]
      refine r_gNil ?_
      exact q ys _ (k02.trans (k3.trans k4)) (hY.mono k4)

/-! ### values, the law -/
theorem r_kGen {sp : SpG} {Q : VK} {vs : List V} {H : Hp} (q : sp vs H (kOut Q) E0) : kGen sp Q vs H := q
theorem dtAll_take {ex : List Addr} {H : Hp} : ∀ {vs : List V} {ds : List PyData} (k : Nat), DtAll ex H vs ds → DtAll ex H (vs.take k) (ds.take k)
  | _, _, 0, _ => .nil
  | [], _, k + 1, h => by
    cases h
    exact .nil
  | v :: vs, _, k + 1, h => by
    cases h with
    | cons h0 h1 => exact .cons h0 (dtAll_take k h1)
local macro_rules | `(tactic| walk_at "s") => `(tactic| (first
  | (with_reducible refine r_sl ?_)
  | (with_reducible refine r_kS1 ?_)
  | (with_reducible refine r_kS2 ?_)
  | (with_reducible refine r_kS3 ?_)
  | (with_reducible refine r_noPart ?_)
  | (with_reducible refine r_part ?_)
  | (with_reducible refine r_kPart ?_)
  | (with_reducible refine r_lsG ?_)
  | (with_reducible refine r_kGen ?_)))
def sp__law_values (K : PySem.W.Frag) : Sp := fun vs H Q _ => ∃ (p N : Addr) (n : Nat) (ws : List Str), vs = [.ref p, .ref N] ∧ BagAt H p (n + 1000) ∧ H N = some (.lst (ws.map V.str)) ∧ N ≠ p ∧ 0 < ws.length ∧ ws.length ≤ 10 ∧ (∀ w ∈ ws, PyData.strOk w = true) ∧
  ∀ (r : Addr) (H' : Hp) (ps : List (Str × Int)), H r = none → Kp [p] H H' → BagAt H' p n → ps.length ≤ 20 → (∀ k ∈ nums ps, 0 ≤ k) → (∀ q ∈ ps, PyData.strOk q.1 = true) → Dt [p] H' (.ref r) (.list (pds ps)) → Q (.ref r) H'
abbrev s__law_values : Stmt := top 11
theorem sc__law_values : FnScope ["_law_bag_here", "_law_names", "_law_found", "_law_most", "_law_turn"] ["_law_bag_here", "_law_names"] (defScope s__law_values) :=
  ⟨rfl, rfl, rfl, by decide +kernel, rfl, by decide +kernel, by decide +kernel⟩
theorem ok__law_values {f : Addr} {fd : FuncData} (F : Fun K "_law_values" "_law_values" s__law_values f fd) (T : Txt K mg) (U__law_take : Use P w K mg base 1 "_law_take" ["_law_bag_here", "_law_many"] (sp__law_take)) (U__law_of : Use P w K mg base 2 "_law_of" ["_law_bag_here", "_law_some"] (sp__law_of K)) :
    FnOk P w K mg base CX0 3 f fd ["_law_bag_here", "_law_names"] (sp__law_values K) := by
  refine F.ok sc__law_values (fun vs H Q E h => ?_) (fun cdv A outer s H vs Q E hr h => ?_)
  · obtain ⟨p, N, n, ws, rfl, _⟩ := h
    rfl
  · obtain ⟨p, N, n, ws, rfl, hb, eN, Np, w0, w1, hok, q⟩ := h
    have hu := hu_of hr
    have hu64 := hr.units
    refine ⟨_, (pss_cons (ps_par (i := 2) (j := 3) (by rfl) sc__law_values.nd rfl rfl (by decide) rfl rfl (pa_cons (pe_lst pa_nil) (pa_cons (pe_use U__law_of (hr.mono (by first | decide | omega)) (by rfl) (pa_cons (pv 0) (pa_cons (pe_lst (pa_cons pe_int (pa_cons pe_int (pa_cons (pe_op op_pow pe_int pe_int) pa_nil)))) pa_nil))) pa_nil)) (by rfl))
        (pss_cons (ps_for PassesOwn.never (by rfl) (pi_range1 (by rfl) T.z_range (pa_cons (pe_use U__law_take (hr.mono (by first | decide | omega)) (by rfl) (pa_cons (pv 0) (pa_cons pe_int pa_nil))) pa_nil)) (pg_name (i := 4) sc__law_values.nd rfl (by first | exact Or.inl rfl | exact Or.inr rfl))
          (pss_one (ps_expr (K_bm (K := K) rfl PySem.F.plainAttrs_list PySem.F.slot_list_append PySem.F.type_list_append mt_append (pv 2) (pa_cons (pe_tup (pa_cons (pe_use U__law_of (hr.mono (by first | decide | omega)) (by rfl) (pa_cons (pv 0) (pa_cons (pv 1) pa_nil))) (pa_cons (pe_use U__law_take (hr.mono (by first | decide | omega)) (by rfl) (pa_cons (pv 0) (pa_cons (pv 3) pa_nil))) pa_nil))) pa_nil)))))
        (pss_one (ps_ret (pv 2))))), ?_⟩
    have big : 2000 ≤ sizeLine := by decide
    walk_at "S"
    refine r_kLst (xs := []) (Nat.zero_le _) fun L H1 nL k1 eL => ?_
    walk_at "S"
    refine r_I ⟨by decide, by decide, by decide⟩ ?_
    walk_at "S"
    refine r_kLst (xs := [V.int 3, V.int 8, V.int (10 ^ (30 : Int).toNat)]) (by show 3 ≤ sizeLine; decide) fun M H2 nM k2 eM => ?_
    have b2 := (hb.kp k1 not_nil).kp k2 not_nil
    have Lp : L ≠ p := by
      obtain ⟨ob, hob⟩ := hb.some
      exact ne_none hob nL
    walk_at "S"
    refine r_ofI (n := n + 999) (ws := [3, 8, 10 ^ (30 : Int).toNat]) b2 (SqL.of eM) (by show 0 < 3; decide) (by show 3 ≤ 1000000; decide) fun u H3 hu3 k3 b3 => ?_
    have u0 : 0 < u ∧ u < 2 ^ 200 := by
      rcases List.mem_cons.mp hu3 with rfl | m
      · exact ⟨by decide, by decide⟩
      rcases List.mem_cons.mp m with rfl | m
      · exact ⟨by decide, by decide⟩
      rw [List.mem_singleton.mp m]
      exact ⟨by decide, by decide⟩
    refine ⟨_, _, rfl, ?_⟩
    have k03 : Kp [p] H H3 := (k1.trans k2).nil.trans k3
    have eL3 := k3 _ _ (k2 _ _ eL not_nil) (not_one Lp)
    have LN : L ≠ N := ne_none eN nL
    walk_at "S"
    refine ⟨p, n + 998, 21, rfl, b3, by decide, by decide, fun m H4 m0 m1 k4 b4 => ?_⟩
    walk_at "S"
    refine r_cRng1 ⟨by omega, by omega⟩ ?_
    refine r_kForR (fun i σ' H' => ∃ (v4 : Option V) (acc : List V) (ps : List (Str × Int)), σ' = [some (.ref p), some (.ref N), some (.ref L), some (.int u), v4] ∧ Kp [p] H H' ∧ H' L = some (.lst acc) ∧ DtAll [L, p] H' acc (pds ps) ∧ ps.length ≤ i ∧
        (∀ k ∈ nums ps, 0 ≤ k) ∧ (∀ q ∈ ps, PyData.strOk q.1 = true) ∧ BagAt H' p (n + 3 * (21 - i)))
      ⟨_, [], [], rfl, k03.trans k4, k4 _ _ eL3 (not_one Lp), .nil, Nat.zero_le _, (fun k m => nomatch m), (fun q m => nomatch m), b4.mono (by omega)⟩ ?_ ?_
    · rintro i σ' H5 hi ⟨v4, acc, ps, rfl, k5, e5, hA, hl, hn, hs, b5⟩
      have hi21 : i < 21 := by omega
      walk_at "S"
      refine r_kBMl (SqL.of e5) ?_
      walk_at "S"
      refine r_ofS (n := n + 3 * (21 - i) - 1) (ws := ws) (b5.mono (by omega)) (SqL.of (k5 _ _ eN (not_one Np))) w0 (by omega) fun w H6 hw k6 b6 => ?_
      walk_at "S"
      refine ⟨p, n + 3 * (21 - i) - 2, u, rfl, b6.mono (by omega), u0.1, u0.2, fun z H7 z0 z1 k7 b7 => ?_⟩
      walk_at "S"
      refine r_kTup (xs := [V.str w, V.int z]) (by show 2 ≤ sizeLine; decide) fun t H8 nt k8 et => ?_
      walk_at "S"
      have k57 : Kp [p] H5 H7 := k6.trans k7
      have e7 := k57 _ _ e5 (not_one Lp)
      have e8 := k8 _ _ e7 not_nil
      have hlen := hA.length
      unfold pds at hlen
      rw [List.length_map] at hlen
      refine r_append e8 (by omega) fun H9 k9 e9 => ?_
      walk_at "S"
      have tp : t ∉ [L, p] := not_two (ne_none e7 nt) (by
        obtain ⟨ob, hob⟩ := b7.some
        exact ne_none hob nt)
      have hA9 : DtAll [L, p] H9 (acc ++ [V.ref t]) (pds ps ++ [pd (w, z)]) := by
        have h8 : DtAll [L, p] H8 acc (pds ps) := (hA.mono (k57.mono fun b m => by rw [List.mem_singleton.mp m]; exact List.mem_cons_of_mem _ List.mem_cons_self)).mono k8.nil
        exact (h8.snoc (.tup tp et (.cons (.str w) (.cons (.int z) .nil)))).mono (k9.mono fun b m => by rw [List.mem_singleton.mp m]; exact List.mem_cons_self)
      refine ⟨_, _, ps ++ [(w, z)], rfl, (k5.trans (k57.trans k8.nil)).step (nL) k9, e9, ?_, ?_, ?_, ?_, ?_⟩
      · unfold pds at hA9 ⊢
        rw [List.map_append]
        exact hA9
      · rw [List.length_append]
        exact Nat.succ_le_succ hl
      · intro k hk
        rw [nums_app] at hk
        rcases List.mem_append.mp hk with m | m
        · exact hn k m
        · rw [List.mem_singleton.mp m]
          exact z0
      · intro x hx
        rcases List.mem_append.mp hx with m | m
        · exact hs x m
        · rw [List.mem_singleton.mp m]
          exact hok w hw
      · exact ((b7.kp k8 not_nil).kp k9 (not_one Lp.symm)).mono (by omega)
    · rintro σ' H5 ⟨v4, acc, ps, rfl, k5, e5, hA, hl, hn, hs, b5⟩
      walk_at "S"
      refine q L H5 ps nL k5 (b5.mono (by omega)) (by omega) hn hs (.lst (not_one Lp) e5 (hA.less fun b m => by rw [List.mem_singleton.mp m]; exact List.mem_cons_of_mem _ List.mem_cons_self))
theorem strOk_cmp {ps : List (Str × Int)} (h : ∀ q ∈ ps, PyData.strOk q.1 = true) : ∀ q ∈ cmp ps, PyData.strOk q.1 = true := fun q m => by
  obtain ⟨x, mx, rfl⟩ := List.mem_map.mp m
  exact h x mx
theorem strOk_wom {b : List (Str × Int)} {k : Str} {j : Nat} (h : ∀ q ∈ b, PyData.strOk q.1 = true) (hk : PyData.strOk k = true) : ∀ q ∈ wom b k j, PyData.strOk q.1 = true := fun q m => by
  unfold wom at m
  split at m
  · rcases List.mem_append.mp m with m | m
    · exact h q m
    · rw [List.mem_singleton.mp m]
      exact hk
  · rcases List.mem_append.mp m with m | m
    · obtain ⟨x, mx, rfl⟩ := List.mem_map.mp m
      exact h x mx
    · rw [List.mem_singleton.mp m]
      exact hk
theorem shp_pds {f : List (Str × Int)} (h : ∀ q ∈ f, PyData.strOk q.1 = true) : ∀ d ∈ pds f, Shp 1 d := fun d m => by
  obtain ⟨q, mq, rfl⟩ := List.mem_map.mp m
  refine Shp.tuple (n := 0) fun d m => ?_
  rcases List.mem_cons.mp m with rfl | m
  · exact Shp.str (h q mq) 0
  · rw [List.mem_singleton.mp m]
    exact Shp.int _ 0
theorem shp_pic {f : List (Str × Int)} (h : ∀ q ∈ f, PyData.strOk q.1 = true) : Shp 2 (picD f) := Shp.tuple (shp_pds h)
/-- the law: True -/
def sp_law (K : PySem.W.Frag) : Sp := fun vs H Q _ => ∃ (a : Addr) (ns : List Int), vs = [.ref a] ∧ SqL K H a (ns.map V.int) ∧ ns.length ≤ 63 ∧ ∀ H', Q (.bl true) H'
abbrev s_law : Stmt := top 12
theorem sc_law : FnScope ["_law_script", "_law_at", "_law_bag_here", "_law_names", "_law_turn", "_law_values_here", "_law_some", "_law_kept", "_law_kinds", "_law_told", "_law_kind", "_law_number", "_law_many", "_law_k", "_law_picture_here"] ["_law_script"] (defScope s_law) :=
  ⟨rfl, rfl, rfl, by decide +kernel, rfl, by decide +kernel, by decide +kernel⟩
theorem ok_law {f : Addr} {fd : FuncData} (F : Fun K "law" "law" s_law f fd) (T : Txt K mg) (U_extended : UseG P w K mg base 3 "extended" ["values", "names"] (sp_extended K)) (U__law_bag : Use P w K mg base 1 "_law_bag" ["_law_script", "_law_at"] (sp__law_bag K)) (U__law_take : Use P w K mg base 1 "_law_take" ["_law_bag_here", "_law_many"] (sp__law_take)) (U__law_name : Use P w K mg base 3 "_law_name" ["_law_bag_here", "_law_taken"] (sp__law_name K)) (U__law_picture : Use P w K mg base 1 "_law_picture" ["_law_values_here"] (sp__law_picture K)) (U__law_values : Use P w K mg base 3 "_law_values" ["_law_bag_here", "_law_names"] (sp__law_values K)) :
    FnOk P w K mg base CX0 9 f fd ["_law_script"] (sp_law K) := by
  refine F.ok sc_law (fun vs H Q E h => ?_) (fun cdv A outer s H vs Q E hr h => ?_)
  · obtain ⟨a, ns, rfl, _⟩ := h
    rfl
  · obtain ⟨a, ns, rfl, hS, hl, q⟩ := h
    have hu := hu_of hr
    have hu64 := hr.units
    refine ⟨_, (pss_cons (ps_for PassesOwn.never (by rfl) (pi_range1 (by rfl) T.z_range (pa_cons (pe_callB (cr_max2 rfl) (by rfl) T.z_max (by decide +kernel) (pa_cons pe_int (pa_cons (pe_callB (cr_min2 rfl) (by rfl) T.z_min (by decide +kernel) (pa_cons pe_int (pa_cons (pe_callB (K_len (K := K) rfl) (by rfl) T.z_len (by decide +kernel) (pa_cons (pv 0) pa_nil)) pa_nil))) pa_nil))) pa_nil)) (pg_name (i := 1) sc_law.nd rfl (by first | exact Or.inl rfl | exact Or.inr rfl))
          (pss_cons (ps_set (i := 2) sc_law.nd rfl (by first | exact Or.inl rfl | exact Or.inr rfl) (pe_use U__law_bag (hr.mono (by first | decide | omega)) (by rfl) (pa_cons (pv 0) (pa_cons (pv 1) pa_nil))))
          (pss_cons (ps_set (i := 3) sc_law.nd rfl (by first | exact Or.inl rfl | exact Or.inr rfl) (pe_lst pa_nil))
          (pss_cons (ps_for PassesOwn.never (by rfl) (pi_range1 (by rfl) T.z_range (pa_cons pe_int pa_nil)) (pg_name (i := 4) sc_law.nd rfl (by first | exact Or.inl rfl | exact Or.inr rfl))
            (pss_one (ps_expr (K_bm (K := K) rfl PySem.F.plainAttrs_list PySem.F.slot_list_append PySem.F.type_list_append mt_append (pv 3) (pa_cons (pe_use U__law_name (hr.mono (by first | decide | omega)) (by rfl) (pa_cons (pv 2) (pa_cons (pv 3) pa_nil))) pa_nil)))))
          (pss_cons (ps_set (i := 5) sc_law.nd rfl (by first | exact Or.inl rfl | exact Or.inr rfl) (pe_use U__law_values (hr.mono (by first | decide | omega)) (by rfl) (pa_cons (pv 2) (pa_cons (pv 3) pa_nil))))
          (pss_cons (ps_set (i := 6) sc_law.nd rfl (by first | exact Or.inl rfl | exact Or.inr rfl) (pe_slice (K_slL (K := K) rfl) (pv 3) (po_some (pe_use U__law_take (hr.mono (by first | decide | omega)) (by rfl) (pa_cons (pv 2) (pa_cons pe_int pa_nil)))) po_none))
          (pss_cons (ps_par (i := 7) (j := 8) (by rfl) sc_law.nd rfl rfl (by decide) rfl rfl (pa_cons (pe_callTy (K_list (K := K) rfl) (by rfl) T.z_list (by decide +kernel) (pa_cons (pv 5) pa_nil)) (pa_cons (pe_callTy (K_list (K := K) rfl) (by rfl) T.z_list (by decide +kernel) (pa_cons (pv 6) pa_nil)) pa_nil)) (by rfl))
          (pss_cons (ps_set (i := 9) sc_law.nd rfl (by first | exact Or.inl rfl | exact Or.inr rfl) (pe_useG U_extended (hr.mono (by first | decide | omega)) (by rfl) (by rfl) T.z_list (pa_cons (pv 5) (pa_cons (pv 6) pa_nil))))
          (pss_cons (ps_set (i := 12) sc_law.nd rfl (by first | exact Or.inl rfl | exact Or.inr rfl) (pe_callB (K_lenSet (w := w) rfl) (by rfl) T.z_len (by decide +kernel) (pa_cons (pe_callTy (K_setI (K := K) (w := w) rfl rfl rfl) (by rfl) T.z_set (by decide +kernel) (pa_cons (pe_op op_cat (pe_lst (pa_cons pe_int pa_nil)) (pe_lc (own := [("_law_kind", 10), ("_law_number", 11)]) (by rfl) sc_law.nd (K_pil (K := K) rfl (pv 5)) (blkOk_by (own := [("_law_kind", 10), ("_law_number", 11)]) (N := ["_law_script", "_law_at", "_law_bag_here", "_law_names", "_law_turn", "_law_values_here", "_law_some", "_law_kept", "_law_kinds", "_law_told", "_law_kind", "_law_number", "_law_many", "_law_k", "_law_picture_here"]) (sc := defScope s_law) (by decide +kernel)) (fun _ _ _ _ _ => (K_gtup (K := K) (n := 2) rfl (by rfl) (pgs_cons (pg_name (i := 10) sc_law.nd rfl (by first | exact Or.inl rfl | exact Or.inr rfl)) (pgs_cons (pg_name (i := 11) sc_law.nd rfl (by first | exact Or.inl rfl | exact Or.inr rfl)) pgs_nil)))) (fun _ _ _ _ _ => pts_nil) (fun _ _ _ _ _ => (pv 11)))) pa_nil)) pa_nil)))
          (pss_cons (ps_if (pt_cutT (PW.pt (pw_or (pt_cmpR (K_neD (K := K) rfl hu64) (pv 5) (pv 7) (nomark _)) (pw_or (pt_cmpR (K_neD (K := K) rfl hu64) (pv 6) (pv 8) (nomark _)) (pw_or1 (pt_cmpR op_ne (pe_callB (K_len (K := K) rfl) (by rfl) T.z_len (by decide +kernel) (pa_cons (pv 9) pa_nil)) (pe_op op_mul (pe_op op_mul pe_int (pv 12)) (pe_callB (K_len (K := K) rfl) (by rfl) T.z_len (by decide +kernel) (pa_cons (pv 8) pa_nil))) (nomark _)))))))
            (pss_one (ps_ret pe_bl))
            pss_nil)
          (pss_cons (ps_for PassesOwn.never (by rfl) (K_enum (K := K) rfl (by rfl) T.z_enumerate (pa_cons (pv 9) pa_nil)) (K_gtup (K := K) (n := 2) rfl (by rfl) (pgs_cons (pg_name (i := 13) sc_law.nd rfl (by first | exact Or.inl rfl | exact Or.inr rfl)) (pgs_cons (pg_name (i := 14) sc_law.nd rfl (by first | exact Or.inl rfl | exact Or.inr rfl)) pgs_nil)))
            (pss_cons (ps_if (pt_cutT (PW.pt (pw_or (pt_not (pt_val (pe_callB (K_isi (K := K) rfl) (by rfl) T.z_isinstance (by decide +kernel) (pa_cons (pv 14) (pa_cons (pe_bltn (v := .ty "tuple") (u := .type "tuple") (by rfl) T.z_tuple (by decide +kernel) rfl) pa_nil))))) (pw_or (pt_cmpR op_ne (pe_callB (K_len (K := K) rfl) (by rfl) T.z_len (by decide +kernel) (pa_cons (pv 14) pa_nil)) (pe_op op_add (pe_callB (K_len (K := K) rfl) (by rfl) T.z_len (by decide +kernel) (pa_cons (pv 7) pa_nil)) pe_int) (nomark _)) (pw_or1 (pt_cmpR (K_neD (K := K) rfl hu64) (pe_use U__law_picture (hr.mono (by first | decide | omega)) (by rfl) (pa_cons (pv 14) pa_nil)) (pv 14) (nomark _)))))))
              (pss_one (ps_ret pe_bl))
              pss_nil)
            (pss_cons (ps_if (pt_cutT (PW.pt (pw_or (pt_cmpR (K_neD (K := K) rfl hu64) (pe_use U__law_picture (hr.mono (by first | decide | omega)) (by rfl) (pa_cons (pe_slice (K_slT (K := K) rfl) (pv 14) po_none (po_some (pe_callB (K_len (K := K) rfl) (by rfl) T.z_len (by decide +kernel) (pa_cons (pv 7) pa_nil)))) pa_nil)) (pe_use U__law_picture (hr.mono (by first | decide | omega)) (by rfl) (pa_cons (pv 7) pa_nil)) (nomark _)) (pw_or1 (pt_cmpR (K_notIn (K := K) rfl) (pe_ix (K_ixT (K := K) rfl) (pe_ix (K_ixT (K := K) rfl) (pv 14) (pe_callB (K_len (K := K) rfl) (by rfl) T.z_len (by decide +kernel) (pa_cons (pv 7) pa_nil)) (fun _ _ => rfl)) pe_int (fun _ _ => rfl)) (pv 8) (by with_unfolding_all rfl))))))
              (pss_one (ps_ret pe_bl))
              pss_nil)
            (pss_one (ps_if (pt_cutT (PW.pt (pw_and (pt_cmpR op_gt (pv 13) pe_int (nomark _)) (pw_and1 (pt_not (pt_cmpR (K_ltD (K := K) rfl hu64) (pe_ix (K_ixL (K := K) rfl) (pv 9) (pe_op op_sub (pv 13) pe_int) (fun _ _ => rfl)) (pv 14) (nomark _)))))))
              (pss_one (ps_ret pe_bl))
              pss_nil)))))
          (pss_one (ps_if (pt_cmpR (K_neD (K := K) rfl hu64) (pe_useG U_extended (hr.mono (by first | decide | omega)) (by rfl) (by rfl) T.z_list (pa_cons (pe_callTy (K_tuple (K := K) rfl) (by rfl) T.z_tuple (by decide +kernel) (pa_cons (pv 5) pa_nil)) (pa_cons (pe_callTy (K_tuple (K := K) rfl) (by rfl) T.z_tuple (by decide +kernel) (pa_cons (pv 6) pa_nil)) pa_nil))) (pv 9) (nomark _))
            (pss_one (ps_ret pe_bl))
            pss_nil)))))))))))))
        (pss_one (ps_ret pe_bl))), ?_⟩
    have big : 2000 ≤ sizeLine := by decide
    walk_at "S"
    refine r_lenL hS ?_
    walk_at "S"
    have hlen : (ns.map V.int).length = ns.length := List.length_map _
    refine r_cRng1 ?_ ?_
    · rw [hlen]
      split <;> split <;> omega
    refine r_kForR (fun i σ' H' => ∃ v1 v2 v3 v4 v5 v6 v7 v8 v9 v10 v11 v12 v13 v14, σ' = [some (.ref a), v1, v2, v3, v4, v5, v6, v7, v8, v9, v10, v11, v12, v13, v14] ∧ Kp [] H H') ⟨none, none, none, none, none, none, none, none, none, none, none, none, none, none, rfl, Kp.refl _ _⟩ ?_ ?_
    · rintro i σ' H1 hi ⟨v1, v2, v3, v4, v5, v6, v7, v8, v9, v10, v11, v12, v13, v14, rfl, k1⟩
      have hi63 : i ≤ 63 := by
        rw [hlen] at hi
        split at hi <;> split at hi <;> omega
      walk_at "S"
      refine ⟨a, ns, i, rfl, k1.sql hS, by omega, fun p H2 np k2 b2 => ?_⟩
      walk_at "S"
      refine r_kLst (xs := []) (Nat.zero_le _) fun N H3 nN k3 eN => ?_
      have Np : N ≠ p := by
        obtain ⟨ob, hob⟩ := b2.some
        exact ne_none hob nN
      have b3 : BagAt H3 p 60000000048 := (b2.kp k3 not_nil).mono (by omega)
      walk_at "S"
      refine r_cRng1 ⟨by decide, by decide⟩ ?_
      refine r_kForR (fun j σ' H' => ∃ (v4 : Option V) (ws : List Str), σ' = [some (.ref a), some (.int (i : Int)), some (.ref p), some (.ref N), v4, v5, v6, v7, v8, v9, v10, v11, v12, v13, v14] ∧ Kp [p] H2 H' ∧ H' N = some (.lst (ws.map V.str)) ∧ ws.length = j ∧ ws.Nodup ∧
          (∀ w ∈ ws, NameOk w) ∧ BagAt H' p (60000000000 + 12 * (4 - j))) ⟨_, [], rfl, k3.nil, eN, rfl, List.nodup_nil, (fun w m => nomatch m), b3⟩ ?_ ?_
      · rintro j σ' H4 hj ⟨v4, ws, rfl, k4, e4, hw, nd, hok, b4⟩
        have hj4 : j < 4 := hj
        walk_at "S"
        refine r_kBMl (SqL.of e4) ?_
        walk_at "S"
        refine ⟨p, N, 60000000000 + 12 * (4 - (j + 1)), ws, rfl, b4.mono (by omega), SqL.of e4, by omega, fun u H5 uok un k5 b5 => ?_⟩
        walk_at "S"
        have e5 := k5 _ _ e4 (not_one Np)
        refine r_append e5 (by rw [List.length_map]; omega) fun H6 k6 e6 => ?_
        walk_at "S"
        refine ⟨_, ws ++ [u], rfl, (k4.trans k5).step nN k6, ?_, ?_, ?_, ?_, b5.kp k6 (not_one Np.symm)⟩
        · rw [List.map_append]
          exact e6
        · rw [List.length_append, hw]
          rfl
        · exact List.nodup_append.mpr ⟨nd, (List.pairwise_singleton _ u), fun x mx y my e => by
            rw [List.mem_singleton.mp my] at e
            exact un (e ▸ mx)⟩
        · intro w m
          rcases List.mem_append.mp m with m | m
          · exact hok w m
          · rw [List.mem_singleton.mp m]
            exact uok
      rintro σ' H4 ⟨v4, ws, rfl, k4, e4, hw, nd, hok, b4⟩
      have hw4 : ws.length = 4 := hw
      have hsok : ∀ w ∈ ws, PyData.strOk w = true := fun w m => strOk_of (fun c hc => ((hok w m).2.2.1 c hc).2) (by decide)
      walk_at "S"
      refine ⟨p, N, 50000000000, ws, rfl, b4.mono (by omega), e4, Np, by omega, by omega, hsok, fun r H5 ps nr k5 b5 hp hn hs hr => ?_⟩
      obtain ⟨r', xs, e, rp, er, hA⟩ := hr.list
      cases e
      have hxl : xs.length = ps.length := by
        rw [hA.length]
        exact List.length_map _
      have e5 := k5 _ _ e4 (not_one Np)
      walk_at "S"
      refine ⟨p, 40000000000, 5, rfl, b5.mono (by omega), by decide, by decide, fun z H6 z0 z1 k6 b6 => ?_⟩
      walk_at "S"
      have e6 := k6 _ _ e5 (not_one Np)
      refine r_slL (SqL.of e6) fun S H7 nS k7 eS => ?_
      obtain ⟨y, rfl⟩ : ∃ y : Nat, z = (y : Int) := ⟨z.toNat, by omega⟩
      rw [cut_from, ← List.map_drop] at eS
      have hkl : (ws.drop y).length ≤ 4 := by
        rw [List.length_drop]
        omega
      have hkn : (ws.drop y).Nodup := nd.sublist (List.drop_sublist _ _)
      have hkok : ∀ w ∈ ws.drop y, PyData.strOk w = true := fun w m => hsok w (List.mem_of_mem_drop m)
      generalize ws.drop y = ks at eS hkl hkn hkok
      have k57 : Kp [p] H5 H7 := k6.trans k7.nil
      have er7 := k57 _ _ er (fun m => rp m)
      have hA7 : DtAll [] H7 xs (pds ps) := (hA.mono k57).less fun _ m => absurd m not_nil
      have k17 : Kp [] H1 H7 := (k2.nil.trans (k4.trans (k5.trans k57))).drop np
      clear hA er k57 e6 e5 e4 eN b6 b5 b4 b3 b2 hr
      walk_at "S"
      refine r_listL (SqL.of er7) fun R H8 nR k8 eR => ?_
      walk_at "S"
      refine r_listL (SqL.of (k8 _ _ eS not_nil)) fun S2 H9 nS2 k9 eS2 => ?_
      refine ⟨_, _, rfl, ?_⟩
      walk_at "S"
      have k79 := k8.trans k9
      refine ⟨r, S, xs, ps, ks, rfl, .inl (SqL.of (k79 _ _ er7 not_nil)), hA7.mono k79, .inl (SqL.of (k79 _ _ eS not_nil)), by omega, hn, by omega, fun out H10 k10 hO => r_kOut fun T1 H11 nT k11 eT => ?_⟩
      walk_at "S"
      refine r_kLst (xs := [V.int 0]) (by show 1 ≤ sizeLine; decide) fun l1 H12 n1 k12 e1 => ?_
      walk_at "S"
      have k712 : Kp [] H7 H12 := k79.trans (k10.trans (k11.trans k12))
      have er12 := k712 _ _ er7 not_nil
      refine r_cWL (SqL.of er12) ?_
      refine r_kLcL (fun D j acc H' => Kp [] H12 H' ∧ acc = ((ps.take j).map Prod.snd).map V.int) (fun D H' nD k e => ⟨k, rfl⟩) (fun D j acc H' _ h => sql_kp (SqL.of er12) h.1 not_nil) ?_ ?_
      · rintro D j acc x H13 nD hx eD ⟨k13, rfl⟩
        obtain ⟨w', n, t, hp', rfl, _, et⟩ := pds_get hA7 hx
        refine r_gtup (SqT.of ((k712.trans k13) _ _ et not_nil)) rfl ?_
        walk_at "S"
        refine r_kApp eD ?_ fun H14 k14 e14 => ⟨k13.step nD k14, ?_⟩
        · rw [List.length_map, List.length_map, List.length_take]
          omega
        · rw [take_map _ hp', List.map_append]
          rfl
      rintro D acc H13 nD eD ⟨k13, rfl⟩
      rw [hxl, List.take_length] at eD
      have eD : H13 D = some (.lst ((nums ps).map V.int)) := eD
      have hnl : (nums ps).length = ps.length := List.length_map _
      walk_at "S"
      refine r_cat (k13 _ _ e1 not_nil) eD ?_ fun l3 H14 n3 k14 e3 => ?_
      · rw [List.length_map]
        show 1 + (nums ps).length ≤ sizeLine
        omega
      have e3 : H14 l3 = some (.lst ((0 :: nums ps).map V.int)) := e3
      walk_at "S"
      refine ⟨l3, 0 :: nums ps, rfl, SqL.of e3, by rw [List.length_cons]; omega, fun l4 c n4 hc => ?_⟩
      have e4 : upd H14 l4 (SetO w l4 (fun j => decide (j ∈ 0 :: nums ps)) c) l4 = some (SetO w l4 (fun j => decide (j ∈ 0 :: nums ps)) c) := upd_same
      have k15 : Kp [] H14 (upd H14 l4 (SetO w l4 (fun j => decide (j ∈ 0 :: nums ps)) c)) := Kp.new n4
      generalize upd H14 l4 (SetO w l4 (fun j => decide (j ∈ 0 :: nums ps)) c) = H15 at e4 k15
      walk_at "S"
      refine ⟨l4, _, c, rfl, e4, fun zs nd' hz hm => ?_⟩
      have ec : c = (srt (nums ps)).length := by
        rw [← hz]
        refine ((List.perm_ext_iff_of_nodup nd' (nodup_rising (pw_srt (nums ps)))).mpr fun k => ?_).length_eq
        rw [hm, mem_srt]
        simp
      subst ec
      walk_at "S"
      have k1215 : Kp [] H12 H15 := k13.trans (k14.trans k15)
      have k715 := k712.trans k1215
      have k1115 := k12.trans k1215
      have eT15 := k1115 _ _ eT not_nil
      have er15 := k715 _ _ er7 not_nil
      have eS15 := k715 _ _ eS not_nil
      have eR15 := (k9.trans (k10.trans (k11.trans k1115))) _ _ eR not_nil
      have eS215 := (k10.trans (k11.trans k1115)) _ _ eS2 not_nil
      have hA15 := hA7.mono k715
      have hO15 := hO.mono (k11.trans k1115)
      have k115 := k17.trans k715
      have hol : out.length = 2 * (srt (nums ps)).length * ks.length := by
        rw [hO.length, extD_length]
      have shS : Shp 1 (.list (ks.map .str)) := Shp.list (n := 0) fun d m => by
        obtain ⟨x, mx, rfl⟩ := List.mem_map.mp m
        exact Shp.str (hkok x mx) 0
      clear eT e1 eD e3 e4 hO hA7 er7 er12 eS eR eS2
      refine r_cutT (fun b H' => H15 = H' ∧ b = false) ?_ ?_
      · walk_at "S"
        refine r_neD0 (d := .list (pds ps)) (n := 2) (.lst (ex := []) not_nil er15 hA15) (.lst (ex := []) not_nil eR15 hA15) (Shp.list (shp_pds hs)) (by decide) ?_
        walk_at "S"
        refine r_kOr0 rfl ?_
        walk_at "S"
        refine r_neD0 (d := .list (ks.map .str)) (n := 1) (.lst (ex := []) not_nil eS15 (DtAll.of_strs ks)) (.lst (ex := []) not_nil eS215 (DtAll.of_strs ks)) shS (by decide) ?_
        walk_at "S"
        refine r_kOr0 rfl ?_
        walk_at "S"
        refine r_lenL (SqL.of eT15) ?_
        walk_at "S"
        refine r_I (.inl (by decide)) ?_
        walk_at "S"
        refine r_lenL (SqL.of eS215) ?_
        rw [List.length_map]
        walk_at "S"
        refine r_I (.inr ⟨by omega, by omega⟩) ?_
        walk_at "S"
        refine ⟨rfl, ?_⟩
        rw [decide_eq_true (by rw [hol]; simp only [Int.natCast_mul]; rfl)]
        rfl
      rintro b H' ⟨rfl, rfl⟩
      refine r_kIfS0 rfl ?_
      walk_at "S"
      refine r_cEnum (SqL.of eT15) ?_
      refine r_kFor walk_enum (fun j σ' H' => ∃ v13 v14, σ' = [some (.ref a), some (.int (i : Int)), some (.ref p), some (.ref N), v4, some (.ref r), some (.ref S), some (.ref R), some (.ref S2), some (.ref T1), v10, v11, some (.int ((srt (nums ps)).length : Nat)), v13, v14] ∧ Kp [] H15 H')
        ⟨_, _, rfl, Kp.refl _ _⟩ (fun j σ' H' _ h => by
          obtain ⟨_, _, _, k⟩ := h
          exact SqL.of (k _ _ eT15 not_nil)) ?_ ?_
      · rintro j x σ' H16 H17 hj ⟨v13, v14, rfl, k16⟩ ⟨t, u, v, rfl, nt, rfl, hu, hx⟩
        cases hu
        have e7 : upd H16 t (.tup [.int (j : Int), v]) t = some (.tup [.int (j : Int), v]) := upd_same
        have k7' : Kp [] H16 (upd H16 t (.tup [.int (j : Int), v])) := Kp.new nt
        generalize upd H16 t (.tup [.int (j : Int), v]) = H17 at e7 k7'
        have k1517 := k16.trans k7'
        obtain ⟨d, hd, hxd⟩ := hO15.at hx
        obtain ⟨f, hf, rfl⟩ := extD_mem (mem_at hd)
        have hfl := exts_len hf
        obtain ⟨w', hw', jj, hjj, ef⟩ := exts_mem.mp hf
        have hfix : cmp f = f := by
          rw [ef]
          exact cmp_wom hn hjj
        have hcut : cmp (f.take ps.length) = cmp ps := by
          rw [ef]
          exact cmp_take hn hjj
        have hfs : ∀ q ∈ f, PyData.strOk q.1 = true := by
          rw [ef]
          exact strOk_wom (strOk_cmp hs) (hkok w' hw')
        obtain ⟨lv, hlv⟩ := wom_last (b := cmp ps) (k := w') (j := jj) (cmp_length ps)
        rw [← ef] at hlv
        have hd17 := hxd.mono k1517
        obtain ⟨m, fs, rfl, _, em, hF⟩ := hd17.tuple
        have hfsl : fs.length = ps.length + 1 := by
          rw [hF.length]
          unfold pds
          rw [List.length_map, hfl]
        refine r_gtup (SqT.of e7) rfl ?_
        walk_at "S"
        refine r_cutT (fun b H' => Kp [] H17 H' ∧ b = false) ?_ ?_
        · walk_at "S"
          refine r_isiTup hd17 ?_
          walk_at "S"
          refine r_kOr0 rfl ?_
          walk_at "S"
          refine r_lenT (SqT.of em) ?_
          walk_at "S"
          refine r_lenL (SqL.of (k1517 _ _ eR15 not_nil)) ?_
          walk_at "S"
          refine r_kOr0 (by rw [decide_eq_true (by omega)]; rfl) ?_
          walk_at "S"
          refine ⟨m, fs, f, rfl, .inr (SqT.of em), hF, by omega, fun r1 H18 nr1 k18 hr1 => ?_⟩
          rw [hfix] at hr1
          walk_at "S"
          refine r_neD0 (d := picD f) hr1 (hd17.mono k18) (shp_pic hfs) (by decide) ?_
          walk_at "S"
          exact ⟨k18, rfl⟩
        rintro b H18 ⟨k18, rfl⟩
        refine r_kIfS0 rfl ?_
        walk_at "S"
        have k1518 := k1517.trans k18
        have em18 := k18 _ _ em not_nil
        have eR18 := k1518 _ _ eR15 not_nil
        have hF18 := hF.mono k18
        refine r_cutT (fun b H' => Kp [] H18 H' ∧ b = false) ?_ ?_
        · walk_at "S"
          refine r_lenL (SqL.of eR18) ?_
          walk_at "S"
          refine r_slT (SqT.of em18) ?_ fun c1 H19 nc1 k19 ec1 => ?_
          · rw [HT.sIx_nat]
            omega
          rw [cut_to, hxl] at ec1
          walk_at "S"
          have hF19 : DtAll [] H19 (fs.take ps.length) (pds (f.take ps.length)) := by
            unfold pds
            rw [List.map_take]
            exact dtAll_take _ (hF18.mono k19)
          refine ⟨c1, fs.take ps.length, f.take ps.length, rfl, .inr (SqT.of ec1), hF19, by rw [List.length_take]; omega, fun r1 H20 nr1 k20 hr1 => ?_⟩
          rw [hcut] at hr1
          walk_at "S"
          have k1820 := k19.trans k20
          refine ⟨R, xs, ps, rfl, .inl (SqL.of (k1820 _ _ eR18 not_nil)), hA15.mono (k1518.trans k1820), by omega, fun r2 H21 nr2 k21 hr2 => ?_⟩
          walk_at "S"
          refine r_neD0 (d := picD (cmp ps)) (hr1.mono k21) hr2 (shp_pic (strOk_cmp hs)) (by decide) ?_
          walk_at "S"
          refine r_kOr0 rfl ?_
          walk_at "S"
          have k1821 := k1820.trans k21
          refine r_lenL (SqL.of (k1821 _ _ eR18 not_nil)) ?_
          walk_at "S"
          have hlast : fs[ps.length]? = some fs[ps.length] := List.getElem?_eq_getElem (by omega)
          obtain ⟨d1, hd1, hx1⟩ := (hF18.mono k1821).at hlast
          have hd2 : (pds f)[ps.length]? = some (pd (w', lv)) := by
            unfold pds
            rw [List.getElem?_map, hlv]
            rfl
          rw [hd1] at hd2
          cases hd2
          obtain ⟨t1, e1', _, et1⟩ := Dt.pair hx1
          rw [e1'] at hlast
          rw [hxl]
          refine r_ixT (SqT.of (k1821 _ _ em18 not_nil)) (atI_nat (j := ps.length) hlast) ?_
          walk_at "S"
          refine r_ixT (SqT.of et1) (atI_nat (j := 0) rfl) ?_
          walk_at "S"
          refine r_notInL (SqL.of ((k1518.trans k1821) _ _ eS215 not_nil)) ?_
          rw [decide_eq_true hw']
          walk_at "S"
          exact ⟨k1821, rfl⟩
        rintro b H19 ⟨k19, rfl⟩
        refine r_kIfS0 rfl ?_
        walk_at "S"
        have k1519 := k1518.trans k19
        refine r_cutT (fun b H' => H19 = H' ∧ b = false) ?_ ?_
        · walk_at "S"
          refine r_kAnd (fun c => ?_) (fun c => ⟨rfl, rfl⟩)
          have c : 0 < j := by
            have := of_decide_eq_true c
            omega
          walk_at "S"
          obtain ⟨j, rfl⟩ : ∃ j', j = j' + 1 := ⟨j - 1, by omega⟩
          have ej : (((j + 1 : Nat) : Int) - 1) = (j : Int) := by omega
          rw [ej]
          have hb1 : out[j]? = some out[j] := List.getElem?_eq_getElem (by omega)
          obtain ⟨d1, hd1, hx1⟩ := (hO15.mono k1519).at hb1
          obtain ⟨g, hg, rfl⟩ := extD_mem (mem_at hd1)
          refine r_ixL (SqL.of (k1519 _ _ eT15 not_nil)) (atI_nat (j := j) hb1) ?_
          walk_at "S"
          refine r_ltD hx1 (hd17.mono (k18.trans k19)) (alike_pic (by rw [exts_len hg, hfl])) (fun z => nomatch z) (depth_pic g) ?_
          rw [extD_strict hn hkn hd1 hd]
          walk_at "S"
          exact ⟨rfl, rfl⟩
        rintro b H' ⟨rfl, rfl⟩
        refine r_kIfS0 rfl ?_
        walk_at "S"
        exact ⟨_, _, rfl, k1519⟩
      · rintro σ' H16 ⟨v13, v14, rfl, k16⟩
        walk_at "S"
        refine r_tupleL (SqL.of (k16 _ _ er15 not_nil)) fun t1 H17 nt1 k17' et1 => ?_
        walk_at "S"
        refine r_tupleL (SqL.of ((k16.trans k17') _ _ eS15 not_nil)) fun t2 H18 nt2 k18 et2 => ?_
        walk_at "S"
        have k1518 := k16.trans (k17'.trans k18)
        refine ⟨t1, t2, xs, ps, ks, rfl, .inr (SqT.of (k18 _ _ et1 not_nil)), hA15.mono k1518, .inr (SqT.of et2), by omega, hn, by omega, fun out2 H19 k19 hO2 => r_kOut fun T2 H20 nT2 k20 eT2 => ?_⟩
        walk_at "S"
        have k1520 := k1518.trans (k19.trans k20)
        refine r_neD0 (d := .list (extD ps ks)) (n := 3) (.lst (ex := []) not_nil eT2 (hO2.mono k20)) (.lst (ex := []) not_nil (k1520 _ _ eT15 not_nil) (hO15.mono k1520)) (Shp.list fun d m => by
          obtain ⟨f, hf, rfl⟩ := extD_mem m
          obtain ⟨w', hw', jj, _, rfl⟩ := exts_mem.mp hf
          exact shp_pic (strOk_wom (strOk_cmp hs) (hkok w' hw'))) (by decide) ?_
        walk_at "S"
        refine r_kIfS0 rfl ?_
        walk_at "S"
        exact ⟨_, _, _, _, _, _, _, _, _, _, _, _, _, _, rfl, k1.trans (k115.trans k1520)⟩
    · rintro σ' H1 ⟨v1, v2, v3, v4, v5, v6, v7, v8, v9, v10, v11, v12, v13, v14, rfl, k1⟩
      walk_at "S"
      exact q H1

end
theorem all_mk {l : PySem.W.OpenLaw} {w : World} {K : PySem.W.Frag} {h : Heap} {mg : Str → Option Value} {fa f1 f2 f3 f4 f5 f6 f7 f8 f9 f10 f11 : Addr} (X : K.In h) (G : h.Ns mainGlobals mg) (hfa : mg "law" = some (.ref fa))
    {od1 an1 od2 an2 od3 an3 od4 an4 od5 an5 od6 an6 od7 an7 od8 an8 od9 an9 od10 an10 od11 an11 : Option Addr} {sl1 sl2 sl3 sl4 sl5 sl6 sl7 sl8 sl9 sl10 sl11 : Array (Option Value)} {oc1 kV1 dc1 pm1 cd1 ct1 oc2 kV2 dc2 pm2 cd2 ct2 oc3 kV3 dc3 pm3 cd3 ct3 oc4 kV4 dc4 pm4 cd4 ct4 oc5 kV5 dc5 pm5 cd5 ct5 oc6 kV6 dc6 pm6 cd6 ct6 oc7 kV7 dc7 pm7 cd7 ct7 oc8 kV8 dc8 pm8 cd8 ct8 oc9 kV9 dc9 pm9 cd9 ct9 oc10 kV10 dc10 pm10 cd10 ct10 oc11 kV11 dc11 pm11 cd11 ct11 : Value}
    (a1 : PySem.W.nsIn K mainGlobals "ranks" = some (some (.ref f1))) (l1 : K.lookup f1 = some ⟨oc1, od1, .func (PySem.W.fnOf "ranks" "ranks" (defArgs s_ranks) (defBody s_ranks) (defScope s_ranks) .none kV1 dc1 pm1 an1 cd1 ct1), sl1⟩) (c1 : PySem.W.codeIn K cd1 "ranks" = true) (k1 : PySem.W.keepIn K (.ref f1) = true)
    (a2 : PySem.W.nsIn K mainGlobals "with_one_more" = some (some (.ref f2))) (l2 : K.lookup f2 = some ⟨oc2, od2, .func (PySem.W.fnOf "with_one_more" "with_one_more" (defArgs s_with_one_more) (defBody s_with_one_more) (defScope s_with_one_more) .none kV2 dc2 pm2 an2 cd2 ct2), sl2⟩) (c2 : PySem.W.codeIn K cd2 "with_one_more" = true) (k2 : PySem.W.keepIn K (.ref f2) = true)
    (a3 : PySem.W.nsIn K mainGlobals "_law_bag" = some (some (.ref f3))) (l3 : K.lookup f3 = some ⟨oc3, od3, .func (PySem.W.fnOf "_law_bag" "_law_bag" (defArgs s__law_bag) (defBody s__law_bag) (defScope s__law_bag) .none kV3 dc3 pm3 an3 cd3 ct3), sl3⟩) (c3 : PySem.W.codeIn K cd3 "_law_bag" = true) (k3 : PySem.W.keepIn K (.ref f3) = true)
    (a4 : PySem.W.nsIn K mainGlobals "_law_take" = some (some (.ref f4))) (l4 : K.lookup f4 = some ⟨oc4, od4, .func (PySem.W.fnOf "_law_take" "_law_take" (defArgs s__law_take) (defBody s__law_take) (defScope s__law_take) .none kV4 dc4 pm4 an4 cd4 ct4), sl4⟩) (c4 : PySem.W.codeIn K cd4 "_law_take" = true) (k4 : PySem.W.keepIn K (.ref f4) = true)
    (a5 : PySem.W.nsIn K mainGlobals "_law_picture" = some (some (.ref f5))) (l5 : K.lookup f5 = some ⟨oc5, od5, .func (PySem.W.fnOf "_law_picture" "_law_picture" (defArgs s__law_picture) (defBody s__law_picture) (defScope s__law_picture) .none kV5 dc5 pm5 an5 cd5 ct5), sl5⟩) (c5 : PySem.W.codeIn K cd5 "_law_picture" = true) (k5 : PySem.W.keepIn K (.ref f5) = true)
    (a6 : PySem.W.nsIn K mainGlobals "compressed" = some (some (.ref f6))) (l6 : K.lookup f6 = some ⟨oc6, od6, .func (PySem.W.fnOf "compressed" "compressed" (defArgs s_compressed) (defBody s_compressed) (defScope s_compressed) .none kV6 dc6 pm6 an6 cd6 ct6), sl6⟩) (c6 : PySem.W.codeIn K cd6 "compressed" = true) (k6 : PySem.W.keepIn K (.ref f6) = true)
    (a7 : PySem.W.nsIn K mainGlobals "_law_of" = some (some (.ref f7))) (l7 : K.lookup f7 = some ⟨oc7, od7, .func (PySem.W.fnOf "_law_of" "_law_of" (defArgs s__law_of) (defBody s__law_of) (defScope s__law_of) .none kV7 dc7 pm7 an7 cd7 ct7), sl7⟩) (c7 : PySem.W.codeIn K cd7 "_law_of" = true) (k7 : PySem.W.keepIn K (.ref f7) = true)
    (a8 : PySem.W.nsIn K mainGlobals "extended" = some (some (.ref f8))) (l8 : K.lookup f8 = some ⟨oc8, od8, .func (PySem.W.fnOf "extended" "extended" (defArgs s_extended) (defBody s_extended) (defScope s_extended) .none kV8 dc8 pm8 an8 cd8 ct8), sl8⟩) (c8 : PySem.W.codeIn K cd8 "extended" = true) (k8 : PySem.W.keepIn K (.ref f8) = true)
    (a9 : PySem.W.nsIn K mainGlobals "_law_name" = some (some (.ref f9))) (l9 : K.lookup f9 = some ⟨oc9, od9, .func (PySem.W.fnOf "_law_name" "_law_name" (defArgs s__law_name) (defBody s__law_name) (defScope s__law_name) .none kV9 dc9 pm9 an9 cd9 ct9), sl9⟩) (c9 : PySem.W.codeIn K cd9 "_law_name" = true) (k9 : PySem.W.keepIn K (.ref f9) = true)
    (a10 : PySem.W.nsIn K mainGlobals "_law_values" = some (some (.ref f10))) (l10 : K.lookup f10 = some ⟨oc10, od10, .func (PySem.W.fnOf "_law_values" "_law_values" (defArgs s__law_values) (defBody s__law_values) (defScope s__law_values) .none kV10 dc10 pm10 an10 cd10 ct10), sl10⟩) (c10 : PySem.W.codeIn K cd10 "_law_values" = true) (k10 : PySem.W.keepIn K (.ref f10) = true)
    (a11 : PySem.W.nsIn K mainGlobals "law" = some (some (.ref f11))) (l11 : K.lookup f11 = some ⟨oc11, od11, .func (PySem.W.fnOf "law" "law" (defArgs s_law) (defBody s_law) (defScope s_law) .none kV11 dc11 pm11 an11 cd11 ct11), sl11⟩) (c11 : PySem.W.codeIn K cd11 "law" = true) (k11 : PySem.W.keepIn K (.ref f11) = true)
    (z_tuple : PySem.W.nsIn K mainGlobals "tuple" = some none) (z_sorted : PySem.W.nsIn K mainGlobals "sorted" = some none) (z_range : PySem.W.nsIn K mainGlobals "range" = some none) (z_abs : PySem.W.nsIn K mainGlobals "abs" = some none) (z_int : PySem.W.nsIn K mainGlobals "int" = some none) (z_set : PySem.W.nsIn K mainGlobals "set" = some none) (z_max : PySem.W.nsIn K mainGlobals "max" = some none) (z_list : PySem.W.nsIn K mainGlobals "list" = some none) (z_len : PySem.W.nsIn K mainGlobals "len" = some none) (z_enumerate : PySem.W.nsIn K mainGlobals "enumerate" = some none) (z_min : PySem.W.nsIn K mainGlobals "min" = some none) (z_isinstance : PySem.W.nsIn K mainGlobals "isinstance" = some none) :
    ∃ fd : FuncData, (∀ (s : Shared) (v : Value), BindsTo s fd ⟨[v], []⟩ [("_law_script", v)]) ∧ ∀ base : Heap, K.In base → base.Ns mainGlobals mg → FnOk l.prog w K mg base CX0 9 fa fd ["_law_script"] (sp_law K) := by
  have e := hfa.symm.trans (PySem.W.mg_of X G a11)
  cases e
  have T : Txt K mg := ⟨PySem.W.mg_none_of X G z_tuple, PySem.W.mg_none_of X G z_sorted, PySem.W.mg_none_of X G z_range, PySem.W.mg_none_of X G z_abs, PySem.W.mg_none_of X G z_int, PySem.W.mg_none_of X G z_set, PySem.W.mg_none_of X G z_max, PySem.W.mg_none_of X G z_list, PySem.W.mg_none_of X G z_len, PySem.W.mg_none_of X G z_enumerate, PySem.W.mg_none_of X G z_min, PySem.W.mg_none_of X G z_isinstance⟩
  have F1 := fun_mk (st := s_ranks) l1 c1 k1
  have b1 := F1.binds (ps := ["numbers"]) fun _ _ _ _ _ _ us hl => match us, hl with | [_], _ => rfl
  have F2 := fun_mk (st := s_with_one_more) l2 c2 k2
  have b2 := F2.binds (ps := ["values", "kind", "place"]) fun _ _ _ _ _ _ us hl => match us, hl with | [_, _, _], _ => rfl
  have F3 := fun_mk (st := s__law_bag) l3 c3 k3
  have b3 := F3.binds (ps := ["_law_script", "_law_at"]) fun _ _ _ _ _ _ us hl => match us, hl with | [_, _], _ => rfl
  have F4 := fun_mk (st := s__law_take) l4 c4 k4
  have b4 := F4.binds (ps := ["_law_bag_here", "_law_many"]) fun _ _ _ _ _ _ us hl => match us, hl with | [_, _], _ => rfl
  have F5 := fun_mk (st := s__law_picture) l5 c5 k5
  have b5 := F5.binds (ps := ["_law_values_here"]) fun _ _ _ _ _ _ us hl => match us, hl with | [_], _ => rfl
  have F6 := fun_mk (st := s_compressed) l6 c6 k6
  have b6 := F6.binds (ps := ["values"]) fun _ _ _ _ _ _ us hl => match us, hl with | [_], _ => rfl
  have F7 := fun_mk (st := s__law_of) l7 c7 k7
  have b7 := F7.binds (ps := ["_law_bag_here", "_law_some"]) fun _ _ _ _ _ _ us hl => match us, hl with | [_, _], _ => rfl
  have F8 := fun_mk (st := s_extended) l8 c8 k8
  have b8 := F8.binds (ps := ["values", "names"]) fun _ _ _ _ _ _ us hl => match us, hl with | [_, _], _ => rfl
  have F9 := fun_mk (st := s__law_name) l9 c9 k9
  have b9 := F9.binds (ps := ["_law_bag_here", "_law_taken"]) fun _ _ _ _ _ _ us hl => match us, hl with | [_, _], _ => rfl
  have F10 := fun_mk (st := s__law_values) l10 c10 k10
  have b10 := F10.binds (ps := ["_law_bag_here", "_law_names"]) fun _ _ _ _ _ _ us hl => match us, hl with | [_, _], _ => rfl
  have F11 := fun_mk (st := s_law) l11 c11 k11
  refine ⟨PySem.W.fnOf "law" "law" (defArgs s_law) (defBody s_law) (defScope s_law) .none kV11 dc11 pm11 an11 cd11 ct11, fun s v => .of_eq rfl, fun base _ _ => ?_⟩
  have U_ranks : Use l.prog w K mg base 1 "ranks" ["numbers"] (sp_ranks K) := ⟨_, _, ok_ranks F1 T, PySem.W.mg_of X G a1, k1, b1⟩
  have U_with_one_more : Use l.prog w K mg base 1 "with_one_more" ["values", "kind", "place"] (sp_with_one_more K) := ⟨_, _, ok_with_one_more F2 T, PySem.W.mg_of X G a2, k2, b2⟩
  have U__law_bag : Use l.prog w K mg base 1 "_law_bag" ["_law_script", "_law_at"] (sp__law_bag K) := ⟨_, _, ok__law_bag F3 T, PySem.W.mg_of X G a3, k3, b3⟩
  have U__law_take : Use l.prog w K mg base 1 "_law_take" ["_law_bag_here", "_law_many"] (sp__law_take) := ⟨_, _, ok__law_take F4 T, PySem.W.mg_of X G a4, k4, b4⟩
  have U__law_picture : Use l.prog w K mg base 1 "_law_picture" ["_law_values_here"] (sp__law_picture K) := ⟨_, _, ok__law_picture F5 T, PySem.W.mg_of X G a5, k5, b5⟩
  have U_compressed : Use l.prog w K mg base 2 "compressed" ["values"] (sp_compressed K) := ⟨_, _, ok_compressed F6 T U_ranks, PySem.W.mg_of X G a6, k6, b6⟩
  have U__law_of : Use l.prog w K mg base 2 "_law_of" ["_law_bag_here", "_law_some"] (sp__law_of K) := ⟨_, _, ok__law_of F7 T U__law_take, PySem.W.mg_of X G a7, k7, b7⟩
  have U_extended : UseG l.prog w K mg base 3 "extended" ["values", "names"] (sp_extended K) := ⟨_, _, ok_extended F8 T U_compressed U_with_one_more, PySem.W.mg_of X G a8, k8, b8⟩
  have U__law_name : Use l.prog w K mg base 3 "_law_name" ["_law_bag_here", "_law_taken"] (sp__law_name K) := ⟨_, _, ok__law_name F9 T U__law_take U__law_of, PySem.W.mg_of X G a9, k9, b9⟩
  have U__law_values : Use l.prog w K mg base 3 "_law_values" ["_law_bag_here", "_law_names"] (sp__law_values K) := ⟨_, _, ok__law_values F10 T U__law_take U__law_of, PySem.W.mg_of X G a10, k10, b10⟩
  exact ok_law F11 T U_extended U__law_bag U__law_take U__law_name U__law_picture U__law_values
theorem walk {l : PySem.W.OpenLaw} {q : Program} {loose : List Str} {XP : (Str → Option Value) → Heap → Prop} {YP : World → Heap → Prop} {d : DefRec} {K : Params → PySem.W.Frag} (hn : l.most = some 63) (hdf : d.params.defaults = [])
    (hY : ∀ (w : World) (h : Heap), YP w h → (K w.params).In h)
    (F : ∀ (w : World) (mg : Str → Option Value) (fa : Addr) (h : Heap), (K w.params).In h → h.Ns mainGlobals mg → mg d.name = some (.ref fa) →
      ∃ fd : FuncData, (∀ (s : Shared) (u : Value), BindsTo s fd ⟨[u], []⟩ [("_law_script", u)]) ∧ ∀ base : Heap, (K w.params).In base → base.Ns mainGlobals mg → FnOk l.prog w (K w.params) mg base CX0 9 fa fd ["_law_script"] (sp_law (K w.params))) :
    PySem.W.WalkO q loose XP YP l.row.toRowW d [] (fun f vs => PySem.call f vs) :=
  L2.walk_of (n := 63) (k := 9) (x := "_law_script") (CX := fun _ => CX0) (sp := fun w => sp_law (K w.params)) hn (by decide) hdf ⟨rfl, by decide, by decide⟩ hY F (fun _ _ a ns hl _ hS => ⟨a, ns, rfl, hS, hl, fun _ => rfl⟩) fun _ _ _ _ _ z => z
end My
open PySem PySem.W PyProof.Rows
set_option maxRecDepth 100000 in
set_option maxHeartbeats 0 in
theorem PySem.Challenge.cw_silentswaps_k06_one_value_more_holds : PySem.Challenge.rw_silentswaps_k06_one_value_more.Holds := by
  w_on; o_law; k_head; (case hw => w_witness2)
  k_fill
  refine My.walk (l := PySem.Challenge.rw_silentswaps_k06_one_value_more) rfl rfl (fun w h Y => PySem.W.kIn_of Y) ?F
  case F =>
    intro w mg fa h KX G hmg
    refine' My.all_mk KX G hmg ?a1 ?l1 ?c1 ?k1 ?a2 ?l2 ?c2 ?k2 ?a3 ?l3 ?c3 ?k3 ?a4 ?l4 ?c4 ?k4 ?a5 ?l5 ?c5 ?k5 ?a6 ?l6 ?c6 ?k6 ?a7 ?l7 ?c7 ?k7 ?a8 ?l8 ?c8 ?k8 ?a9 ?l9 ?c9 ?k9 ?a10 ?l10 ?c10 ?k10 ?a11 ?l11 ?c11 ?k11 ?z_tuple ?z_sorted ?z_range ?z_abs ?z_int ?z_set ?z_max ?z_list ?z_len ?z_enumerate ?z_min ?z_isinstance
    (case a1 => k_is)
    (case l1 => k_is)
    (case c1 => k_is)
    (case k1 => k_is)
    (case a2 => k_is)
    (case l2 => k_is)
    (case c2 => k_is)
    (case k2 => k_is)
    (case a3 => k_is)
    (case l3 => k_is)
    (case c3 => k_is)
    (case k3 => k_is)
    (case a4 => k_is)
    (case l4 => k_is)
    (case c4 => k_is)
    (case k4 => k_is)
    (case a5 => k_is)
    (case l5 => k_is)
    (case c5 => k_is)
    (case k5 => k_is)
    (case a6 => k_is)
    (case l6 => k_is)
    (case c6 => k_is)
    (case k6 => k_is)
    (case a7 => k_is)
    (case l7 => k_is)
    (case c7 => k_is)
    (case k7 => k_is)
    (case a8 => k_is)
    (case l8 => k_is)
    (case c8 => k_is)
    (case k8 => k_is)
    (case a9 => k_is)
    (case l9 => k_is)
    (case c9 => k_is)
    (case k9 => k_is)
    (case a10 => k_is)
    (case l10 => k_is)
    (case c10 => k_is)
    (case k10 => k_is)
    (case a11 => k_is)
    (case l11 => k_is)
    (case c11 => k_is)
    (case k11 => k_is)
    (case z_tuple => k_is)
    (case z_sorted => k_is)
    (case z_range => k_is)
    (case z_abs => k_is)
    (case z_int => k_is)
    (case z_set => k_is)
    (case z_max => k_is)
    (case z_list => k_is)
    (case z_len => k_is)
    (case z_enumerate => k_is)
    (case z_min => k_is)
    (case z_isinstance => k_is)
#print axioms PySem.Challenge.cw_silentswaps_k06_one_value_more_holds
