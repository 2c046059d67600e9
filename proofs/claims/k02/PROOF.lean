import PyProof.Rows.All
import Wide.All
import OpenK.AllK
import Wide.FinOn
import KE.KExcSuper
import KE.KExcIs
import KE.GoesEnum
import HandS.ForMost
import HandS.Wide
import HandS.IsInst
import HandS.DictComp
import HandS.SortInts
import HandS.TupAny
import HandS.Conv
import HandS.Strs
import HandS.Walk
import HandS.More
import HandS.Star
import HandS.Codes
import HandS.ExcInit
import HandS.Nested
import HandS.ExcField
import HandS.ExcOwn
import HandS.ExcIs
import HandS.WordsExc
import PySem.Challenge.RW_silentswaps_k02_kinds_refused
set_option Elab.async false
set_option maxRecDepth 100000

set_option maxHeartbeats 4000000
/-! Rd: what the proofs of this repo share. Frames (Kp), data in the heap (Dt), defs as callers use them (Use), readings as rules from back to front (r_..), the tactic rows walk_at "s" (one step), walk_at "S" (many). -/
namespace Rd
open PySem PySem.Spec L2

/-! ### frames -/
def Kp (ex : List Addr) (H H' : Hp) : Prop := ∀ b o, H b = some o → b ∉ ex → H' b = some o
theorem Kp.refl (ex : List Addr) (H : Hp) : Kp ex H H := fun _ _ e _ => e
theorem Kp.trans {ex : List Addr} {H H1 H2 : Hp} (a : Kp ex H H1) (b : Kp ex H1 H2) : Kp ex H H2 := fun c o e n => b c o (a c o e n) n
theorem Kp.mono {ex ex' : List Addr} {H H' : Hp} (a : Kp ex H H') (s : ∀ b ∈ ex, b ∈ ex') : Kp ex' H H' := fun c o e n => a c o e fun m => n (s c m)
theorem Kp.nil {ex : List Addr} {H H' : Hp} (a : Kp [] H H') : Kp ex H H' := a.mono fun _ m => nomatch m
theorem Kp.drop {l : Addr} {ex : List Addr} {H H' : Hp} (a : Kp (l :: ex) H H') (n : H l = none) : Kp ex H H' := fun c o e m => by
  refine a c o e fun z => ?_
  rcases List.mem_cons.mp z with q | q
  · subst q
    rw [n] at e
    cases e
  · exact m q
theorem Kp.free {ex : List Addr} {H H' : Hp} {q : Addr} (a : Kp ex H H') (n : H' q = none) (m : q ∉ ex) : H q = none := by
  cases e : H q with
  | none => rfl
  | some o =>
    rw [a q o e m] at n
    cases n
theorem Kp.new {ex : List Addr} {H : Hp} {p : Addr} {o : HO} (n : H p = none) : Kp ex H (upd H p o) := fun b u e _ => by
  rw [upd_ne (ne_of_none e n)]
  exact e
theorem Kp.put {ex : List Addr} {H : Hp} {p : Addr} {o : HO} (m : p ∈ ex) : Kp ex H (upd H p o) := fun b u e n => by
  rw [upd_ne fun (z : b = p) => n (z ▸ m)]
  exact e
theorem Kp.get {ex : List Addr} {H H' : Hp} {b : Addr} {o : HO} (a : Kp ex H H') (e : H b = some o) (n : b ∉ ex) : H' b = some o := a b o e n
theorem Kp.sql {K : PySem.W.Frag} {H H' : Hp} {a : Addr} {xs : List V} (k : Kp [] H H') (h : SqL K H a xs) : SqL K H' a xs :=
  Same.seq (fun b o e => k b o e (by simp)) h
theorem not_nil {b : Addr} : b ∉ ([] : List Addr) := fun m => nomatch m
theorem not_one {b p : Addr} (h : b ≠ p) : b ∉ [p] := fun m => h (List.mem_singleton.mp m)
theorem not_two {b p q : Addr} (h : b ≠ p) (h' : b ≠ q) : b ∉ [p, q] := fun m => by
  rcases List.mem_cons.mp m with e | e
  · exact h e
  · exact h' (List.mem_singleton.mp e)
theorem ne_none {H : Hp} {a b : Addr} {o : HO} (h : H a = some o) (h' : H b = none) : b ≠ a := fun e => ne_of_none h h' e.symm

/-! ### data -/
mutual
inductive Dt (ex : List Addr) (H : Hp) : V → PyData → Prop
  | non : Dt ex H .non .none
  | bl (b : Bool) : Dt ex H (.bl b) (.bool b)
  | int (i : Int) : Dt ex H (.int i) (.int i)
  | str (x : Str) : Dt ex H (.str x) (.str x)
  | lst {a : Addr} {xs : List V} {ds : List PyData} : a ∉ ex → H a = some (.lst xs) → DtAll ex H xs ds → Dt ex H (.ref a) (.list ds)
  | tup {a : Addr} {xs : List V} {ds : List PyData} : a ∉ ex → H a = some (.tup xs) → DtAll ex H xs ds → Dt ex H (.ref a) (.tuple ds)
inductive DtAll (ex : List Addr) (H : Hp) : List V → List PyData → Prop
  | nil : DtAll ex H [] []
  | cons {v : V} {vs : List V} {d : PyData} {ds : List PyData} : Dt ex H v d → DtAll ex H vs ds → DtAll ex H (v :: vs) (d :: ds)
end
mutual
theorem Dt.mono' {ex ex' : List Addr} {H H' : Hp} (k : Kp ex H H') (s : ∀ b ∈ ex', b ∈ ex) : ∀ (d : PyData) (v : V), Dt ex H v d → Dt ex' H' v d
  | .none, _, h => by cases h; exact .non
  | .bool b, _, h => by cases h; exact .bl b
  | .int i, _, h => by cases h; exact .int i
  | .str x, _, h => by cases h; exact .str x
  | .list ds, _, h => by
    cases h with
    | lst n e al => exact .lst (fun m => n (s _ m)) (k _ _ e n) (DtAll.mono' k s ds _ al)
  | .tuple ds, _, h => by
    cases h with
    | tup n e al => exact .tup (fun m => n (s _ m)) (k _ _ e n) (DtAll.mono' k s ds _ al)
  | .dict _, _, h => by cases h
theorem DtAll.mono' {ex ex' : List Addr} {H H' : Hp} (k : Kp ex H H') (s : ∀ b ∈ ex', b ∈ ex) : ∀ (ds : List PyData) (vs : List V), DtAll ex H vs ds → DtAll ex' H' vs ds
  | [], _, h => by cases h; exact .nil
  | d :: ds, _, h => by
    cases h with
    | cons h1 h2 => exact .cons (Dt.mono' k s d _ h1) (DtAll.mono' k s ds _ h2)
end
theorem Dt.mono {ex : List Addr} {H H' : Hp} {v : V} {d : PyData} (h : Dt ex H v d) (k : Kp ex H H') : Dt ex H' v d := Dt.mono' k (fun _ m => m) d v h
theorem DtAll.mono {ex : List Addr} {H H' : Hp} {vs : List V} {ds : List PyData} (h : DtAll ex H vs ds) (k : Kp ex H H') : DtAll ex H' vs ds := DtAll.mono' k (fun _ m => m) ds vs h
theorem Dt.less {ex ex' : List Addr} {H : Hp} {v : V} {d : PyData} (h : Dt ex H v d) (s : ∀ b ∈ ex', b ∈ ex) : Dt ex' H v d := Dt.mono' (Kp.refl ex H) s d v h
theorem DtAll.less {ex ex' : List Addr} {H : Hp} {vs : List V} {ds : List PyData} (h : DtAll ex H vs ds) (s : ∀ b ∈ ex', b ∈ ex) : DtAll ex' H vs ds := DtAll.mono' (Kp.refl ex H) s ds vs h
mutual
theorem Dt.more' {ex : List Addr} {H : Hp} {l : Addr} (n : H l = none) : ∀ (d : PyData) (v : V), Dt ex H v d → Dt (l :: ex) H v d
  | .none, _, h => by cases h; exact .non
  | .bool b, _, h => by cases h; exact .bl b
  | .int i, _, h => by cases h; exact .int i
  | .str x, _, h => by cases h; exact .str x
  | .list ds, _, h => by
    cases h with
    | lst m e al => exact .lst (fun z => (List.mem_cons.mp z).elim (ne_of_none e n) m) e (DtAll.more' n ds _ al)
  | .tuple ds, _, h => by
    cases h with
    | tup m e al => exact .tup (fun z => (List.mem_cons.mp z).elim (ne_of_none e n) m) e (DtAll.more' n ds _ al)
  | .dict _, _, h => by cases h
theorem DtAll.more' {ex : List Addr} {H : Hp} {l : Addr} (n : H l = none) : ∀ (ds : List PyData) (vs : List V), DtAll ex H vs ds → DtAll (l :: ex) H vs ds
  | [], _, h => by cases h; exact .nil
  | d :: ds, _, h => by
    cases h with
    | cons h1 h2 => exact .cons (Dt.more' n d _ h1) (DtAll.more' n ds _ h2)
end
/-- an address that is new to the heap is none of the data's -/
theorem Dt.more {ex : List Addr} {H : Hp} {v : V} {d : PyData} {l : Addr} (h : Dt ex H v d) (n : H l = none) : Dt (l :: ex) H v d := Dt.more' n d v h
theorem DtAll.more {ex : List Addr} {H : Hp} {vs : List V} {ds : List PyData} {l : Addr} (h : DtAll ex H vs ds) (n : H l = none) : DtAll (l :: ex) H vs ds := DtAll.more' n ds vs h
mutual
theorem Dt.dp' {K : PySem.W.Frag} {ex : List Addr} {H : Hp} : ∀ (d : PyData) (v : V), Dt ex H v d → Dp K H v d
  | .none, _, h => by cases h; exact .non
  | .bool b, _, h => by cases h; exact .bl b
  | .int i, _, h => by cases h; exact .int i
  | .str x, _, h => by cases h; exact .str x
  | .list ds, _, h => by
    cases h with
    | lst n e al => exact .lst (SqL.of e) (DtAll.dp' ds _ al)
  | .tuple ds, _, h => by
    cases h with
    | tup n e al => exact .tup (SqT.of e) (DtAll.dp' ds _ al)
  | .dict _, _, h => by cases h
theorem DtAll.dp' {K : PySem.W.Frag} {ex : List Addr} {H : Hp} : ∀ (ds : List PyData) (vs : List V), DtAll ex H vs ds → DpAll K H vs ds
  | [], _, h => by cases h; exact .nil
  | d :: ds, _, h => by
    cases h with
    | cons h1 h2 => exact .cons (Dt.dp' d _ h1) (DtAll.dp' ds _ h2)
end
theorem Dt.dp {K : PySem.W.Frag} {ex : List Addr} {H : Hp} {v : V} {d : PyData} (h : Dt ex H v d) : Dp K H v d := Dt.dp' d v h
theorem Dt.list {ex : List Addr} {H : Hp} {v : V} {ds : List PyData} (h : Dt ex H v (.list ds)) : ∃ a xs, v = .ref a ∧ a ∉ ex ∧ H a = some (.lst xs) ∧ DtAll ex H xs ds := by
  cases h with
  | lst n e al => exact ⟨_, _, rfl, n, e, al⟩
theorem Dt.tuple {ex : List Addr} {H : Hp} {v : V} {ds : List PyData} (h : Dt ex H v (.tuple ds)) : ∃ a xs, v = .ref a ∧ a ∉ ex ∧ H a = some (.tup xs) ∧ DtAll ex H xs ds := by
  cases h with
  | tup n e al => exact ⟨_, _, rfl, n, e, al⟩
theorem DtAll.length {ex : List Addr} {H : Hp} : ∀ {vs : List V} {ds : List PyData}, DtAll ex H vs ds → vs.length = ds.length
  | [], _, h => by cases h; rfl
  | _ :: _, _, h => by
    cases h with
    | cons _ h2 => exact congrArg (· + 1) (DtAll.length h2)
theorem DtAll.at {ex : List Addr} {H : Hp} : ∀ {vs : List V} {ds : List PyData} {i : Nat} {v : V}, DtAll ex H vs ds → vs[i]? = some v → ∃ d, ds[i]? = some d ∧ Dt ex H v d
  | [], _, i, v, h, e => by simp at e
  | _ :: _, _, 0, v, h, e => by
    cases h with
    | cons h1 _ =>
      cases e
      exact ⟨_, rfl, h1⟩
  | _ :: _, _, i + 1, v, h, e => by
    cases h with
    | cons _ h2 => exact DtAll.at (i := i) h2 e
theorem DtAll.append {ex : List Addr} {H : Hp} : ∀ {vs ws : List V} {ds es : List PyData}, DtAll ex H vs ds → DtAll ex H ws es → DtAll ex H (vs ++ ws) (ds ++ es)
  | [], _, _, _, h, g => by cases h; exact g
  | _ :: _, _, _, _, h, g => by
    cases h with
    | cons h1 h2 => exact .cons h1 (DtAll.append h2 g)
theorem DtAll.snoc {ex : List Addr} {H : Hp} {vs : List V} {ds : List PyData} {v : V} {d : PyData} (h : DtAll ex H vs ds) (g : Dt ex H v d) : DtAll ex H (vs ++ [v]) (ds ++ [d]) := h.append (.cons g .nil)
theorem DtAll.strs {ex : List Addr} {H : Hp} : ∀ {vs : List V} {ws : List Str}, DtAll ex H vs (ws.map PyData.str) → vs = ws.map V.str
  | [], [], _ => rfl
  | [], _ :: _, h => by cases h
  | _ :: _, [], h => by cases h
  | v :: vs, w :: ws, h => by
    cases h with
    | cons h1 h2 =>
      cases h1
      rw [DtAll.strs h2]
      rfl
theorem DtAll.of_strs {ex : List Addr} {H : Hp} : ∀ (ws : List Str), DtAll ex H (ws.map V.str) (ws.map PyData.str)
  | [] => .nil
  | w :: ws => .cons (.str w) (DtAll.of_strs ws)
theorem DtAll.ints {ex : List Addr} {H : Hp} : ∀ {vs : List V} {ns : List Int}, DtAll ex H vs (ns.map PyData.int) → vs = ns.map V.int
  | [], [], _ => rfl
  | [], _ :: _, h => by cases h
  | _ :: _, [], h => by cases h
  | v :: vs, w :: ws, h => by
    cases h with
    | cons h1 h2 =>
      cases h1
      rw [DtAll.ints h2]
      rfl
theorem DtAll.of_ints {ex : List Addr} {H : Hp} : ∀ (ns : List Int), DtAll ex H (ns.map V.int) (ns.map PyData.int)
  | [] => .nil
  | n :: ns => .cons (.int n) (DtAll.of_ints ns)
/-- a pair of a text and a number -/
theorem Dt.pair {ex : List Addr} {H : Hp} {v : V} {x : Str} {n : Int} (h : Dt ex H v (.tuple [.str x, .int n])) : ∃ a, v = .ref a ∧ a ∉ ex ∧ H a = some (.tup [.str x, .int n]) := by
  obtain ⟨a, xs, rfl, m, e, al⟩ := h.tuple
  cases al with
  | cons h1 h2 =>
    cases h2 with
    | cons h3 h4 =>
      cases h4
      cases h1
      cases h3
      exact ⟨a, rfl, m, e⟩

/-! ### a def as its callers use it -/
def Use (P : Program) (w : World) (K : PySem.W.Frag) (mg : Str → Option Value) (base : Heap) (n : Nat) (x : Str) (ps : List Str) (sp : Sp) : Prop :=
  ∃ f fd, FnOk P w K mg base CX0 n f fd ps sp ∧ mg x = some (.ref f) ∧ PySem.W.keepIn K (.ref f) = true ∧ Binds K fd ps []
def tUse (sp : Sp) (t : TA) : TE := fun σ H Q => t σ H fun vs H1 => sp vs H1 Q E0
theorem tUse_eq (sp : Sp) (t : TA) : tCall sp [] E0 t = tUse sp t := by
  funext σ H Q
  show (t σ H fun vs H1 => sp (vs ++ []) H1 Q E0) = (t σ H fun vs H1 => sp vs H1 Q E0)
  simp only [List.append_nil]
theorem pe_use {X : Cx} {n : Nat} {x : Str} {ps : List Str} {sp : Sp} {e : Expr} {es : List Expr} {t : TA} {p pos : Pos} (U : Use X.prog X.w X.K X.mg X.base n x ps sp) (hr : Room n X.A) (hg : Gl X x) (ha : PA X (e :: es) t)
    (hdb : (x == ("__debug__" : Str)) = false := by decide) (he : starEach (e :: es) X.env = (false, eval e X.env) :: starEach es X.env := by rfl) (hpl : (backTo pos (starEach es X.env)).any (·.1) = false := by rfl) :
    PE X (.Call (.Name x p) (e :: es) [] pos) (tUse sp t) := by
  obtain ⟨f, fd, F, hm, hk, hb⟩ := U
  rw [← tUse_eq]
  exact pe_call F hr hg hm hk hb .nil pass0 ha hdb he hpl
theorem pe_use0 {X : Cx} {n : Nat} {x : Str} {ps : List Str} {sp : Sp} {p pos : Pos} (U : Use X.prog X.w X.K X.mg X.base n x ps sp) (hr : Room n X.A) (hg : Gl X x)
    (hdb : (x == ("__debug__" : Str)) = false := by decide) : PE X (.Call (.Name x p) [] [] pos) (tUse sp tNil) := by
  obtain ⟨f, fd, F, hm, hk, hb⟩ := U
  rw [← tUse_eq]
  exact pe_call0 F hr hg hm hk hb .nil pass0 hdb
/-- not A as a value, A a test of any kind -/
theorem pe_notP {X : Cx} {a : Expr} {t : TE} {pos : Pos} (h : PE X a t) : PE X (.UnaryOp .Not a pos) (tNotV t) := pe_not h

/-! ### readings, from back to front -/
section
variable {σ : St} {H : Hp} {Q : VK} {QB : Bool → Hp → Prop} {QA : List V → Hp → Prop} {v x y : V} {i : Nat} {ta tb tc te tv td ty : TE} {t u c : TT} {tr : TA} {r : R2} {g : TG} {gs : TGs}
  {nx bk ct : St → Hp → Prop} {rt : VK} {t1 t2 : TS} {K : PySem.W.Frag} {b : Bool}
theorem r_var (h : σ[i]? = some (some v)) (q : Q v H) : tVar i σ H Q := ⟨v, h, q⟩
theorem r_c (q : Q v H) : tC v σ H Q := q
theorem r_op (q : ta σ H fun x H1 => tb σ H1 fun y H2 => r x y H2 Q) : tOp r ta tb σ H Q := q
theorem r_un {f : V → Hp → VK → Prop} (q : ta σ H fun x H1 => f x H1 Q) : tUn f ta σ H Q := q
def kB (QB : Bool → Hp → Prop) : VK := fun x H => ∃ k, x = .bl k ∧ QB k H
theorem r_kB (q : QB b H) : kB QB (.bl b) H := ⟨b, rfl, q⟩
theorem r_test (q : te σ H (kB QB)) : tTest te σ H QB := q
theorem r_tB (q : te σ H (kB QB)) : tB te σ H QB := q
def kAnd (u : TT) (σ : St) (QB : Bool → Hp → Prop) : Bool → Hp → Prop := fun c H => if c = true then u σ H QB else QB false H
def kOr (u : TT) (σ : St) (QB : Bool → Hp → Prop) : Bool → Hp → Prop := fun c H => if c = true then QB true H else u σ H QB
theorem r_and (q : t σ H (kAnd u σ QB)) : tAnd t u σ H QB := q
theorem r_or (q : t σ H (kOr u σ QB)) : tOr t u σ H QB := q
theorem r_not (q : t σ H fun c H1 => QB (!c) H1) : tNot t σ H QB := q
theorem r_kAnd (h1 : b = true → u σ H QB) (h2 : b = false → QB false H) : kAnd u σ QB b H := by
  unfold kAnd
  cases b
  · exact h2 rfl
  · exact h1 rfl
theorem r_kOr (h1 : b = true → QB true H) (h2 : b = false → u σ H QB) : kOr u σ QB b H := by
  unfold kOr
  cases b
  · exact h2 rfl
  · exact h1 rfl
theorem r_kAnd1 (h : b = true) (q : u σ H QB) : kAnd u σ QB b H := by
  subst h
  exact q
theorem r_kAnd0 (h : b = false) (q : QB false H) : kAnd u σ QB b H := by
  subst h
  exact q
theorem r_kOr1 (h : b = true) (q : QB true H) : kOr u σ QB b H := by
  subst h
  exact q
theorem r_kOr0 (h : b = false) (q : u σ H QB) : kOr u σ QB b H := by
  subst h
  exact q
def kAndV (tb : TE) (σ : St) (Q : VK) : VK := fun x H1 => ∃ c, x = .bl c ∧ if c = true then tb σ H1 Q else Q (.bl false) H1
def kOrV (tb : TE) (σ : St) (Q : VK) : VK := fun x H1 => ∃ c, x = .bl c ∧ if c = true then Q (.bl true) H1 else tb σ H1 Q
theorem r_andV (q : ta σ H (kAndV tb σ Q)) : tAndV ta tb σ H Q := q
theorem r_orV (q : ta σ H (kOrV tb σ Q)) : tOrV ta tb σ H Q := q
theorem r_kAndV (h1 : b = true → tb σ H Q) (h2 : b = false → Q (.bl false) H) : kAndV tb σ Q (.bl b) H := by
  refine ⟨b, rfl, ?_⟩
  cases b
  · exact h2 rfl
  · exact h1 rfl
theorem r_kOrV (h1 : b = true → Q (.bl true) H) (h2 : b = false → tb σ H Q) : kOrV tb σ Q (.bl b) H := by
  refine ⟨b, rfl, ?_⟩
  cases b
  · exact h2 rfl
  · exact h1 rfl
def kNotV (Q : VK) : VK := fun x H1 => ∃ c, x = .bl c ∧ Q (.bl (!c)) H1
theorem r_notV (q : ta σ H (kNotV Q)) : tNotV ta σ H Q := q
theorem r_kNotV (q : Q (.bl (!b)) H) : kNotV Q (.bl b) H := ⟨b, rfl, q⟩
def kIf (ta tb : TE) (σ : St) (Q : VK) : Bool → Hp → Prop := fun c H => if c = true then ta σ H Q else tb σ H Q
theorem r_if (q : t σ H (kIf ta tb σ Q)) : tIf t ta tb σ H Q := q
theorem r_kIf (h1 : b = true → ta σ H Q) (h2 : b = false → tb σ H Q) : kIf ta tb σ Q b H := by
  unfold kIf
  cases b
  · exact h2 rfl
  · exact h1 rfl
theorem r_kIf1 (h : b = true) (q : ta σ H Q) : kIf ta tb σ Q b H := by
  subst h
  exact q
theorem r_kIf0 (h : b = false) (q : tb σ H Q) : kIf ta tb σ Q b H := by
  subst h
  exact q
theorem r_nilA (q : QA [] H) : tNil σ H QA := q
theorem r_consA (q : ta σ H fun x H1 => tr σ H1 fun xs H2 => QA (x :: xs) H2) : tCons ta tr σ H QA := q
theorem r_use {sp : Sp} (q : tr σ H fun vs H1 => sp vs H1 Q E0) : tUse sp tr σ H Q := q
theorem r_cb {f : List V → Hp → VK → Prop} (q : tr σ H fun vs H1 => f vs H1 Q) : tCB f tr σ H Q := q
/-! operators on numbers -/
theorem r_I0 {f : Int → Int → V} {m n : Int} (q : Q (f m n) H) : rI0 f (.int m) (.int n) H Q := ⟨m, n, rfl, rfl, q⟩
theorem r_I {C : Int → Int → Prop} {f : Int → Int → V} {m n : Int} (h : C m n) (q : Q (f m n) H) : rI C f (.int m) (.int n) H Q := ⟨m, n, rfl, rfl, h, q⟩
theorem r_U {f : Int → V} {m : Int} (q : Q (f m) H) : rU f (.int m) H Q := ⟨m, rfl, q⟩
theorem r_eq (h : scal x y = true) (q : Q (.bl (decide (x = y))) H) : rEq x y H Q := ⟨h, q⟩
theorem r_ne (h : scal x y = true) (q : Q (.bl (!decide (x = y))) H) : rNe x y H Q := ⟨h, q⟩
theorem r_eqI {m n : Int} (q : Q (.bl (decide (m = n))) H) : rEq (.int m) (.int n) H Q := by
  refine ⟨rfl, ?_⟩
  have e : decide (V.int m = V.int n) = decide (m = n) := by
    by_cases h : m = n
    · subst h
      simp
    · rw [decide_eq_false h, decide_eq_false fun z => h (V.int.inj z)]
  rw [e]
  exact q
theorem r_neI {m n : Int} (q : Q (.bl (!decide (m = n))) H) : rNe (.int m) (.int n) H Q := by
  refine ⟨rfl, ?_⟩
  have e : decide (V.int m = V.int n) = decide (m = n) := by
    by_cases h : m = n
    · subst h
      simp
    · rw [decide_eq_false h, decide_eq_false fun z => h (V.int.inj z)]
  rw [e]
  exact q
/-! statements -/
theorem r_seq (q : t1 ⟨t2 ⟨nx, rt, bk, ct⟩, rt, bk, ct⟩ σ H) : tSeq t1 t2 ⟨nx, rt, bk, ct⟩ σ H := q
theorem r_next (q : nx σ H) : tNext ⟨nx, rt, bk, ct⟩ σ H := q
theorem r_brk (q : bk σ H) : tBreak ⟨nx, rt, bk, ct⟩ σ H := q
theorem r_cont (q : ct σ H) : tCont ⟨nx, rt, bk, ct⟩ σ H := q
theorem r_asg (q : te σ H fun x H1 => g x σ H1 nx) : tAsg te g ⟨nx, rt, bk, ct⟩ σ H := q
theorem r_drop (q : te σ H fun _ H1 => nx σ H1) : tDrop te ⟨nx, rt, bk, ct⟩ σ H := q
theorem r_ret (q : te σ H rt) : tRet te ⟨nx, rt, bk, ct⟩ σ H := q
theorem r_retN (q : rt .non H) : tRetN ⟨nx, rt, bk, ct⟩ σ H := q
def kIfS (t1 t2 : TS) (D : Ends) (σ : St) : Bool → Hp → Prop := fun b H => if b = true then t1 D σ H else t2 D σ H
theorem r_ifS (q : c σ H (kIfS t1 t2 ⟨nx, rt, bk, ct⟩ σ)) : tIfS c t1 t2 ⟨nx, rt, bk, ct⟩ σ H := q
theorem r_kIfS {D : Ends} (h1 : b = true → t1 D σ H) (h2 : b = false → t2 D σ H) : kIfS t1 t2 D σ b H := by
  unfold kIfS
  cases b
  · exact h2 rfl
  · exact h1 rfl
theorem r_kIfS1 {D : Ends} (h : b = true) (q : t1 D σ H) : kIfS t1 t2 D σ b H := by
  subst h
  exact q
theorem r_kIfS0 {D : Ends} (h : b = false) (q : t2 D σ H) : kIfS t1 t2 D σ b H := by
  subst h
  exact q
theorem r_name {QS : St → Hp → Prop} (q : QS (σ.set i (some v)) H) : gName i v σ H QS := q
theorem r_par {j : Nat} (q : tr σ H fun vs H1 => ∃ v w, vs = [v, w] ∧ nx ((σ.set i (some v)).set j (some w)) H1) : tPar i j tr ⟨nx, rt, bk, ct⟩ σ H := q
/-! displays, dicts -/
def kLst (Q : VK) : List V → Hp → Prop := fun xs H1 => xs.length ≤ sizeLine ∧ ∀ p, H1 p = none → Q (.ref p) (upd H1 p (.lst xs))
def kTup (Q : VK) : List V → Hp → Prop := fun xs H1 => xs.length ≤ sizeLine ∧ ∀ p, H1 p = none → Q (.ref p) (upd H1 p (.tup xs))
theorem r_lst (q : tr σ H (kLst Q)) : tLst tr σ H Q := q
theorem r_tup (q : tr σ H (kTup Q)) : tTup tr σ H Q := q
theorem r_kLst {xs : List V} (h : xs.length ≤ sizeLine) (q : ∀ p H', H p = none → Kp [] H H' → H' p = some (.lst xs) → Q (.ref p) H') : kLst Q xs H :=
  ⟨h, fun p n => q p _ n (Kp.new n) upd_same⟩
theorem r_kTup {xs : List V} (h : xs.length ≤ sizeLine) (q : ∀ p H', H p = none → Kp [] H H' → H' p = some (.tup xs) → Q (.ref p) H') : kTup Q xs H :=
  ⟨h, fun p n => q p _ n (Kp.new n) upd_same⟩
def kDG (Q : VK) : V → V → Hp → Prop := fun x y H2 => ∃ a v, x = .ref a ∧ DGet H2 a y (some v) ∧ Q v H2
theorem r_dget (q : td σ H fun x H1 => ty σ H1 fun y H2 => kDG Q x y H2) : tDGet td ty σ H Q := q
theorem r_kDGs {a : Addr} {kvs : List (Key × V)} {z : Str} (e : H a = some (.dK kvs)) (h : valV kvs (Sum.inr z) = some v) (q : Q v H) : kDG Q (.ref a) (.str z) H :=
  ⟨a, v, rfl, .inl ⟨kvs, Sum.inr z, .inl e, rfl, h.symm⟩, q⟩
theorem r_kDGi {a : Addr} {kvs : List (Key × V)} {z : Int} (e : H a = some (.dK kvs)) (h : valV kvs (Sum.inl z) = some v) (q : Q v H) : kDG Q (.ref a) (.int z) H :=
  ⟨a, v, rfl, .inl ⟨kvs, Sum.inl z, .inl e, rfl, h.symm⟩, q⟩
def kDP (nx : St → Hp → Prop) (σ : St) : V → V → V → Hp → Prop := fun v x y H3 => ∃ a H4, x = .ref a ∧ DPut H3 a y v H4 ∧ nx σ H4
theorem r_dput (q : tv σ H fun v H1 => td σ H1 fun x H2 => ty σ H2 fun y H3 => kDP nx σ v x y H3) : sDPut td ty tv ⟨nx, rt, bk, ct⟩ σ H := q
theorem r_kDPs {a : Addr} {kvs : List (Key × V)} {z : Str} (e : H a = some (.dK kvs)) (h : kvs.length < sizeLine) (q : nx σ (upd H a (.dK (putK kvs (Sum.inr z) v)))) : kDP nx σ v (.ref a) (.str z) H :=
  ⟨a, _, rfl, .inl ⟨kvs, Sum.inr z, e, rfl, h, rfl⟩, q⟩
end

section
variable {σ : St} {H : Hp} {Q : VK} {QA : List V → Hp → Prop} {v x y : V} {K : PySem.W.Frag} {xs : List V} {p : Addr}
/-! built-ins -/
abbrev R1 := List V → Hp → VK → Prop
def cInt : R1 := fun xs H Q => (∃ i, xs = [.int i] ∧ Q (.int i) H) ∨ ∃ k, xs = [.bl k] ∧ Q (.int (if k then 1 else 0)) H
def cAbs : R1 := fun xs H Q => ∃ i, xs = [.int i] ∧ Q (.int (if i < 0 then -i else i)) H
def cMax2 : R1 := fun xs H Q => ∃ i j, xs = [.int i, .int j] ∧ Q (.int (if j > i then j else i)) H
def cMin2 : R1 := fun xs H Q => ∃ i j, xs = [.int i, .int j] ∧ Q (.int (if j < i then j else i)) H
def cStrI : R1 := fun xs H Q => ∃ i, xs = [.int i] ∧ i.natAbs.log2 < 1920 ∧ Q (.str (toString i)) H
def cLen (K : PySem.W.Frag) : R1 := fun xs H Q => ∃ p ys, xs = [.ref p] ∧ (SqL K H p ys ∨ SqT K H p ys) ∧ Q (.int (ys.length : Nat)) H
def cLenS : R1 := fun xs H Q => ∃ z, xs = [.str z] ∧ z.length ≤ sizeLine ∧ Q (.int (z.length : Nat)) H
def cList (K : PySem.W.Frag) : R1 := fun xs H Q => ∃ p ys, xs = [.ref p] ∧ (SqL K H p ys ∨ SqT K H p ys) ∧ ∀ l, H l = none → Q (.ref l) (upd H l (.lst ys))
def cTuple (K : PySem.W.Frag) : R1 := fun xs H Q => ∃ p ys, xs = [.ref p] ∧ ((SqL K H p ys ∧ ∀ l, H l = none → Q (.ref l) (upd H l (.tup ys))) ∨ (SqT K H p ys ∧ Q (.ref p) H))
section
variable {X : Cx}
theorem cr_int : CallR X (.type "int") cInt := call_int1
theorem cr_abs : CallR X (.builtin "abs") cAbs := call_abs
theorem cr_max2 (hc : X.calm = true) : CallR X (.builtin "max") cMax2 := call_max2 hc
theorem cr_min2 (hc : X.calm = true) : CallR X (.builtin "min") cMin2 := call_min2 hc
theorem cr_strI : CallR X (.type "str") cStrI := call_str_int
theorem cr_len : CallR X (.builtin "len") (cLen X.K) := call_len_seq
theorem cr_lenS : CallR X (.builtin "len") cLenS := call_len_str
theorem cr_list : CallR X (.type "list") (cList X.K) := call_list_of
theorem cr_tuple : CallR X (.type "tuple") (cTuple X.K) := call_tuple_of
end
theorem r_int {n : Int} (q : Q (.int n) H) : cInt [.int n] H Q := .inl ⟨n, rfl, q⟩
theorem r_abs {n : Int} (q : Q (.int (if n < 0 then -n else n)) H) : cAbs [.int n] H Q := ⟨n, rfl, q⟩
theorem r_max2 {m n : Int} (q : Q (.int (if n > m then n else m)) H) : cMax2 [.int m, .int n] H Q := ⟨m, n, rfl, q⟩
theorem r_min2 {m n : Int} (q : Q (.int (if n < m then n else m)) H) : cMin2 [.int m, .int n] H Q := ⟨m, n, rfl, q⟩
theorem r_strI {n : Int} (h : n.natAbs.log2 < 1920) (q : Q (.str (toString n)) H) : cStrI [.int n] H Q := ⟨n, rfl, h, q⟩
theorem r_lenL (h : SqL K H p xs) (q : Q (.int (xs.length : Nat)) H) : cLen K [.ref p] H Q := ⟨p, xs, rfl, .inl h, q⟩
theorem r_lenT (h : SqT K H p xs) (q : Q (.int (xs.length : Nat)) H) : cLen K [.ref p] H Q := ⟨p, xs, rfl, .inr h, q⟩
theorem r_lenS {z : Str} (h : z.length ≤ sizeLine) (q : Q (.int (z.length : Nat)) H) : cLenS [.str z] H Q := ⟨z, rfl, h, q⟩
theorem r_listL (h : SqL K H p xs) (q : ∀ l H', H l = none → Kp [] H H' → H' l = some (.lst xs) → Q (.ref l) H') : cList K [.ref p] H Q := ⟨p, xs, rfl, .inl h, fun l n => q l _ n (Kp.new n) upd_same⟩
theorem r_listT (h : SqT K H p xs) (q : ∀ l H', H l = none → Kp [] H H' → H' l = some (.lst xs) → Q (.ref l) H') : cList K [.ref p] H Q := ⟨p, xs, rfl, .inr h, fun l n => q l _ n (Kp.new n) upd_same⟩
theorem r_tupleL (h : SqL K H p xs) (q : ∀ l H', H l = none → Kp [] H H' → H' l = some (.tup xs) → Q (.ref l) H') : cTuple K [.ref p] H Q := ⟨p, xs, rfl, .inl ⟨h, fun l n => q l _ n (Kp.new n) upd_same⟩⟩
theorem r_tupleT (h : SqT K H p xs) (q : Q (.ref p) H) : cTuple K [.ref p] H Q := ⟨p, xs, rfl, .inr ⟨h, q⟩⟩
theorem r_ixL {i : Int} (h : SqL K H p xs) (e : atI xs i = some v) (q : Q v H) : rIxL K (.ref p) (.int i) H Q := ⟨p, xs, i, v, rfl, rfl, h, e, q⟩
theorem r_ixT {i : Int} (h : SqT K H p xs) (e : atI xs i = some v) (q : Q v H) : rIxT K (.ref p) (.int i) H Q := ⟨p, xs, i, v, rfl, rfl, h, e, q⟩
theorem r_ixS {z : Str} {i : Int} {c : Nat} (h : z.length ≤ sizeLine) (e : atI z.cps.toList i = some c) (q : Q (.str ⟨#[c]⟩) H) : rIxS (.str z) (.int i) H Q := ⟨z, i, c, rfl, rfl, h, e, q⟩
/-- an item at a number that lies within -/
theorem atI_in {α : Type} {l : List α} {i : Int} (h0 : 0 ≤ i) (h1 : i < (l.length : Int)) : ∃ v, atI l i = some v ∧ v ∈ l ∧ l[i.toNat]? = some v := by
  have hk : i.toNat < l.length := by omega
  have e : l[i.toNat]? = some l[i.toNat] := List.getElem?_eq_getElem hk
  have ei : i = ((i.toNat : Nat) : Int) := by omega
  have q : atI l ((i.toNat : Nat) : Int) = some l[i.toNat] := atI_nat e
  rw [← ei] at q
  exact ⟨l[i.toNat], q, List.getElem_mem hk, e⟩
/-! a display of a dict -/
def kDisp (Q : VK) (p : Addr) : List (V × V) → Hp → Prop := fun ps H2 => H2 p = some (.dK []) ∧ ∃ kvs : List (Key × V), ps = kvs.map (fun kv => (kV kv.1, kv.2)) ∧ kvs.length ≤ 15 ∧ Q (.ref p) (upd H2 p (.dK (mergeK [] kvs)))
theorem r_disp {trs : List (TE × TE)} (q : ∀ p H1, H p = none → Kp [] H H1 → H1 p = some (.dK []) → tPairs trs σ H1 (kDisp Q p)) : tDisp trs σ H Q := fun p n => q p _ n (Kp.new n) upd_same
theorem r_pnil {R : List (V × V) → Hp → Prop} (q : R [] H) : tPairs [] σ H R := q
theorem r_pcons {R : List (V × V) → Hp → Prop} {tk tv : TE} {r : List (TE × TE)} (q : tk σ H fun x H1 => tv σ H1 fun y H2 => tPairs r σ H2 fun ps H3 => R ((x, y) :: ps) H3) : tPairs ((tk, tv) :: r) σ H R := q
theorem r_kDisp {p : Addr} {kvs : List (Key × V)} (e : H p = some (.dK [])) (h : kvs.length ≤ 15) (q : ∀ H', Kp [p] H H' → H' p = some (.dK (mergeK [] kvs)) → Q (.ref p) H') : kDisp Q p (kvs.map fun kv => (kV kv.1, kv.2)) H :=
  ⟨e, kvs, rfl, h, q _ (Kp.put (by simp)) upd_same⟩
end

theorem sql_kp {K : PySem.W.Frag} {ex : List Addr} {H H' : Hp} {a : Addr} {xs : List V} (h : SqL K H a xs) (k : Kp ex H H') (m : a ∉ ex) : SqL K H' a xs := by
  rcases h with (h | ⟨o, h⟩) | h
  · exact .inl (.inl (k _ _ h m))
  · exact .inl (.inr ⟨o, k _ _ h m⟩)
  · exact .inr h
/-- a list stays where only the object o at p changes, which is no list -/
theorem sql_but {K : PySem.W.Frag} {H H' : Hp} {a p : Addr} {xs : List V} {o : HO} (h : SqL K H a xs) (k : Kp [p] H H') (e : H p = some o) (d : ∀ ys, o ≠ .lst ys) (d' : ∀ ob u, o ≠ .frz ob u) : SqL K H' a xs := by
  rcases h with (h | ⟨ob, h⟩) | h
  · exact .inl (.inl (k _ _ h (not_one (ne_of h e fun z => d _ z.symm))))
  · exact .inl (.inr ⟨ob, k _ _ h (not_one (ne_of h e fun z => d' _ _ z.symm))⟩)
  · exact .inr h
theorem sqt_kp {K : PySem.W.Frag} {ex : List Addr} {H H' : Hp} {a : Addr} {xs : List V} (h : SqT K H a xs) (k : Kp ex H H') (m : a ∉ ex) : SqT K H' a xs := by
  rcases h with (h | ⟨o, h⟩) | h
  · exact .inl (.inl (k _ _ h m))
  · exact .inl (.inr ⟨o, k _ _ h m⟩)
  · exact .inr h
section
variable {σ : St} {H : Hp} {Q : VK} {QA : List V → Hp → Prop} {v x y : V} {K : PySem.W.Frag} {xs : List V} {p : Addr} {te tk tv : TE} {tr : TA} {g : TG} {tb : TS} {tt : TT} {wi : TI} {nx bk ct : St → Hp → Prop} {rt : VK}
  {J : It} {n : Nat} {G : Hp → Prop} {Y : Nat → Hp → V → Hp → Prop} {vs : List Nat}
/-! what is walked -/
def cRng1 (R : It → Hp → Prop) : List V → Hp → Prop := fun ws H1 => ∃ j : Int, ws = [.int j] ∧ -(2 ^ 62) ≤ j ∧ j < 2 ^ 62 ∧ R (Itr 0 j.toNat) H1
def cRng2 (R : It → Hp → Prop) : List V → Hp → Prop := fun ws H1 => ∃ i j : Int, ws = [.int i, .int j] ∧ (-(2 ^ 62) ≤ i ∧ i < 2 ^ 62 ∧ -(2 ^ 62) ≤ j ∧ j < 2 ^ 62) ∧ R (Itr i (j - i).toNat) H1
def cWL (K : PySem.W.Frag) (R : It → Hp → Prop) : V → Hp → Prop := fun x H1 => ∃ a, x = .ref a ∧ (∃ xs, SqL K H1 a xs) ∧ R (Itl K a) H1
def cWT (K : PySem.W.Frag) (R : It → Hp → Prop) : V → Hp → Prop := fun x H1 => ∃ a, x = .ref a ∧ (∃ xs, SqT K H1 a xs) ∧ R (Itt K a) H1
def cWS (R : It → Hp → Prop) : V → Hp → Prop := fun v H1 => ∃ x, v = .str x ∧ R (Its x) H1
def cEnum (K : PySem.W.Frag) (R : It → Hp → Prop) : List V → Hp → Prop := fun ws H1 => ∃ a xs, ws = [.ref a] ∧ SqL K H1 a xs ∧ R (Ite K a) H1
def cZip (K : PySem.W.Frag) (R : It → Hp → Prop) : List V → Hp → Prop := fun ws H1 => ∃ a b xs ys, ws = [.ref a, .ref b] ∧ SqL K H1 a xs ∧ SqL K H1 b ys ∧ R (Itz K a b) H1
variable {R : It → Hp → Prop}
theorem r_rng1 (q : tr σ H (cRng1 R)) : iRng1 tr σ H R := q
theorem r_rng2 (q : tr σ H (cRng2 R)) : iRng2 tr σ H R := q
theorem r_wl (q : te σ H (cWL K R)) : iList K te σ H R := q
theorem r_wt (q : te σ H (cWT K R)) : iTup K te σ H R := q
theorem r_ws (q : te σ H (cWS R)) : iStr te σ H R := q
theorem r_enum (q : tr σ H (cEnum K R)) : iEnum K tr σ H R := q
theorem r_zip (q : tr σ H (cZip K R)) : iZip K tr σ H R := q
theorem r_cRng1 {j : Int} (h : -(2 ^ 62) ≤ j ∧ j < 2 ^ 62) (q : R (Itr 0 j.toNat) H) : cRng1 R [.int j] H := ⟨j, rfl, h.1, h.2, q⟩
theorem r_cRng2 {i j : Int} (h : -(2 ^ 62) ≤ i ∧ i < 2 ^ 62 ∧ -(2 ^ 62) ≤ j ∧ j < 2 ^ 62) (q : R (Itr i (j - i).toNat) H) : cRng2 R [.int i, .int j] H := ⟨i, j, rfl, h, q⟩
theorem r_cWL (h : SqL K H p xs) (q : R (Itl K p) H) : cWL K R (.ref p) H := ⟨p, rfl, ⟨xs, h⟩, q⟩
theorem r_cWT (h : SqT K H p xs) (q : R (Itt K p) H) : cWT K R (.ref p) H := ⟨p, rfl, ⟨xs, h⟩, q⟩
theorem r_cWS {z : Str} (q : R (Its z) H) : cWS R (.str z) H := ⟨z, rfl, q⟩
theorem r_cEnum (h : SqL K H p xs) (q : R (Ite K p) H) : cEnum K R [.ref p] H := ⟨p, xs, rfl, h, q⟩
theorem r_cZip {p' : Addr} {ys : List V} (h : SqL K H p xs) (h' : SqL K H p' ys) (q : R (Itz K p p') H) : cZip K R [.ref p, .ref p'] H := ⟨p, p', xs, ys, rfl, h, h', q⟩
/-! for -/
def kFor (g : TG) (tb : TS) (D : Ends) (σ : St) : It → Hp → Prop := fun J H1 => ∃ W : Nat → Nat → St → Hp → Prop, (∃ m, W 0 m σ H1) ∧ ∀ i m σ H, W i m σ H →
  (J.stop i H ∧ D.nx σ H) ∨ (J.go i H ∧ ∃ N : St → Hp → Prop, (∀ σ' H', N σ' H' → ∃ m', m' < m ∧ W (i + 1) m' σ' H') ∧ ∀ x H', J.yld i H x H' → g x σ H' fun σ2 H2 => tb { D with nx := N, ct := N, bk := D.nx } σ2 H2)
theorem r_for (q : wi σ H (kFor g tb ⟨nx, rt, bk, ct⟩ σ)) : tFor wi g tb ⟨nx, rt, bk, ct⟩ σ H := q
theorem r_kFor (w : Walk J n G Y) (Pv : Nat → St → Hp → Prop) (h0 : Pv 0 σ H) (hG : ∀ i σ H, i ≤ n → Pv i σ H → G H)
    (hs : ∀ i x σ H H', i < n → Pv i σ H → Y i H x H' → g x σ H' fun σ2 H2 => tb ⟨Pv (i + 1), rt, nx, Pv (i + 1)⟩ σ2 H2) (hd : ∀ σ H, Pv n σ H → nx σ H) : kFor g tb ⟨nx, rt, bk, ct⟩ σ J H :=
  for_it w (D := ⟨nx, rt, bk, ct⟩) Pv h0 hG hs hd
theorem r_kForR {m : Nat} (Pv : Nat → St → Hp → Prop) (h0 : Pv 0 σ H)
    (hs : ∀ (i : Nat) σ H, i < m → Pv i σ H → g (.int (i : Int)) σ H fun σ2 H2 => tb ⟨Pv (i + 1), rt, nx, Pv (i + 1)⟩ σ2 H2) (hd : ∀ σ H, Pv m σ H → nx σ H) : kFor g tb ⟨nx, rt, bk, ct⟩ σ (Itr 0 m) H := by
  refine r_kFor walk_range Pv h0 (fun _ _ _ _ _ => trivial) (fun i x σ H H' hi hp y => ?_) hd
  obtain ⟨rfl, rfl⟩ := y
  have e : V.int ((0 : Int) + (i : Int)) = V.int (i : Int) := congrArg V.int (by omega)
  show g (V.int ((0 : Int) + (i : Int))) σ _ _
  rw [e]
  exact hs i σ _ hi hp
theorem r_kForL (Pv : Nat → St → Hp → Prop) (h0 : Pv 0 σ H) (hl : ∀ i σ H, i ≤ xs.length → Pv i σ H → SqL K H p xs)
    (hs : ∀ (i : Nat) x σ H, xs[i]? = some x → Pv i σ H → g x σ H fun σ2 H2 => tb ⟨Pv (i + 1), rt, nx, Pv (i + 1)⟩ σ2 H2) (hd : ∀ σ H, Pv xs.length σ H → nx σ H) : kFor g tb ⟨nx, rt, bk, ct⟩ σ (Itl K p) H := by
  refine r_kFor walk_list Pv h0 hl (fun i x σ H H' hi hp y => ?_) hd
  obtain ⟨rfl, e⟩ := y
  exact hs i x σ _ e hp
theorem r_kForT (Pv : Nat → St → Hp → Prop) (h0 : Pv 0 σ H) (hl : ∀ i σ H, i ≤ xs.length → Pv i σ H → SqT K H p xs)
    (hs : ∀ (i : Nat) x σ H, xs[i]? = some x → Pv i σ H → g x σ H fun σ2 H2 => tb ⟨Pv (i + 1), rt, nx, Pv (i + 1)⟩ σ2 H2) (hd : ∀ σ H, Pv xs.length σ H → nx σ H) : kFor g tb ⟨nx, rt, bk, ct⟩ σ (Itt K p) H := by
  refine r_kFor walk_tup Pv h0 hl (fun i x σ H H' hi hp y => ?_) hd
  obtain ⟨rfl, e⟩ := y
  exact hs i x σ _ e hp
/-! [e for ..]: Pv by the new list's place, the turn, what is made so far, the heap -/
def kN (Pv : List V → Hp → Prop) (D : Addr) : Hp → Prop := fun H' => ∃ acc, H' D = some (.lst acc) ∧ Pv acc H'
def kApp (D : Addr) (N : Hp → Prop) : VK := fun y H4 => ∃ acc, H4 D = some (.lst acc) ∧ acc.length < sizeLine ∧ N (upd H4 D (.lst (acc ++ [y])))
def kKeep (te : TE) (σ : St) (D : Addr) (N : Hp → Prop) : Bool → Hp → Prop := fun b H3 => if b = true then te σ H3 (kApp D N) else N H3
def kTurn (tt : TT) (te : TE) (σ0 : St) (vs : List Nat) (D : Addr) (N : Hp → Prop) : St → Hp → Prop := fun σ2 H2 => wipe σ2 vs = σ0 ∧ tt σ2 H2 (kKeep te σ2 D N)
def kLc (g : TG) (tt : TT) (te : TE) (vs : List Nat) (σ : St) (Q : VK) : It → Hp → Prop := fun J H1 => ∀ D, H1 D = none → ∃ W : Nat → Nat → Hp → Prop, (∃ m, W 0 m (upd H1 D (.lst []))) ∧ ∀ i m H, W i m H →
  (J.stop i H ∧ Q (.ref D) H) ∨ (J.go i H ∧ ∃ Nx : Hp → Prop, (∀ H', Nx H' → ∃ m', m' < m ∧ W (i + 1) m' H') ∧ ∀ x H', J.yld i H x H' → g x (wipe σ vs) H' fun σ2 H2 => wipe σ2 vs = wipe σ vs ∧ tt σ2 H2 fun b H3 =>
    if b = true then te σ2 H3 fun y H4 => ∃ acc, H4 D = some (.lst acc) ∧ acc.length < sizeLine ∧ Nx (upd H4 D (.lst (acc ++ [y]))) else Nx H3)
theorem r_lc (q : wi σ H (kLc g tt te vs σ Q)) : tLc wi g tt te vs σ H Q := q
theorem r_kTurn {σ0 : St} {D : Addr} {N : Hp → Prop} (h : wipe σ vs = σ0) (q : tt σ H (kKeep te σ D N)) : kTurn tt te σ0 vs D N σ H := ⟨h, q⟩
theorem r_yes {QB : Bool → Hp → Prop} (q : QB true H) : tYes σ H QB := q
theorem r_kKeep1 {D : Addr} {N : Hp → Prop} {b : Bool} (h : b = true) (q : te σ H (kApp D N)) : kKeep te σ D N b H := by
  subst h
  exact q
theorem r_kKeep0 {D : Addr} {acc : List V} {Pv : List V → Hp → Prop} {b : Bool} (h : b = false) (e : H D = some (.lst acc)) (q : Pv acc H) : kKeep te σ D (kN Pv D) b H := by
  subst h
  exact ⟨acc, e, q⟩
theorem r_kKeep {D : Addr} {N : Hp → Prop} {b : Bool} (h1 : b = true → te σ H (kApp D N)) (h0 : b = false → N H) : kKeep te σ D N b H := by
  cases b
  · exact h0 rfl
  · exact h1 rfl
theorem r_kApp {D : Addr} {acc : List V} {Pv : List V → Hp → Prop} (e : H D = some (.lst acc)) (h : acc.length < sizeLine) (q : ∀ H5, Kp [D] H H5 → H5 D = some (.lst (acc ++ [y])) → Pv (acc ++ [y]) H5) : kApp D (kN Pv D) y H :=
  ⟨acc, e, h, acc ++ [y], upd_same, q _ (Kp.put (by simp)) upd_same⟩
theorem r_kLc (w : Walk J n G Y) (Pv : Addr → Nat → List V → Hp → Prop) (h0 : ∀ D H', H D = none → Kp [] H H' → H' D = some (.lst []) → Pv D 0 [] H') (hG : ∀ D i acc H', i ≤ n → Pv D i acc H' → G H')
    (hs : ∀ D i acc x H' H'', H D = none → i < n → H' D = some (.lst acc) → Pv D i acc H' → Y i H' x H'' → g x (wipe σ vs) H'' (kTurn tt te (wipe σ vs) vs D (kN (Pv D (i + 1)) D)))
    (hd : ∀ D acc H', H D = none → H' D = some (.lst acc) → Pv D n acc H' → Q (.ref D) H') : kLc g tt te vs σ Q J H := by
  intro D hD
  exact lc_it w (fun i => kN (Pv D i) D) ⟨[], upd_same, h0 D _ hD (Kp.new hD) upd_same⟩ (fun i H' hi ⟨acc, _, p⟩ => hG D i acc H' hi p) (fun i x H' H'' hi ⟨acc, e, p⟩ y => hs D i acc x H' H'' hD hi e p y) (fun H' ⟨acc, e, p⟩ => hd D acc H' hD e p)
theorem r_kLcL (Pv : Addr → Nat → List V → Hp → Prop) (h0 : ∀ D H', H D = none → Kp [] H H' → H' D = some (.lst []) → Pv D 0 [] H') (hG : ∀ D i acc H', i ≤ xs.length → Pv D i acc H' → SqL K H' p xs)
    (hs : ∀ D (i : Nat) acc x H', H D = none → xs[i]? = some x → H' D = some (.lst acc) → Pv D i acc H' → g x (wipe σ vs) H' (kTurn tt te (wipe σ vs) vs D (kN (Pv D (i + 1)) D)))
    (hd : ∀ D acc H', H D = none → H' D = some (.lst acc) → Pv D xs.length acc H' → Q (.ref D) H') : kLc g tt te vs σ Q (Itl K p) H := by
  refine r_kLc walk_list Pv h0 hG (fun D i acc x H' H'' hD hi e hp y => ?_) hd
  obtain ⟨rfl, e'⟩ := y
  exact hs D i acc x _ hD e' e hp
theorem r_kLcT (Pv : Addr → Nat → List V → Hp → Prop) (h0 : ∀ D H', H D = none → Kp [] H H' → H' D = some (.lst []) → Pv D 0 [] H') (hG : ∀ D i acc H', i ≤ xs.length → Pv D i acc H' → SqT K H' p xs)
    (hs : ∀ D (i : Nat) acc x H', H D = none → xs[i]? = some x → H' D = some (.lst acc) → Pv D i acc H' → g x (wipe σ vs) H' (kTurn tt te (wipe σ vs) vs D (kN (Pv D (i + 1)) D)))
    (hd : ∀ D acc H', H D = none → H' D = some (.lst acc) → Pv D xs.length acc H' → Q (.ref D) H') : kLc g tt te vs σ Q (Itt K p) H := by
  refine r_kLc walk_tup Pv h0 hG (fun D i acc x H' H'' hD hi e hp y => ?_) hd
  obtain ⟨rfl, e'⟩ := y
  exact hs D i acc x _ hD e' e hp
theorem r_kLcR {m : Nat} (Pv : Addr → Nat → List V → Hp → Prop) (h0 : ∀ D H', H D = none → Kp [] H H' → H' D = some (.lst []) → Pv D 0 [] H')
    (hs : ∀ D (i : Nat) acc H', H D = none → i < m → H' D = some (.lst acc) → Pv D i acc H' → g (.int (i : Int)) (wipe σ vs) H' (kTurn tt te (wipe σ vs) vs D (kN (Pv D (i + 1)) D)))
    (hd : ∀ D acc H', H D = none → H' D = some (.lst acc) → Pv D m acc H' → Q (.ref D) H') : kLc g tt te vs σ Q (Itr 0 m) H := by
  refine r_kLc walk_range Pv h0 (fun _ _ _ _ _ _ => trivial) (fun D i acc x H' H'' hD hi e hp y => ?_) hd
  obtain ⟨rfl, rfl⟩ := y
  have e : V.int ((0 : Int) + (i : Int)) = V.int (i : Int) := congrArg V.int (by omega)
  show g (V.int ((0 : Int) + (i : Int))) (wipe σ vs) _ _
  rw [e]
  exact hs D i acc _ hD hi (by assumption) hp
theorem r_kLcS {z : Str} (Pv : Addr → Nat → List V → Hp → Prop) (h0 : ∀ D H', H D = none → Kp [] H H' → H' D = some (.lst []) → Pv D 0 [] H')
    (hs : ∀ D (i : Nat) acc c H', H D = none → z.cps.toList[i]? = some c → H' D = some (.lst acc) → Pv D i acc H' → g (.str ⟨#[c]⟩) (wipe σ vs) H' (kTurn tt te (wipe σ vs) vs D (kN (Pv D (i + 1)) D)))
    (hd : ∀ D acc H', H D = none → H' D = some (.lst acc) → Pv D z.cps.toList.length acc H' → Q (.ref D) H') : kLc g tt te vs σ Q (Its z) H := by
  refine r_kLc walk_str Pv h0 (fun _ _ _ _ _ _ => trivial) (fun D i acc x H' H'' hD hi e hp y => ?_) (fun D acc H' a b c => hd D acc H' a b (by simpa using c))
  obtain ⟨rfl, c, e', rfl⟩ := y
  exact hs D i acc c _ hD (by simpa using e') e hp
/-! {k: v for ..} -/
def kND (Pv : List (Key × V) → Hp → Prop) (D : Addr) : Hp → Prop := fun H' => ∃ kvs, H' D = some (.dK kvs) ∧ Pv kvs H'
def kPut (D : Addr) (N : Hp → Prop) (y : V) : VK := fun z H5 => ∃ kvs k, y = kV k ∧ H5 D = some (.dK kvs) ∧ kvs.length < sizeLine ∧ N (upd H5 D (.dK (putK kvs k z)))
def kKeepD (tk tv : TE) (σ : St) (D : Addr) (N : Hp → Prop) : Bool → Hp → Prop := fun b H3 => if b = true then tk σ H3 (fun y H4 => tv σ H4 (kPut D N y)) else N H3
def kTurnD (tt : TT) (tk tv : TE) (σ0 : St) (vs : List Nat) (D : Addr) (N : Hp → Prop) : St → Hp → Prop := fun σ2 H2 => wipe σ2 vs = σ0 ∧ tt σ2 H2 (kKeepD tk tv σ2 D N)
def kDc (g : TG) (tt : TT) (tk tv : TE) (vs : List Nat) (σ : St) (Q : VK) : It → Hp → Prop := fun J H1 => ∀ D, H1 D = none → ∃ W : Nat → Nat → Hp → Prop, (∃ m, W 0 m (upd H1 D (.dK []))) ∧ ∀ i m H, W i m H →
  (J.stop i H ∧ Q (.ref D) H) ∨ (J.go i H ∧ ∃ Nx : Hp → Prop, (∀ H', Nx H' → ∃ m', m' < m ∧ W (i + 1) m' H') ∧ ∀ x H', J.yld i H x H' → g x (wipe σ vs) H' fun σ2 H2 => wipe σ2 vs = wipe σ vs ∧ tt σ2 H2 fun b H3 =>
    if b = true then tk σ2 H3 fun y H4 => tv σ2 H4 fun z H5 => ∃ kvs k, y = kV k ∧ H5 D = some (.dK kvs) ∧ kvs.length < sizeLine ∧ Nx (upd H5 D (.dK (putK kvs k z))) else Nx H3)
theorem r_dc (q : wi σ H (kDc g tt tk tv vs σ Q)) : tDc wi g tt tk tv vs σ H Q := q
theorem r_kTurnD {σ0 : St} {D : Addr} {N : Hp → Prop} (h : wipe σ vs = σ0) (q : tt σ H (kKeepD tk tv σ D N)) : kTurnD tt tk tv σ0 vs D N σ H := ⟨h, q⟩
theorem r_kKeepD1 {D : Addr} {N : Hp → Prop} {b : Bool} (h : b = true) (q : tk σ H (fun y H4 => tv σ H4 (kPut D N y))) : kKeepD tk tv σ D N b H := by
  subst h
  exact q
theorem r_kPut {D : Addr} {kvs : List (Key × V)} {k : Key} {Pv : List (Key × V) → Hp → Prop} (ey : x = kV k) (e : H D = some (.dK kvs)) (h : kvs.length < sizeLine) (q : ∀ H5, Kp [D] H H5 → H5 D = some (.dK (putK kvs k y)) → Pv (putK kvs k y) H5) : kPut D (kND Pv D) x y H :=
  ⟨kvs, k, ey, e, h, _, upd_same, q _ (Kp.put (by simp)) upd_same⟩
theorem r_kDc (w : Walk J n G Y) (Pv : Addr → Nat → List (Key × V) → Hp → Prop) (h0 : ∀ D H', H D = none → Kp [] H H' → H' D = some (.dK []) → Pv D 0 [] H') (hG : ∀ D i acc H', i ≤ n → Pv D i acc H' → G H')
    (hs : ∀ D i acc x H' H'', H D = none → i < n → H' D = some (.dK acc) → Pv D i acc H' → Y i H' x H'' → g x (wipe σ vs) H'' (kTurnD tt tk tv (wipe σ vs) vs D (kND (Pv D (i + 1)) D)))
    (hd : ∀ D acc H', H D = none → H' D = some (.dK acc) → Pv D n acc H' → Q (.ref D) H') : kDc g tt tk tv vs σ Q J H := by
  intro D hD
  refine ⟨fun i m H' => m = n - i ∧ i ≤ n ∧ kND (Pv D i) D H', ⟨n, by simp, Nat.zero_le _, [], upd_same, h0 D _ hD (Kp.new hD) upd_same⟩, ?_⟩
  rintro i m H' ⟨rfl, hi, acc, e, p⟩
  have q := hG D i acc H' hi p
  by_cases hlt : i < n
  · exact .inr ⟨w.goes i H' hlt q, kND (Pv D (i + 1)) D, fun H2 p' => ⟨n - (i + 1), by omega, rfl, hlt, p'⟩, fun x H2 y => hs D i acc x H' H2 hD hlt e p (w.yields i H' x H2 hlt q y)⟩
  · have e' : i = n := by omega
    subst e'
    exact .inl ⟨w.stops H' q, hd D acc H' hD e p⟩
/-! targets that are tuples -/
theorem r_gtup {K : PySem.W.Frag} {m : Nat} {t : TGs} {QS : St → Hp → Prop} {a : Addr} (h : SqT K H a xs) (hl : xs.length = m) (q : t xs σ H QS) : gTup K m t (.ref a) σ H QS := ⟨a, xs, rfl, h, hl, q⟩
theorem r_gnil {QS : St → Hp → Prop} (q : QS σ H) : gNil [] σ H QS := ⟨rfl, q⟩
theorem r_gcons {t : TG} {u : TGs} {QS : St → Hp → Prop} (q : t x σ H fun σ' H' => u xs σ' H' QS) : gCons t u (x :: xs) σ H QS := ⟨x, xs, rfl, q⟩
/-! methods of lists -/
def kBM (K : PySem.W.Frag) (T : String) (r : V → List V → Hp → VK → Prop) (tr : TA) (σ : St) (Q : VK) : VK := fun x H1 => tyV K T x H1 ∧ tr σ H1 fun xs H2 => r x xs H2 Q
theorem r_bm {T : String} {r : V → List V → Hp → VK → Prop} (q : te σ H (kBM K T r tr σ Q)) : tBM K T r te tr σ H Q := q
theorem r_kBMl {r : V → List V → Hp → VK → Prop} (h : SqL K H p xs) (q : tr σ H fun ys H2 => r (.ref p) ys H2 Q) : kBM K "list" r tr σ Q (.ref p) H := ⟨.inl ⟨rfl, _, h⟩, q⟩
def kBM0 (K : PySem.W.Frag) (T : String) (r : V → List V → Hp → VK → Prop) (Q : VK) : VK := fun x H1 => tyV K T x H1 ∧ r x [] H1 Q
theorem r_bm0 {T : String} {r : V → List V → Hp → VK → Prop} (q : te σ H (kBM0 K T r Q)) : tBM0 K T r te σ H Q := q
theorem r_kBM0l {r : V → List V → Hp → VK → Prop} (h : SqL K H p xs) (q : r (.ref p) [] H Q) : kBM0 K "list" r Q (.ref p) H := ⟨.inl ⟨rfl, _, h⟩, q⟩
theorem r_append (e : H p = some (.lst xs)) (h : xs.length < sizeLine) (q : ∀ H', Kp [p] H H' → H' p = some (.lst (xs ++ [x])) → Q .non H') : rAppend (.ref p) [x] H Q := ⟨p, xs, x, rfl, rfl, e, h, q _ (Kp.put (by simp)) upd_same⟩
/-! texts -/
def rAddT : R2 := fun x y H Q => ∃ i j, x = .str i ∧ y = .str j ∧ i.length + j.length ≤ sizeLine ∧ Q (.str (i ++ j)) H
theorem op_addT {X : Cx} : OpR X (binaryOp .Add) rAddT := op_add_str
theorem r_addT {a b : Str} (h : a.length + b.length ≤ sizeLine) (q : Q (.str (a ++ b)) H) : rAddT (.str a) (.str b) H Q := ⟨a, b, rfl, rfl, h, q⟩
theorem r_eqS {a b : Str} (q : Q (.bl (decide (a = b))) H) : rEq (.str a) (.str b) H Q := by
  refine ⟨rfl, ?_⟩
  have e : decide (V.str a = V.str b) = decide (a = b) := by
    by_cases h : a = b
    · subst h
      simp
    · rw [decide_eq_false h, decide_eq_false fun z => h (V.str.inj z)]
  rw [e]
  exact q
theorem r_neS {a b : Str} (q : Q (.bl (!decide (a = b))) H) : rNe (.str a) (.str b) H Q := by
  refine ⟨rfl, ?_⟩
  have e : decide (V.str a = V.str b) = decide (a = b) := by
    by_cases h : a = b
    · subst h
      simp
    · rw [decide_eq_false h, decide_eq_false fun z => h (V.str.inj z)]
  rw [e]
  exact q
/-! in, not in, of texts in a list -/
theorem eqV_str (a b : Str) : eqV (.str a) (.str b) = decide (a = b) := by
  show (a == b) = decide (a = b)
  by_cases h : a = b
  · subst h
    simp
  · rw [decide_eq_false h]
    exact beq_eq_false_iff_ne.mpr h
theorem inV_strs (x : Str) : ∀ ws : List Str, inV (.str x) (ws.map V.str) = decide (x ∈ ws)
  | [] => by simp [inV]
  | w :: ws => by
    have ih := inV_strs x ws
    unfold inV at ih
    unfold inV
    rw [List.map_cons, List.any_cons, ih, eqV_str]
    by_cases h : x = w
    · subst h
      simp
    · have h' : ¬ w = x := fun e => h e.symm
      simp [h, h']
theorem flat_strs (ws : List Str) : (ws.map V.str).all flatV = true := by
  rw [List.all_eq_true]
  intro v hv
  obtain ⟨w, _, rfl⟩ := List.mem_map.mp hv
  rfl
theorem r_inL {z : Str} {ws : List Str} (h : SqL K H p (ws.map V.str)) (q : Q (.bl (decide (z ∈ ws))) H) : rIn K false (.str z) (.ref p) H Q := by
  refine ⟨p, _, rfl, .inl h, rfl, flat_strs ws, ?_⟩
  show Q (.bl (inV (.str z) (ws.map V.str))) H
  rw [inV_strs]
  exact q
theorem r_notInL {z : Str} {ws : List Str} (h : SqL K H p (ws.map V.str)) (q : Q (.bl (!decide (z ∈ ws))) H) : rIn K true (.str z) (.ref p) H Q := by
  refine ⟨p, _, rfl, .inl h, rfl, flat_strs ws, ?_⟩
  show Q (.bl (!inV (.str z) (ws.map V.str))) H
  rw [inV_strs]
  exact q
end

/-! the layer's rules with K named: within a comprehension's block it could not be found otherwise -/
section
variable {X : Cx} {K : PySem.W.Frag} (hK : X.K = K)
include hK
theorem K_in : OpR X (compareOp .In) (rIn K false) := by
  subst hK
  exact op_in_seq
theorem K_notIn : OpR X (compareOp .NotIn) (rIn K true) := by
  subst hK
  exact op_notIn_seq
theorem K_eqD (hu : X.A.units + 64 < cLine) : OpR X (compareOp .Eq) (rEqD K) := by
  subst hK
  exact op_eqD hu
theorem K_neD (hu : X.A.units + 64 < cLine) : OpR X (compareOp .NotEq) (rNeD K) := by
  subst hK
  exact op_neD hu
theorem K_len : CallR X (.builtin "len") (cLen K) := by
  subst hK
  exact cr_len
theorem K_list : CallR X (.type "list") (cList K) := by
  subst hK
  exact cr_list
theorem K_tuple : CallR X (.type "tuple") (cTuple K) := by
  subst hK
  exact cr_tuple
theorem K_ixL : IxR X (rIxL K) := by
  subst hK
  exact ix_list
theorem K_ixT : IxR X (rIxT K) := by
  subst hK
  exact ix_tup
theorem K_sum (hc : X.calm = true) : CallR X (.builtin "sum") (rSum K) := by
  subst hK
  exact cr_sum hc
theorem K_max (hc : X.calm = true) : CallR X (.builtin "max") (rMax K) := by
  subst hK
  exact cr_max hc
theorem K_min (hc : X.calm = true) : CallR X (.builtin "min") (rMin K) := by
  subst hK
  exact cr_min hc
theorem K_any (hc : X.calm = true) : CallR X (.builtin "any") (rAny K) := by
  subst hK
  exact cr_any hc
theorem K_all (hc : X.calm = true) : CallR X (.builtin "all") (rAll K) := by
  subst hK
  exact cr_all hc
theorem K_sortedI : CallR X (.builtin "sorted") (rSortedI K) := by
  subst hK
  exact cr_sortedI
theorem K_sortedS : CallR X (.builtin "sorted") (rSortedS K) := by
  subst hK
  exact cr_sortedS
theorem K_isi : CallR X (.builtin "isinstance") (rIsi K) := by
  subst hK
  exact call_isi
theorem K_isiT : CallR X (.builtin "isinstance") (rIsiT K) := by
  subst hK
  exact call_isiT
theorem K_slL : SlR X (rSlL K) := by
  subst hK
  exact sl_list
theorem K_slT : SlR X (rSlT K) := by
  subst hK
  exact sl_tup
theorem K_catT : OpR X (binaryOp .Add) (rCatA K) := by
  subst hK
  exact op_catA
theorem K_index : MtR X "list.index" (rIndex K) := by
  subst hK
  exact mt_index
theorem K_pil {tg l : Expr} {tl : TE} (hl : PE X l tl) : PI X tg l (iList K tl) := by
  subst hK
  exact pi_list hl
theorem K_pit {tg l : Expr} {tl : TE} (hl : PE X l tl) : PI X tg l (iTup K tl) := by
  subst hK
  exact pi_tup hl
theorem K_enum {e : Expr} {ta : TA} {p pos tpos : Pos} {elts : List Expr} {kk : Nat} (hg : Gl X "enumerate") (hm : X.mg "enumerate" = none) (ha : PA X [e] ta) (hs : starEach [e] X.env = [(false, eval e X.env)] := by rfl) :
    PI X (.Tuple elts kk tpos) (.Call (.Name "enumerate" p) [e] [] pos) (iEnum K ta) := by
  subst hK
  exact pi_enum hg hm ha hs
theorem K_zip {e e2 : Expr} {ta : TA} {p pos tpos : Pos} {elts : List Expr} {kk : Nat} (hg : Gl X "zip") (hm : X.mg "zip" = none) (ha : PA X [e, e2] ta) (hs : starEach [e, e2] X.env = (false, eval e X.env) :: starEach [e2] X.env := by rfl) (hpl : (backTo pos (starEach [e2] X.env)).any (·.1) = false := by rfl) :
    PI X (.Tuple elts kk tpos) (.Call (.Name "zip" p) [e, e2] [] pos) (iZip K ta) := by
  subst hK
  exact pi_zip hg hm ha hs hpl
theorem K_bm {o e : Expr} {es : List Expr} {T : String} {name : Str} {id : String} {r : V → List V → Hp → VK → Prop} {to : TE} {t : TA} {apos cpos : Pos} (pa : PlainAttrs T) (slot : Slot T name id) (hty : typeOf (.builtin id) = pure (.type "method_descriptor")) (hm : MtR X id r) (ho : PE X o to) (ha : PA X (e :: es) t) (hbase : attributeBase o name X.env (eval o X.env) = eval o X.env := by rfl) (hfew : ((backTo cpos (starEach (e :: es) X.env)).all (fun x => !x.1) && (backToKw cpos (keywordEach [] X.env)).all (fun x => x.1.isSome) && decide ((e :: es).length + ([] : List Keyword).length + (if ([] : List Keyword).isEmpty then 0 else 1) < 30)) = true := by rfl) (hline : (apos.endLine == cpos.line) = true := by rfl) (hs : starEach (e :: es) X.env = (false, eval e X.env) :: starEach es X.env := by rfl) (hplain : (backTo cpos (starEach es X.env)).any (·.1) = false := by rfl) : PE X (.Call (.Attribute o name apos) (e :: es) [] cpos) (tBM K T r to t) := by
  subst hK
  exact pe_bm pa slot hty hm ho ha hbase hfew hline hs hplain
theorem K_bm0 {o : Expr} {T : String} {name : Str} {id : String} {r : V → List V → Hp → VK → Prop} {to : TE} {apos cpos : Pos} (pa : PlainAttrs T) (slot : Slot T name id) (hty : typeOf (.builtin id) = pure (.type "method_descriptor")) (hm : MtR X id r) (ho : PE X o to) (hbase : attributeBase o name X.env (eval o X.env) = eval o X.env := by rfl) (hline : (apos.endLine == cpos.line) = true := by rfl) : PE X (.Call (.Attribute o name apos) [] [] cpos) (tBM0 K T r to) := by
  subst hK
  exact pe_bm0 pa slot hty hm ho hbase hline
theorem K_gtup {es : List Expr} {k : Nat} {t : TGs} {n : Nat} {pos : Pos} (hc : X.calm = true) (h : PGs X es t) (hn : (assignEach es X.env).length = n := by rfl) (hst : (assignEach es X.env).findIdx? (·.1) = none := by rfl) : PG X (.Tuple es k pos) (gTup K n t) := by
  subst hK
  exact pg_tup hc h hn hst
theorem K_fld {e : Expr} {f : Str} {pos : Pos} {ta : TE} (he : PE X e ta) (hb : attributeBase e f X.env (eval e X.env) = eval e X.env) : PE X (.Attribute e f pos) (tFld K ta f) := by
  subst hK
  exact pe_fld he hb
theorem K_join {o e : Expr} {to te : TE} {apos pos : Pos} (ho : PE X o to) (he : PE X e te) (hs : starEach [e] X.env = [(false, eval e X.env)] := by rfl) (hbase : attributeBase o "join" X.env (eval o X.env) = eval o X.env := by rfl) (hline : (apos.endLine == pos.line) = true := by rfl) : PE X (.Call (.Attribute o "join" apos) [e] [] pos) (tM1 (fun x xs H Q => ∃ a p, ∃ ys : List Str, x = .str a ∧ xs = [.ref p] ∧ (SqL K H p (ys.map V.str) ∨ SqT K H p (ys.map V.str)) ∧ (ys.map (·.length)).sum + ys.length * a.length ≤ 16777216 ∧ Q (.str (Txt.join a ys)) H) to te) := by
  subst hK
  exact pe_join ho he hs hbase hline
end

/-! cuts: what stands behind is read once -/
section
variable {X : Cx}
def tCutS (t u : TS) : TS := fun D σ H => ∃ M : St → Hp → Prop, t { D with nx := M } σ H ∧ ∀ σ' H', M σ' H' → u D σ' H'
theorem pss_cutS {st : Stmt} {more : List Stmt} {t u : TS} (a : PS X st t) (b : PSs X more u) : PSs X (st :: more) (tCutS t u) := by
  constructor
  intro pins s σ H D I ⟨M, hm, hu⟩
  refine wpAny_execs_cons (thn (a.run pins s σ H { D with nx := M } I hm) fun f s1 w => ?_)
  match f, w with
  | .next, ⟨σ', H', I', w'⟩ => exact b.run pins s1 σ' H' D I' (hu σ' H' w')
  | .ret _, w => exact w
  | .brk, w => exact w
  | .cont, w => exact w
theorem r_cutS {t u : TS} {nx bk ct : St → Hp → Prop} {rt : VK} {σ : St} {H : Hp} (M : St → Hp → Prop) (h : t ⟨M, rt, bk, ct⟩ σ H) (q : ∀ σ' H', M σ' H' → u ⟨nx, rt, bk, ct⟩ σ' H') : tCutS t u ⟨nx, rt, bk, ct⟩ σ H := ⟨M, h, q⟩
def tCutT (t : TT) : TT := fun σ H Q => ∃ M : Bool → Hp → Prop, t σ H M ∧ ∀ b H', M b H' → Q b H'
theorem pt_cutT {e : Expr} {t : TT} (a : PT X e t) : PT X e (tCutT t) := by
  constructor
  intro pins s σ H Q I ⟨M, hm, hq⟩
  exact wpAny_mono (a.run pins s σ H M I hm) (fun b s' ⟨H', I', w⟩ => ⟨H', I', hq b H' w⟩) fun _ _ z => z
theorem r_cutT {t : TT} {σ : St} {H : Hp} {QB : Bool → Hp → Prop} (M : Bool → Hp → Prop) (h : t σ H M) (q : ∀ b H', M b H' → QB b H') : tCutT t σ H QB := ⟨M, h, q⟩
def tCutE (t : TE) : TE := fun σ H Q => ∃ M : VK, t σ H M ∧ ∀ x H', M x H' → Q x H'
theorem pe_cutE {e : Expr} {t : TE} (a : PE X e t) : PE X e (tCutE t) := by
  constructor
  intro pins s σ H Q I ⟨M, hm, hq⟩
  exact wpAny_mono (a.run pins s σ H M I hm) (fun u s' ⟨v, H', I', r, w⟩ => ⟨v, H', I', r, hq v H' w⟩) fun _ _ z => z
theorem r_cutE {t : TE} {σ : St} {H : Hp} {Q : VK} (M : VK) (h : t σ H M) (q : ∀ x H', M x H' → Q x H') : tCutE t σ H Q := ⟨M, h, q⟩
end

/-! lists by turns -/
theorem take_more {α : Type} : ∀ {l : List α} {i : Nat} {x : α}, l[i]? = some x → l.take (i + 1) = l.take i ++ [x]
  | [], i, x, h => by simp at h
  | a :: l, 0, x, h => by
    cases h
    rfl
  | a :: l, i + 1, x, h => by
    have ih := take_more (l := l) (i := i) (x := x) h
    rw [List.take_succ_cons, ih]
    rfl
theorem take_map {α β : Type} {l : List α} {i : Nat} {x : α} (f : α → β) (h : l[i]? = some x) : (l.take (i + 1)).map f = (l.take i).map f ++ [f x] := by
  rw [take_more h, List.map_append]
  rfl
theorem take_filter {α : Type} {l : List α} {i : Nat} {x : α} (f : α → Bool) (h : l[i]? = some x) : (l.take (i + 1)).filter f = (l.take i).filter f ++ (if f x = true then [x] else []) := by
  rw [take_more h, List.filter_append]
  cases e : f x <;> simp [e]
theorem map_at {α β : Type} {l : List α} {i : Nat} {y : β} {f : α → β} (h : (l.map f)[i]? = some y) : ∃ x, l[i]? = some x ∧ y = f x := by
  rw [List.getElem?_map] at h
  cases e : l[i]? with
  | none =>
    rw [e] at h
    cases h
  | some x =>
    rw [e] at h
    exact ⟨x, rfl, (Option.some.inj h).symm⟩
theorem lt_at {α : Type} {l : List α} {i : Nat} {x : α} (h : l[i]? = some x) : i < l.length := (List.getElem?_eq_some_iff.mp h).1
theorem mem_at {α : Type} {l : List α} {i : Nat} {x : α} (h : l[i]? = some x) : x ∈ l := List.mem_of_getElem? h
/-- a word's heap behind a new list at D has grown by a change of D -/
theorem Kp.step {D : Addr} {ex : List Addr} {H H1 H2 : Hp} (a : Kp ex H H1) (n : H D = none) (b : Kp [D] H1 H2) : Kp ex H H2 :=
  Kp.drop (l := D) ((a.mono fun _ m => List.mem_cons_of_mem _ m).trans (b.mono fun x m => by rw [List.mem_singleton.mp m]; exact List.mem_cons_self)) n

/-! a walk over a list or a tuple -/
def iSeq (K : PySem.W.Frag) (tl : TE) : TI := fun σ H R => tl σ H fun x H1 => ∃ a, x = .ref a ∧ (((∃ xs, SqL K H1 a xs) ∧ R (Itl K a) H1) ∨ ((∃ xs, SqT K H1 a xs) ∧ R (Itt K a) H1))
theorem K_pis {X : Cx} {K : PySem.W.Frag} (hK : X.K = K) {tg l : Expr} {tl : TE} (hl : PE X l tl) : PI X tg l (iSeq K tl) := by
  subst hK
  constructor
  intro pins s σ H R I h
  refine thn (hl.run pins s σ H _ I h) fun v s1 w => ?_
  obtain ⟨_, H1, I1, rv, a, rfl, w⟩ := w
  cases rv
  have fresh : ∀ b ∈ [s1.heap.objs.size], FpOk X pins H1 b := fun b m => (List.mem_singleton.mp m) ▸ I1.fpOk (Nat.le_refl _) (I1.hok.fresh (Nat.le_refl _))
  rcases w with ⟨⟨xs, hs⟩, w⟩ | ⟨⟨xs, hs⟩, w⟩
  · obtain ⟨_, _, pl, _⟩ := I1.list hs
    exact wpAny_pyIter_list pl.isList ⟨_, [s1.heap.objs.size], _, _, H1, rfl, I1.kept (t' := s1.toks) fun _ _ => Heap.get?_push_of_some _, turn_list a _, ⟨_, Heap.get?_push_size _ rfl, rfl, rfl⟩, fresh, w⟩
  · obtain ⟨_, _, pl, _⟩ := I1.tuple hs
    exact wpAny_pyIter_tuple pl ⟨_, [s1.heap.objs.size], _, _, H1, rfl, I1.kept (t' := s1.toks) fun _ _ => Heap.get?_push_of_some _, turn_tuple a _, ⟨_, Heap.get?_push_size _ rfl, rfl, rfl⟩, fresh, w⟩
def cWQ (K : PySem.W.Frag) (R : It → Hp → Prop) : V → Hp → Prop := fun x H1 => ∃ a, x = .ref a ∧ (((∃ xs, SqL K H1 a xs) ∧ R (Itl K a) H1) ∨ ((∃ xs, SqT K H1 a xs) ∧ R (Itt K a) H1))
section
variable {σ : St} {H : Hp} {Q : VK} {K : PySem.W.Frag} {te : TE} {R : It → Hp → Prop} {p : Addr} {xs : List V} {x : V}
theorem r_wq (q : te σ H (cWQ K R)) : iSeq K te σ H R := q
theorem r_cWQl (h : SqL K H p xs) (q : R (Itl K p) H) : cWQ K R (.ref p) H := ⟨p, rfl, .inl ⟨⟨xs, h⟩, q⟩⟩
theorem r_cWQt (h : SqT K H p xs) (q : R (Itt K p) H) : cWQ K R (.ref p) H := ⟨p, rfl, .inr ⟨⟨xs, h⟩, q⟩⟩
/-- a list or a tuple -/
def Sq (K : PySem.W.Frag) (H : Hp) (p : Addr) (xs : List V) : Prop := SqL K H p xs ∨ SqT K H p xs
theorem Sq.kp {ex : List Addr} {H' : Hp} (h : Sq K H p xs) (k : Kp ex H H') (m : p ∉ ex) : Sq K H' p xs := h.elim (fun z => .inl (sql_kp z k m)) fun z => .inr (sqt_kp z k m)
theorem r_lenQ (h : Sq K H p xs) (q : Q (.int (xs.length : Nat)) H) : cLen K [.ref p] H Q := ⟨p, xs, rfl, h, q⟩
theorem r_listQ (h : Sq K H p xs) (q : ∀ l H', H l = none → Kp [] H H' → H' l = some (.lst xs) → Q (.ref l) H') : cList K [.ref p] H Q := ⟨p, xs, rfl, h, fun l n => q l _ n (Kp.new n) upd_same⟩
/-! isinstance -/
theorem r_isiTy {T n : String} {b : Bool} (h : TyX K H x (.type T)) (e : kitB T n = some b) (q : Q (.bl b) H) : rIsi K [x, .ty n] H Q := ⟨x, .ty n, _, _, b, rfl, .ty n, h, kit_ty e, q⟩
/-! [e for ..] over a list or a tuple -/
theorem r_kLcQ {g : TG} {tt : TT} {vs : List Nat} (Pv : Addr → Nat → List V → Hp → Prop) (hq : Sq K H p xs) (h0 : ∀ D H', H D = none → Kp [] H H' → H' D = some (.lst []) → Pv D 0 [] H') (hG : ∀ D i acc H', i ≤ xs.length → Pv D i acc H' → Kp [] H H')
    (hs : ∀ D (i : Nat) acc x H', H D = none → xs[i]? = some x → H' D = some (.lst acc) → Pv D i acc H' → g x (wipe σ vs) H' (kTurn tt te (wipe σ vs) vs D (kN (Pv D (i + 1)) D)))
    (hd : ∀ D acc H', H D = none → H' D = some (.lst acc) → Pv D xs.length acc H' → Q (.ref D) H') : cWQ K (kLc g tt te vs σ Q) (.ref p) H := by
  rcases hq with h | h
  · exact r_cWQl h (r_kLcL Pv h0 (fun D i acc H' hi p => sql_kp h (hG D i acc H' hi p) not_nil) hs hd)
  · exact r_cWQt h (r_kLcT Pv h0 (fun D i acc H' hi p => sqt_kp h (hG D i acc H' hi p) not_nil) hs hd)
end

/-! list.index of a number -/
theorem eqV_int (a b : Int) : eqV (.int a) (.int b) = (a == b) := rfl
theorem flat_ints (ns : List Int) : (ns.map V.int).all flatV = true := by
  rw [List.all_eq_true]
  intro v hv
  obtain ⟨w, _, rfl⟩ := List.mem_map.mp hv
  rfl
theorem lt_idx {n : Int} : ∀ {l : List Int} {m : Nat} {z : Int}, m < l.idxOf n → l[m]? = some z → z ≠ n
  | [], m, z, _, e => by simp at e
  | x :: l, m, z, h, e => by
    rw [List.idxOf_cons] at h
    by_cases c : x = n
    · subst c
      simp at h
    · have c' : (x == n) = false := beq_eq_false_iff_ne.mpr c
      rw [c'] at h
      cases m with
      | zero =>
        cases e
        exact c
      | succ m =>
        exact lt_idx (l := l) (m := m) (Nat.lt_of_succ_lt_succ h) e
theorem r_indexI {K : PySem.W.Frag} {H : Hp} {Q : VK} {p : Addr} {ns : List Int} {n : Int} (h : SqL K H p (ns.map V.int)) (m : n ∈ ns) (q : Q (.int (ns.idxOf n : Nat)) H) : rIndex K (.ref p) [.int n] H Q := by
  have hi := List.idxOf_lt_length_of_mem m
  have e : ns[ns.idxOf n]? = some n := by rw [List.getElem?_eq_getElem hi, List.getElem_idxOf]
  refine ⟨p, _, .int n, ns.idxOf n, .int n, rfl, rfl, h, rfl, flat_ints ns, ?_, beq_self_eq_true n, fun j z' hj hz => ?_, q⟩
  · rw [List.getElem?_map, e]
    rfl
  · obtain ⟨z, hz', rfl⟩ := map_at hz
    exact beq_eq_false_iff_ne.mpr (lt_idx hj hz')
/-! == of data -/
def Shp (n : Nat) (d : PyData) : Prop := d.canLay0 = true ∧ d.depth ≤ n
theorem Shp.ok {n : Nat} {d : PyData} (h : Shp n d) (hn : n ≤ 64) : SeqAt.shaped d = true := Bool.and_eq_true_iff.mpr ⟨h.1, decide_eq_true (Nat.le_trans h.2 hn)⟩
theorem Shp.all {n : Nat} : ∀ {l : List PyData}, (∀ d ∈ l, Shp n d) → PyData.canLayAll0 l = true ∧ PyData.depthAll l ≤ n
  | [], _ => ⟨rfl, Nat.zero_le _⟩
  | d :: l, h => by
    have h1 := h d List.mem_cons_self
    have h2 := Shp.all (l := l) fun x hx => h x (List.mem_cons_of_mem _ hx)
    exact ⟨Bool.and_eq_true_iff.mpr ⟨h1.1, h2.1⟩, Nat.max_le.mpr ⟨h1.2, h2.2⟩⟩
theorem Shp.list {n : Nat} {l : List PyData} (h : ∀ d ∈ l, Shp n d) : Shp (n + 1) (.list l) := ⟨(Shp.all h).1, Nat.succ_le_succ (Shp.all h).2⟩
theorem Shp.tuple {n : Nat} {l : List PyData} (h : ∀ d ∈ l, Shp n d) : Shp (n + 1) (.tuple l) := ⟨(Shp.all h).1, Nat.succ_le_succ (Shp.all h).2⟩
theorem Shp.int (i : Int) (n : Nat) : Shp n (.int i) := ⟨rfl, Nat.zero_le _⟩
theorem Shp.bool (b : Bool) (n : Nat) : Shp n (.bool b) := ⟨rfl, Nat.zero_le _⟩
theorem Shp.none (n : Nat) : Shp n .none := ⟨rfl, Nat.zero_le _⟩
theorem Shp.str {x : Str} (h : PyData.strOk x = true) (n : Nat) : Shp n (.str x) := ⟨h, Nat.zero_le _⟩
theorem strOk_of {x : Str} {m : Nat} (h : ∀ c ∈ x.cps.toList, c ≤ m) (hm : m < 0x110000) : PyData.strOk x = true := by
  unfold PyData.strOk
  rw [← Array.all_toList, List.all_eq_true]
  intro c hc
  have := h c hc
  exact decide_eq_true (by omega)
section
variable {H : Hp} {Q : VK} {K : PySem.W.Frag} {x y : V} {d e : PyData} {ex ex' : List Addr} {n : Nat}
theorem r_eqD (hx : Dt ex H x d) (hy : Dt ex' H y e) (sx : Shp n d) (sy : Shp n e) (hn : n ≤ 64) (q : Q (.bl (PyData.eqv d e)) H) : rEqD K x y H Q := ⟨d, e, hx.dp, hy.dp, sx.ok hn, sy.ok hn, q⟩
theorem r_neD (hx : Dt ex H x d) (hy : Dt ex' H y e) (sx : Shp n d) (sy : Shp n e) (hn : n ≤ 64) (q : Q (.bl (!PyData.eqv d e)) H) : rNeD K x y H Q := ⟨d, e, hx.dp, hy.dp, sx.ok hn, sy.ok hn, q⟩
theorem r_eqD1 (hx : Dt ex H x d) (hy : Dt ex' H y d) (sx : Shp n d) (hn : n ≤ 64) (q : Q (.bl true) H) : rEqD K x y H Q := by
  refine r_eqD hx hy sx sx hn ?_
  rw [SeqAt.eqv_refl d sx.1]
  exact q
theorem r_neD0 (hx : Dt ex H x d) (hy : Dt ex' H y d) (sx : Shp n d) (hn : n ≤ 64) (q : Q (.bl false) H) : rNeD K x y H Q := by
  refine r_neD hx hy sx sx hn ?_
  rw [SeqAt.eqv_refl d sx.1]
  exact q
end
end Rd

set_option maxHeartbeats 4000000
/-! Ob: objects of own classes (fields, methods, making), their `in`, len, ==; isinstance of data; text in text; walks over a list or a tuple. -/
namespace Rd
open PySem PySem.Spec L2 StX

def UseM (P : Program) (w : World) (K : PySem.W.Frag) (mg : Str → Option Value) (base : Heap) (n : Nat) (C : Addr) (m : Str) (sp : Sp) : Prop := ∃ f, FnR P w K mg base CX0 n f sp ∧ Meth K C m f
def UseC (P : Program) (w : World) (K : PySem.W.Frag) (mg : Str → Option Value) (base : Heap) (n : Nat) (x : Str) (C : Addr) (sp : Sp) : Prop := ∃ f, FnR P w K mg base CX0 n f sp ∧ Mk K C f ∧ mg x = some (.ref C)
theorem fnr {P : Program} {w : World} {K : PySem.W.Frag} {mg : Str → Option Value} {base : Heap} {n : Nat} {f : Addr} {fd : FuncData} {ps : List Str} {sp : Sp} (F : FnOk P w K mg base CX0 n f fd ps sp) (b : Binds K fd ps []) : FnR P w K mg base CX0 n f sp :=
  (F.raw b .nil).imp fun vs H Q E h => by
    rw [List.append_nil]
    exact h

section
variable {σ : St} {H : Hp} {Q : VK} {QB : Bool → Hp → Prop} {v x y : V} {ta tb tc tv : TE} {tr : TA} {K : PySem.W.Frag} {C a dx : Addr} {fs : List (Str × V)} {f m : Str} {nx bk ct : St → Hp → Prop} {rt : VK} {sp : Sp} {r r' : R2} {b : Bool}
/-! fields -/
def kFld (K : PySem.W.Frag) (f : Str) (Q : VK) : VK := fun x H1 => ∃ a C dx fs v, x = .ref a ∧ H1 a = some (.ins C dx fs) ∧ Cls K C ∧ NoAttr K C f ∧ fs.lookup f = some v ∧ Q v H1
theorem r_fld (q : ta σ H (kFld K f Q)) : tFld K ta f σ H Q := q
theorem r_kFld (e : H a = some (.ins C dx fs)) (c : Cls K C) (n : NoAttr K C f) (l : fs.lookup f = some v) (q : Q v H) : kFld K f Q (.ref a) H := ⟨a, C, dx, fs, v, rfl, e, c, n, l, q⟩
def kSF (K : PySem.W.Frag) (f : Str) (y : V) (nx : St → Hp → Prop) (σ : St) : VK := fun x H2 => ∃ a C dx fs, x = .ref a ∧ H2 a = some (.ins C dx fs) ∧ Cls K C ∧ NoAttr K C f ∧ fs.length < 1000 ∧ nx σ (upd H2 a (.ins C dx (putF f y fs)))
theorem r_sfld (q : tv σ H fun y H1 => ta σ H1 (kSF K f y nx σ)) : sFld K ta tv f ⟨nx, rt, bk, ct⟩ σ H := q
theorem r_kSF (e : H a = some (.ins C dx fs)) (c : Cls K C) (n : NoAttr K C f) (l : fs.length < 1000) (q : ∀ H', Kp [a] H H' → H' a = some (.ins C dx (putF f y fs)) → nx σ H') : kSF K f y nx σ (.ref a) H :=
  ⟨a, C, dx, fs, rfl, e, c, n, l, q _ (Kp.put (by simp)) upd_same⟩
/-! methods, making -/
def kMeth (C : Addr) (m : Str) (sp : Sp) (t : TA) (σ : St) (Q : VK) : VK := fun x H1 => ∃ a dx fs, x = .ref a ∧ H1 a = some (.ins C dx fs) ∧ fs.lookup m = none ∧ t σ H1 fun vs H2 => sp (x :: vs) H2 Q E0
theorem r_methR (q : ta σ H (kMeth C m sp tr σ Q)) : tMethR C m sp E0 ta tr σ H Q := q
theorem r_kMeth (e : H a = some (.ins C dx fs)) (l : fs.lookup m = none) (q : tr σ H fun vs H2 => sp (.ref a :: vs) H2 Q E0) : kMeth C m sp tr σ Q (.ref a) H := ⟨a, dx, fs, rfl, e, l, q⟩
def kMade (x : Addr) (Q : VK) : VK := fun v H2 => v = .non ∧ Q (.ref x) H2
theorem r_kMade {p : Addr} (q : Q (.ref p) H) : kMade p Q .non H := ⟨rfl, q⟩
def kMake (C : Addr) (sp : Sp) (Q : VK) : List V → Hp → Prop := fun vs H1 => ∀ x dx, H1 x = none → H1 dx = none → dx ≠ x → sp (.ref x :: vs) (upd (upd H1 dx (.own x)) x (.ins C dx [])) (kMade x Q) E0
theorem r_makeR (q : tr σ H (kMake C sp Q)) : tMakeR C sp E0 tr σ H Q := q
theorem r_kMake {vs : List V} (q : ∀ a dx H', H a = none → Kp [] H H' → H' a = some (.ins C dx []) → sp (.ref a :: vs) H' (kMade a Q) E0) : kMake C sp Q vs H := fun a dx n n' d =>
  q a dx _ n ((Kp.new n').trans (Kp.new (by rw [upd_ne d.symm]; exact n))) upd_same
/-! a op b op c -/
def kCh (r' : R2) (y : V) (tc : TE) (σ : St) (Q : VK) : VK := fun z H3 => ∃ k, z = .bl k ∧ (if k = true then tc σ H3 fun w' H4 => r' y w' H4 Q else Q (.bl false) H3)
theorem r_chain (q : ta σ H fun x H1 => tb σ H1 fun y H2 => r x y H2 (kCh r' y tc σ Q)) : tChain r r' ta tb tc σ H Q := q
theorem r_kCh (h1 : b = true → tc σ H fun w' H4 => r' y w' H4 Q) (h2 : b = false → Q (.bl false) H) : kCh r' y tc σ Q (.bl b) H := by
  refine ⟨b, rfl, ?_⟩
  cases b
  · exact h2 rfl
  · exact h1 rfl
/-! text in text -/
def rInS : R2 := fun x y H Q => ∃ i j, x = .str i ∧ y = .str j ∧ Q (.bl (!(Builtin.Str.occurrences j i 0 j.length 1).isEmpty)) H
def rNinS : R2 := fun x y H Q => ∃ i j, x = .str i ∧ y = .str j ∧ Q (.bl (!(!(Builtin.Str.occurrences j i 0 j.length 1).isEmpty))) H
theorem op_inS {X : Cx} : OpR X (compareOp .In) rInS := op_in_str
theorem op_ninS {X : Cx} : OpR X (compareOp .NotIn) rNinS := op_notin_str
theorem r_inC {c : Nat} {z : Str} (q : Q (.bl (decide (c ∈ z.cps.toList))) H) : rInS (.str ⟨#[c]⟩) (.str z) H Q := by
  refine ⟨_, _, rfl, rfl, ?_⟩
  have e := StrLaws.found_one z c
  rw [show (!(Builtin.Str.occurrences z ⟨#[c]⟩ 0 z.length 1).isEmpty) = decide (c ∈ z.cps.toList) from e]
  exact q
theorem r_ninC {c : Nat} {z : Str} (q : Q (.bl (!decide (c ∈ z.cps.toList))) H) : rNinS (.str ⟨#[c]⟩) (.str z) H Q := by
  refine ⟨_, _, rfl, rfl, ?_⟩
  have e := StrLaws.found_one z c
  rw [show (!(Builtin.Str.occurrences z ⟨#[c]⟩ 0 z.length 1).isEmpty) = decide (c ∈ z.cps.toList) from e]
  exact q
/-! in a tuple of texts; all of truth values -/
theorem r_inT {z : Str} {ws : List Str} {p : Addr} (h : SqT K H p (ws.map V.str)) (q : Q (.bl (decide (z ∈ ws))) H) : rIn K false (.str z) (.ref p) H Q := by
  refine ⟨p, _, rfl, .inr h, rfl, flat_strs ws, ?_⟩
  show Q (.bl (inV (.str z) (ws.map V.str))) H
  rw [inV_strs]
  exact q
theorem r_ninT {z : Str} {ws : List Str} {p : Addr} (h : SqT K H p (ws.map V.str)) (q : Q (.bl (!decide (z ∈ ws))) H) : rIn K true (.str z) (.ref p) H Q := by
  refine ⟨p, _, rfl, .inr h, rfl, flat_strs ws, ?_⟩
  show Q (.bl (!inV (.str z) (ws.map V.str))) H
  rw [inV_strs]
  exact q
theorem r_all {bs : List Bool} {p : Addr} (h : SqL K H p (bs.map V.bl)) (q : Q (.bl (bs.all id)) H) : rAll K [.ref p] H Q := ⟨p, bs, rfl, h, q⟩
theorem r_any {bs : List Bool} {p : Addr} (h : SqL K H p (bs.map V.bl)) (q : Q (.bl (bs.any id)) H) : rAny K [.ref p] H Q := ⟨p, bs, rfl, h, q⟩
/-! two tuples, one behind the other -/
theorem r_catT {a b : Addr} {xs ys : List V} (ha : SqT K H a xs) (hb : SqT K H b ys) (hz : xs.length + ys.length ≤ sizeLine) (hy : ys ≠ []) (hx : xs = [] → Q (.ref b) H) (q : xs ≠ [] → ∀ p H', H p = none → Kp [] H H' → H' p = some (.tup (xs ++ ys)) → Q (.ref p) H') : rCatA K (.ref a) (.ref b) H Q :=
  ⟨a, b, xs, ys, rfl, rfl, ha, hb, hz, hx, fun _ e => absurd e hy, fun hx _ p n => q hx p _ n (Kp.new n) upd_same⟩
/-- the sum of two tuples, the second one not empty: some tuple -/
theorem r_catT' {a b : Addr} {xs ys : List V} (ha : SqT K H a xs) (hb : H b = some (.tup ys)) (hz : xs.length + ys.length ≤ sizeLine) (hy : ys ≠ []) (q : ∀ p H', Kp [] H H' → H' p = some (.tup (xs ++ ys)) → (p = b ∨ H p = none) → Q (.ref p) H') : rCatA K (.ref a) (.ref b) H Q := by
  refine r_catT ha (SqT.of hb) hz hy (fun e => ?_) fun _ p H' n k e => q p H' k e (.inr n)
  subst e
  exact q b H (Kp.refl _ _) hb (.inl rfl)
end

/-! `in`, len by own defs -/
def kOwnB (neg : Bool) (Q : VK) : VK := fun z H' => ∃ b, z = .bl b ∧ Q (.bl (b != neg)) H'
def rInOwn (C : Addr) (sp : Sp) (neg : Bool) : R2 := fun x y H Q => ∃ a dx fs, y = .ref a ∧ H a = some (.ins C dx fs) ∧ sp [.ref a, x] H (kOwnB neg Q) E0
def kOwnI (Q : VK) : VK := fun z H' => ∃ n : Int, z = .int n ∧ 0 ≤ n ∧ n < 2 ^ 63 ∧ Q (.int n) H'
def cLenOwn (C : Addr) (sp : Sp) : R1 := fun xs H Q => ∃ a dx fs, xs = [.ref a] ∧ H a = some (.ins C dx fs) ∧ sp [.ref a] H (kOwnI Q) E0
/-- x == y, both of the class at C -/
def rEqOwn (C : Addr) (sp : Sp) : R2 := fun x y H Q => ∃ a dx fs b dy gs, x = .ref a ∧ y = .ref b ∧ H a = some (.ins C dx fs) ∧ H b = some (.ins C dy gs) ∧ sp [.ref a, .ref b] H (fun z H' => ∃ c, z = .bl c ∧ Q (.bl c) H') E0
section
variable {X : Cx} {n : Nat} {C f : Addr} {sp : Sp}
theorem op_inOwn (hm : Meth X.K C "__contains__" f) (F : FnR X.prog X.w X.K X.mg X.base CX0 n f sp) (hr : Room n X.A) : OpR X (compareOp .In) (rInOwn C sp false) := by
  intro pins s σ H x y v u Q I rx ry h
  obtain ⟨a, dx, fs, rfl, ea, q⟩ := h
  cases (show u = Value.ref a from ry)
  obtain ⟨mA, O, _⟩ := ins_get I.hok ea
  obtain ⟨od, J, _⟩ := O.look
  obtain ⟨m, hF⟩ := I.fr
  refine PySem.W.in_K hF I.ok.mod.kin J hm.at_ hm.fn (wpAny_mono (wpAny_call (run_fnR (us := [.ref a, v]) (vs := [.ref a, x]) F hr pass0 I (.cons rfl (.cons rx .nil)) q)) (fun r s' z => ?_) fun _ _ x => x)
  obtain ⟨z', H', I', rz, b, rfl, qz⟩ := z
  cases (show r = Value.bool b from rz)
  refine wpAny_truthy_bool ⟨.bl b, H', I', rfl, ?_⟩
  have e : (b != false) = b := by cases b <;> rfl
  rw [e] at qz
  exact qz
theorem op_ninOwn (hm : Meth X.K C "__contains__" f) (F : FnR X.prog X.w X.K X.mg X.base CX0 n f sp) (hr : Room n X.A) : OpR X (compareOp .NotIn) (rInOwn C sp true) := by
  intro pins s σ H x y v u Q I rx ry h
  obtain ⟨a, dx, fs, rfl, ea, q⟩ := h
  cases (show u = Value.ref a from ry)
  obtain ⟨mA, O, _⟩ := ins_get I.hok ea
  obtain ⟨od, J, _⟩ := O.look
  obtain ⟨m, hF⟩ := I.fr
  refine PySem.W.notIn_K hF I.ok.mod.kin J hm.at_ hm.fn (wpAny_mono (wpAny_call (run_fnR (us := [.ref a, v]) (vs := [.ref a, x]) F hr pass0 I (.cons rfl (.cons rx .nil)) q)) (fun r s' z => ?_) fun _ _ x => x)
  obtain ⟨z', H', I', rz, b, rfl, qz⟩ := z
  cases (show r = Value.bool b from rz)
  refine wpAny_truthy_bool ⟨.bl (!b), H', I', rfl, ?_⟩
  have e : (b != true) = !b := by cases b <;> rfl
  rw [e] at qz
  exact qz
theorem cr_lenOwn (hm : Meth X.K C "__len__" f) (F : FnR X.prog X.w X.K X.mg X.base CX0 n f sp) (hr : Room (n + 1) X.A) : CallR X (.builtin "len") (cLenOwn C sp) := by
  intro pins s σ H xs us Q I r h
  obtain ⟨a, dx, fs, rfl, ea, q⟩ := h
  obtain ⟨u, rfl, ru⟩ := r.one
  cases (show u = Value.ref a from ru)
  obtain ⟨mA, O, _⟩ := ins_get I.hok ea
  obtain ⟨od, J, _⟩ := O.look
  obtain ⟨m, hF⟩ := I.fr
  refine PySem.W.len_K hF I.ok.mod.kin J hm.at_ hm.fn (wpAny_call (codeAny_mono (F X.A.in1 X.stack s H [.ref a] [.ref a] _ E0 hr.in1 I.env0.in1 (.cons rfl .nil) q) fun r s' z => ?_))
  cases r with
  | error e => exact False.elim z
  | ok fl =>
    cases fl with
    | ret u =>
      obtain ⟨z', H', I', rz, k, rfl, k0, k1, qz⟩ := I.after z
      obtain ⟨t, e⟩ := (show ∃ t, u = Value.int k t from rz)
      cases e
      exact ⟨⟨k0, k1⟩, .int k, H', I'.tok _, ⟨_, rfl⟩, qz⟩
    | next => exact False.elim z
    | brk => exact False.elim z
    | cont => exact False.elim z
theorem op_eqOwn (hm : Meth X.K C "__eq__" f) (F : FnR X.prog X.w X.K X.mg X.base CX0 n f sp) (hr : Room n X.A) : OpR X (compareOp .Eq) (rEqOwn C sp) := by
  intro pins s σ H x y v u Q I rx ry h
  obtain ⟨a, dx, fs, b, dy, gs, rfl, rfl, ea, eb, q⟩ := h
  cases (show v = Value.ref a from rx)
  cases (show u = Value.ref b from ry)
  obtain ⟨mA, O, _⟩ := ins_get I.hok ea
  obtain ⟨od, J, _⟩ := O.look
  obtain ⟨mB, O', _⟩ := ins_get I.hok eb
  obtain ⟨od', J', _⟩ := O'.look
  obtain ⟨m, hF⟩ := I.fr
  have nf : PySem.W.notFirst X.K C (.ref C) = true := by
    unfold PySem.W.notFirst
    simp
  refine PySem.W.cmp_K (op := .Eq) (tb := .ref C) hr.units0 hF I.ok.mod.kin J J'.type nf hm.at_ hm.fn ?_
  refine wpAny_mono (wpAny_call (run_fnR (us := [.ref a, .ref b]) (vs := [.ref a, .ref b]) F hr pass0 I (.cons rfl (.cons rfl .nil)) q)) (fun r s' z => ?_) fun _ _ x => x
  obtain ⟨z', H', I', rz, c, rfl, qz⟩ := z
  cases (show r = Value.bool c from rz)
  exact ⟨.bl c, H', I', rfl, qz⟩
end
section
variable {H : Hp} {Q : VK} {C a dx : Addr} {fs : List (Str × V)} {sp : Sp} {x : V} {neg b : Bool}
theorem r_inOwn (e : H a = some (.ins C dx fs)) (q : sp [.ref a, x] H (kOwnB neg Q) E0) : rInOwn C sp neg x (.ref a) H Q := ⟨a, dx, fs, rfl, e, q⟩
theorem r_kOwnB (q : Q (.bl (b != neg)) H) : kOwnB neg Q (.bl b) H := ⟨b, rfl, q⟩
end

/-! data of any kind: its type -/
def tyD : PyData → String
  | .none => "NoneType"
  | .bool _ => "bool"
  | .int _ => "int"
  | .str _ => "str"
  | .list _ => "list"
  | .tuple _ => "tuple"
  | .dict _ => "dict"
theorem Dt.tyx {K : PySem.W.Frag} {ex : List Addr} {H : Hp} {v : V} {d : PyData} (h : Dt ex H v d) : TyX K H v (.type (tyD d)) := by
  cases h with
  | non => exact .base .non
  | bl b => exact .base (.bl b)
  | int i => exact .base (.int i)
  | str x => exact .base (.str x)
  | lst _ e _ => exact .base (.lst e)
  | tup _ e _ => exact .base (.tup e)
def isStr : PyData → Bool
  | .str _ => true
  | _ => false
def isTup : PyData → Bool
  | .tuple _ => true
  | _ => false
def isLst : PyData → Bool
  | .list _ => true
  | _ => false
def isInt : PyData → Bool
  | .int _ => true
  | .bool _ => true
  | _ => false
def isBool : PyData → Bool
  | .bool _ => true
  | _ => false
theorem kit_D {n : String} {f : PyData → Bool} {d : PyData} (b0 b1 b2 b3 b4 b5 b6 : Bool) (h0 : kitB "NoneType" n = some b0) (h1 : kitB "bool" n = some b1) (h2 : kitB "int" n = some b2) (h3 : kitB "str" n = some b3) (h4 : kitB "list" n = some b4) (h5 : kitB "tuple" n = some b5) (h6 : kitB "dict" n = some b6)
    (e0 : f .none = b0) (e1 : ∀ b, f (.bool b) = b1) (e2 : ∀ b, f (.int b) = b2) (e3 : ∀ b, f (.str b) = b3) (e4 : ∀ b, f (.list b) = b4) (e5 : ∀ b, f (.tuple b) = b5) (e6 : ∀ b, f (.dict b) = b6) : kitB (tyD d) n = some (f d) := by
  cases d with
  | none => rw [e0]; exact h0
  | bool b => rw [e1]; exact h1
  | int b => rw [e2]; exact h2
  | str b => rw [e3]; exact h3
  | list b => rw [e4]; exact h4
  | tuple b => rw [e5]; exact h5
  | dict b => rw [e6]; exact h6
theorem kit_str (d : PyData) : kitB (tyD d) "str" = some (isStr d) :=
  kit_D false false false true false false false (by decide +kernel) (by decide +kernel) (by decide +kernel) (by decide +kernel) (by decide +kernel) (by decide +kernel) (by decide +kernel) rfl (fun _ => rfl) (fun _ => rfl) (fun _ => rfl) (fun _ => rfl) (fun _ => rfl) (fun _ => rfl)
theorem kit_tup (d : PyData) : kitB (tyD d) "tuple" = some (isTup d) :=
  kit_D false false false false false true false (by decide +kernel) (by decide +kernel) (by decide +kernel) (by decide +kernel) (by decide +kernel) (by decide +kernel) (by decide +kernel) rfl (fun _ => rfl) (fun _ => rfl) (fun _ => rfl) (fun _ => rfl) (fun _ => rfl) (fun _ => rfl)
theorem kit_lst (d : PyData) : kitB (tyD d) "list" = some (isLst d) :=
  kit_D false false false false true false false (by decide +kernel) (by decide +kernel) (by decide +kernel) (by decide +kernel) (by decide +kernel) (by decide +kernel) (by decide +kernel) rfl (fun _ => rfl) (fun _ => rfl) (fun _ => rfl) (fun _ => rfl) (fun _ => rfl) (fun _ => rfl)
theorem kit_int (d : PyData) : kitB (tyD d) "int" = some (isInt d) :=
  kit_D false true true false false false false (by decide +kernel) (by decide +kernel) (by decide +kernel) (by decide +kernel) (by decide +kernel) (by decide +kernel) (by decide +kernel) rfl (fun _ => rfl) (fun _ => rfl) (fun _ => rfl) (fun _ => rfl) (fun _ => rfl) (fun _ => rfl)
theorem kit_bool (d : PyData) : kitB (tyD d) "bool" = some (isBool d) :=
  kit_D false true false false false false false (by decide +kernel) (by decide +kernel) (by decide +kernel) (by decide +kernel) (by decide +kernel) (by decide +kernel) (by decide +kernel) rfl (fun _ => rfl) (fun _ => rfl) (fun _ => rfl) (fun _ => rfl) (fun _ => rfl) (fun _ => rfl)
section
variable {K : PySem.W.Frag} {ex : List Addr} {H : Hp} {Q : VK} {x : V} {d : PyData} {tp : Addr}
theorem r_isiStr (h : Dt ex H x d) (q : Q (.bl (isStr d)) H) : rIsi K [x, .ty "str"] H Q := r_isiTy h.tyx (kit_str d) q
theorem r_isiTup (h : Dt ex H x d) (q : Q (.bl (isTup d)) H) : rIsi K [x, .ty "tuple"] H Q := r_isiTy h.tyx (kit_tup d) q
theorem r_isiLst (h : Dt ex H x d) (q : Q (.bl (isLst d)) H) : rIsi K [x, .ty "list"] H Q := r_isiTy h.tyx (kit_lst d) q
theorem r_isiInt (h : Dt ex H x d) (q : Q (.bl (isInt d)) H) : rIsi K [x, .ty "int"] H Q := r_isiTy h.tyx (kit_int d) q
theorem r_isiBool (h : Dt ex H x d) (q : Q (.bl (isBool d)) H) : rIsi K [x, .ty "bool"] H Q := r_isiTy h.tyx (kit_bool d) q
theorem r_isiLT (h : Dt ex H x d) (e : H tp = some (.tup [.ty "list", .ty "tuple"])) (q : Q (.bl (isLst d || isTup d)) H) : rIsiT K [x, .ref tp] H Q := by
  refine ⟨x, tp, _, _, _, _, rfl, e, .cons (.ty "list") (.cons (.ty "tuple") .nil), h.tyx, ?_, q⟩
  refine kitAny_cons (kit_ty (kit_lst d)) (fun c => ?_) fun c => by rw [c]; rfl
  rw [c]
  refine kitAny_cons (kit_ty (kit_tup d)) (fun c => ?_) fun c => by rw [c]; rfl
  rw [c]
  rfl
end
mutual
theorem Dt.skip' {ex : List Addr} {H : Hp} {a : Addr} {o : HO} (e : H a = some o) (n1 : ∀ xs, o ≠ .lst xs) (n2 : ∀ xs, o ≠ .tup xs) : ∀ (d : PyData) (v : V), Dt ex H v d → Dt (a :: ex) H v d
  | .none, _, h => by cases h; exact .non
  | .bool b, _, h => by cases h; exact .bl b
  | .int i, _, h => by cases h; exact .int i
  | .str x, _, h => by cases h; exact .str x
  | .list ds, _, h => by
    cases h with
    | lst m e' al => exact .lst (fun z => (List.mem_cons.mp z).elim (fun q => n1 _ (Option.some.inj ((q ▸ e).symm.trans e'))) m) e' (DtAll.skip' e n1 n2 ds _ al)
  | .tuple ds, _, h => by
    cases h with
    | tup m e' al => exact .tup (fun z => (List.mem_cons.mp z).elim (fun q => n2 _ (Option.some.inj ((q ▸ e).symm.trans e'))) m) e' (DtAll.skip' e n1 n2 ds _ al)
  | .dict _, _, h => by cases h
theorem DtAll.skip' {ex : List Addr} {H : Hp} {a : Addr} {o : HO} (e : H a = some o) (n1 : ∀ xs, o ≠ .lst xs) (n2 : ∀ xs, o ≠ .tup xs) : ∀ (ds : List PyData) (vs : List V), DtAll ex H vs ds → DtAll (a :: ex) H vs ds
  | [], _, h => by cases h; exact .nil
  | d :: ds, _, h => by
    cases h with
    | cons h1 h2 => exact .cons (Dt.skip' e n1 n2 d _ h1) (DtAll.skip' e n1 n2 ds _ h2)
end
/-- nothing of the data lies where an object of another kind stands -/
theorem Dt.skip {ex : List Addr} {H : Hp} {a : Addr} {o : HO} {v : V} {d : PyData} (h : Dt ex H v d) (e : H a = some o) (n1 : ∀ xs, o ≠ .lst xs) (n2 : ∀ xs, o ≠ .tup xs) : Dt (a :: ex) H v d := Dt.skip' e n1 n2 d v h
theorem DtAll.skip {ex : List Addr} {H : Hp} {a : Addr} {o : HO} {vs : List V} {ds : List PyData} (h : DtAll ex H vs ds) (e : H a = some o) (n1 : ∀ xs, o ≠ .lst xs) (n2 : ∀ xs, o ≠ .tup xs) : DtAll (a :: ex) H vs ds := DtAll.skip' e n1 n2 ds vs h

theorem pe_globE {X : Cx} {x : Str} {v : V} {pos : Pos} (h : ∃ u, X.mg x = some u ∧ RelV v u) (hg : Gl X x) (hd : (x == ("__debug__" : Str)) = false := by decide) : PE X (.Name x pos) (tC v) := by
  obtain ⟨u, hm, r⟩ := h
  exact pe_glob hg hm r hd
/-! for over a list or a tuple -/
section
variable {σ : St} {H : Hp} {K : PySem.W.Frag} {xs : List V} {p : Addr} {g : TG} {tb : TS} {nx bk ct : St → Hp → Prop} {rt : VK}
theorem r_kForQ (Pv : Nat → St → Hp → Prop) (hq : Sq K H p xs) (h0 : Pv 0 σ H) (hl : ∀ i σ H', i ≤ xs.length → Pv i σ H' → ∃ ex, p ∉ ex ∧ Kp ex H H')
    (hs : ∀ (i : Nat) x σ H, xs[i]? = some x → Pv i σ H → g x σ H fun σ2 H2 => tb ⟨Pv (i + 1), rt, nx, Pv (i + 1)⟩ σ2 H2) (hd : ∀ σ H, Pv xs.length σ H → nx σ H) : cWQ K (kFor g tb ⟨nx, rt, bk, ct⟩ σ) (.ref p) H := by
  rcases hq with h | h
  · exact r_cWQl h (r_kForL Pv h0 (fun i σ H' hi q => let ⟨_, m, k⟩ := hl i σ H' hi q; sql_kp h k m) hs hd)
  · exact r_cWQt h (r_kForT Pv h0 (fun i σ H' hi q => let ⟨_, m, k⟩ := hl i σ H' hi q; sqt_kp h k m) hs hd)
end
/-! displays of data -/
def ED (te : TE) (σ : St) (H : Hp) (d : PyData) : Prop := ∀ Q : VK, (∀ x H', Kp [] H H' → Dt [] H' x d → Q x H') → te σ H Q
def AD (tr : TA) (σ : St) (H : Hp) (ds : List PyData) : Prop := ∀ QA : List V → Hp → Prop, (∀ xs H', Kp [] H H' → DtAll [] H' xs ds → QA xs H') → tr σ H QA
section
variable {σ : St} {H : Hp} {Q : VK} {d : PyData} {ds : List PyData} {te : TE} {tr : TA} {v : V} {i : Nat}
theorem r_ED (h : ED te σ H d) (q : ∀ x H', Kp [] H H' → Dt [] H' x d → Q x H') : te σ H Q := h Q q
theorem ED_c (h : Dt [] H v d) : ED (tC v) σ H d := fun _ q => q v H (Kp.refl _ _) h
theorem ED_var (e : σ[i]? = some (some v)) (h : Dt [] H v d) : ED (tVar i) σ H d := fun _ q => ⟨v, e, q v H (Kp.refl _ _) h⟩
theorem AD_nil : AD tNil σ H [] := fun _ q => q [] H (Kp.refl _ _) .nil
theorem AD_cons (h : ED te σ H d) (hr : ∀ H1, Kp [] H H1 → AD tr σ H1 ds) : AD (tCons te tr) σ H (d :: ds) := fun _ q =>
  h _ fun x H1 k1 h1 => hr H1 k1 _ fun xs H2 k2 h2 => q (x :: xs) H2 (k1.trans k2) (.cons (h1.mono k2) h2)
theorem ED_tup (h : AD tr σ H ds) (hl : ds.length ≤ sizeLine) : ED (tTup tr) σ H (.tuple ds) := fun _ q =>
  h _ fun xs H1 k1 h1 => ⟨h1.length ▸ hl, fun p n => q (.ref p) _ (k1.trans (Kp.new n)) (.tup not_nil upd_same (h1.mono (Kp.new n)))⟩
theorem ED_lst (h : AD tr σ H ds) (hl : ds.length ≤ sizeLine) : ED (tLst tr) σ H (.list ds) := fun _ q =>
  h _ fun xs H1 k1 h1 => ⟨h1.length ▸ hl, fun p n => q (.ref p) _ (k1.trans (Kp.new n)) (.lst not_nil upd_same (h1.mono (Kp.new n)))⟩
theorem r_neB {a b : Bool} (q : Q (.bl (!decide (a = b))) H) : rNe (.bl a) (.bl b) H Q := by
  refine ⟨rfl, ?_⟩
  have e : decide (V.bl a = V.bl b) = decide (a = b) := by cases a <;> cases b <;> rfl
  rw [e]
  exact q
theorem r_eqB {a b : Bool} (q : Q (.bl (decide (a = b))) H) : rEq (.bl a) (.bl b) H Q := by
  refine ⟨rfl, ?_⟩
  have e : decide (V.bl a = V.bl b) = decide (a = b) := by cases a <;> cases b <;> rfl
  rw [e]
  exact q
theorem idx_in {i : Int} {n : Nat} (h0 : 0 ≤ i) (h1 : i < n) : seqIndex? i n = some i.toNat := by
  unfold seqIndex?
  have e : ¬ i < 0 := by omega
  simp [e, h0, h1]
theorem r_popAt {l : Addr} {xs : List V} {i : Int} {y : V} (e : H l = some (.lst xs)) (h0 : 0 ≤ i) (h1 : i < (xs.length : Int)) (h2 : xs.length < 2 ^ 62) (hy : xs[i.toNat]? = some y) (q : ∀ H', Kp [l] H H' → H' l = some (.lst (xs.eraseIdx i.toNat)) → Q y H') : rPopAt (.ref l) [.int i] H Q :=
  ⟨l, xs, i, i.toNat, y, rfl, rfl, e, by omega, by omega, idx_in h0 h1, hy, q _ (Kp.put (by simp)) upd_same⟩
theorem r_cat {l b : Addr} {xs zs : List V} (e : H l = some (.lst xs)) (e' : H b = some (.lst zs)) (hz : xs.length + zs.length ≤ sizeLine) (q : ∀ p H', H p = none → Kp [] H H' → H' p = some (.lst (xs ++ zs)) → Q (.ref p) H') : rCat (.ref l) (.ref b) H Q :=
  ⟨l, b, xs, zs, rfl, rfl, e, e', hz, fun p n => q p _ n (Kp.new n) upd_same⟩
end
end Rd

set_option maxHeartbeats 4000000
/-! Sup: defs with the cell __class__; super().__init__(text) of an exception over ValueError, as a body's first statement. -/
namespace Rd
open PySem PySem.Spec L2 NdefX

/-! ### a body at its own code -/
structure QS (X : Cx) (c : Code) (ss : List Stmt) (t : TS) : Prop where
  run : ∀ (pins : List (Addr × Obj)) (s : Shared) (σ : St) (H : Hp) (D : Ends), Inv X pins σ H s → t D σ H → _root_.PySem.wpAt (model X.prog X.w) X.A c (execs ss X.env) (SP X pins D) X.xe s
theorem qs_of {X : Cx} {c : Code} {ss : List Stmt} {t : TS} (h : PSs X ss t) : QS X c ss t := ⟨fun pins s σ H D I q => wpAt_of_wpAny (h.run pins s σ H D I q)⟩

/-! ### a def of the text with the cell __class__ -/
theorem cells_written {P : Program} {w : World} {K : PySem.W.Frag} {mg : Str → Option Value} {base : Heap} {A : Around} {outer : List Env} {s : Shared} {H : Hp} {cc : Addr} {u : Value} {cl : Value} {cld : Option Addr} {csl : Array (Option Value)}
    (e0 : Env0 P w K mg base A outer s H) (cell : K.lookup cc = some ⟨cl, cld, .cell (some u), csl⟩) : CellsAt [("__class__", cc)] ["__class__"] [none] s.heap H := by
  have hb := e0.bs _ _ (e0.mod.kin _ _ cell)
  have hc : s.heap.IsCell cc (some u) := ⟨_, hb.1, rfl⟩
  have look : ∀ {y : Str} {c : Addr}, ([("__class__", cc)] : List (Str × Addr)).lookup y = some c → y = "__class__" ∧ c = cc := fun {y c} h => by
    rw [List.lookup_cons] at h
    by_cases e : (y == ("__class__" : Str)) = true
    · rw [e] at h
      exact ⟨beq_iff_eq.mp e, (Option.some.inj h).symm⟩
    · rw [Bool.eq_false_iff.mpr e] at h
      cases h
  refine ⟨rfl, fun y c h => ?_, fun x y c h1 h2 => (look h1).1.trans (look h2).1.symm, fun i y h => ?_⟩
  · obtain ⟨_, rfl⟩ := look h
    exact ⟨hb.2, _, hc⟩
  · match i, h with
    | 0, h =>
      cases h
      exact ⟨cc, by rw [List.lookup_cons]; simp, fun v hv => nomatch hv⟩
    | i + 1, h => cases h
theorem fn_sup {CX : CXT} {P : Program} {w : World} {K : PySem.W.Frag} {mg : Str → Option Value} {base : Heap} {k : Nat} {f cc cda : Addr} {name qual : Str} {params : Arguments} {body : List Stmt} {scope : Scope} {dV kV doc pm ct oc cl u : Value} {an od cld : Option Addr}
    {osl csl : Array (Option Value)} {N ps : List Str} {sp : Sp} (lk : K.lookup f = some ⟨oc, od, .func (PySem.W.ksFn name qual params body scope dV kV doc pm an (.ref cda) ct cc), osl⟩) (hcd : PySem.W.codeIn K (.ref cda) qual = true)
    (cell : K.lookup cc = some ⟨cl, cld, .cell (some u), csl⟩) (S : NScope N ps ["__class__"] scope)
    (len : ∀ vs H Q E, sp vs H Q E → vs.length = ps.length)
    (hbody : ∀ (A : Around) (outer : List Env) (s : Shared) (H : Hp) (vs : List V) (Q : VK) (E : XK), Room k (A.deeper (envF ⟨name, qual, params, body, scope, [("__class__", cc)], cda⟩ f s.heap.objs.size)) → sp vs H Q E →
      ∃ t, QS (ncx CX P w K mg base N ⟨name, qual, params, body, scope, [("__class__", cc)], cda⟩ f A outer s H E) (.func body (envF ⟨name, qual, params, body, scope, [("__class__", cc)], cda⟩ f s.heap.objs.size)) body t ∧
        t { nx := fun _ H' => Q .non H', rt := Q } (startF N vs [none]) H) : FnOk P w K mg base CX (k + 1) f (PySem.W.ksFn name qual params body scope dV kV doc pm an (.ref cda) ct cc) ps sp := by
  refine ⟨len, fun A outer s H args us vs Q E hr e0 hb r hsp => ?_⟩
  have hl := len _ _ _ _ hsp
  have KX : K.In s.heap := e0.mod.kin.keeps fun b o e => (e0.bs b o e).1
  have lim : s.heap.NoLimit := e0.mod.nolimit.keeps fun b o e => (e0.bs b o e).1
  refine codeAny_call_function hr.depth (KX _ _ lk) rfl S.co S.gen rfl (PySem.W.codeRec_of KX hcd) (hb _ _ _ _ ?_)
  refine (wpAny_newFunctionEnv S.nocell (fun ⟨n, _⟩ hy => S.par n (List.of_mem_zip hy).1) (fun h₁ hns hsb => ⟨lim.fresh _ hsb, ?_⟩) S.kind)
  show codeAny _ _ (.func body (envF ⟨name, qual, params, body, scope, [("__class__", cc)], cda⟩ f s.heap.objs.size)) _ _
  refine ks_codeAny_funcAt ?_
  have kp : ∀ b o, s.heap.get? b = some o → h₁.get? b = some o := fun b o e => hsb.extBut b o (Nat.ne_of_lt (Heap.lt_size e)) (Heap.get?_push_of_some _ e)
  obtain ⟨t, ht, hq⟩ := hbody A outer s H vs Q E (hr.deeper _) hsp
  have I : Inv (ncx CX P w K mg base N ⟨name, qual, params, body, scope, [("__class__", cc)], cda⟩ f A outer s H E) [] (startF N vs [none]) H { s with heap := h₁, toks := s.toks + (ps.zip us).length } := inv_startN S hr.hd e0 hl r (cells_written e0 cell) hns kp
  refine ks_wpAt_mono (ht.run [] _ (startF N vs [none]) H _ I hq) (fun fl s' hs => ?_) fun e s' hs => hs
  have fin : ∀ {σ' : L2.St} {H' : Hp} {v : V} {u : Value}, Inv (ncx CX P w K mg base N ⟨name, qual, params, body, scope, [("__class__", cc)], cda⟩ f A outer s H E) [] σ' H' s' → RelV v u → Q v H' → CE outer P w H s Q u s' := fun {σ' H' v u} J rv q => ⟨v, H', J.os, J.bare, J.base, J.hok, rv, q⟩
  match fl, hs with
  | .ret u, ⟨v, σ', H', J, rv, q⟩ => exact fin J rv q
  | .next, ⟨σ', H', J, q⟩ => exact fin (v := V.non) (u := Value.none) J rfl q
  | .brk, ⟨_, _, _, q⟩ => exact False.elim q
  | .cont, ⟨_, _, _, q⟩ => exact False.elim q

/-! ### the wrapper's call -/
section
variable {prog : Program} {w : World} {A : Around} {E : Value → Shared → Prop} {h : Heap} {g : Array GenState} {d : Drawn} {t : Nat} {os : OsState}
variable {nm q : Str} {C N : Addr} {bs bm bmB : List Value} {hdct : Bool} {sn : List Str} {sub : List Value} {ab : Bool} {col : Option Bool} {dd : Option Addr} {k0 k1 k2 k3 k5 : Option Value} {B newId initId : String}
theorem mw_call (F : ExcBaseFacts B newId initId bmB) {u e t0 : Addr} {rest : List Value} {Q : Value → Shared → Prop}
    (hC : h.get? C = some (excClassObj nm q C N bs bm hdct sn sub ab col dd k0 k1 k2 k3 k5 newId)) (he : h.get? e = some (HandSPX.excO C t0)) (hu : h.get? u = some (W.kxs_mw initId e)) (hrest : rest.length ≤ sizeLine)
    (hq : ∀ h' t1, (∀ b o, b ≠ e → h.get? b = some o → h'.get? b = some o) → h'.get? e = some (HandSPX.excO C t1) → Q .none ⟨h', g, d, t, os⟩) : wpAny (model prog w) A (call (.ref u) rest) Q E ⟨h, g, d, t, os⟩ := by
  refine wpAny_call (codeAny_of_tree ?_)
  show wpAny _ A.in1 (callAny (.ref u) ⟨rest, []⟩) _ _ _
  unfold callAny
  refine wpAny_bind (wpAny_load hu ?_)
  simp only [show (Value.type "method-wrapper" == Value.type "method" || Value.type "method-wrapper" == Value.type "builtin_function_or_method" || Value.type "method-wrapper" == Value.type "method-wrapper") = true by decide, if_true]
  refine W.KFB.if_so (by decide) (wpAny_bind (W.check_bound_init F.toExcCallFacts hC he rfl (wpAny_bind (wpAny_pure (wpAny_pure ⟨plainId_quiet F.init.plain _, codeAny_builtin F.initEntry ?_⟩)))))
  rw [Around.under_plainId F.init.plain _]
  wp_walk
  refine hq _ h.objs.size (fun b o hb ho => ?_) ?_
  · rw [Heap.get?_update_other _ _ (Ne.symm hb)]
    exact Heap.get?_push_of_some _ ho
  · rw [Heap.get?_update_self _ (Heap.get?_push_of_some _ he) rfl]
    rfl
end

/-! ### super().__init__(text) -/
/-- what is asked of an exception's class at C (straight or farther over ValueError), whose __init__ has the code object at cda -/
structure SupC (P : Program) (K : PySem.W.Frag) (mg : Str → Option Value) (C cda : Addr) : Prop where
  oex : OexC K C
  up : PySem.W.ks_superIn K C C "__init__" = some (some (.builtin "ValueError.__init__"))
  sub : PySem.W.subIn K (.ref C) (.type "ValueError") = some true
  own : PySem.W.mroIn K C (.ref C) = some true
  opq : PySem.W.nsIn K cStatics "thirdparty.any" = some none
  zs : mg "super" = none
  file : ∃ ccl cdd vs ccs fl tf, K.lookup cda = some ⟨ccl, cdd, .fields vs, ccs⟩ ∧ vs[2]? = some (.str fl tf) ∧ (P.main.file == fl) = true
  top : (P.main.scope.names.lookup ("super" : Str)).isSome = false
def tSupI (C : Addr) (t : TS) : TS := fun D σ H => ∃ a, σ[0]? = some (some (.ref a)) ∧ H a = some (exo a C none) ∧ t D σ H
theorem qs_sup {CX : CXT} {P : Program} {w : World} {K : PySem.W.Frag} {mg : Str → Option Value} {base : Heap} {f cc cda C : Addr} {name qual : Str} {params : Arguments} {body body' : List Stmt} {scope : Scope} {dV kV doc pm ct oc cl : Value} {an od cld : Option Addr}
    {osl csl : Array (Option Value)} {N : List Str} {A : Around} {outer : List Env} {s0 : Shared} {H0 : Hp} {E : XK} {ar : Arg} {p0 p1 p2 p3 p4 p5 : Pos} {m : Str} {j : Nat} {pl : Sem Bool} {rest : List Stmt} {t : TS}
    (lk : K.lookup f = some ⟨oc, od, .func (PySem.W.ksFn name qual params body scope dV kV doc pm an (.ref cda) ct cc), osl⟩) (cell : K.lookup cc = some ⟨cl, cld, .cell (some (.ref C)), csl⟩) (Z : SupC P K mg C cda)
    (hks : scope.names.lookup ("super" : Str) = some .globalImplicit) (hkc : scope.names.lookup ("__class__" : Str) = some .free) (hp : (params.posonlyargs ++ params.args).head? = some ar) (hN : N[0]? = some ar.arg)
    (hka : scope.names.lookup ar.arg = some .local) (hk : scope.kind = .function)
    (hi : interactive (envF ⟨name, qual, params, body, scope, [("__class__", cc)], cda⟩ f s0.heap.objs.size) = false)
    (hs : swapsWith (.Call (.Attribute (.Call (.Name "super" p0) [] [] p1) "__init__" p2) [.Constant (.str m) j p3] [] p4) none p5.line (envF ⟨name, qual, params, body, scope, [("__class__", cc)], cda⟩ f s0.heap.objs.size) = pure false)
    (he : eval (.Call (.Attribute (.Call (.Name "super" p0) [] [] p1) "__init__" p2) [.Constant (.str m) j p3] [] p4) (envF ⟨name, qual, params, body, scope, [("__class__", cc)], cda⟩ f s0.heap.objs.size) = (do
      let ov ← attributeBase (.Call (.Name "super" p0) [] [] p1) "__init__" (envF ⟨name, qual, params, body, scope, [("__class__", cc)], cda⟩ f s0.heap.objs.size) (eval (.Call (.Name "super" p0) [] [] p1) (envF ⟨name, qual, params, body, scope, [("__class__", cc)], cda⟩ f s0.heap.objs.size))
      standAt p2.atName
      let (fx, first) ← holding [ov] (getMethod ov "__init__" pl)
      callWith p4 fx first (backTo p4 (starEach [.Constant (.str m) j p3] (envF ⟨name, qual, params, body, scope, [("__class__", cc)], cda⟩ f s0.heap.objs.size))) []))
    (hst : starEach [.Constant (.str m) j p3] (envF ⟨name, qual, params, body, scope, [("__class__", cc)], cda⟩ f s0.heap.objs.size) = [(false, eval (.Constant (.str m) j p3) (envF ⟨name, qual, params, body, scope, [("__class__", cc)], cda⟩ f s0.heap.objs.size))])
    (hr : QS (ncx CX P w K mg base N ⟨name, qual, params, body, scope, [("__class__", cc)], cda⟩ f A outer s0 H0 E) (.func body' (envF ⟨name, qual, params, body, scope, [("__class__", cc)], cda⟩ f s0.heap.objs.size)) rest t) :
    QS (ncx CX P w K mg base N ⟨name, qual, params, body, scope, [("__class__", cc)], cda⟩ f A outer s0 H0 E) (.func body' (envF ⟨name, qual, params, body, scope, [("__class__", cc)], cda⟩ f s0.heap.objs.size))
      (.Expr (.Call (.Attribute (.Call (.Name "super" p0) [] [] p1) "__init__" p2) [.Constant (.str m) j p3] [] p4) p5 :: rest) (tSupI C t) := by
  constructor
  intro pins s σ H D I ⟨a, hσ, ha, q⟩
  have KX := I.kIn
  obtain ⟨t1, ho⟩ := exo_at I.hok ha
  obtain ⟨ccl, cdd, vs, ccs, fl, tf, hcode, hvs, hfile⟩ := Z.file
  obtain ⟨nm, qq, N', bs, bm, sn, sub, ab, col, dd, k0, k1, k2, k3, k5, hC, hbm⟩ := Z.oex.cls
  refine ks_wpAt_execs_cons (ks_wpAt_Expr_any (ks_wpAt_MethodCall (pl := pl) ?_ he) hi hs)
  obtain ⟨hh, g, d, tk, os⟩ := s
  have hD1 := KX _ _ hC
  refine ks_wpAt_super_base hks hkc (by decide) rfl (KX _ _ lk) rfl hp rfl (KX _ _ hcode) rfl hvs hfile Z.top ?_
  obtain ⟨mb, hbn, hbv⟩ := I.ok.mod.blt
  have hbo : bootBuiltins "super" = some (.type "super") := by first | rfl | decide +kernel
  refine W.ks_loadName_global hk hks (Calls.loadGlobal_builtin (I.mod.glob.keeps I.bk) Z.zs (hbn.keeps I.bk) ((hbv ("super" : Str) (by decide +kernel)).trans hbo) ⟨rfl, ?_⟩)
  refine wpAny_loadName_free hk hkc rfl ⟨_, KX _ _ cell, rfl⟩ ?_
  obtain ⟨ml, hns, hl⟩ := I.loc
  obtain ⟨u, ru, lku⟩ := hl 0 ar.arg (.ref a) hN hσ (.inl hka)
  have hm : ml ar.arg = some u := by
    rcases lku with ⟨_, z⟩ | ⟨z, _⟩
    · exact z
    · rcases z with z | z
      · exact absurd (hka.symm.trans z) (by decide)
      · exact absurd (hka.symm.trans z) (by decide)
  obtain rfl : u = Value.ref a := ru
  refine wpAny_loadName_local hk hka hns hm ?_
  refine ks_wpAny_isType_cls hD1 rfl ⟨rfl, ?_⟩
  refine ks_wpAny_call_super hD1 rfl ho rfl (fun c z => nomatch z) (W.looks_mroIn KX Z.own) fun h' e1 kp => ?_
  have I1 : Inv _ pins σ H ⟨h', g, d, tk, os⟩ := I.kept (t' := tk) kp
  have KX1 := I1.kIn
  have ho1 := kp _ _ ho
  have J : W.InstAt h' a (HandSPX.excO C t1) C none := ⟨ho1, rfl, rfl, trivial⟩
  have up := Z.up
  cases hc : W.clsIn K C with
  | none =>
    unfold W.ks_superIn at up
    rw [hc] at up
    cases up
  | some cd =>
    unfold W.ks_superIn at up
    rw [hc] at up
    refine W.kxs_getMethod W.kxs_ValueError e1 (W.looks_opaque KX1 Z.opq) (l₀ := cd.mro) (fun A Q E s k z => wpAny_bind ((W.looks_clsIn KX1 hc) A _ E s k (wpAny_pure z))) rfl KX1 up (J.type.andThen (W.looks_subIn KX1 Z.sub)) (W.ks_ne KX1 J hc) (by decide) ?_
    have k2 : ∀ b o, h'.get? b = some o → (h'.push (W.kxs_mw "ValueError.__init__" a)).get? b = some o := fun b o e => Heap.get?_push_of_some _ e
    have I2 : Inv _ pins σ H ⟨h'.push (W.kxs_mw "ValueError.__init__" a), g, d, tk + 1, os⟩ := I1.kept (t' := tk + 1) k2
    have hu : (h'.push (W.kxs_mw "ValueError.__init__" a)).get? h'.objs.size = some (W.kxs_mw "ValueError.__init__" a) := Heap.get?_push_size _ rfl
    have hst' : starEach [.Constant (.str m) j p3] (ncx CX P w K mg base N ⟨name, qual, params, body, scope, [("__class__", cc)], cda⟩ f A outer s0 H0 E).env = [(false, eval (.Constant (.str m) j p3) (ncx CX P w K mg base N ⟨name, qual, params, body, scope, [("__class__", cc)], cda⟩ f A outer s0 H0 E).env)] := hst
    rw [hst']
    refine W.kxs_callWith (i := "ValueError.__init__") (x := a) rfl (Calls.evalArgs_plain (Calls.spliced_cons (Calls.Constant_str (pos := p3) (k := j) (Calls.spliced_nil ⟨hu, ?_⟩))))
    refine mw_call F.excBase_ValueError (I2.kIn _ _ hC) (k2 _ _ ho1) hu (by show 1 ≤ sizeLine; decide) fun h3 t2 k3 e3 => ?_
    have J3 := (I2.tok (tk + 1 + 1)).write (t' := tk + 1 + 1) (x := a) (e := a) (o := exo a C none) (by rw [ha]; exact True.intro) (.inl rfl) k3 ⟨_, e3⟩ (exo_ok e3)
    have eu : upd H a (exo a C none) = H := by
      funext b
      by_cases hb : b = a
      · rw [hb, upd_same, ha]
      · rw [upd_ne hb]
    rw [eu] at J3
    exact hr.run pins _ σ H D J3 q

/-- such a def of the text, its class at C -/
structure SFun (P : Program) (K : PySem.W.Frag) (mg : Str → Option Value) (qual : Str) (st : Stmt) (C f : Addr) (fd : FuncData) : Prop where
  ex : ∃ (oc kV doc pm ct cl : Value) (od an cld : Option Addr) (cda cc : Addr) (osl csl : Array (Option Value)), fd = PySem.W.ksFn "__init__" qual (defArgs st) (defBody st) (defScope st) .none kV doc pm an (.ref cda) ct cc ∧
    K.lookup f = some ⟨oc, od, .func (PySem.W.ksFn "__init__" qual (defArgs st) (defBody st) (defScope st) .none kV doc pm an (.ref cda) ct cc), osl⟩ ∧ PySem.W.codeIn K (.ref cda) qual = true ∧ K.lookup cc = some ⟨cl, cld, .cell (some (.ref C)), csl⟩ ∧ SupC P K mg C cda
/-- __init__(self, fld) of an exception: super().__init__(text); self.fld = fld -/
def sp_exc1 (fld : Str) (C : Addr) : Sp := fun vs H Q _ => ∃ (a : Addr) (v : V), vs = [.ref a, v] ∧ H a = some (exo a C none) ∧ ∀ dx, H dx = none → dx ≠ a → Q .non (upd (upd H dx (exd dx [(fld, v)])) a (exo a C (some dx)))
theorem r_sup {C : Addr} {t : TS} {D : Ends} {σ : St} {H : Hp} {a : Addr} (e : σ[0]? = some (some (.ref a))) (ha : H a = some (exo a C none)) (q : t D σ H) : tSupI C t D σ H := ⟨a, e, ha, q⟩
theorem r_ost {K : PySem.W.Frag} {fld : Str} {i j : Nat} {D : Ends} {σ : St} {H : Hp} {a C : Addr} {v : V} (e : σ[i]? = some (some (.ref a))) (e' : σ[j]? = some (some v)) (T : OexC K C) (n : PySem.W.findIn K (.ref C) fld = some none) (ha : H a = some (exo a C none))
    (q : ∀ dx, H dx = none → dx ≠ a → D.nx σ (upd (upd H dx (exd dx [(fld, v)])) a (exo a C (some dx)))) : tOst K fld (tVar i) (tVar j) D σ H :=
  ⟨v, e', .ref a, e, a, C, rfl, T, n, .inl ⟨ha, q⟩⟩

/-! ### such an exception as its users see it -/
structure Exc1 (P : Program) (w : World) (K : PySem.W.Frag) (mg : Str → Option Value) (base : Heap) (k : Nat) (x fld : Str) (C : Addr) : Prop where
  oex : OexC K C
  made : ∃ fI fd ps, PySem.W.findIn K (.ref C) "__init__" = some (some (.ref fI)) ∧ PySem.W.typeIn K (.ref fI) = some (.type "function") ∧ FnOk P w K mg base CX0 k fI fd ps (sp_exc1 fld C) ∧ Binds K fd ps []
  gC : mg x = some (.ref C)
  xf : XfC K C
  nof : PySem.W.findIn K (.ref C) fld = some none
  te : PySem.W.exmOne K (.ref C) (.ref C) = some true
def kMkO (C : Addr) (fld : Str) (Q : XK) : List V → Hp → Prop := fun vs H1 => vs.length ≤ 1000 ∧ ∀ a, H1 a = none → sp_exc1 fld C (.ref a :: (vs ++ [])) (upd H1 a (exo a C none))
  (fun v H2 => v = .non ∧ ∃ (d : Addr) (fs : List (Str × V)), H2 a = some (exo a C (some d)) ∧ H2 d = some (exd d fs) ∧ H1 d = none ∧ Q (.ref C) (some d) (upd (del H2 a) d (.xd fs))) (fun _ _ _ => False)
theorem r_kMkO {C : Addr} {fld : Str} {Q : XK} {v : V} {H : Hp} (q : ∀ d H', H d = none → Kp [] H H' → H' d = some (.xd [(fld, v)]) → Q (.ref C) (some d) H') : kMkO C fld Q [v] H := by
  refine ⟨by show 1 ≤ 1000; decide, fun a ha => ⟨a, v, rfl, upd_same, fun dx hdx ne => ⟨rfl, dx, [(fld, v)], upd_same, by rw [upd_ne ne, upd_same], ?_, ?_⟩⟩⟩
  · rw [upd_ne ne] at hdx
    exact hdx
  · have n1 : H dx = none := by
      rw [upd_ne ne] at hdx
      exact hdx
    have eq : upd (del (upd (upd (upd H a (exo a C none)) dx (exd dx [(fld, v)])) a (exo a C (some dx))) a) dx (.xd [(fld, v)]) = upd H dx (.xd [(fld, v)]) := by
      funext b
      by_cases hb : b = dx
      · rw [hb, upd_same, upd_same]
      · rw [upd_ne hb, upd_ne hb]
        by_cases hba : b = a
        · rw [hba, del_same, ha]
        · rw [del_ne hba, upd_ne hba, upd_ne hb, upd_ne hba]
    rw [eq]
    exact q dx _ n1 (Kp.new n1) upd_same
/-- raise X(e) -/
def tRaise1 (C : Addr) (fld : Str) (W : WX) (ta : TA) : TS := fun _ σ H => ta σ H (kMkO C fld fun cls d H' => W cls d σ H')
section
variable {X : Cx} {x fld : Str} {C : Addr} {k : Nat} {e : Expr} {ta : TA} {p pos pos2 : Pos} {W : WX}
theorem ps_raise1 (T : Exc1 X.prog X.w X.K X.mg X.base k x fld C) (hr : Room (k + 1) X.A) (hc : X.calm = true) (tk : Takes X W) (hg : Gl X x) (ha : PA X [e] ta) (hdb : (x == ("__debug__" : Str)) = false := by decide)
    (hst : starEach (e :: []) X.env = (false, eval e X.env) :: starEach [] X.env := by rfl) (hpl : (backTo pos (starEach [] X.env)).any (·.1) = false := by rfl) :
    PS X (.Raise (some (.Call (.Name x p) [e] [] pos)) none pos2) (tRaise1 C fld W ta) := by
  obtain ⟨fI, fd, ps, iC, tI, F1, hb⟩ := T.made
  exact ps_raise hc tk (pmk_oex (dvs := []) T.oex iC tI F1 hr hb .nil pass0 hg T.gC ha hdb hst hpl)
end
theorem r_raise1 {C : Addr} {fld : Str} {W : WX} {ta : TA} {D : Ends} {σ : St} {H : Hp} (q : ta σ H (kMkO C fld fun cls d H' => W cls d σ H')) : tRaise1 C fld W ta D σ H := q

/-! ### an object made where an exception of its __init__ is wished for -/
def kMakeS (C : Addr) (sp : Sp) (E : XK) (Q : VK) : List V → Hp → Prop := fun vs H1 => ∀ x dx, H1 x = none → H1 dx = none → dx ≠ x → sp (.ref x :: vs) (upd (upd H1 dx (.own x)) x (.ins C dx [])) (kMade x Q) E
def tMakeS (C : Addr) (sp : Sp) (E : St → XK) (t : TA) : TE := fun σ H Q => t σ H (kMakeS C sp (E σ) Q)
theorem r_makeS {C : Addr} {sp : Sp} {E : St → XK} {t : TA} {σ : St} {H : Hp} {Q : VK} (q : t σ H (kMakeS C sp (E σ) Q)) : tMakeS C sp E t σ H Q := q
theorem r_kMakeS {C : Addr} {sp : Sp} {E : XK} {H : Hp} {Q : VK} {vs : List V} (q : ∀ a dx H', H a = none → Kp [] H H' → H' a = some (.ins C dx []) → sp (.ref a :: vs) H' (kMade a Q) E) : kMakeS C sp E Q vs H := fun a dx n n' d =>
  q a dx _ n ((Kp.new n').trans (Kp.new (by rw [upd_ne d.symm]; exact n))) upd_same
section
variable {X : Cx} {CX : CXT} {k : Nat} {f C : Addr} {sp : Sp} {E : St → XK} {x : Str} {e : Expr} {es : List Expr} {t : TA} {p pos : Pos}
theorem pe_makeS (mk : Mk X.K C f) (F : FnR X.prog X.w X.K X.mg X.base CX k f sp) (hr : Room (k + 1) X.A) (hg : Gl X x) (hm : X.mg x = some (.ref C)) (hx : ∀ σ, PassesAt CX X σ (E σ)) (ha : PA X (e :: es) t) (hdb : (x == ("__debug__" : Str)) = false := by decide)
    (hst : starEach (e :: es) X.env = (false, eval e X.env) :: starEach es X.env := by rfl) (hpl : (backTo pos (starEach es X.env)).any (·.1) = false := by rfl) : PE X (.Call (.Name x p) (e :: es) [] pos) (tMakeS C sp E t) := by
  constructor
  intro pins s σ H Q I h
  refine wpAny_Call_Name_kw (ld_glob I hg hm (PySem.W.callWith_K (h₀ := X.base) I.ok.mod.kin mk.kp (thn (ha.run pos pins s σ H _ I h) fun us s1 ⟨vs, H1, I1, r, q⟩ => ⟨I1.kIn, ?_⟩) hst hpl) hdb)
  have old : H1 (s1.heap.objs.size + 1) = none ∧ H1 s1.heap.objs.size = none := ⟨I1.hok.fresh (Nat.le_succ _), I1.hok.fresh (Nat.le_refl _)⟩
  have J := Inv.made (C := C) I1
  have r2 : Vals (V.ref (s1.heap.objs.size + 1) :: vs) (Value.ref (s1.heap.objs.size + 1) :: us) := .cons rfl r
  have go := F _ X.stack _ _ (Value.ref (s1.heap.objs.size + 1) :: us) _ _ (E σ) (hr.make C us []) (J.env0.make C us []) r2 (q _ _ old.1 old.2 (Nat.ne_of_lt (Nat.lt_succ_self _)))
  refine wpAny_call (make_map (f := f) I1.kIn mk.makes mk.init (beq_iff_eq.mp mk.fn) (codeAny_mono go fun z s' hz => ?_))
  match z, hz with
  | .error u, hz => exact hx σ pins _ _ u s' J hz
  | .ok (.ret u), hz =>
    obtain ⟨v, H', I3, rv, ev, q3⟩ := J.after hz
    subst ev
    exact ⟨rv, V.ref (s1.heap.objs.size + 1), H', I3, rfl, q3⟩
  | .ok .next, hz => exact hz.elim
  | .ok .brk, hz => exact hz.elim
  | .ok .cont, hz => exact hz.elim
end

/-! ### isinstance(e, c), e.f of the exception that a suite holds, which has a dict -/
def rIsX (K : PySem.W.Frag) (C a : Addr) (cls : Value) (d : Option Addr) : R1 := fun xs H Q => cls = .ref C ∧ ∃ (dd : Addr) (fs : List (Str × V)) (c : V) (cv : Value) (b : Bool), d = some dd ∧ H dd = some (.xd fs) ∧ xs = [.ref a, c] ∧ ClsV c cv ∧ PySem.W.kitOne K (.ref C) cv = some b ∧ Q (.bl b) H
theorem call_isX {X : Cx} {a C : Addr} {oe : Obj} {cls : Value} {d : Option Addr} {pn : List (Addr × Obj)} (T : ExcC X.K C) (hz : Zc cls d oe) (hf : ∃ vs, oe.data = .fields vs) : CallR (X.suite a ((a, oe) :: pn)) (.builtin "isinstance") (rIsX X.K C a cls d) := by
  rintro pins s σ H xs us Q I r ⟨rfl, dd, fs, c, cv, b, rfl, ed, rfl, k, e, q⟩
  obtain ⟨u1, u2, rfl, r1, r2⟩ := vals2 r
  cases (show u1 = Value.ref a from r1)
  have e2 := k.eq r2
  subst e2
  obtain ⟨hget, _⟩ := I.pin (a, oe) (List.mem_append_left _ List.mem_cons_self)
  obtain ⟨vs, hv⟩ := hf
  have hx : ObjOk X.prog X.w H s.heap dd (.xd fs) := I.hok dd _ ed
  obtain ⟨mA, hns, _⟩ := hx
  obtain ⟨od, ho, _⟩ := lookIn_ns hns
  have J : PySem.W.InstAt s.heap a oe C (some od) := ⟨hget, hz.1, by unfold PySem.W.notCls; rw [hv] <;> rfl, by rw [hz.2]; exact ho⟩
  obtain ⟨cd, hc, _⟩ := PySem.W.any_some T.hd
  exact PySem.W.kia_one (PySem.W.kitx_exc (by rw [hc]; rfl) T.hg T.hk T.hs T.ha T.hn T.ht T.hm) I.kIn J e (fun z => nomatch z) fun tk => ⟨.bl b, H, I.kept (t' := tk) fun _ _ z => z, rfl, q⟩
theorem r_isX {K : PySem.W.Frag} {C a dd : Addr} {fs : List (Str × V)} {H : Hp} {Q : VK} {c : V} {cv : Value} {b : Bool} (ed : H dd = some (.xd fs)) (k : ClsV c cv) (e : PySem.W.kitOne K (.ref C) cv = some b) (q : Q (.bl b) H) : rIsX K C a (.ref C) (some dd) [.ref a, c] H Q :=
  ⟨rfl, dd, fs, c, cv, b, rfl, ed, rfl, k, e, q⟩
def kXf (a : Addr) (cls : Value) (d : Option Addr) (C : Addr) (f : Str) (Q : VK) : VK := fun x H1 => x = .ref a ∧ cls = .ref C ∧ ∃ (dd : Addr) (fs : List (Str × V)) (v : V), d = some dd ∧ H1 dd = some (.xd fs) ∧ fs.lookup f = some v ∧ Q v H1
theorem r_xf {a C : Addr} {cls : Value} {d : Option Addr} {f : Str} {te : TE} {σ : St} {H : Hp} {Q : VK} (q : te σ H (kXf a cls d C f Q)) : tXf a cls d C f te σ H Q := q
theorem r_kXf {a C dd : Addr} {f : Str} {H : Hp} {Q : VK} {fs : List (Str × V)} {v : V} (ed : H dd = some (.xd fs)) (l : fs.lookup f = some v) (q : Q v H) : kXf a (.ref C) (some dd) C f Q (.ref a) H := ⟨rfl, rfl, dd, fs, v, rfl, ed, l, q⟩
def UseCX (P : Program) (w : World) (K : PySem.W.Frag) (mg : Str → Option Value) (base : Heap) (n : Nat) (x : Str) (C : Addr) (sp : Sp) : Prop := ∃ f, FnR P w K mg base (L2.CX P w) n f sp ∧ Mk K C f ∧ mg x = some (.ref C)
theorem fnrX {P : Program} {w : World} {K : PySem.W.Frag} {mg : Str → Option Value} {base : Heap} {n : Nat} {f : Addr} {fd : FuncData} {ps : List Str} {sp : Sp} (F : FnOk P w K mg base (L2.CX P w) n f fd ps sp) (b : Binds K fd ps []) : FnR P w K mg base (L2.CX P w) n f sp :=
  (F.raw b .nil).imp fun vs H Q E h => by
    rw [List.append_nil]
    exact h
end Rd

set_option maxHeartbeats 4000000
/-! EnT: enumerate(tuple); for over enumerate of a list or a tuple. -/
namespace PySem
theorem enum_new1 {v : Value} {o : Obj} {Hh : Heap → Prop} (B : Begins v o Hh) : Meets (Builtin.«enumerate.__new__» ⟨[.type "enumerate", v], []⟩) (fun _ R s => Hh s.heap ∧
    R (.ok (.ret (.ref (s.heap.push o).objs.size))) { s with heap := (s.heap.push o).push { cls := .type "enumerate", data := .fields #[.none, .bool false, .ref s.heap.objs.size, rawInt 0, .none, .none] } }) :=
  .of_wp fun prog w A R s hB => by
    obtain ⟨hp, g, d, tk, os⟩ := s
    obtain ⟨h1, hB⟩ := hB
    have esub := sub_enumerate
    have start : ∀ {A' : Around} {E : Value → Shared → Prop} {Q : Value → Shared → Prop}, Q (.ref hp.objs.size) ⟨hp.push o, g, d, tk, os⟩ → wpAny (model prog w) A' (pyIter v) Q E ⟨hp, g, d, tk, os⟩ := fun z => B.iter prog w _ _ ⟨hp, g, d, tk, os⟩ _ h1 z
    wp_walk using start
    refine wpAny_stack_any fun st => wpAny_pure ?_
    split
    · rename_i c _ _ _ _ _
      cases (c == Value.type "enumerate") <;> (wp_walk using start; exact ⟨_, rfl, hB⟩)
    · wp_walk using start
      exact ⟨_, rfl, hB⟩
section
variable {prog : Program} {w : World} {A : Around} {E : Value → Shared → Prop} {s : Shared}
theorem enum_starts {v : Value} {o : Obj} {Hh : Heap → Prop} {Q : Value → Shared → Prop} (B : Begins v o Hh) (h1 : Hh s.heap)
    (q : ∀ h', IsEnum h' (s.heap.objs.size + 1) s.heap.objs.size 0 .none → h'.get? s.heap.objs.size = some o → (∀ b u, s.heap.get? b = some u → h'.get? b = some u) → Q (.ref (s.heap.objs.size + 1)) { s with heap := h' }) :
    wpAny (model prog w) A (call (.type "enumerate") [v]) Q E s := by
  refine callType_new F.called_enumerate (by decide) (F.typeCall_enumerate_1 _) (F.newCall_enumerate_1 _) (fun obj => F.args_object_init_2 obj _) F.entry_enumerate_new (enum_new1 B) ⟨h1, ?_⟩
  have hz : (s.heap.push o).objs.size = s.heap.objs.size + 1 := Heap.size_push _ _
  have he := Heap.get?_push_size (s.heap.push o) (o := { cls := .type "enumerate", data := .fields #[.none, .bool false, .ref s.heap.objs.size, rawInt 0, .none, .none] }) rfl
  show _ ∧ _
  rw [hz] at he ⊢
  exact ⟨⟨_, he, rfl⟩, q _ he (Heap.get?_push_of_some _ (Heap.get?_push_size _ B.free)) fun b u x => Heap.get?_push_of_some _ (Heap.get?_push_of_some _ x)⟩
end
end PySem
namespace Rd
open PySem PySem.Spec PyProof.Rows L2
/-- the tuple at a, each item in a new pair with its place -/
def Iet (K : PySem.W.Frag) (a : Addr) : It :=
  ⟨fun i H => ∃ (xs : List V) (x : V), SqT K H a xs ∧ xs[i]? = some x, fun i H v H' => ∃ T x, v = .ref T ∧ H T = none ∧ H' = upd H T (.tup [.int (i : Nat), x]) ∧ ∀ xs, SqT K H a xs → xs[i]? = some x, fun i H => ∃ xs : List V, SqT K H a xs ∧ xs.length ≤ i⟩
theorem turn_et {P : Program} {w : World} {K : PySem.W.Frag} {elts : List Expr} {kk : Nat} {tpos : Pos} (a e it : Addr) (ha : a ≠ it) (hae : e ≠ a) :
    Turn P w K (.Tuple elts kk tpos) (Iet K a) [e, it] e (fun i h => (∃ old, IsEnum h e it ((i : Nat) : Int) old) ∧ h.IsTupleIter it a i ∧ e ≠ it) := by
  have two : ∀ {b : Addr}, b ∈ [e, it] → b = e ∨ b = it := fun {b} hb => by simpa using hb
  refine ⟨by simp, fun i h st b hb => ?_, fun i h h' st k => ?_, ?_, ?_, fun A i s Q E st q => ?_⟩
  · obtain ⟨⟨old, he⟩, ⟨o, ho, hc, hd⟩, _⟩ := st
    rcases two hb with rfl | rfl
    · exact ⟨_, he, fun v z => nomatch z⟩
    · exact ⟨o, ho, fun v z => by rw [hd] at z; cases z⟩
  · obtain ⟨⟨old, he⟩, hi, hne⟩ := st
    exact ⟨⟨old, k e (by simp) _ he⟩, hi.at fun o z => k it (by simp) o z, hne⟩
  · intro X hP hw hK hc i pins s σ H E I hf st hg
    subst hP hw hK
    obtain ⟨⟨old, he⟩, hit, hne⟩ := st
    obtain ⟨xs, x, hq, hx⟩ := hg
    obtain ⟨its, rv, p, _⟩ := I.tuple hq
    obtain ⟨u, hu, ru⟩ := rv.get hx
    have big : e < s.heap.objs.size ∧ it < s.heap.objs.size := ⟨Heap.lt_size he, by obtain ⟨_, z, _⟩ := hit; exact Heap.lt_size z⟩
    have hi : i < its.toArray.size := by
      have := (List.getElem?_eq_some_iff.mp hu).1
      simpa using this
    refine wpAny_pyNext_enum_itemC (Draws.tuple (A := X.A.in1) (I.ok.hd hc) it a ha its.toArray) he ⟨hit, p⟩ hi hne (by simp [hne, hae]) fun y h1 tk hy ho hst hT hsz hk => ?_
    have ey : y = u := by
      have hy : its.toArray[i]? = some y := hy
      rw [List.getElem?_toArray, hu] at hy
      exact (Option.some.inj hy).symm
    subst ey
    refine ⟨_, rfl, wpAny_letOwnedTupleGo_enum (s := { s with heap := h1, toks := tk + 1 }) ho fun h2 he2 sb => ?_⟩
    have hT2 := (sb.2 _ (Nat.ne_of_gt big.1)).trans hT
    have new : ObjOk X.prog X.w (upd H s.heap.objs.size (.tup [.int (i : Nat), x])) h2 s.heap.objs.size (.tup [.int (i : Nat), x]) := ⟨by show 2 ≤ sizeLine; decide, [.int i tk, y], .cons ⟨_, rfl⟩ (.cons ru .nil), ⟨_, hT2, rfl, _, rfl⟩⟩
    have I1 : Inv X pins σ (upd H s.heap.objs.size (.tup [.int (i : Nat), x])) { s with heap := h2, toks := tk + 1 } :=
      I.turnedNew (ch := [e, it]) (fun b ob hb z => (sb.2 b (fun w => hb (by simp [w]))).trans (hk b ob (fun w => hb (by simp [w])) (fun w => hb (by simp [w])) z)) hf (Nat.le_refl _) new
    refine ⟨.ref s.heap.objs.size, _, I1, rfl, ⟨_, x, rfl, I.hok.fresh (Nat.le_refl _), rfl, fun ys hy => ?_⟩, ⟨⟨y, ?_⟩, hst.1.at fun o z => (sb.2 it (Ne.symm hne)).trans z, hne⟩, fun b hb => ?_⟩
    · rw [I.tuple_inj hy hq]
      exact hx
    · have e1 : ((i + 1 : Nat) : Int) = (i : Int) + 1 := by omega
      rw [e1]
      exact he2
    · have hb' : b < s.heap.objs.size := (two hb).elim (fun z => z ▸ big.1) fun z => z ▸ big.2
      rw [upd_ne (Nat.ne_of_lt hb')]
      exact (hf b hb).1
  · intro X hP hw hK hc i pins s σ H E I hf st hg
    subst hP hw hK
    obtain ⟨⟨old, he⟩, hit, hne⟩ := st
    obtain ⟨xs, hq, hx⟩ := hg
    obtain ⟨its, rv, p, _⟩ := I.tuple hq
    have hl := rv.length
    have D : Draws X.prog X.w X.A.in1 it [it, a] i (fun _ _ => True) (fun j h => j = i ∧ h.IsTupleIter it a i ∧ h.IsTuple a its.toArray) :=
      ⟨fun _ _ st => let ⟨o, ho, _⟩ := st.2.1; ⟨o, ho⟩, fun _ _ _ st hk => ⟨st.1, st.2.1.at fun o z => hk it (by simp) o z, st.2.2.at fun o z => hk a (by simp) o z⟩, fun j _ _ _ hj st _ => absurd st.1 (Nat.ne_of_lt hj),
        fun s Q E st hE => wpAny_nextOf_tuple_end (A := X.A.in1) (I.ok.hd hc) st.2.1 st.2.2 (by simp; omega) hE⟩
    obtain ⟨f0, f1, f2, f3, f4, f5⟩ := hf it (by simp)
    exact wpAny_pyNext_enum_endD D he ⟨rfl, hit, p⟩ fun h' eb => ⟨rfl, I.turned (t' := s.toks) (fun b o hb z => eb b o hb z) f0 f1 f3 f4 f5⟩
  · obtain ⟨⟨_, he⟩, _⟩ := st
    exact wpAny_pyIter_enum he q
def iEnumQ (K : PySem.W.Frag) (ta : TA) : TI := fun σ H R => ta σ H fun vs H1 => ∃ a, vs = [.ref a] ∧ (((∃ xs, SqL K H1 a xs) ∧ R (Ite K a) H1) ∨ ((∃ xs, SqT K H1 a xs) ∧ R (Iet K a) H1))
theorem K_enumQ {X : Cx} {K : PySem.W.Frag} (hK : X.K = K) {e : Expr} {ta : TA} {p pos tpos : Pos} {elts : List Expr} {kk : Nat} (hg : Gl X "enumerate") (hm : X.mg "enumerate" = none) (ha : PA X [e] ta) (hs : starEach [e] X.env = [(false, eval e X.env)] := by rfl) :
    PI X (.Tuple elts kk tpos) (.Call (.Name "enumerate" p) [e] [] pos) (iEnumQ K ta) := by
  subst hK
  constructor
  intro pins s σ H R I h
  refine Call_ (ld_blt I hg hm boot_enumerate (PyProof.Rows.callWith_type1 (thn (ha.run pos pins s σ H _ I h) fun us s1 ⟨vs, H1, I1, r1, q1⟩ => ?_) hs rfl))
  obtain ⟨a, rfl, q1⟩ := q1
  obtain ⟨u, rfl, ru⟩ := r1.one
  cases (show u = Value.ref a from ru)
  have fresh : ∀ b ∈ [s1.heap.objs.size + 1, s1.heap.objs.size], FpOk X pins H1 b := fun b m => by
    have le : s1.heap.objs.size ≤ b := by
      rcases List.mem_cons.mp m with z | z
      · omega
      · rw [List.mem_singleton.mp z]
        exact Nat.le_refl _
    exact I1.fpOk le (I1.hok.fresh le)
  rcases q1 with ⟨⟨xs, hq⟩, q⟩ | ⟨⟨xs, hq⟩, q⟩
  · obtain ⟨its, rv, pl, _⟩ := I1.list hq
    exact call_enumerate_list pl.isList fun h' he hit _ hk => wpAny_pyIter_enum he ⟨_, _, _, _, H1, rfl, I1.kept (t' := s1.toks) hk, turn_enum a _ _, ⟨⟨.none, he⟩, hit, Nat.succ_ne_self _⟩, fresh, q⟩
  · obtain ⟨its, rv, pl, _⟩ := I1.tuple hq
    have la : a < s1.heap.objs.size := by
      obtain ⟨o, ho, _⟩ := pl
      exact Heap.lt_size ho
    exact enum_starts (begins_tuple a its.toArray) pl fun h' he ho hk => wpAny_pyIter_enum he ⟨_, _, _, _, H1, rfl, I1.kept (t' := s1.toks) hk, turn_et a _ _ (Nat.ne_of_lt la) (Nat.ne_of_gt (Nat.lt_succ_of_lt la)), ⟨⟨.none, he⟩, ⟨_, ho, rfl, rfl⟩, Nat.succ_ne_self _⟩, fresh, q⟩
def cEnumQ (K : PySem.W.Frag) (R : It → Hp → Prop) : List V → Hp → Prop := fun vs H1 => ∃ a, vs = [.ref a] ∧ (((∃ xs, SqL K H1 a xs) ∧ R (Ite K a) H1) ∨ ((∃ xs, SqT K H1 a xs) ∧ R (Iet K a) H1))
section
variable {σ : L2.St} {H : Hp} {K : PySem.W.Frag} {tr : TA} {R : It → Hp → Prop} {xs : List V} {p a : Addr} {g : TG} {tb : TS} {nx bk ct : L2.St → Hp → Prop} {rt : VK}
theorem r_enumQ (q : tr σ H (cEnumQ K R)) : iEnumQ K tr σ H R := q
theorem walk_et : Walk (Iet K a) xs.length (fun H => SqT K H a xs) (YPair (fun i => some (.int (i : Nat))) (fun i => xs[i]?)) := by
  refine ⟨fun i _ hi q => ⟨xs, xs[i], q, List.getElem?_eq_getElem hi⟩, fun _ q => ⟨xs, q, Nat.le_refl _⟩, fun i H v H' _ q ⟨T, x, h1, h2, h3, h4⟩ => ⟨T, .int (i : Nat), x, h1, h2, h3, rfl, h4 xs q⟩⟩
theorem r_kForE (Pv : Nat → L2.St → Hp → Prop) (hq : Sq K H p xs) (h0 : Pv 0 σ H) (hl : ∀ i σ H', i ≤ xs.length → Pv i σ H' → ∃ ex, p ∉ ex ∧ Kp ex H H')
    (hs : ∀ (i : Nat) x t σ H H', xs[i]? = some x → Pv i σ H → H t = none → Kp [] H H' → H' t = some (.tup [.int (i : Int), x]) → g (.ref t) σ H' fun σ2 H2 => tb ⟨Pv (i + 1), rt, nx, Pv (i + 1)⟩ σ2 H2) (hd : ∀ σ H, Pv xs.length σ H → nx σ H) :
    cEnumQ K (kFor g tb ⟨nx, rt, bk, ct⟩ σ) [.ref p] H := by
  have step : ∀ (i : Nat) x σ H H', i < xs.length → Pv i σ H → YPair (fun i => some (.int (i : Nat))) (fun i => xs[i]?) i H x H' → g x σ H' fun σ2 H2 => tb ⟨Pv (i + 1), rt, nx, Pv (i + 1)⟩ σ2 H2 := by
    rintro i x σ H H' hi hp ⟨t, u, v, rfl, nt, rfl, hu, hx⟩
    cases hu
    exact hs i v t σ H _ hx hp nt (Kp.new nt) upd_same
  rcases hq with h | h
  · exact ⟨p, rfl, .inl ⟨⟨xs, h⟩, r_kFor walk_enum Pv h0 (fun i σ H' hi q => let ⟨_, m, k⟩ := hl i σ H' hi q; sql_kp h k m) step hd⟩⟩
  · exact ⟨p, rfl, .inr ⟨⟨xs, h⟩, r_kFor walk_et Pv h0 (fun i σ H' hi q => let ⟨_, m, k⟩ := hl i σ H' hi q; sqt_kp h k m) step hd⟩⟩
end
end Rd

set_option maxHeartbeats 4000000
/-! New: data laid since a heap. -/
namespace Rd
open PySem PySem.Spec L2
/-- what is allocated -/
def Has (H : Hp) (b : Addr) : Prop := ∃ o, H b = some o
/-- x is the data d in H', laid since H (scalars, or new objects only) -/
def New (H H' : Hp) (x : V) (d : PyData) : Prop := ∀ ex, (∀ b ∈ ex, Has H b) → Dt ex H' x d
def NewAll (H H' : Hp) (xs : List V) (ds : List PyData) : Prop := ∀ ex, (∀ b ∈ ex, Has H b) → DtAll ex H' xs ds
theorem Has.kp {H H' : Hp} {b : Addr} (h : Has H b) (k : Kp [] H H') : Has H' b := let ⟨o, e⟩ := h; ⟨o, k _ _ e not_nil⟩
theorem New.mono {H H' H'' : Hp} {x : V} {d : PyData} (h : New H H' x d) (k : Kp [] H' H'') : New H H'' x d := fun ex e => (h ex e).mono k.nil
theorem NewAll.mono {H H' H'' : Hp} {x : List V} {d : List PyData} (h : NewAll H H' x d) (k : Kp [] H' H'') : NewAll H H'' x d := fun ex e => (h ex e).mono k.nil
theorem New.mono1 {H H' H'' : Hp} {x : V} {d : PyData} {p : Addr} (h : New H H' x d) (hp : Has H p) (k : Kp [p] H' H'') : New H H'' x d := fun ex e =>
  ((h (p :: ex) fun b m => (List.mem_cons.mp m).elim (fun z => z ▸ hp) (e b)).mono (k.mono fun b m => List.mem_cons.mpr (.inl (List.mem_singleton.mp m)))).less fun _ m => List.mem_cons_of_mem _ m
theorem NewAll.mono1 {H H' H'' : Hp} {x : List V} {d : List PyData} {p : Addr} (h : NewAll H H' x d) (hp : Has H p) (k : Kp [p] H' H'') : NewAll H H'' x d := fun ex e =>
  ((h (p :: ex) fun b m => (List.mem_cons.mp m).elim (fun z => z ▸ hp) (e b)).mono (k.mono fun b m => List.mem_cons.mpr (.inl (List.mem_singleton.mp m)))).less fun _ m => List.mem_cons_of_mem _ m
theorem New.back {H H1 H' : Hp} {x : V} {d : PyData} (h : New H1 H' x d) (a : ∀ b, Has H b → Has H1 b) : New H H' x d := fun ex e => h ex fun b m => a b (e b m)
theorem NewAll.back {H H1 H' : Hp} {x : List V} {d : List PyData} (h : NewAll H1 H' x d) (a : ∀ b, Has H b → Has H1 b) : NewAll H H' x d := fun ex e => h ex fun b m => a b (e b m)
theorem New.dt {H H' : Hp} {x : V} {d : PyData} (h : New H H' x d) : Dt [] H' x d := h [] fun _ m => nomatch m
theorem NewAll.dt {H H' : Hp} {x : List V} {d : List PyData} (h : NewAll H H' x d) : DtAll [] H' x d := h [] fun _ m => nomatch m
theorem DtAll.mem {ex : List Addr} {H : Hp} : ∀ {vs : List V} {ds : List PyData} {i : Nat} {v : V}, DtAll ex H vs ds → vs[i]? = some v → ∃ d, ds[i]? = some d := fun h e => let ⟨d, hd, _⟩ := h.at e; ⟨d, hd⟩
theorem NewAll.mem {H H' : Hp} {xs : List V} {ds : List PyData} {v : V} (h : NewAll H H' xs ds) (m : v ∈ xs) : ∃ d ∈ ds, New H H' v d := by
  obtain ⟨i, e⟩ := List.mem_iff_getElem?.mp m
  obtain ⟨d, hd, _⟩ := h.dt.at e
  refine ⟨d, List.mem_of_getElem? hd, fun ex he => ?_⟩
  obtain ⟨d', hd', q⟩ := (h ex he).at e
  rw [hd] at hd'
  cases hd'
  exact q
theorem NewAll.cons {H H' : Hp} {v : V} {vs : List V} {d : PyData} {ds : List PyData} (h : New H H' v d) (t : NewAll H H' vs ds) : NewAll H H' (v :: vs) (d :: ds) := fun ex e => .cons (h ex e) (t ex e)
theorem New.tup {H H1 H' : Hp} {p : Addr} {xs : List V} {ds : List PyData} (h : NewAll H H' xs ds) (n : H1 p = none) (a : ∀ b, Has H b → Has H1 b) (e : H' p = some (.tup xs)) : New H H' (.ref p) (.tuple ds) := fun ex he =>
  .tup (fun m => by
    obtain ⟨o, ho⟩ := a p (he p m)
    rw [n] at ho
    cases ho) e (h ex he)
theorem New.lst {H H1 H' : Hp} {p : Addr} {xs : List V} {ds : List PyData} (h : NewAll H H' xs ds) (n : H1 p = none) (a : ∀ b, Has H b → Has H1 b) (e : H' p = some (.lst xs)) : New H H' (.ref p) (.list ds) := fun ex he =>
  .lst (fun m => by
    obtain ⟨o, ho⟩ := a p (he p m)
    rw [n] at ho
    cases ho) e (h ex he)
/-! displays of new data -/
def EN (te : TE) (σ : St) (H : Hp) (d : PyData) : Prop := ∀ Q : VK, (∀ x H', Kp [] H H' → New H H' x d → Q x H') → te σ H Q
def AN (tr : TA) (σ : St) (H : Hp) (ds : List PyData) : Prop := ∀ QA : List V → Hp → Prop, (∀ xs H', Kp [] H H' → NewAll H H' xs ds → QA xs H') → tr σ H QA
section
variable {σ : St} {H : Hp} {Q : VK} {QA : List V → Hp → Prop} {d : PyData} {ds : List PyData} {te : TE} {tr : TA} {v : V} {i : Nat}
theorem r_EN (h : EN te σ H d) (q : ∀ x H', Kp [] H H' → New H H' x d → Q x H') : te σ H Q := h Q q
theorem r_AN (h : AN tr σ H ds) (q : ∀ xs H', Kp [] H H' → NewAll H H' xs ds → QA xs H') : tr σ H QA := h QA q
theorem EN_c (h : ∀ ex, Dt ex H v d) : EN (tC v) σ H d := fun _ q => q v H (Kp.refl _ _) fun ex _ => h ex
theorem EN_var (e : σ[i]? = some (some v)) (h : ∀ ex, Dt ex H v d) : EN (tVar i) σ H d := fun _ q => ⟨v, e, q v H (Kp.refl _ _) fun ex _ => h ex⟩
theorem AN_nil : AN tNil σ H [] := fun _ q => q [] H (Kp.refl _ _) fun _ _ => .nil
theorem AN_cons (h : EN te σ H d) (hr : ∀ H1, Kp [] H H1 → AN tr σ H1 ds) : AN (tCons te tr) σ H (d :: ds) := fun _ q =>
  h _ fun x H1 k1 h1 => hr H1 k1 _ fun xs H2 k2 h2 => q (x :: xs) H2 (k1.trans k2) (.cons (h1.mono k2) (h2.back fun _ a => a.kp k1))
theorem EN_tup (h : AN tr σ H ds) (hl : ds.length ≤ sizeLine) : EN (tTup tr) σ H (.tuple ds) := fun _ q =>
  h _ fun xs H1 k1 h1 => ⟨h1.dt.length ▸ hl, fun p n => q (.ref p) _ (k1.trans (Kp.new n)) (New.tup (h1.mono (Kp.new n)) n (fun _ a => a.kp k1) upd_same)⟩
theorem EN_lst (h : AN tr σ H ds) (hl : ds.length ≤ sizeLine) : EN (tLst tr) σ H (.list ds) := fun _ q =>
  h _ fun xs H1 k1 h1 => ⟨h1.dt.length ▸ hl, fun p n => q (.ref p) _ (k1.trans (Kp.new n)) (New.lst (h1.mono (Kp.new n)) n (fun _ a => a.kp k1) upd_same)⟩
end
/-! is None -/
def rIsNo : R2 := fun x y H Q => y = .non ∧ Q (.bl (decide (x = .non))) H
def rNotNo : R2 := fun x y H Q => y = .non ∧ Q (.bl (!decide (x = .non))) H
theorem op_isNo {X : Cx} : OpR X (compareOp .Is) rIsNo := op_isN
theorem op_notNo {X : Cx} : OpR X (compareOp .IsNot) rNotNo := op_notN
theorem r_isNo {x : V} {H : Hp} {Q : VK} (q : Q (.bl (decide (x = .non))) H) : rIsNo x .non H Q := ⟨rfl, q⟩
theorem r_notNo {x : V} {H : Hp} {Q : VK} (q : Q (.bl (!decide (x = .non))) H) : rNotNo x .non H Q := ⟨rfl, q⟩
end Rd

namespace My
open PySem L2 Rd StX
def top (i : Nat) : Stmt := PySem.Challenge.pw_silentswaps_k02_kinds_refused.main.body.getD i (.Pass ⟨0, 0, 0, 0⟩)
local macro_rules | `(tactic| walk_at "s") => `(tactic| (first
  | (with_reducible refine r_seq ?_)
  | (with_reducible refine r_asg ?_)
  | ((with_reducible refine' r_var (v := ?v) ?hv ?_); (case hv => exact rfl))
  | (with_reducible refine r_c ?_)
  | (with_reducible refine r_name ?_)
  | (with_reducible refine r_op ?_)
  | (with_reducible refine r_un ?_)
  | (with_reducible refine r_consA ?_)
  | (with_reducible refine r_nilA ?_)
  | (with_reducible refine r_I0 ?_)
  | (with_reducible refine r_U ?_)
  | (with_reducible refine r_eqI ?_)
  | (with_reducible refine r_neI ?_)
  | (with_reducible refine r_test ?_)
  | (with_reducible refine r_tB ?_)
  | (with_reducible refine r_kB ?_)
  | (with_reducible refine r_ifS ?_)
  | (with_reducible refine r_if ?_)
  | (with_reducible refine r_and ?_)
  | (with_reducible refine r_or ?_)
  | (with_reducible refine r_not ?_)
  | (with_reducible refine r_ret ?_)
  | (with_reducible refine r_retN ?_)
  | (with_reducible refine r_next ?_)
  | (with_reducible refine r_drop ?_)
  | (with_reducible refine r_brk ?_)
  | (with_reducible refine r_cont ?_)
  | (with_reducible refine r_andV ?_)
  | (with_reducible refine r_orV ?_)
  | (with_reducible refine r_notV ?_)
  | (with_reducible refine r_kNotV ?_)
  | (with_reducible refine r_lst ?_)
  | (with_reducible refine r_tup ?_)
  | (with_reducible refine r_dget ?_)
  | (with_reducible refine r_dput ?_)
  | (with_reducible refine r_use ?_)
  | (with_reducible refine r_cb ?_)
  | (with_reducible refine r_par ?_)
  | (with_reducible refine r_int ?_)
  | (with_reducible refine r_abs ?_)
  | (with_reducible refine r_max2 ?_)
  | (with_reducible refine r_min2 ?_)
  | (with_reducible refine r_pnil ?_)
  | (with_reducible refine r_pcons ?_)
  | (with_reducible refine r_eqS ?_)
  | (with_reducible refine r_neS ?_)
  | (with_reducible refine r_for ?_)
  | (with_reducible refine r_rng1 ?_)
  | (with_reducible refine r_rng2 ?_)
  | (with_reducible refine r_wl ?_)
  | (with_reducible refine r_wt ?_)
  | (with_reducible refine r_wq ?_)
  | (with_reducible refine r_ws ?_)
  | (with_reducible refine r_cWS ?_)
  | (with_reducible refine r_enum ?_)
  | (with_reducible refine r_zip ?_)
  | (with_reducible refine r_lc ?_)
  | (with_reducible refine r_dc ?_)
  | ((with_reducible refine r_kTurn ?ht ?_); (case ht => rfl))
  | ((with_reducible refine r_kTurnD ?ht ?_); (case ht => rfl))
  | (with_reducible refine r_yes ?_)
  | ((with_reducible refine r_kKeep1 ?hk ?_); (case hk => rfl))
  | ((with_reducible refine r_kKeepD1 ?hk ?_); (case hk => rfl))
  | (with_reducible refine r_gcons ?_)
  | (with_reducible refine r_gnil ?_)
  | (with_reducible refine r_bm ?_)
  | (with_reducible refine r_bm0 ?_)
  | (with_reducible refine r_fld ?_)
  | (with_reducible refine r_sfld ?_)
  | (with_reducible refine r_methR ?_)
  | (with_reducible refine r_makeR ?_)
  | (with_reducible refine r_chain ?_)))
local macro_rules | `(tactic| walk_at "S") => `(tactic| repeat walk_at "s")
local macro_rules | `(tactic| walk_at "D") => `(tactic| repeat' (first
  | exact AD_nil
  | refine AD_cons ?_ (fun _ _ => ?_)
  | refine ED_tup ?_ (Nat.le_trans (m := 100) (Nat.le_of_ble_eq_true rfl) (by decide))
  | refine ED_lst ?_ (Nat.le_trans (m := 100) (Nat.le_of_ble_eq_true rfl) (by decide))
  | exact ED_c (by constructor)
  | exact ED_var rfl (by constructor)))
local macro_rules | `(tactic| walk_at "N") => `(tactic| repeat' (first
  | exact AN_nil
  | refine AN_cons ?_ (fun _ _ => ?_)
  | refine EN_tup ?_ (Nat.le_trans (m := 100) (Nat.le_of_ble_eq_true rfl) (by decide))
  | refine EN_lst ?_ (Nat.le_trans (m := 100) (Nat.le_of_ble_eq_true rfl) (by decide))
  | exact EN_c (fun _ => by constructor)
  | exact EN_var rfl (fun _ => by constructor)))

/-- what the walk asks of the module's names -/
structure Txt (K : PySem.W.Frag) (mg : Str → Option Value) (C_Kinds : Addr) (C_BadKinds : Addr) (C_SilentswapsError : Addr) (C_BadLine : Addr) (G_RESERVED : Addr) : Prop where
  z_ValueError : mg "ValueError" = none
  z_all : mg "all" = none
  z_enumerate : mg "enumerate" = none
  z_range : mg "range" = none
  z_len : mg "len" = none
  z_iter : mg "iter" = none
  z_abs : mg "abs" = none
  z_int : mg "int" = none
  z_max : mg "max" = none
  z_isinstance : mg "isinstance" = none
  z_str : mg "str" = none
  z_bool : mg "bool" = none
  z_tuple : mg "tuple" = none
  z_min : mg "min" = none
  z_list : mg "list" = none
  z_super : mg "super" = none
  c_Kinds : Cls K C_Kinds
  v_Kinds : ∃ u, mg "Kinds" = some u ∧ RelV (.ref C_Kinds) u
  na_Kinds_names : NoAttr K C_Kinds "names"
  na_Kinds_entries : NoAttr K C_Kinds "entries"
  v_BadKinds : ∃ u, mg "BadKinds" = some u ∧ RelV (.ref C_BadKinds) u
  v_SilentswapsError : ∃ u, mg "SilentswapsError" = some u ∧ RelV (.ref C_SilentswapsError) u
  v_BadLine : ∃ u, mg "BadLine" = some u ∧ RelV (.ref C_BadLine) u
  i_BadKinds : ExcC K C_BadKinds
  k_S : PySem.W.kitOne K (.ref C_BadKinds) (.ref C_SilentswapsError) = some true
  k_V : PySem.W.kitOne K (.ref C_BadKinds) (.type "ValueError") = some true
  k_L : PySem.W.kitOne K (.ref C_BadKinds) (.ref C_BadLine) = some false
  g_LETTERS : ∃ u, mg "LETTERS" = some u ∧ RelV (.str "abcdefghijklmnopqrstuvwxyz") u
  g_RESERVED : ∃ u, mg "RESERVED" = some u ∧ RelV (.ref G_RESERVED) u
  q_RESERVED : ∀ H, SqT K H G_RESERVED [V.str "kind", V.str "def", V.str "set", V.str "ask", V.str "call", V.str "again", V.str "check", V.str "mean", V.str "if", V.str "else", V.str "end", V.str "return", V.str "refuse", V.str "is", V.str "self", V.str "cls"]
  g_MOST_KINDS : ∃ u, mg "MOST_KINDS" = some u ∧ RelV (.int (4)) u
section
variable {P : Program} {w : World} {K : PySem.W.Frag} {mg : Str → Option Value} {base : Heap}
variable {C_Kinds : Addr} {C_BadKinds : Addr} {C_SilentswapsError : Addr} {C_BadLine : Addr} {G_RESERVED : Addr}

open NdefX
/-! ### the draws: a dict of four numbers -/
def bagL (d s t r : Int) : List (Key × V) := [(Sum.inr "digits", .int d), (Sum.inr "seed", .int s), (Sum.inr "turn", .int t), (Sum.inr "room", .int r)]
/-- the draws of a cell stand at p, at least n of them are left -/
def BagAt (H : Hp) (p : Addr) (n : Nat) : Prop := ∃ d s t r : Int, H p = some (.dK (bagL d s t r)) ∧ 0 ≤ d ∧ 0 ≤ s ∧ s < 2305843009213693951 ∧ 0 ≤ t ∧ t + n ≤ 80000000000
theorem BagAt.mono {H : Hp} {p : Addr} {n m : Nat} (b : BagAt H p n) (h : m ≤ n) : BagAt H p m := by
  obtain ⟨d, s, t, r, e, h1, h2, h3, h4, h5⟩ := b
  exact ⟨d, s, t, r, e, h1, h2, h3, h4, by omega⟩
theorem BagAt.kp {H H' : Hp} {p : Addr} {n : Nat} {ex : List Addr} (b : BagAt H p n) (k : Kp ex H H') (m : p ∉ ex) : BagAt H' p n := by
  obtain ⟨d, s, t, r, e, h⟩ := b
  exact ⟨d, s, t, r, k _ _ e m, h⟩
theorem BagAt.some {H : Hp} {p : Addr} {n : Nat} (b : BagAt H p n) : ∃ o, H p = Option.some o := by
  obtain ⟨d, s, t, r, e, _⟩ := b
  exact ⟨_, e⟩
theorem bag_d (d s t r : Int) : valV (bagL d s t r) (Sum.inr "digits") = some (.int d) := by
  unfold bagL
  rw [valV_pos rfl]
theorem bag_s (d s t r : Int) : valV (bagL d s t r) (Sum.inr "seed") = some (.int s) := by
  unfold bagL
  rw [valV_neg (show ¬ (Sum.inr ("digits" : Str) : Key) = Sum.inr ("seed" : Str) by decide +kernel), valV_pos rfl]
theorem bag_t (d s t r : Int) : valV (bagL d s t r) (Sum.inr "turn") = some (.int t) := by
  unfold bagL
  rw [valV_neg (show ¬ (Sum.inr ("digits" : Str) : Key) = Sum.inr ("turn" : Str) by decide +kernel), valV_neg (show ¬ (Sum.inr ("seed" : Str) : Key) = Sum.inr ("turn" : Str) by decide +kernel), valV_pos rfl]
theorem bag_d' (d s t r z : Int) : putK (bagL d s t r) (Sum.inr "digits") (.int z) = bagL z s t r := by
  unfold putK bagL
  have e1 : ¬ (("seed" : Str) = "digits") := by decide +kernel
  have e2 : ¬ (("turn" : Str) = "digits") := by decide +kernel
  have e3 : ¬ (("room" : Str) = "digits") := by decide +kernel
  simp [e1, e2, e3]
theorem bag_t' (d s t r z : Int) : putK (bagL d s t r) (Sum.inr "turn") (.int z) = bagL d s z r := by
  unfold putK bagL
  have e1 : ¬ (("seed" : Str) = "turn") := by decide +kernel
  have e2 : ¬ (("digits" : Str) = "turn") := by decide +kernel
  have e3 : ¬ (("room" : Str) = "turn") := by decide +kernel
  simp [e1, e2, e3]
theorem bag_len (d s t r : Int) : (bagL d s t r).length < sizeLine := by
  show 4 < sizeLine
  decide
theorem bag_mk (d s t r : Int) : mergeK [] (bagL d s t r) = bagL d s t r := by
  have e1 : ¬ (("seed" : Str) = "digits") := by decide +kernel
  have e2 : ¬ (("turn" : Str) = "digits") := by decide +kernel
  have e3 : ¬ (("room" : Str) = "digits") := by decide +kernel
  have e4 : ¬ (("turn" : Str) = "seed") := by decide +kernel
  have e5 : ¬ (("room" : Str) = "seed") := by decide +kernel
  have e6 : ¬ (("room" : Str) = "turn") := by decide +kernel
  have f1 : ¬ (("digits" : Str) = "seed") := by decide +kernel
  have f2 : ¬ (("digits" : Str) = "turn") := by decide +kernel
  have f3 : ¬ (("digits" : Str) = "room") := by decide +kernel
  have f4 : ¬ (("seed" : Str) = "turn") := by decide +kernel
  have f5 : ¬ (("seed" : Str) = "room") := by decide +kernel
  have f6 : ¬ (("turn" : Str) = "room") := by decide +kernel
  simp [mergeK, bagL, putK, f1, f2, f3, f4, f5, f6]
/-- _law_bag(script, at): a new bag -/
def sp__law_bag (K : PySem.W.Frag) : Sp := fun vs H Q _ => ∃ (a : Addr) (ns : List Int) (k : Nat), vs = [.ref a, .int (k : Int)] ∧ SqL K H a (ns.map V.int) ∧ k ≤ 1000 ∧
  ∀ p H', H p = none → Kp [] H H' → BagAt H' p 70000000000 → Q (.ref p) H'
/-- _law_take(bag, many): some number from 0 to below many; nothing but the bag changes -/
def sp__law_take : Sp := fun vs H Q _ => ∃ (p : Addr) (n : Nat) (m : Int), vs = [.ref p, .int m] ∧ BagAt H p (n + 1) ∧ 0 < m ∧ m < 2 ^ 200 ∧
  ∀ (r : Int) H', 0 ≤ r → r < m → Kp [p] H H' → BagAt H' p n → Q (.int r) H'
theorem cdivw {i j : Int} (h : 0 < j) (h2 : j < 2 ^ 200) : CDivW i j := wide_div h (by omega : j.natAbs < 2 ^ 200) (by decide) (by decide)
abbrev s__law_take : Stmt := top 15
theorem sc__law_take : FnScope ["_law_bag_here", "_law_many", "_law_digit", "_law_mixed"] ["_law_bag_here", "_law_many"] (defScope s__law_take) :=
  ⟨rfl, rfl, rfl, by decide +kernel, rfl, by decide +kernel, by decide +kernel⟩
theorem ok__law_take {f : Addr} {fd : FuncData} (F : Fun K "_law_take" "_law_take" s__law_take f fd) (T : Txt K mg C_Kinds C_BadKinds C_SilentswapsError C_BadLine G_RESERVED) :
    FnOk P w K mg base CX0 2 f fd ["_law_bag_here", "_law_many"] (sp__law_take) := by
  refine F.ok sc__law_take (fun vs H Q E h => ?_) (fun cdv A outer s H vs Q E hr h => ?_)
  · obtain ⟨p, n, m, rfl, _⟩ := h
    rfl
  · obtain ⟨p, n, m, rfl, hb, h0, h1, q⟩ := h
    obtain ⟨d, z, t, r, e, b1, b2, b3, b4, b5⟩ := hb
    have hu := hu_of hr
    have hu64 := hr.units
    refine ⟨_, (pss_cons (ps_if (pt_cmpR op_gt (pe_dget hu (pv 0) pe_str (fun _ _ => rfl)) pe_int (nomark _))
          (pss_cons (ps_set (i := 2) sc__law_take.nd rfl (by first | exact Or.inl rfl | exact Or.inr rfl) (pe_op op_modN (pe_callTy cr_int (by rfl) T.z_int (by decide +kernel) (pa_cons (pe_dget hu (pv 0) pe_str (fun _ _ => rfl)) pa_nil)) (pv 1)))
          (pss_cons (ps_dput hu (pv 0) pe_str (pe_op op_fdivW (pe_dget hu (pv 0) pe_str (fun _ _ => rfl)) (pv 1)) rfl)
          (pss_one (ps_ret (pv 2)))))
          pss_nil)
        (pss_cons (ps_dput hu (pv 0) pe_str (pe_op op_add (pe_dget hu (pv 0) pe_str (fun _ _ => rfl)) pe_int) rfl)
        (pss_cons (ps_set (i := 3) sc__law_take.nd rfl (by first | exact Or.inl rfl | exact Or.inr rfl) (pe_op op_modN (pe_callTy cr_int (by rfl) T.z_int (by decide +kernel) (pa_cons (pe_op op_add (pe_op op_pow (pe_op op_add (pe_dget hu (pv 0) pe_str (fun _ _ => rfl)) (pe_op op_mul pe_int (pe_dget hu (pv 0) pe_str (fun _ _ => rfl)))) pe_int) (pe_op op_mul pe_int (pe_dget hu (pv 0) pe_str (fun _ _ => rfl)))) pa_nil)) pe_int))
        (pss_cons (ps_set (i := 3) sc__law_take.nd rfl (by first | exact Or.inl rfl | exact Or.inr rfl) (pe_op op_modN (pe_callTy cr_int (by rfl) T.z_int (by decide +kernel) (pa_cons (pe_op op_pow (pe_op op_add (pv 3) (pe_op op_mul pe_int (pe_dget hu (pv 0) pe_str (fun _ _ => rfl)))) pe_int) pa_nil)) pe_int))
        (pss_one (ps_ret (pe_op op_modN (pe_callTy cr_int (by rfl) T.z_int (by decide +kernel) (pa_cons (pe_op op_fdivW (pv 3) pe_int) pa_nil)) (pv 1)))))))), ?_⟩
    walk_at "S"
    refine r_kDGs e (bag_d _ _ _ _) ?_
    walk_at "S"
    refine r_kIfS (fun c => ?_) (fun c => ?_)
    · walk_at "S"
      refine r_kDGs e (bag_d _ _ _ _) ?_
      walk_at "S"
      refine r_I (by omega) ?_
      walk_at "S"
      refine r_kDGs e (bag_d _ _ _ _) ?_
      walk_at "S"
      refine r_I (cdivw h0 h1) ?_
      walk_at "S"
      refine r_kDPs e (bag_len _ _ _ _) ?_
      walk_at "S"
      rw [bag_d']
      refine q _ _ (Int.fmod_nonneg_of_pos _ h0) (Int.fmod_lt_of_pos _ h0) (Kp.put (by simp)) ⟨_, _, _, _, upd_same, Int.ediv_nonneg b1 (by omega), b2, b3, b4, by omega⟩
    · walk_at "S"
      refine r_kDGs e (bag_t _ _ _ _) ?_
      walk_at "S"
      refine r_kDPs e (bag_len _ _ _ _) ?_
      rw [bag_t']
      have e' : upd H p (.dK (bagL d z (t + 1) r)) p = some (.dK (bagL d z (t + 1) r)) := upd_same
      generalize hH : upd H p (.dK (bagL d z (t + 1) r)) = H1 at e'
      have k1 : Kp [p] H H1 := by
        rw [← hH]
        exact Kp.put (by simp)
      walk_at "S"
      refine r_kDGs e' (bag_s _ _ _ _) ?_
      walk_at "S"
      refine r_kDGs e' (bag_t _ _ _ _) ?_
      walk_at "S"
      refine r_I (.inl (by decide)) ?_
      walk_at "S"
      refine r_I ⟨by decide, by decide, by omega⟩ ?_
      walk_at "S"
      refine r_kDGs e' (bag_t _ _ _ _) ?_
      walk_at "S"
      refine r_I (.inl (by decide)) ?_
      walk_at "S"
      refine r_I (by decide) ?_
      generalize hx : Int.fmod _ 2305843009213693921 = x
      have x0 : 0 ≤ x := hx ▸ Int.fmod_nonneg_of_pos _ (by decide)
      have x1 : x < 2305843009213693921 := hx ▸ Int.fmod_lt_of_pos _ (by decide)
      walk_at "S"
      refine r_kDGs e' (bag_t _ _ _ _) ?_
      walk_at "S"
      refine r_I (.inl (by decide)) ?_
      walk_at "S"
      refine r_I ⟨by decide, by decide, by omega⟩ ?_
      walk_at "S"
      refine r_I (by decide) ?_
      walk_at "S"
      refine r_I (cdivw (by decide) (by decide)) ?_
      walk_at "S"
      refine r_I (by omega) ?_
      exact q _ _ (Int.fmod_nonneg_of_pos _ h0) (Int.fmod_lt_of_pos _ h0) k1 ⟨_, _, _, _, e', b1, b2, b3, by omega, by omega⟩

abbrev s__law_bag : Stmt := top 14
theorem sc__law_bag : FnScope ["_law_script", "_law_at", "_law_cell", "_law_digits"] ["_law_script", "_law_at"] (defScope s__law_bag) :=
  ⟨rfl, rfl, rfl, by decide +kernel, rfl, by decide +kernel, by decide +kernel⟩
theorem ok__law_bag {f : Addr} {fd : FuncData} (F : Fun K "_law_bag" "_law_bag" s__law_bag f fd) (T : Txt K mg C_Kinds C_BadKinds C_SilentswapsError C_BadLine G_RESERVED) :
    FnOk P w K mg base CX0 2 f fd ["_law_script", "_law_at"] (sp__law_bag K) := by
  refine F.ok sc__law_bag (fun vs H Q E h => ?_) (fun cdv A outer s H vs Q E hr h => ?_)
  · obtain ⟨a, ns, k, rfl, _⟩ := h
    rfl
  · obtain ⟨a, ns, k, rfl, hS, hk, q⟩ := h
    have hu := hu_of hr
    have hu64 := hr.units
    refine ⟨_, (pss_cons (ps_set (i := 2) sc__law_bag.nd rfl (by first | exact Or.inl rfl | exact Or.inr rfl) (pe_ifExp (pt_cmpR op_lt (pv 1) (pe_callB (K_len (K := K) rfl) (by rfl) T.z_len (by decide +kernel) (pa_cons (pv 0) pa_nil)) (nomark _)) (pe_ix (K_ixL (K := K) rfl) (pv 0) (pv 1) (fun _ _ => rfl)) pe_int))
        (pss_cons (ps_set (i := 3) sc__law_bag.nd rfl (by first | exact Or.inl rfl | exact Or.inr rfl) (pe_ifExp (pt_cmpR op_ge (pe_callB cr_abs (by rfl) T.z_abs (by decide +kernel) (pa_cons (pv 2) pa_nil)) (pe_op op_pow pe_int pe_int) (nomark _)) (pe_callB cr_abs (by rfl) T.z_abs (by decide +kernel) (pa_cons (pv 2) pa_nil)) pe_int))
        (pss_one (ps_ret (pe_disp (pps_cons pe_str (pv 3) (pps_cons pe_str (pe_op op_modN (pe_callTy cr_int (by rfl) T.z_int (by decide +kernel) (pa_cons (pv 2) pa_nil)) pe_int) (pps_cons pe_str (pe_op op_mul pe_int (pv 1)) (pps_cons pe_str pe_int pps_nil)))) (by rfl) (by rfl) (fun z => by cases z) (by decide)))))), ?_⟩
    have rest : ∀ c d : Int, 0 ≤ d → ∀ (p : Addr) (H1 : Hp), H p = none → Kp [] H H1 → H1 p = some (.dK []) →
        kDisp Q p ((bagL d (Int.fmod c 2305843009213693951) (31 * (k : Int)) 0).map fun kv => (kV kv.1, kv.2)) H1 := fun c d hd p H1 np k1 e1 => by
      refine r_kDisp e1 (by show 4 ≤ 15; decide) fun H2 k2 e2 => ?_
      rw [bag_mk] at e2
      exact q p H2 np (k1.nil.trans k2 |>.drop np) ⟨_, _, _, _, e2, hd, Int.fmod_nonneg_of_pos _ (by decide), Int.fmod_lt_of_pos _ (by decide), by omega, by omega⟩
    have nn : ∀ c : Int, 0 ≤ (if c < 0 then -c else c) := fun c => by
      split <;> omega
    walk_at "S"
    refine r_lenL hS ?_
    walk_at "S"
    refine r_kIf (fun c => ?_) (fun c => ?_)
    all_goals
      walk_at "S"
    · have c' : (k : Int) < ((ns.map V.int).length : Nat) := of_decide_eq_true c
      obtain ⟨v, hv, hm, _⟩ := atI_in (l := ns.map V.int) (i := (k : Int)) (by omega) c'
      obtain ⟨z, _, rfl⟩ := List.mem_map.mp hm
      refine r_ixL hS hv ?_
      walk_at "S"
      refine r_I ⟨by decide, by decide, by decide⟩ ?_
      walk_at "S"
      refine r_kIf (fun c => ?_) (fun c => ?_)
      all_goals
        walk_at "S"
        refine r_disp fun p H1 np k1 e1 => ?_
        walk_at "S"
        refine r_I (by decide) ?_
        walk_at "S"
        refine r_I (.inl (by decide)) ?_
        walk_at "S"
      · exact rest z _ (nn z) p H1 np k1 e1
      · exact rest z _ (by decide) p H1 np k1 e1
    · refine r_I ⟨by decide, by decide, by decide⟩ ?_
      walk_at "S"
      refine r_kIf (fun c => ?_) (fun c => ?_)
      all_goals
        walk_at "S"
        refine r_disp fun p H1 np k1 e1 => ?_
        walk_at "S"
        refine r_I (by decide) ?_
        walk_at "S"
        refine r_I (.inl (by decide)) ?_
        walk_at "S"
      · exact rest 0 _ (nn 0) p H1 np k1 e1
      · exact rest 0 _ (by decide) p H1 np k1 e1
/-- _law_of(bag, some), some a list: one of its items -/
def sp__law_of (K : PySem.W.Frag) : Sp := fun vs H Q _ => ∃ (p a : Addr) (n : Nat) (xs : List V), vs = [.ref p, .ref a] ∧ BagAt H p (n + 1) ∧ SqL K H a xs ∧ 0 < xs.length ∧ xs.length ≤ 1000000 ∧
  ∀ (v : V) H', v ∈ xs → Kp [p] H H' → BagAt H' p n → Q v H'
theorem sql_bag {H H' : Hp} {p a : Addr} {xs : List V} {n : Nat} (h : SqL K H a xs) (b : BagAt H p n) (k : Kp [p] H H') : SqL K H' a xs := by
  obtain ⟨d, s, t, r, e, _⟩ := b
  exact sql_but h k e (fun _ z => nomatch z) (fun _ _ z => nomatch z)
theorem r_ofS {H : Hp} {Q : VK} {p a : Addr} {n : Nat} {ws : List Str} (hb : BagAt H p (n + 1)) (hS : SqL K H a (ws.map V.str)) (h0 : 0 < ws.length) (h1 : ws.length ≤ 1000000) (q : ∀ (w : Str) H', w ∈ ws → Kp [p] H H' → BagAt H' p n → Q (.str w) H') : sp__law_of K [.ref p, .ref a] H Q E0 :=
  ⟨p, a, n, _, rfl, hb, hS, by rw [List.length_map]; exact h0, by rw [List.length_map]; exact h1, fun v H' m k b => by
    obtain ⟨w, hw, rfl⟩ := List.mem_map.mp m
    exact q w H' hw k b⟩
theorem r_ofI {H : Hp} {Q : VK} {p a : Addr} {n : Nat} {ws : List Int} (hb : BagAt H p (n + 1)) (hS : SqL K H a (ws.map V.int)) (h0 : 0 < ws.length) (h1 : ws.length ≤ 1000000) (q : ∀ (w : Int) H', w ∈ ws → Kp [p] H H' → BagAt H' p n → Q (.int w) H') : sp__law_of K [.ref p, .ref a] H Q E0 :=
  ⟨p, a, n, _, rfl, hb, hS, by rw [List.length_map]; exact h0, by rw [List.length_map]; exact h1, fun v H' m k b => by
    obtain ⟨w, hw, rfl⟩ := List.mem_map.mp m
    exact q w H' hw k b⟩
abbrev s__law_of : Stmt := top 16
theorem sc__law_of : FnScope ["_law_bag_here", "_law_some"] ["_law_bag_here", "_law_some"] (defScope s__law_of) :=
  ⟨rfl, rfl, rfl, by decide +kernel, rfl, by decide +kernel, by decide +kernel⟩
theorem ok__law_of {f : Addr} {fd : FuncData} (F : Fun K "_law_of" "_law_of" s__law_of f fd) (T : Txt K mg C_Kinds C_BadKinds C_SilentswapsError C_BadLine G_RESERVED) (U__law_take : Use P w K mg base 2 "_law_take" ["_law_bag_here", "_law_many"] (sp__law_take)) :
    FnOk P w K mg base CX0 4 f fd ["_law_bag_here", "_law_some"] (sp__law_of K) := by
  refine F.ok sc__law_of (fun vs H Q E h => ?_) (fun cdv A outer s H vs Q E hr h => ?_)
  · obtain ⟨p, a, n, xs, rfl, _⟩ := h
    rfl
  · obtain ⟨p, a, n, xs, rfl, hb, hS, h0, h1, q⟩ := h
    have hu := hu_of hr
    have hu64 := hr.units
    refine ⟨_, (pss_one (ps_ret (pe_ix (K_ixL (K := K) rfl) (pv 1) (pe_use U__law_take (hr.mono (by decide)) (by rfl) (pa_cons (pv 0) (pa_cons (pe_callB (K_len (K := K) rfl) (by rfl) T.z_len (by decide +kernel) (pa_cons (pv 1) pa_nil)) pa_nil))) (fun _ _ => rfl)))), ?_⟩
    walk_at "S"
    refine r_lenL hS ?_
    walk_at "S"
    refine ⟨p, n, _, rfl, hb, by omega, by omega, fun r H1 r0 r1 k1 b1 => ?_⟩
    obtain ⟨v, hv, hm, _⟩ := atI_in (l := xs) r0 r1
    refine r_ixL (sql_bag hS hb k1) hv ?_
    exact q v H1 hm k1 b1

/-! ### names: one to eight letters a to z, none of them reserved -/
def reserved : List Str := ["kind", "def", "set", "ask", "call", "again", "check", "mean", "if", "else", "end", "return", "refuse", "is", "self", "cls"]
def res13 : List Str := ["kind", "def", "set", "ask", "call", "again", "check", "mean", "if", "else", "end", "return", "refuse"]
def res3 : List Str := ["is", "self", "cls"]
theorem reserved_eq : reserved = res13 ++ res3 := rfl
def letters : Str := "abcdefghijklmnopqrstuvwxyz"
def NameOk (w : Str) : Prop := 1 ≤ w.cps.toList.length ∧ w.cps.toList.length ≤ 8 ∧ (∀ c ∈ w.cps.toList, 97 ≤ c ∧ c ≤ 122) ∧ w ∉ reserved
instance (w : Str) : Decidable (NameOk w) := by
  unfold NameOk
  infer_instance
def menu8 : List Str := ["a", "b", "c", "n", "text", "cents", "rest", "whole"]
def qs : List Str := letters.cps.toList.map fun c => ("q" : Str) ++ ⟨#[c]⟩
theorem menu_ok : ∀ w ∈ menu8, NameOk w := by decide +kernel
theorem qs_ok : ∀ w ∈ qs, NameOk w := by decide +kernel
theorem qs_len : qs.length = 26 := by decide +kernel
theorem qs_nd : qs.Nodup := by decide +kernel
theorem letters_len : letters.cps.toList.length = 26 := by decide +kernel
theorem letters_in : ∀ c ∈ letters.cps.toList, 97 ≤ c ∧ c ≤ 122 := by decide +kernel
theorem str_length (z : Str) : z.length = z.cps.toList.length := by
  show z.cps.size = _
  simp
theorem str_app (a b : Str) : (a ++ b).cps.toList = a.cps.toList ++ b.cps.toList := by
  show (a.cps ++ b.cps).toList = _
  simp
theorem nodup_le {α : Type} [DecidableEq α] : ∀ {l m : List α}, l.Nodup → (∀ x ∈ l, x ∈ m) → l.length ≤ m.length
  | [], _, _, _ => Nat.zero_le _
  | x :: l, m, h, s => by
    have hx := List.nodup_cons.mp h
    have ih := nodup_le (l := l) (m := m.erase x) hx.2 fun y hy => by
      have n : y ≠ x := fun e => hx.1 (e ▸ hy)
      exact (List.mem_erase_of_ne n).mpr (s y (List.mem_cons_of_mem _ hy))
    have mx := s x List.mem_cons_self
    rw [List.length_erase_of_mem mx] at ih
    have : 0 < m.length := List.length_pos_of_mem mx
    rw [List.length_cons]
    omega
/-- among the 26 words one is not taken -/
theorem qs_left {ws : List Str} (h : ws.length ≤ 25) : (qs.filter fun w => decide (w ∉ ws)) ≠ [] := by
  intro e
  have all : ∀ w ∈ qs, w ∈ ws := fun w hw => by
    by_cases c : w ∈ ws
    · exact c
    · have m : w ∈ qs.filter fun w => decide (w ∉ ws) := List.mem_filter.mpr ⟨hw, decide_eq_true c⟩
      rw [e] at m
      cases m
  have := nodup_le qs_nd all
  rw [qs_len] at this
  omega
/-- _law_name(bag, taken), taken a list of at most 25 texts: a name that is none of them -/
def sp__law_name (K : PySem.W.Frag) : Sp := fun vs H Q _ => ∃ (p a : Addr) (n : Nat) (ws : List Str), vs = [.ref p, .ref a] ∧ BagAt H p (n + 12) ∧ SqL K H a (ws.map V.str) ∧ ws.length ≤ 25 ∧
  ∀ (w : Str) H', NameOk w → w ∉ ws → Kp [p] H H' → BagAt H' p n → Q (.str w) H'
abbrev s__law_name : Stmt := top 17
theorem sc__law_name : FnScope ["_law_bag_here", "_law_taken", "_law_letters", "_law_word", "_law_k", "_law_reserved_here", "_law_letter", "_law_one"] ["_law_bag_here", "_law_taken"] (defScope s__law_name) :=
  ⟨rfl, rfl, rfl, by decide +kernel, rfl, by decide +kernel, by decide +kernel⟩
theorem ok__law_name {f : Addr} {fd : FuncData} (F : Fun K "_law_name" "_law_name" s__law_name f fd) (T : Txt K mg C_Kinds C_BadKinds C_SilentswapsError C_BadLine G_RESERVED) (U__law_take : Use P w K mg base 2 "_law_take" ["_law_bag_here", "_law_many"] (sp__law_take)) (U__law_of : Use P w K mg base 4 "_law_of" ["_law_bag_here", "_law_some"] (sp__law_of K)) :
    FnOk P w K mg base CX0 6 f fd ["_law_bag_here", "_law_taken"] (sp__law_name K) := by
  refine F.ok sc__law_name (fun vs H Q E h => ?_) (fun cdv A outer s H vs Q E hr h => ?_)
  · obtain ⟨p, a, n, ws, rfl, _⟩ := h
    rfl
  · obtain ⟨p, a, n, ws, rfl, hb, hS, hw, q⟩ := h
    have hu := hu_of hr
    have hu64 := hr.units
    refine ⟨_, (pss_cons (ps_set (i := 2) sc__law_name.nd rfl (by first | exact Or.inl rfl | exact Or.inr rfl) pe_str)
        (pss_cons (ps_set (i := 3) sc__law_name.nd rfl (by first | exact Or.inl rfl | exact Or.inr rfl) (pe_use U__law_of (hr.mono (by decide)) (by rfl) (pa_cons (pv 0) (pa_cons (pe_lst (pa_cons pe_str (pa_cons pe_str (pa_cons pe_str (pa_cons pe_str (pa_cons pe_str (pa_cons pe_str (pa_cons pe_str (pa_cons pe_str pa_nil))))))))) pa_nil))))
        (pss_cutS (ps_if (pt_cmpR op_eq (pe_use U__law_take (hr.mono (by decide)) (by rfl) (pa_cons (pv 0) (pa_cons pe_int pa_nil))) pe_int (nomark _))
          (pss_cons (ps_set (i := 3) sc__law_name.nd rfl (by first | exact Or.inl rfl | exact Or.inr rfl) pe_str)
          (pss_one (ps_for PassesOwn.never (by rfl) (pi_range1 (by rfl) T.z_range (pa_cons (pe_op op_add pe_int (pe_use U__law_take (hr.mono (by decide)) (by rfl) (pa_cons (pv 0) (pa_cons pe_int pa_nil)))) pa_nil)) (pg_name (i := 4) sc__law_name.nd rfl (by first | exact Or.inl rfl | exact Or.inr rfl))
            (pss_one (ps_set (i := 3) sc__law_name.nd rfl (by first | exact Or.inl rfl | exact Or.inr rfl) (pe_op op_addT (pv 3) (pe_ix ix_str (pv 2) (pe_use U__law_take (hr.mono (by decide)) (by rfl) (pa_cons (pv 0) (pa_cons pe_int pa_nil))) (fun _ _ => rfl))))))))
          pss_nil)
        (pss_cons (ps_set (i := 5) sc__law_name.nd rfl (by first | exact Or.inl rfl | exact Or.inr rfl) (pe_lst (pa_cons pe_str (pa_cons pe_str (pa_cons pe_str (pa_cons pe_str (pa_cons pe_str (pa_cons pe_str (pa_cons pe_str (pa_cons pe_str (pa_cons pe_str (pa_cons pe_str (pa_cons pe_str (pa_cons pe_str (pa_cons pe_str pa_nil)))))))))))))))
        (pss_cons (ps_if (pt_cutT (PW.pt (pw_or (pt_cmpR (K_in (K := K) rfl) (pv 3) (pv 5) (by with_unfolding_all rfl)) (pw_or (pt_cmpR (K_in (K := K) rfl) (pv 3) (pe_lst (pa_cons pe_str (pa_cons pe_str (pa_cons pe_str pa_nil)))) (by with_unfolding_all rfl)) (pw_or1 (pt_cmpR (K_in (K := K) rfl) (pv 3) (pv 1) (by with_unfolding_all rfl)))))))
          (pss_one (ps_ret (pe_ix (K_ixL (K := K) rfl) (pe_lc (own := [("_law_one", 7)]) (by rfl) sc__law_name.nd (K_pil (K := K) rfl (pe_lc (own := [("_law_letter", 6)]) (by rfl) sc__law_name.nd (pi_str (pv 2)) (blkOk_by (own := [("_law_letter", 6)]) (N := ["_law_bag_here", "_law_taken", "_law_letters", "_law_word", "_law_k", "_law_reserved_here", "_law_letter", "_law_one"]) (sc := defScope s__law_name) (by decide +kernel)) (fun _ _ _ _ _ => (pg_name (i := 6) sc__law_name.nd rfl (by first | exact Or.inl rfl | exact Or.inr rfl))) (fun _ _ _ _ _ => pts_nil) (fun _ _ _ _ _ => (pe_op op_addT pe_str (pv 6))))) (blkOk_by (own := [("_law_one", 7)]) (N := ["_law_bag_here", "_law_taken", "_law_letters", "_law_word", "_law_k", "_law_reserved_here", "_law_letter", "_law_one"]) (sc := defScope s__law_name) (by decide +kernel)) (fun _ _ _ _ _ => (pg_name (i := 7) sc__law_name.nd rfl (by first | exact Or.inl rfl | exact Or.inr rfl))) (fun _ _ _ _ _ => pts_one (pt_cmpR (K_notIn (K := K) rfl) (pv 7) (pv 1) (by with_unfolding_all rfl))) (fun _ _ _ _ _ => (pv 7))) pe_int (fun _ _ => rfl))))
          pss_nil)
        (pss_one (ps_ret (pv 3)))))))), ?_⟩
    walk_at "S"
    refine r_kLst (by show 8 ≤ sizeLine; decide) fun l1 H1 n1 k1 e1 => ?_
    walk_at "S"
    refine r_ofS (n := n + 11) (ws := menu8) (hb.kp k1 not_nil) (SqL.of e1) (by decide) (by decide) fun w0 H2 m0 k2 b2 => ?_
    have w0ok := menu_ok w0 m0
    have k02 : Kp [p] H H2 := (k1.nil).trans k2
    walk_at "S"
    refine r_cutS (fun σ' H' => ∃ (w1 : Str) (v : Option V), σ' = [some (.ref p), some (.ref a), some (.str letters), some (.str w1), v, none, none, none] ∧
      (1 ≤ w1.cps.toList.length ∧ w1.cps.toList.length ≤ 8 ∧ ∀ c ∈ w1.cps.toList, 97 ≤ c ∧ c ≤ 122) ∧ Kp [p] H H' ∧ BagAt H' p n) ?_ ?_
    · walk_at "S"
      refine ⟨p, n + 10, 2, rfl, b2, by decide, by decide, fun r H3 r0 r1 k3 b3 => ?_⟩
      have k03 : Kp [p] H H3 := k02.trans k3
      walk_at "S"
      refine r_kIfS (fun c => ?_) (fun c => ?_)
      all_goals
        walk_at "S"
      · refine ⟨p, n + 9, 8, rfl, b3, by decide, by decide, fun m H4 m0 m1 k4 b4 => ?_⟩
        have k04 : Kp [p] H H4 := k03.trans k4
        walk_at "S"
        refine r_cRng1 ⟨by omega, by omega⟩ ?_
        refine r_kForR (fun i σ' H' => ∃ (w1 : Str) (v : Option V), σ' = [some (.ref p), some (.ref a), some (.str letters), some (.str w1), v, none, none, none] ∧
          (w1.cps.toList.length = i ∧ ∀ c ∈ w1.cps.toList, 97 ≤ c ∧ c ≤ 122) ∧ Kp [p] H H' ∧ BagAt H' p (n + (9 - i))) ⟨"", none, rfl, ⟨rfl, fun c hc => by cases hc⟩, k04, b4⟩ ?_ ?_
        · rintro i σ' H5 hi ⟨w1, v, rfl, ⟨hl, hc⟩, k5, b5⟩
          have hi8 : i < 8 := by omega
          walk_at "S"
          refine ⟨p, n + (9 - (i + 1)), 26, rfl, b5.mono (by omega), by decide, by decide, fun g H6 g0 g1 k6 b6 => ?_⟩
          obtain ⟨d, hd, hm, _⟩ := atI_in (l := letters.cps.toList) (i := g) g0 (by rw [letters_len]; exact g1)
          refine r_ixS (by decide +kernel) hd ?_
          refine r_addT ?_ ?_
          · rw [str_length, str_length, hl]
            show i + 1 ≤ sizeLine
            have : 9 ≤ sizeLine := by decide
            omega
          walk_at "S"
          refine ⟨_, _, rfl, ⟨?_, fun c hc' => ?_⟩, k5.trans k6, b6⟩
          · rw [str_app, List.length_append, hl]
            rfl
          · rw [str_app] at hc'
            rcases List.mem_append.mp hc' with z | z
            · exact hc c z
            · obtain rfl := List.mem_singleton.mp z
              exact letters_in _ hm
        · rintro σ' H5 ⟨w1, v, rfl, ⟨hl, hc⟩, k5, b5⟩
          exact ⟨w1, v, rfl, ⟨by omega, by omega, hc⟩, k5, b5.mono (by omega)⟩
      · exact ⟨w0, none, rfl, ⟨w0ok.1, w0ok.2.1, w0ok.2.2.1⟩, k03, b3.mono (by omega)⟩
    rintro σ' H4 ⟨w1, v, rfl, ⟨hl1, hl8, hc⟩, k4, b4⟩
    walk_at "S"
    refine r_kLst (by show 13 ≤ sizeLine; decide) fun l2 H5 n5 k5 e5 => ?_
    have k05 : Kp [p] H H5 := k4.trans k5.nil
    walk_at "S"
    have hS5 : SqL K H5 a (ws.map V.str) := sql_bag hS hb k05
    refine r_cutT (fun b H' => Kp [p] H H' ∧ BagAt H' p n ∧ b = decide (w1 ∈ reserved ∨ w1 ∈ ws)) ?_ ?_
    · walk_at "S"
      refine r_inL (ws := res13) (SqL.of e5) ?_
      walk_at "S"
      refine r_kOr (fun c => ?_) (fun c => ?_)
      · refine ⟨k05, b4.kp k5 not_nil, ?_⟩
        have c' : w1 ∈ res13 := of_decide_eq_true c
        exact (decide_eq_true (.inl (by rw [reserved_eq]; exact List.mem_append_left _ c'))).symm
      have c1 : w1 ∉ res13 := of_decide_eq_false c
      walk_at "S"
      refine r_kLst (by show 3 ≤ sizeLine; decide) fun l3 H6 n6 k6 e6 => ?_
      walk_at "S"
      have k06 : Kp [p] H H6 := k05.trans k6.nil
      have b6 : BagAt H6 p n := (b4.kp k5 not_nil).kp k6 not_nil
      refine r_inL (ws := res3) (SqL.of e6) ?_
      walk_at "S"
      refine r_kOr (fun c => ?_) (fun c => ?_)
      · refine ⟨k06, b6, ?_⟩
        have c' : w1 ∈ res3 := of_decide_eq_true c
        exact (decide_eq_true (.inl (by rw [reserved_eq]; exact List.mem_append_right _ c'))).symm
      have c2 : w1 ∉ res3 := of_decide_eq_false c
      have c3 : w1 ∉ reserved := fun m => by
        rw [reserved_eq] at m
        exact (List.mem_append.mp m).elim c1 c2
      walk_at "S"
      refine r_inL (sql_bag hS hb k06) ?_
      walk_at "S"
      refine ⟨k06, b6, ?_⟩
      by_cases c : w1 ∈ ws
      · rw [decide_eq_true c, decide_eq_true (.inr c)]
      · rw [decide_eq_false c, decide_eq_false fun z => z.elim c3 c]
    · rintro b H' ⟨k6, b6, rfl⟩
      refine r_kIfS (fun c => ?_) (fun c => ?_)
      all_goals
        walk_at "S"
      · have hS6 : SqL K H' a (ws.map V.str) := sql_bag hS hb k6
        refine r_kLcS (fun D i acc H2 => Kp [] H' H2 ∧ acc = ((letters.cps.toList.take i).map fun c => ("q" : Str) ++ ⟨#[c]⟩).map V.str) (fun D H2 nD k7 e7 => ⟨k7, rfl⟩) ?_ ?_
        · rintro D i acc d H2 nD hd eD ⟨k7, rfl⟩
          walk_at "S"
          refine r_addT ?_ ?_
          · show 1 + 1 ≤ sizeLine
            decide
          refine r_kApp eD ?_ fun H3 k8 e8 => ⟨k7.step nD k8, ?_⟩
          · rw [List.length_map, List.length_map, List.length_take]
            have : 26 < sizeLine := by decide
            rw [letters_len]
            omega
          · rw [take_map _ hd, List.map_append]
            rfl
        · rintro D acc H2 nD eD ⟨k7, rfl⟩
          rw [List.take_length] at eD
          have eD : H2 D = some (.lst (qs.map V.str)) := eD
          have hS7 : SqL K H2 a (ws.map V.str) := sql_kp hS6 k7 not_nil
          refine r_cWL (SqL.of eD) ?_
          refine r_kLcL (fun E i acc H3 => Kp [] H2 H3 ∧ acc = ((qs.take i).filter fun w => decide (w ∉ ws)).map V.str) (fun E H3 nE k8 e8 => ⟨k8, rfl⟩) (fun E i acc H3 _ h => sql_kp (SqL.of eD) h.1 not_nil) ?_ ?_
          · rintro E i acc x H3 nE hx eE ⟨k8, rfl⟩
            obtain ⟨u, hu', rfl⟩ := map_at hx
            walk_at "S"
            refine r_notInL (sql_kp hS7 k8 not_nil) ?_
            walk_at "S"
            have ht := take_filter (fun w => decide (w ∉ ws)) hu'
            refine r_kKeep (fun c => ?_) (fun c => ?_)
            · walk_at "S"
              refine r_kApp eE ?_ fun H4 k9 e9 => ⟨k8.step nE k9, ?_⟩
              · rw [List.length_map]
                have h1 : ((qs.take i).filter fun w => decide (w ∉ ws)).length ≤ (qs.take i).length := List.length_filter_le _ _
                have h2 : (qs.take i).length ≤ qs.length := by
                  rw [List.length_take]
                  omega
                rw [qs_len] at h2
                have : 26 < sizeLine := by decide
                omega
              · have c' : decide (u ∉ ws) = true := by simpa using c
                rw [ht, if_pos c', List.map_append]
                rfl
            · have c' : ¬ decide (u ∉ ws) = true := by simpa using c
              exact ⟨_, eE, k8, by rw [ht, if_neg c', List.append_nil]⟩
          · rintro E acc H3 nE eE ⟨k8, rfl⟩
            rw [List.length_map, List.take_length] at eE
            walk_at "S"
            cases hf : qs.filter fun w => decide (w ∉ ws) with
            | nil => exact absurd hf (qs_left hw)
            | cons z zs =>
              have hz : z ∈ qs.filter fun w => decide (w ∉ ws) := by
                rw [hf]
                exact List.mem_cons_self
              obtain ⟨hq, hn⟩ := List.mem_filter.mp hz
              rw [hf] at eE
              refine r_ixL (SqL.of eE) (v := .str z) (atI_nat (j := 0) rfl) ?_
              exact q z H3 (qs_ok z hq) (of_decide_eq_true hn) (k6.trans (k7.trans k8).nil) ((b6.kp k7 not_nil).kp k8 not_nil)
      · have c' : ¬ (w1 ∈ reserved ∨ w1 ∈ ws) := of_decide_eq_false c
        exact q w1 H' ⟨hl1, hl8, hc, fun m => c' (.inl m)⟩ (fun m => c' (.inr m)) k6 b6

/-! ### words and names of data -/
theorem letters_iff (c : Nat) : c ∈ letters.cps.toList ↔ 97 ≤ c ∧ c ≤ 122 := by
  have e : letters.cps.toList = List.range' 97 26 := by decide +kernel
  rw [e, List.mem_range'_1]
  omega
def isWord : PyData → Bool
  | .str w => decide (1 ≤ w.length) && decide (w.length ≤ 8) && w.cps.toList.all fun c => decide (c ∈ letters.cps.toList)
  | _ => false
def isName : PyData → Bool
  | .str w => isWord (.str w) && !decide (w ∈ reserved)
  | _ => false
theorem isWord_eq (w : Str) : isWord (.str w) = (decide (1 ≤ w.length) && decide (w.length ≤ 8) && w.cps.toList.all fun c => decide (c ∈ letters.cps.toList)) := rfl
theorem isName_eq (w : Str) : isName (.str w) = (isWord (.str w) && !decide (w ∈ reserved)) := rfl
theorem isName_iff (w : Str) : isName (.str w) = true ↔ NameOk w := by
  have e : isName (.str w) = ((decide (1 ≤ w.length) && decide (w.length ≤ 8) && w.cps.toList.all fun c => decide (c ∈ letters.cps.toList)) && !decide (w ∈ reserved)) := rfl
  unfold NameOk
  rw [e, str_length]
  simp only [Bool.and_eq_true, decide_eq_true_eq, List.all_eq_true, Bool.not_eq_true', decide_eq_false_iff_not, letters_iff]
  constructor
  · rintro ⟨⟨⟨a, b⟩, c⟩, d⟩
    exact ⟨a, b, c, d⟩
  · rintro ⟨a, b, c, d⟩
    exact ⟨⟨⟨a, b⟩, c⟩, d⟩
theorem isName_str {d : PyData} (h : isName d = true) : ∃ w, d = .str w := by
  cases d <;> first | exact ⟨_, rfl⟩ | cases h
def sp_is_word : Sp := fun vs H Q _ => ∃ (v : V) (d : PyData), vs = [v] ∧ Dt [] H v d ∧ (∀ w, d = .str w → w.length ≤ 1000) ∧ ∀ H', Kp [] H H' → Q (.bl (isWord d)) H'
def sp_is_name : Sp := fun vs H Q _ => ∃ (v : V) (d : PyData), vs = [v] ∧ Dt [] H v d ∧ (∀ w, d = .str w → w.length ≤ 1000) ∧ ∀ H', Kp [] H H' → Q (.bl (isName d)) H'
abbrev s_is_word : Stmt := top 10
theorem sc_is_word : FnScope ["thing", "char"] ["thing"] (defScope s_is_word) :=
  ⟨rfl, rfl, rfl, by decide +kernel, rfl, by decide +kernel, by decide +kernel⟩
theorem ok_is_word {f : Addr} {fd : FuncData} (F : Fun K "is_word" "is_word" s_is_word f fd) (T : Txt K mg C_Kinds C_BadKinds C_SilentswapsError C_BadLine G_RESERVED) :
    FnOk P w K mg base CX0 2 f fd ["thing"] (sp_is_word) := by
  refine F.ok sc_is_word (fun vs H Q E h => ?_) (fun cdv A outer s H vs Q E hr h => ?_)
  · obtain ⟨v, d, rfl, _⟩ := h
    rfl
  · obtain ⟨v, d, rfl, hD, hz, q⟩ := h
    have hu := hu_of hr
    have hu64 := hr.units
    refine ⟨_, (pss_cons (ps_if (pt_cutT (PW.pt (pw_or (pt_not (pt_val (pe_callB (K_isi (K := K) rfl) (by rfl) T.z_isinstance (by decide +kernel) (pa_cons (pv 0) (pa_cons (pe_bltn (v := .ty "str") (u := .type "str") (by rfl) T.z_str (by decide +kernel) rfl) pa_nil))))) (pw_or1 (pt_not (pt_chain op_le op_le pe_int (pe_callB cr_lenS (by rfl) T.z_len (by decide +kernel) (pa_cons (pv 0) pa_nil)) pe_int))))))
          (pss_one (ps_ret pe_bl))
          pss_nil)
        (pss_one (ps_ret (pe_callB (K_all (K := K) rfl rfl) (by rfl) T.z_all (by decide +kernel) (pa_cons (pe_lc (own := [("char", 1)]) (by rfl) sc_is_word.nd (pi_str (pv 0)) (blkOk_by (own := [("char", 1)]) (N := ["thing", "char"]) (sc := defScope s_is_word) (by decide +kernel)) (fun _ _ _ _ _ => (pg_name (i := 1) sc_is_word.nd rfl (by first | exact Or.inl rfl | exact Or.inr rfl))) (fun _ _ _ _ _ => pts_nil) (fun _ _ _ _ _ => (pe_cmpR op_inS (pv 1) (pe_globE T.g_LETTERS (by rfl)) (by with_unfolding_all rfl)))) pa_nil))))), ?_⟩
    walk_at "S"
    refine r_cutT (fun b H' => H = H' ∧ ∀ c, b = c → (c = true → isWord d = false) ∧ (c = false → ∃ w, d = .str w ∧ v = .str w ∧ 1 ≤ w.length ∧ w.length ≤ 8)) ?_ ?_
    · walk_at "S"
      refine r_isiStr hD ?_
      walk_at "S"
      refine r_kOr (fun c => ?_) (fun c => ?_)
      · refine ⟨rfl, fun _ e => ⟨fun _ => ?_, fun z => ?_⟩⟩
        · cases d <;> first | rfl | cases c
        · rw [← e] at z
          cases z
      have c' : isStr d = true := by simpa using c
      obtain ⟨w, rfl⟩ : ∃ w, d = .str w := by
        cases d <;> first | exact ⟨_, rfl⟩ | cases c'
      cases hD
      walk_at "S"
      refine r_lenS (Nat.le_trans (hz w rfl) (by decide)) ?_
      walk_at "S"
      refine r_kCh (fun c1 => ?_) (fun c1 => ?_)
      all_goals walk_at "S"
      · refine ⟨rfl, fun e he => ⟨fun z => ?_, fun z => ⟨w, rfl, rfl, ?_⟩⟩⟩
        · subst he
          have : ¬ w.length ≤ 8 := fun y => by
            have : decide (((w.length : Nat) : Int) ≤ 8) = true := decide_eq_true (by omega)
            rw [this] at z
            cases z
          rw [isWord_eq, decide_eq_false this]
          simp
        · subst he
          have h1 : (1 : Int) ≤ ((w.length : Nat) : Int) := of_decide_eq_true c1
          have h2 : decide (((w.length : Nat) : Int) ≤ 8) = true := by simpa using z
          have h2 := of_decide_eq_true h2
          omega
      · refine ⟨rfl, fun e he => ⟨fun z => ?_, fun z => ?_⟩⟩
        · have h1 : ¬ (1 : Int) ≤ ((w.length : Nat) : Int) := of_decide_eq_false c1
          rw [isWord_eq, decide_eq_false (show ¬ 1 ≤ w.length by omega)]
          simp
        · subst he
          cases z
    rintro b H' ⟨rfl, hb⟩
    refine r_kIfS (fun c => ?_) (fun c => ?_)
    all_goals walk_at "S"
    · rw [← (hb b rfl).1 c]
      exact q H (Kp.refl _ _)
    · obtain ⟨w, rfl, rfl, h1, h8⟩ := (hb b rfl).2 c
      walk_at "S"
      refine r_kLcS (fun D i acc H2 => Kp [] H H2 ∧ acc = ((w.cps.toList.take i).map fun c => decide (c ∈ letters.cps.toList)).map V.bl) (fun D H2 nD k7 e7 => ⟨k7, rfl⟩) ?_ ?_
      · rintro D i acc c H2 nD hd eD ⟨k7, rfl⟩
        walk_at "S"
        refine r_inC (z := letters) ?_
        refine r_kApp eD ?_ fun H3 k8 e8 => ⟨k7.step nD k8, ?_⟩
        · rw [List.length_map, List.length_map, List.length_take]
          have e := str_length w
          have : 8 < sizeLine := by decide
          omega
        · rw [take_map _ hd, List.map_append]
          rfl
      · rintro D acc H2 nD eD ⟨k7, rfl⟩
        rw [List.take_length] at eD
        walk_at "S"
        refine r_all (SqL.of eD) ?_
        have e : isWord (.str w) = ((w.cps.toList.map fun c => decide (c ∈ letters.cps.toList)).all id) := by
          rw [isWord_eq, decide_eq_true h1, decide_eq_true h8, List.all_map]
          rfl
        rw [← e]
        exact q H2 k7
abbrev s_is_name : Stmt := top 11
theorem sc_is_name : FnScope ["thing"] ["thing"] (defScope s_is_name) :=
  ⟨rfl, rfl, rfl, by decide +kernel, rfl, by decide +kernel, by decide +kernel⟩
theorem ok_is_name {f : Addr} {fd : FuncData} (F : Fun K "is_name" "is_name" s_is_name f fd) (T : Txt K mg C_Kinds C_BadKinds C_SilentswapsError C_BadLine G_RESERVED) (U_is_word : Use P w K mg base 2 "is_word" ["thing"] (sp_is_word)) :
    FnOk P w K mg base CX0 4 f fd ["thing"] (sp_is_name) := by
  refine F.ok sc_is_name (fun vs H Q E h => ?_) (fun cdv A outer s H vs Q E hr h => ?_)
  · obtain ⟨v, d, rfl, _⟩ := h
    rfl
  · obtain ⟨v, d, rfl, hD, hz, q⟩ := h
    have hu := hu_of hr
    have hu64 := hr.units
    refine ⟨_, (pss_one (ps_ret (pe_and (pe_use U_is_word (hr.mono (by decide)) (by rfl) (pa_cons (pv 0) pa_nil)) (pe_one (pe_cmpR (K_notIn (K := K) rfl) (pv 0) (pe_globE T.g_RESERVED (by rfl)) (by with_unfolding_all rfl)))))), ?_⟩
    walk_at "S"
    refine ⟨v, d, rfl, hD, hz, fun H1 k1 => ?_⟩
    refine r_kAndV (fun c => ?_) (fun c => ?_)
    · obtain ⟨w, rfl⟩ : ∃ w, d = .str w := by
        cases d <;> first | exact ⟨_, rfl⟩ | cases c
      cases hD
      walk_at "S"
      refine r_ninT (ws := reserved) (T.q_RESERVED H1) ?_
      have e : isName (.str w) = !decide (w ∈ reserved) := by
        rw [isName_eq, c]
        rfl
      rw [← e]
      exact q H1 k1
    · have e : isName d = false := by
        cases d <;> first | rfl | (rw [isName_eq, c]; rfl)
      rw [← e]
      exact q H1 k1

/-! ### declarations of kinds -/
def basesOk (ns : List Str) : List PyData → List Str → Bool
  | [], _ => true
  | .str b :: r, seen => decide (b ∈ ns) && !decide (b ∈ seen) && basesOk ns r (seen ++ [b])
  | _ :: _, _ => false
def seqOf : PyData → Option (List PyData)
  | .list l => some l
  | .tuple l => some l
  | _ => none
def nameOf : PyData → Option Str
  | .str w => some w
  | _ => none
def declares (ns : List Str) : PyData → Bool
  | .tuple [d0, d1] => isName d0 && (match nameOf d0 with | some w => !decide (w ∈ ns) | none => false) && (match seqOf d1 with | some l => basesOk ns l [] | none => false)
  | _ => false
theorem declares_pair (ns : List Str) (d0 d1 : PyData) : declares ns (.tuple [d0, d1]) = (isName d0 && (match nameOf d0 with | some w => !decide (w ∈ ns) | none => false) && (match seqOf d1 with | some l => basesOk ns l [] | none => false)) := rfl
theorem declares_len {ns : List Str} {ds : List PyData} (h : ds.length ≠ 2) : declares ns (.tuple ds) = false := by
  match ds, h with
  | [], _ => rfl
  | [_], _ => rfl
  | [_, _], h => exact absurd rfl h
  | _ :: _ :: _ :: _, _ => rfl
/-- what is walked is not too long -/
def Small : PyData → Prop
  | .tuple [d0, d1] => (∀ w, d0 = .str w → w.length ≤ 1000) ∧ ∀ l, seqOf d1 = some l → l.length ≤ 1000
  | _ => True
theorem Dt.pairOf {ex : List Addr} {H : Hp} {xs : List V} {ds : List PyData} (h : DtAll ex H xs ds) (hl : ds.length = 2) : ∃ v0 v1 d0 d1, xs = [v0, v1] ∧ ds = [d0, d1] ∧ Dt ex H v0 d0 ∧ Dt ex H v1 d1 := by
  match ds, hl with
  | [d0, d1], _ =>
    cases h with
    | cons h0 h =>
      cases h with
      | cons h1 h =>
        cases h
        exact ⟨_, _, _, _, rfl, rfl, h0, h1⟩
def sp_Kinds_can_add (K : PySem.W.Frag) (C : Addr) : Sp := fun vs H Q _ => ∃ (a dx nt : Addr) (fs : List (Str × V)) (ns : List Str) (v : V) (d : PyData), vs = [.ref a, v] ∧ H a = some (.ins C dx fs) ∧ fs.lookup ("names" : Str) = some (.ref nt) ∧
  H nt = some (.tup (ns.map V.str)) ∧ Dt [] H v d ∧ Small d ∧ ∀ H', Kp [] H H' → Q (.bl (declares ns d)) H'
theorem drop_at {α : Type} {l : List α} {i : Nat} {x : α} (h : l[i]? = some x) : l.drop i = x :: l.drop (i + 1) := by
  obtain ⟨hi, e⟩ := List.getElem?_eq_some_iff.mp h
  rw [List.drop_eq_getElem_cons hi, e]
abbrev s_Kinds_can_add : Stmt := inClass (top 12) 1
theorem sc_Kinds_can_add : FnScope ["self", "entry", "found", "base"] ["self", "entry"] (defScope s_Kinds_can_add) :=
  ⟨rfl, rfl, rfl, by decide +kernel, rfl, by decide +kernel, by decide +kernel⟩
theorem ok_Kinds_can_add {f : Addr} {fd : FuncData} (F : Fun K "can_add" "Kinds.can_add" s_Kinds_can_add f fd) (T : Txt K mg C_Kinds C_BadKinds C_SilentswapsError C_BadLine G_RESERVED) (U_is_name : Use P w K mg base 4 "is_name" ["thing"] (sp_is_name)) :
    FnOk P w K mg base CX0 6 f fd ["self", "entry"] (sp_Kinds_can_add K C_Kinds) := by
  refine F.ok sc_Kinds_can_add (fun vs H Q E h => ?_) (fun cdv A outer s H vs Q E hr h => ?_)
  · obtain ⟨a, dx, nt, fs, ns, v, d, rfl, _⟩ := h
    rfl
  · obtain ⟨a, dx, nt, fs, ns, v, d, rfl, ha, hf, hn, hD, hs, q⟩ := h
    have hu := hu_of hr
    have hu64 := hr.units
    refine ⟨_, (pss_cons (ps_if (pt_cutT (PW.pt (pw_or (pt_not (pt_val (pe_callB (K_isi (K := K) rfl) (by rfl) T.z_isinstance (by decide +kernel) (pa_cons (pv 1) (pa_cons (pe_bltn (v := .ty "tuple") (u := .type "tuple") (by rfl) T.z_tuple (by decide +kernel) rfl) pa_nil))))) (pw_or1 (pt_cmpR op_ne (pe_callB (K_len (K := K) rfl) (by rfl) T.z_len (by decide +kernel) (pa_cons (pv 1) pa_nil)) pe_int (nomark _))))))
          (pss_one (ps_ret pe_bl))
          pss_nil)
        (pss_cons (ps_if (pt_cutT (PW.pt (pw_or (pt_not (pt_val (pe_use U_is_name (hr.mono (by decide)) (by rfl) (pa_cons (pe_ix (K_ixT (K := K) rfl) (pv 1) pe_int (fun _ _ => rfl)) pa_nil)))) (pw_or (pt_cmpR (K_in (K := K) rfl) (pe_ix (K_ixT (K := K) rfl) (pv 1) pe_int (fun _ _ => rfl)) (K_fld (K := K) rfl (pv 0) rfl) (by with_unfolding_all rfl)) (pw_or1 (pt_not (pt_val (pe_callB (K_isiT (K := K) rfl) (by rfl) T.z_isinstance (by decide +kernel) (pa_cons (pe_ix (K_ixT (K := K) rfl) (pv 1) pe_int (fun _ _ => rfl)) (pa_cons (pe_tup (pa_cons (pe_bltn (v := .ty "list") (u := .type "list") (by rfl) T.z_list (by decide +kernel) rfl) (pa_cons (pe_bltn (v := .ty "tuple") (u := .type "tuple") (by rfl) T.z_tuple (by decide +kernel) rfl) pa_nil))) pa_nil))))))))))
          (pss_one (ps_ret pe_bl))
          pss_nil)
        (pss_cons (ps_set (i := 2) sc_Kinds_can_add.nd rfl (by first | exact Or.inl rfl | exact Or.inr rfl) (pe_lst pa_nil))
        (pss_cons (ps_for PassesOwn.never (by rfl) (K_pis (K := K) rfl (pe_ix (K_ixT (K := K) rfl) (pv 1) pe_int (fun _ _ => rfl))) (pg_name (i := 3) sc_Kinds_can_add.nd rfl (by first | exact Or.inl rfl | exact Or.inr rfl))
          (pss_cons (ps_if (pt_cutT (PW.pt (pw_or (pt_not (pt_val (pe_callB (K_isi (K := K) rfl) (by rfl) T.z_isinstance (by decide +kernel) (pa_cons (pv 3) (pa_cons (pe_bltn (v := .ty "str") (u := .type "str") (by rfl) T.z_str (by decide +kernel) rfl) pa_nil))))) (pw_or (pt_cmpR (K_notIn (K := K) rfl) (pv 3) (K_fld (K := K) rfl (pv 0) rfl) (by with_unfolding_all rfl)) (pw_or1 (pt_cmpR (K_in (K := K) rfl) (pv 3) (pv 2) (by with_unfolding_all rfl)))))))
            (pss_one (ps_ret pe_bl))
            pss_nil)
          (pss_one (ps_expr (K_bm (K := K) rfl PySem.F.plainAttrs_list PySem.F.slot_list_append PySem.F.type_list_append mt_append (pv 2) (pa_cons (pv 3) pa_nil))))))
        (pss_one (ps_ret pe_bl)))))), ?_⟩
    walk_at "S"
    refine r_cutT (fun b H' => H = H' ∧ ∀ c, b = c → (c = true → declares ns d = false) ∧ (c = false → ∃ t v0 v1 d0 d1, v = .ref t ∧ d = .tuple [d0, d1] ∧ H t = some (.tup [v0, v1]) ∧ Dt [] H v0 d0 ∧ Dt [] H v1 d1)) ?_ ?_
    · walk_at "S"
      refine r_isiTup hD ?_
      walk_at "S"
      refine r_kOr (fun c => ?_) (fun c => ?_)
      · refine ⟨rfl, fun _ e => ⟨fun _ => ?_, fun z => ?_⟩⟩
        · cases d <;> first | rfl | cases c
        · rw [← e] at z
          cases z
      have c' : isTup d = true := by simpa using c
      obtain ⟨ds, rfl⟩ : ∃ ds, d = .tuple ds := by
        cases d <;> first | exact ⟨_, rfl⟩ | cases c'
      obtain ⟨t, xs, rfl, _, et, al⟩ := hD.tuple
      walk_at "S"
      refine r_lenT (SqT.of et) ?_
      walk_at "S"
      have hl := al.length
      refine ⟨rfl, fun e he => ⟨fun z => declares_len fun y => ?_, fun z => ?_⟩⟩
      · subst he
        have : decide (((xs.length : Nat) : Int) = 2) = true := decide_eq_true (by omega)
        rw [this] at z
        cases z
      · subst he
        have z : decide (((xs.length : Nat) : Int) = 2) = true := by simpa using z
        have z := of_decide_eq_true z
        obtain ⟨v0, v1, d0, d1, rfl, rfl, h0, h1⟩ := Dt.pairOf al (by omega)
        exact ⟨t, v0, v1, d0, d1, rfl, rfl, et, h0, h1⟩
    rintro b H' ⟨rfl, hb⟩
    refine r_kIfS (fun c => ?_) (fun c => ?_)
    all_goals walk_at "S"
    · rw [← (hb b rfl).1 c]
      exact q H (Kp.refl _ _)
    obtain ⟨t, v0, v1, d0, d1, rfl, rfl, et, h0, h1⟩ := (hb b rfl).2 c
    clear hb c b hD
    refine r_cutT (fun b H' => Kp [] H H' ∧ ∀ c, b = c → (c = true → declares ns (.tuple [d0, d1]) = false) ∧ (c = false → ∃ w l, d0 = .str w ∧ seqOf d1 = some l ∧ declares ns (.tuple [d0, d1]) = basesOk ns l [])) ?_ ?_
    · walk_at "S"
      refine r_ixT (SqT.of et) (atI_nat (j := 0) rfl) ?_
      walk_at "S"
      refine ⟨v0, d0, rfl, h0, hs.1, fun H1 k1 => ?_⟩
      walk_at "S"
      refine r_kOr (fun c => ?_) (fun c => ?_)
      · refine ⟨k1, fun _ e => ⟨fun _ => ?_, fun z => ?_⟩⟩
        · have c' : isName d0 = false := by simpa using c
          rw [declares_pair, c']
          rfl
        · rw [← e] at z
          cases z
      have c0 : isName d0 = true := by simpa using c
      obtain ⟨w, rfl⟩ := isName_str c0
      cases h0
      have et1 := k1 _ _ et not_nil
      walk_at "S"
      refine r_ixT (SqT.of et1) (atI_nat (j := 0) rfl) ?_
      walk_at "S"
      refine r_kFld (k1 _ _ ha not_nil) T.c_Kinds T.na_Kinds_names hf ?_
      refine r_inT (SqT.of (k1 _ _ hn not_nil)) ?_
      walk_at "S"
      refine r_kOr (fun c => ?_) (fun c => ?_)
      · refine ⟨k1, fun _ e => ⟨fun _ => ?_, fun z => ?_⟩⟩
        · rw [declares_pair, show nameOf (.str w) = some w from rfl]
          show (isName (.str w) && !decide (w ∈ ns) && _) = false
          rw [c]
          simp
        · rw [← e] at z
          cases z
      have c1 : decide (w ∈ ns) = false := c
      walk_at "S"
      refine r_ixT (SqT.of et1) (atI_nat (j := 1) rfl) ?_
      walk_at "S"
      refine r_kTup (by show 2 ≤ sizeLine; decide) fun tp H2 ntp k2 etp => ?_
      walk_at "S"
      refine r_isiLT ((h1.mono k1).mono k2) etp ?_
      walk_at "S"
      have e2 : declares ns (.tuple [.str w, d1]) = (match seqOf d1 with | some l => basesOk ns l [] | none => false) := by
        rw [declares_pair, c0]
        show (true && !decide (w ∈ ns) && _) = _
        rw [c1]
        rfl
      refine ⟨k1.trans k2, fun e he => ⟨fun z => ?_, fun z => ?_⟩⟩
      · subst he
        rw [e2]
        cases d1 <;> first | rfl | cases z
      · subst he
        cases d1 <;> first | exact ⟨_, _, rfl, rfl, e2⟩ | cases z
    rintro b H1 ⟨k1, hb⟩
    refine r_kIfS (fun c => ?_) (fun c => ?_)
    all_goals walk_at "S"
    · rw [← (hb b rfl).1 c]
      exact q H1 k1
    obtain ⟨w, l, rfl, hl, e0⟩ := (hb b rfl).2 c
    clear hb c b
    have hll : l.length ≤ 1000 := hs.2 l hl
    refine r_kLst (xs := []) (Nat.zero_le _) fun F H2 nF k2 eF => ?_
    have k02 := k1.trans k2
    walk_at "S"
    refine r_ixT (SqT.of (k02 _ _ et not_nil)) (atI_nat (j := 1) rfl) ?_
    obtain ⟨p, ys, rfl, hp, al⟩ : ∃ p ys, v1 = .ref p ∧ (H p = some (.lst ys) ∨ H p = some (.tup ys)) ∧ DtAll [] H ys l := by
      cases d1 with
      | list l' =>
        cases hl
        obtain ⟨p, ys, rfl, _, e, al⟩ := h1.list
        exact ⟨p, ys, rfl, .inl e, al⟩
      | tuple l' =>
        cases hl
        obtain ⟨p, ys, rfl, _, e, al⟩ := h1.tuple
        exact ⟨p, ys, rfl, .inr e, al⟩
      | _ => cases hl
    have hq : Sq K H2 p ys := hp.elim (fun e => .inl (SqL.of (k02 _ _ e not_nil))) fun e => .inr (SqT.of (k02 _ _ e not_nil))
    have Fp : F ≠ p := hp.elim (fun e => ne_none (k1 _ _ e not_nil) nF) fun e => ne_none (k1 _ _ e not_nil) nF
    have Fa : F ≠ a := ne_none (k1 _ _ ha not_nil) nF
    have Fn : F ≠ nt := ne_none (k1 _ _ hn not_nil) nF
    have hylen := al.length
    refine r_kForQ (fun i σ' H' => ∃ (seen : List Str) (v3 : Option V), σ' = [some (.ref a), some (.ref t), some (.ref F), v3] ∧ Kp [F] H2 H' ∧ H' F = some (.lst (seen.map V.str)) ∧ seen.length = i ∧ basesOk ns l [] = basesOk ns (l.drop i) seen) hq
      ⟨[], none, rfl, Kp.refl _ _, eF, rfl, rfl⟩ (fun i σ' H' _ h => by
        obtain ⟨_, _, _, k, _⟩ := h
        exact ⟨[F], not_one Fp.symm, k⟩) ?_ ?_
    · rintro i x σ' H3 hx ⟨seen, v3, rfl, k3, e3, hsn, hbo⟩
      obtain ⟨d, hd, hxd⟩ := al.at hx
      have hsm : seen.length ≤ 1000 := by
        have := lt_at hd
        omega
      rw [drop_at hd] at hbo
      have k23 : Kp [] H1 H3 := k2.step nF (k3.mono fun b hb => hb) |> fun z => z
      have hx3 : Dt [] H3 x d := (hxd.mono k1).mono k23
      walk_at "S"
      refine r_cutT (fun b H' => H3 = H' ∧ ∀ c, b = c → (c = true → basesOk ns l [] = false) ∧ (c = false → ∃ u, d = .str u ∧ x = .str u ∧ u ∈ ns ∧ u ∉ seen)) ?_ ?_
      · walk_at "S"
        refine r_isiStr hx3 ?_
        walk_at "S"
        refine r_kOr (fun c => ?_) (fun c => ?_)
        · refine ⟨rfl, fun _ e => ⟨fun _ => ?_, fun z => ?_⟩⟩
          · rw [hbo]
            cases d <;> first | rfl | cases c
          · rw [← e] at z
            cases z
        have c' : isStr d = true := by simpa using c
        obtain ⟨u, rfl⟩ : ∃ u, d = .str u := by
          cases d <;> first | exact ⟨_, rfl⟩ | cases c'
        cases hx3
        have hbo' : basesOk ns l [] = (decide (u ∈ ns) && !decide (u ∈ seen) && basesOk ns (l.drop (i + 1)) (seen ++ [u])) := hbo
        walk_at "S"
        refine r_kFld (k23 _ _ (k1 _ _ ha not_nil) not_nil) T.c_Kinds T.na_Kinds_names hf ?_
        refine r_ninT (SqT.of (k23 _ _ (k1 _ _ hn not_nil) not_nil)) ?_
        walk_at "S"
        refine r_kOr (fun c => ?_) (fun c => ?_)
        · refine ⟨rfl, fun _ e => ⟨fun _ => ?_, fun z => ?_⟩⟩
          · have c2 : decide (u ∈ ns) = false := by simpa using c
            rw [hbo', c2]
            rfl
          · rw [← e] at z
            cases z
        have c2 : decide (u ∈ ns) = true := by simpa using c
        walk_at "S"
        refine r_inL (SqL.of e3) ?_
        walk_at "S"
        refine ⟨rfl, fun e he => ⟨fun z => ?_, fun z => ⟨u, rfl, rfl, of_decide_eq_true c2, ?_⟩⟩⟩
        · subst he
          rw [hbo', z]
          simp
        · subst he
          exact of_decide_eq_false z
      rintro b H' ⟨rfl, hb⟩
      refine r_kIfS (fun c => ?_) (fun c => ?_)
      all_goals walk_at "S"
      · have e1 := (hb b rfl).1 c
        rw [← e0] at e1
        rw [← e1]
        exact q H3 (k1.trans k23)
      obtain ⟨u, rfl, rfl, hu1, hu2⟩ := (hb b rfl).2 c
      refine r_kBMl (SqL.of e3) ?_
      walk_at "S"
      refine r_append e3 ?_ fun H4 k4 e4 => ?_
      · rw [List.length_map]
        have : 1001 ≤ sizeLine := by decide
        omega
      walk_at "S"
      refine ⟨seen ++ [u], _, rfl, k3.trans k4, ?_, ?_, ?_⟩
      · rw [List.map_append]
        exact e4
      · rw [List.length_append, hsn]
        rfl
      · rw [hbo]
        show (decide (u ∈ ns) && !decide (u ∈ seen) && _) = _
        rw [decide_eq_true hu1, decide_eq_false hu2]
        rfl
    · rintro σ' H3 ⟨seen, v3, rfl, k3, e3, hsn, hbo⟩
      walk_at "S"
      have e1 : declares ns (.tuple [.str w, d1]) = true := by
        rw [e0, hbo, hylen, List.drop_length]
        rfl
      rw [← e1]
      exact q H3 (k1.trans (k2.step nF k3))

/-! ### kinds as they stand -/
def kf (nt et : Addr) : List (Str × V) := [("names", .ref nt), ("entries", .ref et)]
theorem ne_en : ¬ (("names" : Str) = "entries") := by decide +kernel
theorem kf_n (nt et : Addr) : (kf nt et).lookup ("names" : Str) = some (.ref nt) := by
  have e : kf nt et = putF "entries" (.ref et) (putF "names" (.ref nt) []) := by
    show ([("names", V.ref nt), ("entries", V.ref et)] : List (Str × V)) = if ("names" : Str) = "entries" then _ else (("names" : Str), V.ref nt) :: putF "entries" (.ref et) []
    rw [if_neg ne_en]
    rfl
  rw [e, lookup_putF, if_neg ne_en, lookup_putF, if_pos rfl]
theorem kf_put (nt et : Addr) : putF "entries" (.ref et) (putF "names" (.ref nt) []) = kf nt et := by
  show (if ("names" : Str) = "entries" then _ else (("names" : Str), V.ref nt) :: putF "entries" (.ref et) []) = ([("names", V.ref nt), ("entries", V.ref et)] : List (Str × V))
  rw [if_neg ne_en]
  rfl
theorem kf_e (nt et : Addr) : (kf nt et).lookup ("entries" : Str) = some (.ref et) := by
  rw [← kf_put, lookup_putF, if_pos rfl]
theorem kf_no (nt et : Addr) {m : Str} (h1 : ¬ m = "names") (h2 : ¬ m = "entries") : (kf nt et).lookup m = none := by
  rw [← kf_put, lookup_putF, if_neg h2, lookup_putF, if_neg h1]
  all_goals rfl
theorem kf_pn (nt et n' : Addr) : putF "names" (.ref n') (kf nt et) = kf n' et := by
  show (if ("names" : Str) = "names" then (("names" : Str), V.ref n') :: [("entries", V.ref et)] else _) = _
  rw [if_pos rfl]
  rfl
theorem kf_pe (nt et e' : Addr) : putF "entries" (.ref e') (kf nt et) = kf nt e' := by
  show (if ("names" : Str) = "entries" then _ else (("names" : Str), V.ref nt) :: (if ("entries" : Str) = "entries" then (("entries" : Str), V.ref e') :: [] else _)) = _
  rw [if_neg ne_en, if_pos rfl]
  rfl
abbrev Ent := Str × List Str
def entD (e : Ent) : PyData := .tuple [.str e.1, .tuple (e.2.map .str)]
structure KindsAt (C : Addr) (ex : List Addr) (H : Hp) (a : Addr) (es : List Ent) : Prop where
  ob : ∃ dx nt et, a ∉ ex ∧ nt ∉ ex ∧ H a = some (.ins C dx (kf nt et)) ∧ H nt = some (.tup ((es.map Prod.fst).map V.str)) ∧ Dt ex H (.ref et) (.tuple (es.map entD))
theorem KindsAt.kp {C : Addr} {ex : List Addr} {H H' : Hp} {a : Addr} {es : List Ent} (h : KindsAt C ex H a es) (k : Kp ex H H') : KindsAt C ex H' a es := by
  obtain ⟨dx, nt, et, h1, h2, h3, h4, h5⟩ := h.ob
  exact ⟨dx, nt, et, h1, h2, k _ _ h3 h1, k _ _ h4 h2, h5.mono k⟩
theorem KindsAt.less {C : Addr} {ex ex' : List Addr} {H : Hp} {a : Addr} {es : List Ent} (h : KindsAt C ex H a es) (s : ∀ b ∈ ex', b ∈ ex) : KindsAt C ex' H a es := by
  obtain ⟨dx, nt, et, h1, h2, h3, h4, h5⟩ := h.ob
  exact ⟨dx, nt, et, fun m => h1 (s _ m), fun m => h2 (s _ m), h3, h4, h5.less s⟩
theorem KindsAt.skip {C : Addr} {ex : List Addr} {H : Hp} {a b : Addr} {es : List Ent} {o : HO} (h : KindsAt C ex H a es) (e : H b = some o) (n1 : ∀ xs, o ≠ .lst xs) (n2 : ∀ xs, o ≠ .tup xs) (n3 : ∀ D dx fs, o ≠ .ins D dx fs) : KindsAt C (b :: ex) H a es := by
  obtain ⟨dx, nt, et, h1, h2, h3, h4, h5⟩ := h.ob
  refine ⟨dx, nt, et, fun m => ?_, fun m => ?_, h3, h4, h5.skip e n1 n2⟩
  · rcases List.mem_cons.mp m with rfl | m
    · rw [e] at h3
      exact n3 _ _ _ (Option.some.inj h3)
    · exact h1 m
  · rcases List.mem_cons.mp m with rfl | m
    · rw [e] at h4
      exact n2 _ (Option.some.inj h4)
    · exact h2 m

/-! ### Kinds(entries), all of them right -/
def strsOf (l : List PyData) : List Str := l.filterMap nameOf
def toEnt : PyData → Ent
  | .tuple [.str w, d1] => (w, strsOf ((seqOf d1).getD []))
  | _ => ("", [])
theorem basesOk_strs {ns : List Str} : ∀ {l : List PyData} {seen : List Str}, basesOk ns l seen = true → l = (strsOf l).map .str
  | [], _, _ => rfl
  | d :: l, seen, h => by
    cases d with
    | str b =>
      have h' : (decide (b ∈ ns) && !decide (b ∈ seen) && basesOk ns l (seen ++ [b])) = true := h
      rw [Bool.and_eq_true] at h'
      have ih := basesOk_strs h'.2
      show PyData.str b :: l = PyData.str b :: (strsOf l).map PyData.str
      rw [← ih]
    | _ => cases h
theorem declares_get {ns : List Str} {d : PyData} (h : declares ns d = true) : ∃ w d1 l, d = .tuple [.str w, d1] ∧ NameOk w ∧ w ∉ ns ∧ seqOf d1 = some l ∧ basesOk ns l [] = true := by
  cases d with
  | tuple ds =>
    by_cases hl : ds.length = 2
    · match ds, hl with
      | [d0, d1], _ =>
        rw [declares_pair, Bool.and_eq_true, Bool.and_eq_true] at h
        obtain ⟨⟨h1, h2⟩, h3⟩ := h
        obtain ⟨w, rfl⟩ := isName_str h1
        cases e : seqOf d1 with
        | none =>
          rw [e] at h3
          cases h3
        | some l =>
          rw [e] at h3
          refine ⟨w, d1, l, rfl, (isName_iff w).mp h1, ?_, e, h3⟩
          have h2 : (!decide (w ∈ ns)) = true := h2
          simpa using h2
    · rw [declares_len hl] at h
      cases h
  | _ => cases h

abbrev s_BadKinds___init__ : Stmt := inClass (top 3) 0
theorem ok_BadKinds___init__ {f : Addr} {fd : FuncData} {C : Addr} (F : SFun P K mg "BadKinds.__init__" s_BadKinds___init__ C f fd) (nf : PySem.W.findIn K (.ref C) "at" = some none) : FnOk P w K mg base CX0 1 f fd ["self", "at"] (sp_exc1 "at" C) := by
  obtain ⟨oc, kV, doc, pm, ct, cl, od, an, cld, cda, cc, osl, csl, rfl, lk, hcd, cell, Z⟩ := F.ex
  refine fn_sup (N := ["self", "at", "__class__"]) lk hcd cell (nscope_by (by decide +kernel)) (fun vs H Q E h => ?_) (fun A outer s H vs Q E hr h => ?_)
  · obtain ⟨a, v, rfl, _⟩ := h
    rfl
  · obtain ⟨a, v, rfl, ha, q⟩ := h
    exact ⟨_, qs_sup (params := defArgs s_BadKinds___init__) (body := defBody s_BadKinds___init__) (scope := defScope s_BadKinds___init__) (pl := _) lk cell Z rfl rfl rfl rfl rfl rfl rfl rfl rfl rfl (qs_of (pss_one (ps_ost (pv 0) (pv 1) rfl))), r_sup rfl ha (r_ost rfl rfl Z.oex nf ha q)⟩
def dueFrom : Nat → List Str → List PyData → Option Nat
  | _, _, [] => none
  | i, ns, d :: r => if i = 4 ∨ declares ns d = false then some i else dueFrom (i + 1) (ns ++ [(toEnt d).1]) r
/-- the first declaration that is wrong, or one too many -/
def due (ds : List PyData) : Option Nat := dueFrom 0 [] ds
def refused (d : PyData) : Option Int := match seqOf d with
  | none => some (-1)
  | some l => (due l).map fun (i : Nat) => (i : Int)
theorem dueFrom_yes {i : Nat} {ns : List Str} {d : PyData} {r : List PyData} (h : i = 4 ∨ declares ns d = false) : dueFrom i ns (d :: r) = some i := by
  show (if i = 4 ∨ declares ns d = false then some i else _) = _
  rw [if_pos h]
theorem dueFrom_no {i : Nat} {ns : List Str} {d : PyData} {r : List PyData} (h : ¬ (i = 4 ∨ declares ns d = false)) : dueFrom i ns (d :: r) = dueFrom (i + 1) (ns ++ [(toEnt d).1]) r := by
  show (if i = 4 ∨ declares ns d = false then some i else _) = _
  rw [if_neg h]
def sp_Kinds___init__ (K : PySem.W.Frag) (C CB : Addr) : Sp := fun vs H Q E => ∃ (a dx : Addr) (v : V) (d : PyData), vs = [.ref a, v] ∧ H a = some (.ins C dx []) ∧ Dt [] H v d ∧ (∀ l, seqOf d = some l → l.length ≤ 1000 ∧ ∀ x ∈ l, Small x) ∧
  (∀ H' l, Kp [a] H H' → seqOf d = some l → due l = none → KindsAt C [] H' a (l.map toEnt) → Q .non H') ∧
  ∀ e n H', refused d = some n → Kp [a] H H' → H' e = some (.xd [("at", .int n)]) → E (.ref CB) (some e) H'
theorem r_tupleD {K : PySem.W.Frag} {H : Hp} {Q : VK} {p : Addr} {xs : List V} (h : H p = some (.lst xs) ∨ H p = some (.tup xs)) (q : ∀ l H', Kp [] H H' → H' l = some (.tup xs) → Q (.ref l) H') : cTuple K [.ref p] H Q :=
  h.elim (fun e => r_tupleL (SqL.of e) fun l H' _ k e' => q l H' k e') fun e => r_tupleT (SqT.of e) (q p H (Kp.refl _ _) e)
theorem isSeq_seqOf (d : PyData) : (isLst d || isTup d) = (seqOf d).isSome := by cases d <;> rfl
abbrev s_Kinds___init__ : Stmt := inClass (top 12) 0
theorem sc_Kinds___init__ : FnScope ["self", "entries", "at", "entry"] ["self", "entries"] (defScope s_Kinds___init__) :=
  ⟨rfl, rfl, rfl, by decide +kernel, rfl, by decide +kernel, by decide +kernel⟩
theorem ok_Kinds___init__ {f : Addr} {fd : FuncData} (F : Fun K "__init__" "Kinds.__init__" s_Kinds___init__ f fd) (T : Txt K mg C_Kinds C_BadKinds C_SilentswapsError C_BadLine G_RESERVED) (U_Kinds_can_add : UseM P w K mg base 6 C_Kinds "can_add" (sp_Kinds_can_add K C_Kinds)) (U_BadKinds : Exc1 P w K mg base 1 "BadKinds" "at" C_BadKinds) :
    FnOk P w K mg base (L2.CX P w) 8 f fd ["self", "entries"] (sp_Kinds___init__ K C_Kinds C_BadKinds) := by
  refine F.okX sc_Kinds___init__ (fun vs H Q E h => ?_) (fun cdv A outer s H vs Q E hr h => ?_)
  · obtain ⟨a, dx, v, d, rfl, _⟩ := h
    rfl
  · obtain ⟨a, dx, v, d, rfl, ha, hD, hbd, q, qE⟩ := h
    obtain ⟨f_Kinds_can_add, R_Kinds_can_add, M_Kinds_can_add⟩ := U_Kinds_can_add
    have hu := hu_of hr
    have hu64 := hr.units
    refine ⟨_, (pss_cons (ps_if (pt_not (pt_val (pe_callB (K_isiT (K := K) rfl) (by rfl) T.z_isinstance (by decide +kernel) (pa_cons (pv 1) (pa_cons (pe_tup (pa_cons (pe_bltn (v := .ty "list") (u := .type "list") (by rfl) T.z_list (by decide +kernel) rfl) (pa_cons (pe_bltn (v := .ty "tuple") (u := .type "tuple") (by rfl) T.z_tuple (by decide +kernel) rfl) pa_nil))) pa_nil)))))
          (pss_one (ps_raise1 U_BadKinds (hr.mono (by decide)) (by rfl) (takes_of rfl rfl rfl rfl) (by rfl) (pa_cons (pe_un un_neg pe_int) pa_nil)))
          pss_nil)
        (pss_cons (ps_fld (pv 0) (pe_tup pa_nil) rfl)
        (pss_cons (ps_fld (pv 0) (pe_tup pa_nil) rfl)
        (pss_one (ps_for (passes_of rfl) (by rfl) (K_enumQ (K := K) rfl (by rfl) T.z_enumerate (pa_cons (pv 1) pa_nil)) (K_gtup (K := K) (n := 2) rfl (by rfl) (pgs_cons (pg_name (i := 2) sc_Kinds___init__.nd rfl (by first | exact Or.inl rfl | exact Or.inr rfl)) (pgs_cons (pg_name (i := 3) sc_Kinds___init__.nd rfl (by first | exact Or.inl rfl | exact Or.inr rfl)) pgs_nil)))
          (pss_cons (ps_if (pt_cutT (PW.pt (pw_or (pt_cmpR op_eq (pv 2) (pe_globE T.g_MOST_KINDS (by rfl)) (nomark _)) (pw_or1 (pt_not (pt_val (pe_methR (pv 0) T.c_Kinds M_Kinds_can_add R_Kinds_can_add (hr.mono (by decide)) pass0 (pa_cons (pv 3) pa_nil))))))))
            (pss_one (ps_raise1 U_BadKinds (hr.mono (by decide)) (by rfl) (takes_of rfl rfl rfl rfl) (by rfl) (pa_cons (pv 2) pa_nil)))
            pss_nil)
          (pss_cons (ps_fld (pv 0) (pe_op (K_catT (K := K) rfl) (K_fld (K := K) rfl (pv 0) rfl) (pe_tup (pa_cons (pe_ix (K_ixT (K := K) rfl) (pv 3) pe_int (fun _ _ => rfl)) pa_nil))) rfl)
          (pss_one (ps_fld (pv 0) (pe_op (K_catT (K := K) rfl) (K_fld (K := K) rfl (pv 0) rfl) (pe_tup (pa_cons (pe_tup (pa_cons (pe_ix (K_ixT (K := K) rfl) (pv 3) pe_int (fun _ _ => rfl)) (pa_cons (pe_callTy (K_tuple (K := K) rfl) (by rfl) T.z_tuple (by decide +kernel) (pa_cons (pe_ix (K_ixT (K := K) rfl) (pv 3) pe_int (fun _ _ => rfl)) pa_nil)) pa_nil))) pa_nil))) rfl))))))))), ?_⟩
    walk_at "S"
    refine r_kTup (by show 2 ≤ sizeLine; decide) fun tp H1 n1 k1 e1 => ?_
    walk_at "S"
    refine r_isiLT (hD.mono k1) e1 ?_
    rw [isSeq_seqOf]
    walk_at "S"
    refine r_kIfS (fun c => ?_) (fun c => ?_)
    · refine r_raise1 ?_
      walk_at "S"
      refine r_kMkO fun e H2 ne k2 e2 => ?_
      refine qE e _ H2 ?_ (k1.trans k2).nil e2
      unfold refused
      cases hs : seqOf d with
      | none => rfl
      | some l =>
        rw [hs] at c
        cases c
    walk_at "S"
    obtain ⟨ds, hds⟩ : ∃ ds, seqOf d = some ds := by
      cases hs : seqOf d with
      | none =>
        rw [hs] at c
        cases c
      | some l => exact ⟨l, rfl⟩
    obtain ⟨hlen1000, hsmall⟩ := hbd ds hds
    obtain ⟨l, xs, rfl, el, al⟩ : ∃ l xs, v = .ref l ∧ (H l = some (.lst xs) ∨ H l = some (.tup xs)) ∧ DtAll [] H xs ds := by
      cases d with
      | list l' =>
        cases hds
        obtain ⟨p, ys, rfl, _, e, al⟩ := hD.list
        exact ⟨p, ys, rfl, .inl e, al⟩
      | tuple l' =>
        cases hds
        obtain ⟨p, ys, rfl, _, e, al⟩ := hD.tuple
        exact ⟨p, ys, rfl, .inr e, al⟩
      | _ => cases hds
    have href : ∀ i : Nat, due ds = some i → refused d = some (i : Int) := fun i hi => by
      unfold refused
      rw [hds]
      show (due ds).map _ = _
      rw [hi]
      rfl
    have la : l ≠ a := el.elim (fun e => ne_of e ha fun z => nomatch z) fun e => ne_of e ha fun z => nomatch z
    have hlen := al.length
    refine r_kTup (xs := []) (Nat.zero_le _) fun nt H2 n2 k2 e2 => ?_
    walk_at "S"
    have ha2 := (k1.trans k2) _ _ ha not_nil
    refine r_kSF ha2 T.c_Kinds T.na_Kinds_names (Nat.zero_lt_succ _) fun H3 k3 e3 => ?_
    walk_at "S"
    refine r_kTup (xs := []) (Nat.zero_le _) fun et H4 n4 k4 e4 => ?_
    walk_at "S"
    refine r_kSF (k4 _ _ e3 not_nil) T.c_Kinds T.na_Kinds_entries (by show 1 < 1000; decide) fun H5 k5 e5 => ?_
    rw [kf_put] at e5
    have nta : nt ≠ a := ne_none (k1 _ _ ha not_nil) n2
    have eta : et ≠ a := ne_none e3 n4
    have k05 : Kp [a] H H5 := ((k1.trans k2).nil.trans k3).trans (k4.nil.trans k5)
    have el5 : Sq K H5 l xs := el.elim (fun e => .inl (SqL.of (k05 _ _ e (not_one la)))) fun e => .inr (SqT.of (k05 _ _ e (not_one la)))
    have al5 : DtAll [a] H5 xs ds := (al.skip ha (fun _ z => nomatch z) (fun _ z => nomatch z)).mono k05
    have e2' := k5 _ _ (k4 _ _ (k3 _ _ e2 (not_one nta)) not_nil) (not_one nta)
    have e4' := k5 _ _ e4 (not_one eta)
    walk_at "S"
    refine r_enumQ ?_
    walk_at "S"
    refine r_kForE (fun i σ' H' => ∃ (nt et dx : Addr) (v2 v3 : Option V), σ' = [some (.ref a), some (.ref l), v2, v3] ∧ Kp [a] H5 H' ∧ H' a = some (.ins C_Kinds dx (kf nt et)) ∧ nt ≠ a ∧ i ≤ 4 ∧ due ds = dueFrom i (((ds.take i).map toEnt).map Prod.fst) (ds.drop i) ∧
        H' nt = some (.tup ((((ds.take i).map toEnt).map Prod.fst).map V.str)) ∧ Dt [a] H' (.ref et) (.tuple (((ds.take i).map toEnt).map entD))) el5
      ⟨nt, et, dx, none, none, rfl, Kp.refl _ _, e5, nta, Nat.zero_le _, rfl, e2', .tup (not_one eta) e4' .nil⟩ (fun i σ' H' _ h => by
        obtain ⟨_, _, _, _, _, _, k, _⟩ := h
        exact ⟨[a], not_one la, k⟩) ?_ ?_
    · rintro i v t σ' H6 H7 hx ⟨nt, et, dx, v2, v3, rfl, k6, ea, nta, hi4, hdue, en, hE⟩ ntt k7 e7
      obtain ⟨d, hd, hxd⟩ := al5.at hx
      have hx6 : Dt [a] H6 v d := hxd.mono k6
      have hsm : Small d := hsmall d (mem_at hd)
      rw [drop_at hd] at hdue
      refine r_gtup (SqT.of e7) rfl ?_
      walk_at "S"
      refine r_cutT (fun b H' => Kp [] H7 H' ∧ ∀ c, b = c → (c = true → due ds = some i) ∧ (c = false → i < 4 ∧ declares (((ds.take i).map toEnt).map Prod.fst) d = true)) ?_ ?_
      · walk_at "S"
        refine r_kOr (fun c => ?_) (fun c => ?_)
        · have c' : (i : Int) = 4 := of_decide_eq_true c
          refine ⟨Kp.refl _ _, fun e he => ⟨fun _ => ?_, fun z => ?_⟩⟩
          · rw [hdue]
            exact dueFrom_yes (.inl (by omega))
          · rw [← he] at z
            cases z
        have c4 : ¬ (i : Int) = 4 := of_decide_eq_false c
        walk_at "S"
        refine r_kMeth (k7 _ _ ea not_nil) (kf_no _ _ (by decide +kernel) (by decide +kernel)) ?_
        walk_at "S"
        refine ⟨a, dx, nt, _, _, _, d, rfl, k7 _ _ ea not_nil, kf_n _ _, k7 _ _ en not_nil, (hx6.less fun _ m => absurd m not_nil).mono k7, hsm, fun H8 k8 => ?_⟩
        walk_at "S"
        refine ⟨k8, fun e he => ⟨fun z => ?_, fun z => ⟨by omega, ?_⟩⟩⟩
        · rw [hdue]
          refine dueFrom_yes (.inr ?_)
          rw [← he] at z
          simpa using z
        · rw [← he] at z
          simpa using z
      rintro b H8 ⟨k8, hb⟩
      refine r_kIfS (fun c => ?_) (fun c => ?_)
      · refine r_raise1 ?_
        walk_at "S"
        refine r_kMkO fun e H9 ne k9 e9 => ?_
        exact qE e _ H9 (href i ((hb b rfl).1 c)) (k05.trans (k6.trans ((k7.trans k8).trans k9).nil)) e9
      obtain ⟨hi4', hdec⟩ := (hb b rfl).2 c
      clear hb c b
      obtain ⟨w, d1, bl, rfl, hw, hnin, hseq, hbo⟩ := declares_get hdec
      obtain ⟨tv, ys, rfl, tva, etv, al2⟩ := hx6.tuple
      cases al2 with
      | cons h0 al2 =>
      cases al2 with
      | @cons v1 _ _ _ h1 al2 =>
      cases al2
      cases h0
      have k68 : Kp [] H6 H8 := k7.trans k8
      have ea8 := k68 _ _ ea not_nil
      have etv8 := k68 _ _ etv not_nil
      walk_at "S"
      refine r_kFld ea8 T.c_Kinds T.na_Kinds_names (kf_n _ _) ?_
      walk_at "S"
      refine r_ixT (SqT.of etv8) (atI_nat (j := 0) rfl) ?_
      walk_at "S"
      refine r_kTup (xs := [V.str w]) (by show 1 ≤ sizeLine; decide) fun o1 H9 no1 k9 eo1 => ?_
      refine r_catT' (ys := [V.str w]) (SqT.of (k9 _ _ (k68 _ _ en not_nil) not_nil)) eo1 ?_ (fun z => nomatch z) fun n2 H10 k10 en2 _ => ?_
      · rw [List.length_map, List.length_map, List.length_map, List.length_take]
        have : 5 ≤ sizeLine := by decide
        show _ + 1 ≤ _
        omega
      walk_at "S"
      have k610 := k68.trans (k9.trans k10)
      have ea10 := k610 _ _ ea not_nil
      have n2a : n2 ≠ a := ne_of en2 ea10 fun z => nomatch z
      refine r_kSF ea10 T.c_Kinds T.na_Kinds_names (by show 2 < 1000; decide) fun H11 k11 ea11 => ?_
      rw [kf_pn] at ea11
      walk_at "S"
      refine r_kFld ea11 T.c_Kinds T.na_Kinds_entries (kf_e _ _) ?_
      walk_at "S"
      have k611 : Kp [a] H6 H11 := k610.nil.trans k11
      have etv11 := k611 _ _ etv tva
      refine r_ixT (SqT.of etv11) (atI_nat (j := 0) rfl) ?_
      walk_at "S"
      refine r_ixT (SqT.of etv11) (atI_nat (j := 1) rfl) ?_
      walk_at "S"
      obtain ⟨p, zs, rfl, pa, hp, al3⟩ : ∃ p zs, v1 = .ref p ∧ p ≠ a ∧ (H6 p = some (.lst zs) ∨ H6 p = some (.tup zs)) ∧ DtAll [a] H6 zs bl := by
        cases d1 with
        | list l' =>
          cases hseq
          obtain ⟨p, zs, rfl, m, e, al⟩ := h1.list
          exact ⟨p, zs, rfl, (fun z => m (z ▸ List.mem_singleton.mpr rfl)), .inl e, al⟩
        | tuple l' =>
          cases hseq
          obtain ⟨p, zs, rfl, m, e, al⟩ := h1.tuple
          exact ⟨p, zs, rfl, (fun z => m (z ▸ List.mem_singleton.mpr rfl)), .inr e, al⟩
        | _ => cases hseq
      refine r_tupleD (hp.elim (fun e => .inl (k611 _ _ e (not_one pa))) fun e => .inr (k611 _ _ e (not_one pa))) fun bt H12 k12 ebt => ?_
      walk_at "S"
      have ea12 := k12 _ _ ea11 not_nil
      have bta : bt ≠ a := ne_of ebt ea12 fun z => nomatch z
      refine r_kTup (xs := [V.str w, V.ref bt]) (by show 2 ≤ sizeLine; decide) fun o2 H13 no2 k13 eo2 => ?_
      walk_at "S"
      refine r_kTup (xs := [V.ref o2]) (by show 1 ≤ sizeLine; decide) fun o3 H14 no3 k14 eo3 => ?_
      have k614 : Kp [a] H6 H14 := k611.trans (k12.trans (k13.trans k14)).nil
      obtain ⟨et', es', e, eta, eet, alE⟩ := (hE.mono k614).tuple
      cases e
      have ea14 := (k13.trans k14) _ _ ea12 not_nil
      have o2a : o2 ≠ a := ne_none ea12 no2
      have hlenE := alE.length
      rw [List.length_map, List.length_map, List.length_take] at hlenE
      refine r_catT' (ys := [V.ref o2]) (SqT.of eet) eo3 ?_ (fun z => nomatch z) fun e2 H15 k15 ee2 _ => ?_
      · rw [hlenE]
        have : 5 ≤ sizeLine := by decide
        show _ + 1 ≤ _
        omega
      walk_at "S"
      have ea15 := k15 _ _ ea14 not_nil
      have e2a : e2 ≠ a := ne_of ee2 ea15 fun z => nomatch z
      refine r_kSF ea15 T.c_Kinds T.na_Kinds_entries (by show 2 < 1000; decide) fun H16 k16 ea16 => ?_
      rw [kf_pe] at ea16
      walk_at "S"
      have k1116 : Kp [a] H11 H16 := (k12.trans (k13.trans (k14.trans k15))).nil.trans k16
      have ht : toEnt (.tuple [.str w, d1]) = (w, strsOf bl) := by
        show (w, strsOf ((seqOf d1).getD [])) = _
        rw [hseq]
        rfl
      have htk : (ds.take (i + 1)).map toEnt = (ds.take i).map toEnt ++ [(w, strsOf bl)] := by
        rw [take_map _ hd, ht]
      refine ⟨n2, e2, dx, _, _, rfl, k6.trans (k611.trans k1116), ea16, n2a, by omega, ?_, ?_, ?_⟩
      · rw [htk, List.map_append, hdue, dueFrom_no (by rw [hdec]; simp; omega), ht]
        rfl
      · rw [htk, List.map_append, List.map_append]
        exact k1116 _ _ (k11 _ _ en2 (not_one n2a)) (not_one n2a)
      · rw [htk, List.map_append]
        have hbl := basesOk_strs hbo
        have alB : DtAll [a] H14 zs ((strsOf bl).map .str) := by
          rw [← hbl]
          exact al3.mono k614
        have one : Dt [a] H14 (.ref o2) (entD (w, strsOf bl)) := .tup (not_one o2a) (k14 _ _ eo2 not_nil) (.cons (.str w) (.cons (.tup (not_one bta) ((k13.trans k14) _ _ ebt not_nil) alB) .nil))
        have k1416 : Kp [a] H14 H16 := k15.nil.trans k16
        exact .tup (not_one e2a) (k16 _ _ ee2 (not_one e2a)) ((alE.snoc one).mono k1416)
    · rintro σ' H6 ⟨nt, et, dx, v2, v3, rfl, k6, ea, nta, hi4, hdue, en, hE⟩
      rw [hlen, List.take_length] at en hE
      rw [hlen, List.drop_length] at hdue
      exact q H6 ds (k05.trans k6) hds hdue ⟨dx, nt, et, not_nil, not_nil, ea, en, hE.less fun _ m => absurd m not_nil⟩

/-! ### the refusal as the law asks for it -/
def sp_Kinds___len__ (K : PySem.W.Frag) (C : Addr) : Sp := fun vs H Q _ => ∃ (a dx nt : Addr) (fs : List (Str × V)) (xs : List V), vs = [.ref a] ∧ H a = some (.ins C dx fs) ∧ fs.lookup ("names" : Str) = some (.ref nt) ∧ H nt = some (.tup xs) ∧ Q (.int (xs.length : Nat)) H
abbrev s_Kinds___len__ : Stmt := inClass (top 12) 6
theorem sc_Kinds___len__ : FnScope ["self"] ["self"] (defScope s_Kinds___len__) :=
  ⟨rfl, rfl, rfl, by decide +kernel, rfl, by decide +kernel, by decide +kernel⟩
theorem ok_Kinds___len__ {f : Addr} {fd : FuncData} (F : Fun K "__len__" "Kinds.__len__" s_Kinds___len__ f fd) (T : Txt K mg C_Kinds C_BadKinds C_SilentswapsError C_BadLine G_RESERVED) :
    FnOk P w K mg base CX0 2 f fd ["self"] (sp_Kinds___len__ K C_Kinds) := by
  refine F.ok sc_Kinds___len__ (fun vs H Q E h => ?_) (fun cdv A outer s H vs Q E hr h => ?_)
  · obtain ⟨a, dx, nt, fs, xs, rfl, _⟩ := h
    rfl
  · obtain ⟨a, dx, nt, fs, xs, rfl, ha, hf, hn, q⟩ := h
    have hu := hu_of hr
    have hu64 := hr.units
    refine ⟨_, (pss_one (ps_ret (pe_callB (K_len (K := K) rfl) (by rfl) T.z_len (by decide +kernel) (pa_cons (K_fld (K := K) rfl (pv 0) rfl) pa_nil)))), ?_⟩
    walk_at "S"
    refine r_kFld ha T.c_Kinds T.na_Kinds_names hf ?_
    walk_at "S"
    exact r_lenT (SqT.of hn) q
def Fine (d : PyData) : Prop := ∀ l, seqOf d = some l → l.length ≤ 1000 ∧ ∀ x ∈ l, Small x
def told (d : PyData) : PyData := match refused d with
  | some n => .list [.int n, .bool true, .bool true, .bool false]
  | none => .none
def sp__law_refused (K : PySem.W.Frag) : Sp := fun vs H Q _ => ∃ (v : V) (d : PyData), vs = [v] ∧ Dt [] H v d ∧ Fine d ∧ ∀ x H', Kp [] H H' → Dt [] H' x (told d) → Q x H'
abbrev s__law_refused : Stmt := top 22
theorem sc__law_refused : FnScope ["_law_entries_here", "e"] ["_law_entries_here"] (defScope s__law_refused) :=
  ⟨rfl, rfl, rfl, by decide +kernel, rfl, by decide +kernel, by decide +kernel⟩
theorem ok__law_refused {f : Addr} {fd : FuncData} (F : Fun K "_law_refused" "_law_refused" s__law_refused f fd) (T : Txt K mg C_Kinds C_BadKinds C_SilentswapsError C_BadLine G_RESERVED) (U_Kinds___init__ : UseCX P w K mg base 8 "Kinds" C_Kinds (sp_Kinds___init__ K C_Kinds C_BadKinds)) (U_BadKinds : Exc1 P w K mg base 1 "BadKinds" "at" C_BadKinds) :
    FnOk P w K mg base CX0 10 f fd ["_law_entries_here"] (sp__law_refused K) := by
  refine F.ok sc__law_refused (fun vs H Q E h => ?_) (fun cdv A outer s H vs Q E hr h => ?_)
  · obtain ⟨v, d, rfl, _⟩ := h
    rfl
  · obtain ⟨v, d, rfl, hD, hb, q⟩ := h
    obtain ⟨f_Kinds___init__, R_Kinds___init__, M_Kinds___init__, g_Kinds___init__⟩ := U_Kinds___init__
    have hu := hu_of hr
    have hu64 := hr.units
    refine ⟨_, (pss_cons (ps_try_as (i := 1) (Wout := fun _ _ _ _ => False) rfl rfl sc__law_refused.nd rfl rfl ⟨rfl, by decide, Or.inl U_BadKinds.gC⟩ takes0
          (fun W pn xe tk _ => (pss_one (ps_expr (pe_makeS M_Kinds___init__ R_Kinds___init__ (hr.mono (by decide)) (by rfl) g_Kinds___init__ (fun σ => passAt tk σ) (pa_cons (pv 0) pa_nil)))))
          (fun a oe cls d pn hz hf => (pss_one (ps_ret (pe_lst (pa_cons (pe_xf U_BadKinds.xf U_BadKinds.nof hz hf (pv 1)) (pa_cons (pe_callB (call_isX T.i_BadKinds hz hf) (by rfl) T.z_isinstance (by decide +kernel) (pa_cons (pv 1) (pa_cons (pe_globE T.v_SilentswapsError (by rfl)) pa_nil))) (pa_cons (pe_callB (call_isX T.i_BadKinds hz hf) (by rfl) T.z_isinstance (by decide +kernel) (pa_cons (pv 1) (pa_cons (pe_bltn (v := .ty "ValueError") (u := .type "ValueError") (by rfl) T.z_ValueError (by decide +kernel) rfl) pa_nil))) (pa_cons (pe_callB (call_isX T.i_BadKinds hz hf) (by rfl) T.z_isinstance (by decide +kernel) (pa_cons (pv 1) (pa_cons (pe_globE T.v_BadLine (by rfl)) pa_nil))) pa_nil)))))))))
        (pss_one (ps_ret pe_non))), ?_⟩
    refine r_seq ?_
    refine r_drop ?_
    refine r_makeS ?_
    walk_at "S"
    refine r_kMakeS fun o dx H1 no k1 eo => ?_
    refine ⟨o, dx, v, d, rfl, eo, hD.mono k1, hb, fun H2 l k2 hs hd hK => r_kMade ?_, fun e n H2 hn k2 e2 => ?_⟩
    · walk_at "S"
      have e0 : told d = .none := by
        have e1 : refused d = none := by
          unfold refused
          rw [hs]
          show (due l).map _ = none
          rw [hd]
          rfl
        unfold told
        rw [e1]
      refine q .non H2 ((k1.nil.trans k2).drop no) ?_
      rw [e0]
      exact .non
    · refine ⟨true, U_BadKinds.te, fun _ a0 _ => ?_, fun z => Bool.noConfusion z⟩
      walk_at "S"
      refine r_xf ?_
      walk_at "S"
      refine r_kXf e2 rfl ?_
      walk_at "S"
      refine r_isX e2 (.own _) T.k_S ?_
      walk_at "S"
      refine r_isX e2 (.ty _) T.k_V ?_
      walk_at "S"
      refine r_isX e2 (.own _) T.k_L ?_
      walk_at "S"
      refine r_kLst (by show 4 ≤ sizeLine; decide) fun p H3 np k3 ep => ?_
      have e0 : told d = .list [.int n, .bool true, .bool true, .bool false] := by
        unfold told
        rw [hn]
      refine q _ H3 (((k1.nil.trans k2).drop no).trans k3) ?_
      rw [e0]
      exact .lst not_nil ep (.cons (.int n) (.cons (.bl true) (.cons (.bl true) (.cons (.bl false) .nil))))
/-! ### the law's own judgement -/
def sp__law_is_word : Sp := fun vs H Q _ => ∃ (v : V) (d : PyData), vs = [v] ∧ Dt [] H v d ∧ (∀ w, d = .str w → w.length ≤ 1000) ∧ (∀ w, d = .str w → ∀ c ∈ w.cps.toList, PyData.strOk ⟨#[c]⟩ = true) ∧ ∀ H', Kp [] H H' → Q (.bl (isWord d)) H'
theorem eqv_nil : ∀ l : List PyData, (∀ d ∈ l, d.canLay0 = true) → PyData.eqv (.list l) (.list []) = decide (l = [])
  | [], _ => by
    rw [SeqAt.eqv_refl (.list []) rfl]
    rfl
  | d :: l, _ => by
    rw [decide_eq_false (fun z => nomatch z)]
    rfl
abbrev s__law_is_word : Stmt := top 18
theorem sc__law_is_word : FnScope ["_law_thing", "_law_letters", "_law_char"] ["_law_thing"] (defScope s__law_is_word) :=
  ⟨rfl, rfl, rfl, by decide +kernel, rfl, by decide +kernel, by decide +kernel⟩
theorem ok__law_is_word {f : Addr} {fd : FuncData} (F : Fun K "_law_is_word" "_law_is_word" s__law_is_word f fd) (T : Txt K mg C_Kinds C_BadKinds C_SilentswapsError C_BadLine G_RESERVED) :
    FnOk P w K mg base CX0 2 f fd ["_law_thing"] (sp__law_is_word) := by
  refine F.ok sc__law_is_word (fun vs H Q E h => ?_) (fun cdv A outer s H vs Q E hr h => ?_)
  · obtain ⟨v, d, rfl, _⟩ := h
    rfl
  · obtain ⟨v, d, rfl, hD, hz, hz', q⟩ := h
    have hu := hu_of hr
    have hu64 := hr.units
    refine ⟨_, (pss_cons (ps_set (i := 1) sc__law_is_word.nd rfl (by first | exact Or.inl rfl | exact Or.inr rfl) pe_str)
        (pss_cons (ps_if (pt_cutT (PW.pt (pw_or (pt_not (pt_val (pe_callB (K_isi (K := K) rfl) (by rfl) T.z_isinstance (by decide +kernel) (pa_cons (pv 0) (pa_cons (pe_bltn (v := .ty "str") (u := .type "str") (by rfl) T.z_str (by decide +kernel) rfl) pa_nil))))) (pw_or1 (pt_not (pt_chain op_le op_le pe_int (pe_callB cr_lenS (by rfl) T.z_len (by decide +kernel) (pa_cons (pv 0) pa_nil)) pe_int))))))
          (pss_one (ps_ret pe_bl))
          pss_nil)
        (pss_one (ps_ret (pe_cmpR (K_eqD (K := K) rfl hu64) (pe_lc (own := [("_law_char", 2)]) (by rfl) sc__law_is_word.nd (pi_str (pv 0)) (blkOk_by (own := [("_law_char", 2)]) (N := ["_law_thing", "_law_letters", "_law_char"]) (sc := defScope s__law_is_word) (by decide +kernel)) (fun _ _ _ _ _ => (pg_name (i := 2) sc__law_is_word.nd rfl (by first | exact Or.inl rfl | exact Or.inr rfl))) (fun _ _ _ _ _ => pts_one (pt_cmpR op_ninS (pv 2) (pv 1) (by with_unfolding_all rfl))) (fun _ _ _ _ _ => (pv 2))) (pe_lst pa_nil) (nomark _)))))), ?_⟩
    walk_at "S"
    refine r_cutT (fun b H' => H = H' ∧ ∀ c, b = c → (c = true → isWord d = false) ∧ (c = false → ∃ w, d = .str w ∧ v = .str w ∧ 1 ≤ w.length ∧ w.length ≤ 8)) ?_ ?_
    · walk_at "S"
      refine r_isiStr hD ?_
      walk_at "S"
      refine r_kOr (fun c => ?_) (fun c => ?_)
      · refine ⟨rfl, fun _ e => ⟨fun _ => ?_, fun z => ?_⟩⟩
        · cases d <;> first | rfl | cases c
        · rw [← e] at z
          cases z
      have c' : isStr d = true := by simpa using c
      obtain ⟨w, rfl⟩ : ∃ w, d = .str w := by
        cases d <;> first | exact ⟨_, rfl⟩ | cases c'
      cases hD
      walk_at "S"
      refine r_lenS (Nat.le_trans (hz w rfl) (by decide)) ?_
      walk_at "S"
      refine r_kCh (fun c1 => ?_) (fun c1 => ?_)
      all_goals walk_at "S"
      · refine ⟨rfl, fun e he => ⟨fun z => ?_, fun z => ⟨w, rfl, rfl, ?_⟩⟩⟩
        · subst he
          have : ¬ w.length ≤ 8 := fun y => by
            have : decide (((w.length : Nat) : Int) ≤ 8) = true := decide_eq_true (by omega)
            rw [this] at z
            cases z
          rw [isWord_eq, decide_eq_false this]
          simp
        · subst he
          have h1 : (1 : Int) ≤ ((w.length : Nat) : Int) := of_decide_eq_true c1
          have h2 : decide (((w.length : Nat) : Int) ≤ 8) = true := by simpa using z
          have h2 := of_decide_eq_true h2
          omega
      · refine ⟨rfl, fun e he => ⟨fun z => ?_, fun z => ?_⟩⟩
        · have h1 : ¬ (1 : Int) ≤ ((w.length : Nat) : Int) := of_decide_eq_false c1
          rw [isWord_eq, decide_eq_false (show ¬ 1 ≤ w.length by omega)]
          simp
        · subst he
          cases z
    rintro b H' ⟨rfl, hb⟩
    refine r_kIfS (fun c => ?_) (fun c => ?_)
    all_goals walk_at "S"
    · rw [← (hb b rfl).1 c]
      exact q H (Kp.refl _ _)
    · obtain ⟨w, rfl, rfl, h1, h8⟩ := (hb b rfl).2 c
      walk_at "S"
      refine r_kLcS (fun D i acc H2 => Kp [] H H2 ∧ acc = ((w.cps.toList.take i).filter fun c => !decide (c ∈ letters.cps.toList)).map fun c => V.str ⟨#[c]⟩) (fun D H2 nD k7 e7 => ⟨k7, rfl⟩) ?_ ?_
      · rintro D i acc c H2 nD hd eD ⟨k7, rfl⟩
        have ht := take_filter (fun c => !decide (c ∈ letters.cps.toList)) hd
        walk_at "S"
        refine r_ninC (z := letters) ?_
        walk_at "S"
        refine r_kKeep (fun cc => ?_) (fun cc => ?_)
        · walk_at "S"
          refine r_kApp eD ?_ fun H3 k8 e8 => ⟨k7.step nD k8, ?_⟩
          · rw [List.length_map]
            have h1 := List.length_filter_le (fun c => !decide (c ∈ letters.cps.toList)) (w.cps.toList.take i)
            rw [List.length_take] at h1
            have e := str_length w
            have : 8 < sizeLine := by decide
            omega
          · rw [ht, if_pos cc, List.map_append]
            rfl
        · refine ⟨_, eD, k7, ?_⟩
          rw [ht, if_neg (by rw [cc]; simp), List.append_nil]
      · rintro D acc H2 nD eD ⟨k7, rfl⟩
        rw [List.take_length] at eD
        walk_at "S"
        refine r_kLst (xs := []) (Nat.zero_le _) fun p H3 np k3 ep => ?_
        have k23 := k7.trans k3
        have hl : Dt [] H3 (.ref D) (.list ((w.cps.toList.filter fun c => !decide (c ∈ letters.cps.toList)).map fun c => .str ⟨#[c]⟩)) := by
          refine .lst not_nil (k3 _ _ eD not_nil) ?_
          have := DtAll.of_strs (ex := []) (H := H3) ((w.cps.toList.filter fun c => !decide (c ∈ letters.cps.toList)).map fun c => (⟨#[c]⟩ : Str))
          rw [List.map_map, List.map_map] at this
          exact this
        have okc : ∀ d ∈ (w.cps.toList.filter fun c => !decide (c ∈ letters.cps.toList)).map fun c => PyData.str ⟨#[c]⟩, Shp 0 d := by
          intro d hd
          obtain ⟨c, hc, rfl⟩ := List.mem_map.mp hd
          exact Shp.str (hz' w rfl c (List.mem_filter.mp hc).1) 0
        refine r_eqD hl (.lst not_nil ep .nil) (Shp.list okc) (Shp.list (n := 0) fun d hd => by cases hd) (by decide) ?_
        rw [eqv_nil _ fun d hd => (okc d hd).1]
        have e : isWord (.str w) = decide (((w.cps.toList.filter fun c => !decide (c ∈ letters.cps.toList)).map fun c => PyData.str ⟨#[c]⟩) = []) := by
          rw [isWord_eq, decide_eq_true h1, decide_eq_true h8, Bool.true_and, Bool.true_and]
          by_cases ha : (w.cps.toList.all fun c => decide (c ∈ letters.cps.toList)) = true
          · rw [ha, decide_eq_true]
            rw [List.map_eq_nil_iff, List.filter_eq_nil_iff]
            intro c hc
            have := List.all_eq_true.mp ha c hc
            rw [this]
            simp
          · rw [Bool.eq_false_iff.mpr ha, decide_eq_false]
            intro z
            rw [List.map_eq_nil_iff, List.filter_eq_nil_iff] at z
            refine ha (List.all_eq_true.mpr fun c hc => ?_)
            have := z c hc
            simpa using this
        rw [← e]
        exact q H3 k23

def sp__law_reserved : Sp := fun vs H Q _ => vs = [] ∧ ∀ l H', H l = none → Kp [] H H' → H' l = some (.lst (reserved.map V.str)) → Q (.ref l) H'
abbrev s__law_reserved : Stmt := top 19
theorem sc__law_reserved : FnScope ["_law_found"] [] (defScope s__law_reserved) :=
  ⟨rfl, rfl, rfl, by decide +kernel, rfl, by decide +kernel, by decide +kernel⟩
theorem ok__law_reserved {f : Addr} {fd : FuncData} (F : Fun K "_law_reserved" "_law_reserved" s__law_reserved f fd) (T : Txt K mg C_Kinds C_BadKinds C_SilentswapsError C_BadLine G_RESERVED) :
    FnOk P w K mg base CX0 2 f fd [] (sp__law_reserved) := by
  refine F.ok sc__law_reserved (fun vs H Q E h => ?_) (fun cdv A outer s H vs Q E hr h => ?_)
  · obtain ⟨rfl, _⟩ := h
    rfl
  · obtain ⟨rfl, q⟩ := h
    have hu := hu_of hr
    have hu64 := hr.units
    refine ⟨_, (pss_cons (ps_set (i := 0) sc__law_reserved.nd rfl (by first | exact Or.inl rfl | exact Or.inr rfl) (pe_lst (pa_cons pe_str (pa_cons pe_str (pa_cons pe_str (pa_cons pe_str (pa_cons pe_str (pa_cons pe_str (pa_cons pe_str (pa_cons pe_str (pa_cons pe_str (pa_cons pe_str (pa_cons pe_str (pa_cons pe_str (pa_cons pe_str (pa_cons pe_str pa_nil))))))))))))))))
        (pss_one (ps_ret (pe_op op_cat (pv 0) (pe_lst (pa_cons pe_str (pa_cons pe_str pa_nil))))))), ?_⟩
    walk_at "S"
    refine r_kLst (by show 14 ≤ sizeLine; decide) fun l1 H1 n1 k1 e1 => ?_
    walk_at "S"
    refine r_kLst (by show 2 ≤ sizeLine; decide) fun l2 H2 n2 k2 e2 => ?_
    refine r_cat (k2 _ _ e1 not_nil) e2 (by show 16 ≤ sizeLine; decide) fun l H3 n3 k3 e3 => ?_
    exact q l H3 ((k1.trans k2).free n3 not_nil) (k1.trans (k2.trans k3)) e3
/-- a first text is of plain signs -/
def Plain (d : PyData) : Prop := ∀ w rest, d = .tuple (.str w :: rest) → w.length ≤ 1000 ∧ ∀ c ∈ w.cps.toList, c ≤ 127
def sp__law_declares (K : PySem.W.Frag) : Sp := fun vs H Q _ => ∃ (nl : Addr) (ns : List Str) (v : V) (d : PyData), vs = [v, .ref nl] ∧ SqL K H nl (ns.map V.str) ∧ Dt [] H v d ∧ Small d ∧ Plain d ∧ ∀ H', Kp [] H H' → Q (.bl (declares ns d)) H'
theorem one_ok {c : Nat} (h : c ≤ 127) : PyData.strOk ⟨#[c]⟩ = true := strOk_of (m := 127) (fun x hx => by
  have : x = c := by simpa using hx
  omega) (by decide)
theorem isName_word {d : PyData} (h : isWord d = true) : ∃ w, d = .str w := by
  cases d <;> first | exact ⟨_, rfl⟩ | cases h
theorem not_word {d : PyData} (h : isWord d = false) : isName d = false := by
  cases d <;> first | rfl | (rw [isName_eq, h]; rfl)
abbrev s__law_declares : Stmt := top 20
theorem sc__law_declares : FnScope ["_law_entry", "_law_names", "_law_seen", "_law_base"] ["_law_entry", "_law_names"] (defScope s__law_declares) :=
  ⟨rfl, rfl, rfl, by decide +kernel, rfl, by decide +kernel, by decide +kernel⟩
theorem ok__law_declares {f : Addr} {fd : FuncData} (F : Fun K "_law_declares" "_law_declares" s__law_declares f fd) (T : Txt K mg C_Kinds C_BadKinds C_SilentswapsError C_BadLine G_RESERVED) (U__law_is_word : Use P w K mg base 2 "_law_is_word" ["_law_thing"] (sp__law_is_word)) (U__law_reserved : Use P w K mg base 2 "_law_reserved" [] (sp__law_reserved)) :
    FnOk P w K mg base CX0 4 f fd ["_law_entry", "_law_names"] (sp__law_declares K) := by
  refine F.ok sc__law_declares (fun vs H Q E h => ?_) (fun cdv A outer s H vs Q E hr h => ?_)
  · obtain ⟨nl, ns, v, d, rfl, _⟩ := h
    rfl
  · obtain ⟨nl, ns, v, d, rfl, hS, hD, hs, hp, q⟩ := h
    have hu := hu_of hr
    have hu64 := hr.units
    refine ⟨_, (pss_cons (ps_if (pt_cutT (PW.pt (pw_or (pt_not (pt_val (pe_callB (K_isi (K := K) rfl) (by rfl) T.z_isinstance (by decide +kernel) (pa_cons (pv 0) (pa_cons (pe_bltn (v := .ty "tuple") (u := .type "tuple") (by rfl) T.z_tuple (by decide +kernel) rfl) pa_nil))))) (pw_or (pt_cmpR op_ne (pe_callB (K_len (K := K) rfl) (by rfl) T.z_len (by decide +kernel) (pa_cons (pv 0) pa_nil)) pe_int (nomark _)) (pw_or1 (pt_not (pt_val (pe_use U__law_is_word (hr.mono (by decide)) (by rfl) (pa_cons (pe_ix (K_ixT (K := K) rfl) (pv 0) pe_int (fun _ _ => rfl)) pa_nil)))))))))
          (pss_one (ps_ret pe_bl))
          pss_nil)
        (pss_cons (ps_if (pt_cutT (PW.pt (pw_or (pt_cmpR (K_in (K := K) rfl) (pe_ix (K_ixT (K := K) rfl) (pv 0) pe_int (fun _ _ => rfl)) (pe_use0 U__law_reserved (hr.mono (by decide)) (by rfl)) (by with_unfolding_all rfl)) (pw_or (pt_cmpR (K_in (K := K) rfl) (pe_ix (K_ixT (K := K) rfl) (pv 0) pe_int (fun _ _ => rfl)) (pv 1) (by with_unfolding_all rfl)) (pw_or1 (pt_not (pt_val (pe_callB (K_isiT (K := K) rfl) (by rfl) T.z_isinstance (by decide +kernel) (pa_cons (pe_ix (K_ixT (K := K) rfl) (pv 0) pe_int (fun _ _ => rfl)) (pa_cons (pe_tup (pa_cons (pe_bltn (v := .ty "list") (u := .type "list") (by rfl) T.z_list (by decide +kernel) rfl) (pa_cons (pe_bltn (v := .ty "tuple") (u := .type "tuple") (by rfl) T.z_tuple (by decide +kernel) rfl) pa_nil))) pa_nil))))))))))
          (pss_one (ps_ret pe_bl))
          pss_nil)
        (pss_cons (ps_set (i := 2) sc__law_declares.nd rfl (by first | exact Or.inl rfl | exact Or.inr rfl) (pe_lst pa_nil))
        (pss_cons (ps_for PassesOwn.never (by rfl) (K_pis (K := K) rfl (pe_ix (K_ixT (K := K) rfl) (pv 0) pe_int (fun _ _ => rfl))) (pg_name (i := 3) sc__law_declares.nd rfl (by first | exact Or.inl rfl | exact Or.inr rfl))
          (pss_cons (ps_if (pt_cutT (PW.pt (pw_or (pt_not (pt_val (pe_callB (K_isi (K := K) rfl) (by rfl) T.z_isinstance (by decide +kernel) (pa_cons (pv 3) (pa_cons (pe_bltn (v := .ty "str") (u := .type "str") (by rfl) T.z_str (by decide +kernel) rfl) pa_nil))))) (pw_or (pt_cmpR (K_notIn (K := K) rfl) (pv 3) (pv 1) (by with_unfolding_all rfl)) (pw_or1 (pt_cmpR (K_in (K := K) rfl) (pv 3) (pv 2) (by with_unfolding_all rfl)))))))
            (pss_one (ps_ret pe_bl))
            pss_nil)
          (pss_one (ps_expr (K_bm (K := K) rfl PySem.F.plainAttrs_list PySem.F.slot_list_append PySem.F.type_list_append mt_append (pv 2) (pa_cons (pv 3) pa_nil))))))
        (pss_one (ps_ret pe_bl)))))), ?_⟩
    walk_at "S"
    refine r_cutT (fun b H' => Kp [] H H' ∧ ∀ c, b = c → (c = true → declares ns d = false) ∧ (c = false → ∃ t w v1 d1, v = .ref t ∧ d = .tuple [.str w, d1] ∧ H t = some (.tup [.str w, v1]) ∧ Dt [] H v1 d1 ∧ isWord (.str w) = true)) ?_ ?_
    · walk_at "S"
      refine r_isiTup hD ?_
      walk_at "S"
      refine r_kOr (fun c => ?_) (fun c => ?_)
      · refine ⟨Kp.refl _ _, fun _ e => ⟨fun _ => ?_, fun z => ?_⟩⟩
        · cases d <;> first | rfl | cases c
        · rw [← e] at z
          cases z
      have c' : isTup d = true := by simpa using c
      obtain ⟨ds, rfl⟩ : ∃ ds, d = .tuple ds := by
        cases d <;> first | exact ⟨_, rfl⟩ | cases c'
      obtain ⟨t, xs, rfl, _, et, al⟩ := hD.tuple
      walk_at "S"
      refine r_lenT (SqT.of et) ?_
      walk_at "S"
      have hl := al.length
      refine r_kOr (fun c => ?_) (fun c => ?_)
      · refine ⟨Kp.refl _ _, fun _ e => ⟨fun _ => declares_len fun y => ?_, fun z => ?_⟩⟩
        · have : decide (((xs.length : Nat) : Int) = 2) = true := decide_eq_true (by omega)
          rw [this] at c
          cases c
        · rw [← e] at z
          cases z
      have c1 : decide (((xs.length : Nat) : Int) = 2) = true := by simpa using c
      have c1 := of_decide_eq_true c1
      obtain ⟨v0, v1, d0, d1, rfl, rfl, h0, h1⟩ := Dt.pairOf al (by omega)
      walk_at "S"
      refine r_ixT (SqT.of et) (atI_nat (j := 0) rfl) ?_
      walk_at "S"
      refine ⟨v0, d0, rfl, h0, hs.1, fun u hu c hc => one_ok ((hp u [d1] (by rw [hu])).2 c hc), fun H1 k1 => ?_⟩
      walk_at "S"
      refine ⟨k1, fun e he => ⟨fun z => ?_, fun z => ?_⟩⟩
      · subst he
        have : isWord d0 = false := by simpa using z
        rw [declares_pair, not_word this]
        rfl
      · subst he
        have hw : isWord d0 = true := by simpa using z
        obtain ⟨u, rfl⟩ := isName_word hw
        cases h0
        exact ⟨t, u, v1, d1, rfl, rfl, et, h1, hw⟩
    rintro b H0 ⟨k0, hb⟩
    refine r_kIfS (fun c => ?_) (fun c => ?_)
    all_goals walk_at "S"
    · rw [← (hb b rfl).1 c]
      exact q H0 k0
    obtain ⟨t, u, v1, d1, rfl, rfl, et, h1, hw⟩ := (hb b rfl).2 c
    clear hb c b hD
    have et0 := k0 _ _ et not_nil
    have hS0 := k0.sql hS
    refine r_cutT (fun b H' => Kp [] H0 H' ∧ ∀ c, b = c → (c = true → declares ns (.tuple [.str u, d1]) = false) ∧ (c = false → ∃ l, seqOf d1 = some l ∧ declares ns (.tuple [.str u, d1]) = basesOk ns l [])) ?_ ?_
    · walk_at "S"
      refine r_ixT (SqT.of et0) (atI_nat (j := 0) rfl) ?_
      walk_at "S"
      refine ⟨rfl, fun rl H1 nr k1 er => ?_⟩
      refine r_inL (SqL.of er) ?_
      walk_at "S"
      refine r_kOr (fun c => ?_) (fun c => ?_)
      · refine ⟨k1, fun _ e => ⟨fun _ => ?_, fun z => ?_⟩⟩
        · rw [declares_pair, isName_eq, c]
          simp
        · rw [← e] at z
          cases z
      have c0 : isName (.str u) = true := by
        rw [isName_eq, hw, c]
        rfl
      walk_at "S"
      refine r_ixT (SqT.of (k1 _ _ et0 not_nil)) (atI_nat (j := 0) rfl) ?_
      walk_at "S"
      refine r_inL (k1.sql hS0) ?_
      walk_at "S"
      refine r_kOr (fun c => ?_) (fun c => ?_)
      · refine ⟨k1, fun _ e => ⟨fun _ => ?_, fun z => ?_⟩⟩
        · rw [declares_pair]
          show (isName (.str u) && !decide (u ∈ ns) && _) = false
          rw [c]
          simp
        · rw [← e] at z
          cases z
      have c1 : decide (u ∈ ns) = false := c
      walk_at "S"
      refine r_ixT (SqT.of (k1 _ _ et0 not_nil)) (atI_nat (j := 1) rfl) ?_
      walk_at "S"
      refine r_kTup (by show 2 ≤ sizeLine; decide) fun tp H2 ntp k2 etp => ?_
      walk_at "S"
      refine r_isiLT (((h1.mono k0).mono k1).mono k2) etp ?_
      walk_at "S"
      have e2 : declares ns (.tuple [.str u, d1]) = (match seqOf d1 with | some l => basesOk ns l [] | none => false) := by
        rw [declares_pair, c0]
        show (true && !decide (u ∈ ns) && _) = _
        rw [c1]
        rfl
      refine ⟨k1.trans k2, fun e he => ⟨fun z => ?_, fun z => ?_⟩⟩
      · subst he
        rw [e2]
        cases d1 <;> first | rfl | cases z
      · subst he
        cases d1 <;> first | exact ⟨_, rfl, e2⟩ | cases z
    rintro b H1 ⟨k1, hb⟩
    refine r_kIfS (fun c => ?_) (fun c => ?_)
    all_goals walk_at "S"
    · rw [← (hb b rfl).1 c]
      exact q H1 (k0.trans k1)
    obtain ⟨l, hl, e0⟩ := (hb b rfl).2 c
    clear hb c b
    have hll : l.length ≤ 1000 := hs.2 l hl
    have k01 := k0.trans k1
    refine r_kLst (xs := []) (Nat.zero_le _) fun F H2 nF k2 eF => ?_
    have k02 := k01.trans k2
    walk_at "S"
    refine r_ixT (SqT.of (k02 _ _ et not_nil)) (atI_nat (j := 1) rfl) ?_
    obtain ⟨p, ys, rfl, hpp, al⟩ : ∃ p ys, v1 = .ref p ∧ (H p = some (.lst ys) ∨ H p = some (.tup ys)) ∧ DtAll [] H ys l := by
      cases d1 with
      | list l' =>
        cases hl
        obtain ⟨p, ys, rfl, _, e, al⟩ := h1.list
        exact ⟨p, ys, rfl, .inl e, al⟩
      | tuple l' =>
        cases hl
        obtain ⟨p, ys, rfl, _, e, al⟩ := h1.tuple
        exact ⟨p, ys, rfl, .inr e, al⟩
      | _ => cases hl
    have hq : Sq K H2 p ys := hpp.elim (fun e => .inl (SqL.of (k02 _ _ e not_nil))) fun e => .inr (SqT.of (k02 _ _ e not_nil))
    have Fp : F ≠ p := hpp.elim (fun e => ne_none (k01 _ _ e not_nil) nF) fun e => ne_none (k01 _ _ e not_nil) nF
    have hylen := al.length
    refine r_kForQ (fun i σ' H' => ∃ (seen : List Str) (v3 : Option V), σ' = [some (.ref t), some (.ref nl), some (.ref F), v3] ∧ Kp [F] H2 H' ∧ H' F = some (.lst (seen.map V.str)) ∧ seen.length = i ∧ basesOk ns l [] = basesOk ns (l.drop i) seen) hq
      ⟨[], none, rfl, Kp.refl _ _, eF, rfl, rfl⟩ (fun i σ' H' _ h => by
        obtain ⟨_, _, _, k, _⟩ := h
        exact ⟨[F], not_one Fp.symm, k⟩) ?_ ?_
    · rintro i x σ' H3 hx ⟨seen, v3, rfl, k3, e3, hsn, hbo⟩
      obtain ⟨d, hd, hxd⟩ := al.at hx
      have hsm : seen.length ≤ 1000 := by
        have := lt_at hd
        omega
      rw [drop_at hd] at hbo
      have k23 : Kp [] H1 H3 := k2.step nF k3
      have k03 : Kp [] H H3 := k01.trans k23
      have hx3 : Dt [] H3 x d := hxd.mono k03
      walk_at "S"
      refine r_cutT (fun b H' => H3 = H' ∧ ∀ c, b = c → (c = true → basesOk ns l [] = false) ∧ (c = false → ∃ u, d = .str u ∧ x = .str u ∧ u ∈ ns ∧ u ∉ seen)) ?_ ?_
      · walk_at "S"
        refine r_isiStr hx3 ?_
        walk_at "S"
        refine r_kOr (fun c => ?_) (fun c => ?_)
        · refine ⟨rfl, fun _ e => ⟨fun _ => ?_, fun z => ?_⟩⟩
          · rw [hbo]
            cases d <;> first | rfl | cases c
          · rw [← e] at z
            cases z
        have c' : isStr d = true := by simpa using c
        obtain ⟨u, rfl⟩ : ∃ u, d = .str u := by
          cases d <;> first | exact ⟨_, rfl⟩ | cases c'
        cases hx3
        have hbo' : basesOk ns l [] = (decide (u ∈ ns) && !decide (u ∈ seen) && basesOk ns (l.drop (i + 1)) (seen ++ [u])) := hbo
        walk_at "S"
        refine r_notInL (k03.sql hS) ?_
        walk_at "S"
        refine r_kOr (fun c => ?_) (fun c => ?_)
        · refine ⟨rfl, fun _ e => ⟨fun _ => ?_, fun z => ?_⟩⟩
          · have c2 : decide (u ∈ ns) = false := by simpa using c
            rw [hbo', c2]
            rfl
          · rw [← e] at z
            cases z
        have c2 : decide (u ∈ ns) = true := by simpa using c
        walk_at "S"
        refine r_inL (SqL.of e3) ?_
        walk_at "S"
        refine ⟨rfl, fun e he => ⟨fun z => ?_, fun z => ⟨u, rfl, rfl, of_decide_eq_true c2, ?_⟩⟩⟩
        · subst he
          rw [hbo', z]
          simp
        · subst he
          exact of_decide_eq_false z
      rintro b H' ⟨rfl, hb⟩
      refine r_kIfS (fun c => ?_) (fun c => ?_)
      all_goals walk_at "S"
      · have e1 := (hb b rfl).1 c
        rw [← e0] at e1
        rw [← e1]
        exact q H3 k03
      obtain ⟨u, rfl, rfl, hu1, hu2⟩ := (hb b rfl).2 c
      refine r_kBMl (SqL.of e3) ?_
      walk_at "S"
      refine r_append e3 ?_ fun H4 k4 e4 => ?_
      · rw [List.length_map]
        have : 1001 ≤ sizeLine := by decide
        omega
      walk_at "S"
      refine ⟨seen ++ [u], _, rfl, k3.trans k4, ?_, ?_, ?_⟩
      · rw [List.map_append]
        exact e4
      · rw [List.length_append, hsn]
        rfl
      · rw [hbo]
        show (decide (u ∈ ns) && !decide (u ∈ seen) && _) = _
        rw [decide_eq_true hu1, decide_eq_false hu2]
        rfl
    · rintro σ' H3 ⟨seen, v3, rfl, k3, e3, hsn, hbo⟩
      walk_at "S"
      have e1 : declares ns (.tuple [.str u, d1]) = true := by
        rw [e0, hbo, hylen, List.drop_length]
        rfl
      rw [← e1]
      exact q H3 (k01.trans (k2.step nF k3))
/-- the first wrong one, as the law tells it -/
def dueV (ds : List PyData) : V := match due ds with
  | some i => .int (i : Int)
  | none => .non
def sp__law_due (K : PySem.W.Frag) : Sp := fun vs H Q _ => ∃ (l : Addr) (xs : List V) (ds : List PyData), vs = [.ref l] ∧ H l = some (.lst xs) ∧ DtAll [] H xs ds ∧ ds.length ≤ 100 ∧ (∀ d ∈ ds, Small d ∧ Plain d) ∧ ∀ H', Kp [] H H' → Q (dueV ds) H'
abbrev s__law_due : Stmt := top 23
theorem sc__law_due : FnScope ["_law_entries_here", "_law_names", "_law_at", "_law_entry"] ["_law_entries_here"] (defScope s__law_due) :=
  ⟨rfl, rfl, rfl, by decide +kernel, rfl, by decide +kernel, by decide +kernel⟩
theorem ok__law_due {f : Addr} {fd : FuncData} (F : Fun K "_law_due" "_law_due" s__law_due f fd) (T : Txt K mg C_Kinds C_BadKinds C_SilentswapsError C_BadLine G_RESERVED) (U__law_declares : Use P w K mg base 4 "_law_declares" ["_law_entry", "_law_names"] (sp__law_declares K)) :
    FnOk P w K mg base CX0 6 f fd ["_law_entries_here"] (sp__law_due K) := by
  refine F.ok sc__law_due (fun vs H Q E h => ?_) (fun cdv A outer s H vs Q E hr h => ?_)
  · obtain ⟨l, xs, ds, rfl, _⟩ := h
    rfl
  · obtain ⟨l, xs, ds, rfl, el, al, hlen, hok, q⟩ := h
    have hu := hu_of hr
    have hu64 := hr.units
    refine ⟨_, (pss_cons (ps_set (i := 1) sc__law_due.nd rfl (by first | exact Or.inl rfl | exact Or.inr rfl) (pe_lst pa_nil))
        (pss_cons (ps_for PassesOwn.never (by rfl) (K_enum (K := K) rfl (by rfl) T.z_enumerate (pa_cons (pv 0) pa_nil)) (K_gtup (K := K) (n := 2) rfl (by rfl) (pgs_cons (pg_name (i := 2) sc__law_due.nd rfl (by first | exact Or.inl rfl | exact Or.inr rfl)) (pgs_cons (pg_name (i := 3) sc__law_due.nd rfl (by first | exact Or.inl rfl | exact Or.inr rfl)) pgs_nil)))
          (pss_cons (ps_if (pt_cutT (PW.pt (pw_or (pt_cmpR op_eq (pv 2) pe_int (nomark _)) (pw_or1 (pt_not (pt_val (pe_use U__law_declares (hr.mono (by decide)) (by rfl) (pa_cons (pv 3) (pa_cons (pv 1) pa_nil)))))))))
            (pss_one (ps_ret (pv 2)))
            pss_nil)
          (pss_one (ps_expr (K_bm (K := K) rfl PySem.F.plainAttrs_list PySem.F.slot_list_append PySem.F.type_list_append mt_append (pv 1) (pa_cons (pe_ix (K_ixT (K := K) rfl) (pv 3) pe_int (fun _ _ => rfl)) pa_nil))))))
        (pss_one (ps_ret pe_non)))), ?_⟩
    have hl := al.length
    walk_at "S"
    refine r_kLst (xs := []) (Nat.zero_le _) fun N H1 nN k1 eN => ?_
    have Nl : N ≠ l := ne_none el nN
    walk_at "S"
    refine r_cEnum (SqL.of (k1 _ _ el not_nil)) ?_
    refine r_kFor walk_enum (fun i σ' H' => ∃ (v2 v3 : Option V), σ' = [some (.ref l), some (.ref N), v2, v3] ∧ Kp [N] H1 H' ∧ H' N = some (.lst ((((ds.take i).map toEnt).map Prod.fst).map V.str)) ∧ i ≤ 4 ∧ due ds = dueFrom i (((ds.take i).map toEnt).map Prod.fst) (ds.drop i))
      ⟨none, none, rfl, Kp.refl _ _, eN, Nat.zero_le _, rfl⟩ (fun i σ' H' _ h => by
        obtain ⟨_, _, _, k, _⟩ := h
        exact sql_kp (SqL.of (k1 _ _ el not_nil)) k (not_one Nl.symm)) ?_ ?_
    · rintro i x σ' H6 H7 hi ⟨v2, v3, rfl, k6, en, hi4, hdue⟩ ⟨t, u, v, rfl, ntt, rfl, hu, hx⟩
      cases hu
      obtain ⟨d, hd, hxd⟩ := al.at hx
      have e7 : upd H6 t (.tup [.int (i : Int), v]) t = some (.tup [.int (i : Int), v]) := upd_same
      have k7 : Kp [] H6 (upd H6 t (.tup [.int (i : Int), v])) := Kp.new ntt
      generalize upd H6 t (.tup [.int (i : Int), v]) = H7 at e7 k7
      obtain ⟨hsm, hpl⟩ := hok d (mem_at hd)
      rw [drop_at hd] at hdue
      have k06 : Kp [] H H6 := k1.step nN k6
      have hx7 : Dt [] H7 v d := (hxd.mono k06).mono k7
      have en7 := k7 _ _ en not_nil
      have tN : t ≠ N := ne_none en ntt
      refine r_gtup (SqT.of e7) rfl ?_
      walk_at "S"
      refine r_cutT (fun b H' => Kp [] H7 H' ∧ ∀ c, b = c → (c = true → due ds = some i) ∧ (c = false → i < 4 ∧ declares (((ds.take i).map toEnt).map Prod.fst) d = true)) ?_ ?_
      · walk_at "S"
        refine r_kOr (fun c => ?_) (fun c => ?_)
        · have c' : (i : Int) = 4 := of_decide_eq_true c
          refine ⟨Kp.refl _ _, fun e he => ⟨fun _ => ?_, fun z => ?_⟩⟩
          · rw [hdue]
            exact dueFrom_yes (.inl (by omega))
          · rw [← he] at z
            cases z
        have c4 : ¬ (i : Int) = 4 := of_decide_eq_false c
        walk_at "S"
        refine ⟨N, _, v, d, rfl, SqL.of en7, hx7, hsm, hpl, fun H8 k8 => ?_⟩
        walk_at "S"
        refine ⟨k8, fun e he => ⟨fun z => ?_, fun z => ⟨by omega, ?_⟩⟩⟩
        · rw [hdue]
          refine dueFrom_yes (.inr ?_)
          rw [← he] at z
          simpa using z
        · rw [← he] at z
          simpa using z
      rintro b H8 ⟨k8, hb⟩
      refine r_kIfS (fun c => ?_) (fun c => ?_)
      all_goals walk_at "S"
      · have e1 : dueV ds = .int (i : Int) := by
          unfold dueV
          rw [(hb b rfl).1 c]
        rw [← e1]
        exact q H8 (k06.trans (k7.trans k8))
      obtain ⟨hi4', hdec⟩ := (hb b rfl).2 c
      clear hb c b
      obtain ⟨w, d1, bl, rfl, hw, hnin, hseq, hbo⟩ := declares_get hdec
      obtain ⟨tv, ys, rfl, _, etv, al2⟩ := hx7.tuple
      cases al2 with
      | cons h0 al2 =>
      cases al2 with
      | @cons v1 _ _ _ h1 al2 =>
      cases al2
      cases h0
      have en8 := k8 _ _ en7 not_nil
      refine r_kBMl (SqL.of en8) ?_
      walk_at "S"
      refine r_ixT (SqT.of (k8 _ _ etv not_nil)) (atI_nat (j := 0) rfl) ?_
      walk_at "S"
      refine r_append en8 ?_ fun H9 k9 e9 => ?_
      · rw [List.length_map, List.length_map, List.length_map, List.length_take]
        have : 10 ≤ sizeLine := by decide
        omega
      walk_at "S"
      have ht : toEnt (.tuple [.str w, d1]) = (w, strsOf bl) := by
        show (w, strsOf ((seqOf d1).getD [])) = _
        rw [hseq]
        rfl
      have htk : (ds.take (i + 1)).map toEnt = (ds.take i).map toEnt ++ [(w, strsOf bl)] := by
        rw [take_map _ hd, ht]
      refine ⟨_, _, rfl, (k6.trans (k7.trans k8).nil).trans k9, ?_, by omega, ?_⟩
      · rw [htk, List.map_append, List.map_append]
        exact e9
      · rw [htk, List.map_append, hdue, dueFrom_no (by rw [hdec]; simp; omega), ht]
        rfl
    · rintro σ' H6 ⟨v2, v3, rfl, k6, en, hi4, hdue⟩
      rw [hl, List.drop_length] at hdue
      walk_at "S"
      have e1 : dueV ds = .non := by
        unfold dueV
        rw [hdue]
        rfl
      rw [← e1]
      exact q H6 (k1.step nN k6)

/-! ### drawn entries -/
def Okd (d : PyData) : Prop := Small d ∧ Plain d ∧ Shp 4 d
def oddE (u b r : Str) : List PyData := [.tuple [.str b, .tuple []], .tuple [.str r, .tuple []], .tuple [.str "", .tuple []], .tuple [.str "abcdefghi", .tuple []], .tuple [.str "Ab", .tuple []], .tuple [.str "a1", .tuple []], .tuple [.int 7, .tuple []], .tuple [.none, .tuple []],
  .tuple [.str u, .tuple [.str b, .str b]], .tuple [.str u, .tuple [.str u]], .tuple [.str u, .str b], .tuple [.str u, .none], .tuple [.str u, .tuple [.int 7]], .tuple [.str u, .tuple [.str "zzz"]], .tuple [.str u, .list [.str b, .none]], .tuple [.str u], .tuple [.str u, .tuple [], .tuple []],
  .list [.str u, .tuple []], .str u, .none, .bool true, .tuple [.tuple [.str u, .tuple []], .tuple []], .tuple [.str u, .tuple [.list []]], .tuple [.str u, .list []], .tuple [.str u, .list [.str b]]]
def Ascii (w : Str) : Prop := w.length ≤ 1000 ∧ ∀ c ∈ w.cps.toList, c ≤ 127
instance (w : Str) : Decidable (Ascii w) := by
  unfold Ascii
  infer_instance
theorem Ascii.ok {w : Str} (h : Ascii w) : PyData.strOk w = true := strOk_of h.2 (by decide)
theorem NameOk.ascii {w : Str} (h : NameOk w) : Ascii w := ⟨by rw [str_length]; exact Nat.le_trans h.2.1 (by decide), fun c hc => Nat.le_trans (h.2.2.1 c hc).2 (by decide)⟩
theorem odd_ok {u b r : Str} (hu : Ascii u) (hb : Ascii b) (hr : Ascii r) : ∀ d ∈ oddE u b r, Okd d := by
  intro d hd
  have l0 : Ascii "" := by decide +kernel
  have l1 : Ascii "abcdefghi" := by decide +kernel
  have l2 : Ascii "Ab" := by decide +kernel
  have l3 : Ascii "a1" := by decide +kernel
  have l4 : Ascii "zzz" := by decide +kernel
  simp only [oddE, List.mem_cons, List.not_mem_nil, or_false] at hd
  refine ⟨?_, ?_, ?_, ?_⟩
  · rcases hd with rfl | rfl | rfl | rfl | rfl | rfl | rfl | rfl | rfl | rfl | rfl | rfl | rfl | rfl | rfl | rfl | rfl | rfl | rfl | rfl | rfl | rfl | rfl | rfl | rfl <;> first
      | trivial
      | (refine ⟨fun w hw => ?_, fun l hl => ?_⟩
         · first
           | (cases hw; done)
           | (cases hw; first | exact hu.1 | exact hb.1 | exact hr.1 | exact l0.1 | exact l1.1 | exact l2.1 | exact l3.1)
         · first
           | (cases hl; done)
           | (cases hl; simp))
  · intro w rest h
    rcases hd with rfl | rfl | rfl | rfl | rfl | rfl | rfl | rfl | rfl | rfl | rfl | rfl | rfl | rfl | rfl | rfl | rfl | rfl | rfl | rfl | rfl | rfl | rfl | rfl | rfl <;> first
      | (cases h; done)
      | (cases h; first | exact hu | exact hb | exact hr | exact l0 | exact l1 | exact l2 | exact l3)
  · rcases hd with rfl | rfl | rfl | rfl | rfl | rfl | rfl | rfl | rfl | rfl | rfl | rfl | rfl | rfl | rfl | rfl | rfl | rfl | rfl | rfl | rfl | rfl | rfl | rfl | rfl <;> simp [PyData.canLay0, PyData.canLayAll0, hu.ok, hb.ok, hr.ok, l0.ok, l1.ok, l2.ok, l3.ok, l4.ok]
  · rcases hd with rfl | rfl | rfl | rfl | rfl | rfl | rfl | rfl | rfl | rfl | rfl | rfl | rfl | rfl | rfl | rfl | rfl | rfl | rfl | rfl | rfl | rfl | rfl | rfl | rfl <;> exact Nat.le_of_ble_eq_true rfl
theorem has_bag {H H' : Hp} {p : Addr} {n : Nat} (b : BagAt H' p n) (k : Kp [p] H H') : ∀ c, Has H c → Has H' c := fun c ⟨o, e⟩ => by
  by_cases h : c = p
  · subst h
    obtain ⟨o', e'⟩ := b.some
    exact ⟨o', e'⟩
  · exact ⟨o, k _ _ e (not_one h)⟩
def sp__law_odd (K : PySem.W.Frag) : Sp := fun vs H Q _ => ∃ (p nl : Addr) (n : Nat) (ns : List Str), vs = [.ref p, .ref nl] ∧ BagAt H p (n + 20) ∧ H nl = some (.lst (ns.map V.str)) ∧ ns.length ≤ 20 ∧ (∀ w ∈ ns, NameOk w) ∧
  ∀ x d H', Kp [p] H H' → New H H' x d → Okd d → BagAt H' p n → Q x H'
theorem res_ascii : ∀ w ∈ reserved, Ascii w := by decide +kernel
abbrev s__law_odd : Stmt := top 21
theorem sc__law_odd : FnScope ["_law_bag_here", "_law_names", "_law_name_here", "_law_known", "_law_base", "_law_odd_here"] ["_law_bag_here", "_law_names"] (defScope s__law_odd) :=
  ⟨rfl, rfl, rfl, by decide +kernel, rfl, by decide +kernel, by decide +kernel⟩
theorem ok__law_odd {f : Addr} {fd : FuncData} (F : Fun K "_law_odd" "_law_odd" s__law_odd f fd) (T : Txt K mg C_Kinds C_BadKinds C_SilentswapsError C_BadLine G_RESERVED) (U__law_of : Use P w K mg base 4 "_law_of" ["_law_bag_here", "_law_some"] (sp__law_of K)) (U__law_name : Use P w K mg base 6 "_law_name" ["_law_bag_here", "_law_taken"] (sp__law_name K)) (U__law_reserved : Use P w K mg base 2 "_law_reserved" [] (sp__law_reserved)) :
    FnOk P w K mg base CX0 8 f fd ["_law_bag_here", "_law_names"] (sp__law_odd K) := by
  refine F.ok sc__law_odd (fun vs H Q E h => ?_) (fun cdv A outer s H vs Q E hr h => ?_)
  · obtain ⟨p, nl, n, ns, rfl, _⟩ := h
    rfl
  · obtain ⟨p, nl, n, ns, rfl, hb, en, hl, hok, q⟩ := h
    have hu := hu_of hr
    have hu64 := hr.units
    refine ⟨_, (pss_cons (ps_set (i := 2) sc__law_odd.nd rfl (by first | exact Or.inl rfl | exact Or.inr rfl) (pe_use U__law_name (hr.mono (by decide)) (by rfl) (pa_cons (pv 0) (pa_cons (pv 1) pa_nil))))
        (pss_cons (ps_set (i := 3) sc__law_odd.nd rfl (by first | exact Or.inl rfl | exact Or.inr rfl) (pe_cutE (pe_ifExp (pt_cmpR (K_neD (K := K) rfl hu64) (pv 1) (pe_lst pa_nil) (nomark _)) (pv 1) (pe_lst (pa_cons pe_str pa_nil)))))
        (pss_cons (ps_set (i := 4) sc__law_odd.nd rfl (by first | exact Or.inl rfl | exact Or.inr rfl) (pe_use U__law_of (hr.mono (by decide)) (by rfl) (pa_cons (pv 0) (pa_cons (pv 3) pa_nil))))
        (pss_cons (ps_set (i := 5) sc__law_odd.nd rfl (by first | exact Or.inl rfl | exact Or.inr rfl) (pe_lst (pa_cons (pe_tup (pa_cons (pv 4) (pa_cons (pe_tup pa_nil) pa_nil))) (pa_cons (pe_tup (pa_cons (pe_use U__law_of (hr.mono (by decide)) (by rfl) (pa_cons (pv 0) (pa_cons (pe_use0 U__law_reserved (hr.mono (by decide)) (by rfl)) pa_nil))) (pa_cons (pe_tup pa_nil) pa_nil))) (pa_cons (pe_tup (pa_cons pe_str (pa_cons (pe_tup pa_nil) pa_nil))) (pa_cons (pe_tup (pa_cons pe_str (pa_cons (pe_tup pa_nil) pa_nil))) (pa_cons (pe_tup (pa_cons pe_str (pa_cons (pe_tup pa_nil) pa_nil))) (pa_cons (pe_tup (pa_cons pe_str (pa_cons (pe_tup pa_nil) pa_nil))) (pa_cons (pe_tup (pa_cons pe_int (pa_cons (pe_tup pa_nil) pa_nil))) (pa_cons (pe_tup (pa_cons pe_non (pa_cons (pe_tup pa_nil) pa_nil))) (pa_cons (pe_tup (pa_cons (pv 2) (pa_cons (pe_tup (pa_cons (pv 4) (pa_cons (pv 4) pa_nil))) pa_nil))) (pa_cons (pe_tup (pa_cons (pv 2) (pa_cons (pe_tup (pa_cons (pv 2) pa_nil)) pa_nil))) (pa_cons (pe_tup (pa_cons (pv 2) (pa_cons (pv 4) pa_nil))) (pa_cons (pe_tup (pa_cons (pv 2) (pa_cons pe_non pa_nil))) (pa_cons (pe_tup (pa_cons (pv 2) (pa_cons (pe_tup (pa_cons pe_int pa_nil)) pa_nil))) (pa_cons (pe_tup (pa_cons (pv 2) (pa_cons (pe_tup (pa_cons pe_str pa_nil)) pa_nil))) (pa_cons (pe_tup (pa_cons (pv 2) (pa_cons (pe_lst (pa_cons (pv 4) (pa_cons pe_non pa_nil))) pa_nil))) (pa_cons (pe_tup (pa_cons (pv 2) pa_nil)) (pa_cons (pe_tup (pa_cons (pv 2) (pa_cons (pe_tup pa_nil) (pa_cons (pe_tup pa_nil) pa_nil)))) (pa_cons (pe_lst (pa_cons (pv 2) (pa_cons (pe_tup pa_nil) pa_nil))) (pa_cons (pv 2) (pa_cons pe_non (pa_cons pe_bl (pa_cons (pe_tup (pa_cons (pe_tup (pa_cons (pv 2) (pa_cons (pe_tup pa_nil) pa_nil))) (pa_cons (pe_tup pa_nil) pa_nil))) (pa_cons (pe_tup (pa_cons (pv 2) (pa_cons (pe_tup (pa_cons (pe_lst pa_nil) pa_nil)) pa_nil))) (pa_cons (pe_tup (pa_cons (pv 2) (pa_cons (pe_lst pa_nil) pa_nil))) (pa_cons (pe_tup (pa_cons (pv 2) (pa_cons (pe_lst (pa_cons (pv 4) pa_nil)) pa_nil))) pa_nil)))))))))))))))))))))))))))
        (pss_one (ps_ret (pe_use U__law_of (hr.mono (by decide)) (by rfl) (pa_cons (pv 0) (pa_cons (pv 5) pa_nil))))))))), ?_⟩
    have np : nl ≠ p := by
      obtain ⟨dd, s, t, r, e, _⟩ := hb
      exact ne_of en e fun z => nomatch z
    walk_at "S"
    refine ⟨p, nl, n + 8, ns, rfl, hb, SqL.of en, by omega, fun u H1 uok _ k1 b1 => ?_⟩
    have en1 := k1 _ _ en (not_one np)
    walk_at "S"
    refine r_cutE (fun x H' => ∃ (a : Addr) (ks : List Str), x = .ref a ∧ Kp [] H1 H' ∧ SqL K H' a (ks.map V.str) ∧ 0 < ks.length ∧ ks.length ≤ 20 ∧ ∀ k ∈ ks, NameOk k) ?_ ?_
    · walk_at "S"
      refine r_kLst (xs := []) (Nat.zero_le _) fun l0 H2 n0 k2 e2 => ?_
      have en2 := k2 _ _ en1 not_nil
      have hd : Dt [] H2 (.ref nl) (.list (ns.map .str)) := .lst not_nil en2 (DtAll.of_strs ns)
      have hsh : ∀ d ∈ ns.map PyData.str, Shp 0 d := fun d hd => by
        obtain ⟨w, hw, rfl⟩ := List.mem_map.mp hd
        exact Shp.str (hok w hw).ascii.ok 0
      refine r_neD hd (.lst not_nil e2 .nil) (Shp.list hsh) (Shp.list (n := 0) fun d hd => by cases hd) (by decide) ?_
      rw [eqv_nil _ fun d hd => (hsh d hd).1]
      walk_at "S"
      refine r_kIf (fun c => ?_) (fun c => ?_)
      all_goals walk_at "S"
      · refine ⟨nl, ns, rfl, k2, SqL.of en2, ?_, hl, hok⟩
        cases ns with
        | nil => cases c
        | cons _ _ => exact Nat.zero_lt_succ _
      · refine r_kLst (xs := [V.str "a"]) (by show 1 ≤ sizeLine; decide) fun l1 H3 n1 k3 e3 => ?_
        exact ⟨l1, ["a"], rfl, k2.trans k3, SqL.of e3, by decide, by decide, by decide +kernel⟩
    rintro x H2 ⟨ka, ks, rfl, k2, hks, hk0, hk20, hkok⟩
    have b2 := b1.kp k2 not_nil
    walk_at "S"
    refine r_ofS (n := n + 7) b2 hks hk0 (by omega) fun b H3 hbm k3 b3 => ?_
    walk_at "S"
    refine r_kTup (xs := []) (Nat.zero_le _) fun t0 H4 nt0 k4 et0 => ?_
    walk_at "S"
    refine r_kTup (xs := [V.str b, V.ref t0]) (by show 2 ≤ sizeLine; decide) fun t1 H5 nt1 k5 et1 => ?_
    walk_at "S"
    refine ⟨rfl, fun rl H6 nr k6 er => ?_⟩
    walk_at "S"
    have b6 := ((b3.kp k4 not_nil).kp k5 not_nil).kp k6 not_nil
    refine r_ofS (n := n + 6) b6 (SqL.of er) (by decide) (by decide) fun rw H7 hrm k7 b7 => ?_
    walk_at "S"
    refine r_kTup (xs := []) (Nat.zero_le _) fun t2 H8 nt2 k8 et2 => ?_
    walk_at "S"
    refine r_kTup (xs := [V.str rw, V.ref t2]) (by show 2 ≤ sizeLine; decide) fun t3 H9 nt3 k9 et3 => ?_
    refine r_AN (ds := (oddE u b rw).drop 2) ?_ fun xs H10 k10 h10 => ?_
    · show AN _ _ _ [_, _, _, _, _, _, _, _, _, _, _, _, _, _, _, _, _, _, _, _, _, _, _]
      walk_at "N"
    have hl10 := h10.dt.length
    refine r_kLst (xs := V.ref t1 :: V.ref t3 :: xs) ?_ fun ol H11 no k11 eo => ?_
    · rw [List.length_cons, List.length_cons, hl10]
      show 25 ≤ sizeLine
      decide
    walk_at "S"
    have b9 := (b7.kp k8 not_nil).kp k9 not_nil
    have b11 := (b9.kp k10 not_nil).kp k11 not_nil
    have k03 : Kp [p] H H3 := k1.trans (k2.nil.trans k3)
    have k06 : Kp [p] H H6 := k03.trans (k4.trans (k5.trans k6)).nil
    have k09 : Kp [p] H H9 := k06.trans (k7.trans (k8.trans k9).nil)
    have k0b : Kp [p] H H11 := k09.trans (k10.trans k11).nil
    have hp3 : Has H3 p := b3.some
    have a3 := has_bag b3 k03
    have a4 : ∀ c, Has H c → Has H4 c := fun c h => (a3 c h).kp k4
    have a7 : ∀ c, Has H c → Has H7 c := has_bag b7 (k06.trans k7)
    have a8 : ∀ c, Has H c → Has H8 c := fun c h => (a7 c h).kp k8
    have a9 := has_bag b9 k09
    have hpH : Has H p := hb.some
    have n1 : New H H11 (.ref t1) (.tuple [.str b, .tuple []]) := by
      have z0 : New H H4 (.ref t0) (.tuple []) := New.tup (xs := []) (fun _ _ => .nil) nt0 a3 et0
      have z1 : New H H5 (.ref t1) (.tuple [.str b, .tuple []]) := New.tup (.cons (fun _ _ => .str b) (.cons (z0.mono k5) fun _ _ => .nil)) nt1 a4 et1
      exact (((z1.mono k6).mono1 hpH k7).mono (k8.trans k9)).mono (k10.trans k11)
    have n2 : New H H11 (.ref t3) (.tuple [.str rw, .tuple []]) := by
      have z0 : New H H8 (.ref t2) (.tuple []) := New.tup (xs := []) (fun _ _ => .nil) nt2 a7 et2
      have z1 : New H H9 (.ref t3) (.tuple [.str rw, .tuple []]) := New.tup (.cons (fun _ _ => .str rw) (.cons (z0.mono k9) fun _ _ => .nil)) nt3 a8 et3
      exact z1.mono (k10.trans k11)
    have nA : NewAll H H11 (V.ref t1 :: V.ref t3 :: xs) (oddE u b rw) := .cons n1 (.cons n2 ((h10.back a9).mono k11))
    refine ⟨p, ol, n, _, rfl, b11.mono (by omega), SqL.of eo, Nat.zero_lt_succ _, ?_, fun v H12 hv k12 b12 => ?_⟩
    · rw [List.length_cons, List.length_cons, hl10]
      show 25 ≤ 1000000
      decide
    obtain ⟨d, hd, hn⟩ := nA.mem hv
    exact q v d H12 (k0b.trans k12) (hn.mono1 hpH k12) (odd_ok uok.ascii (hkok b hbm).ascii (res_ascii rw hrm) d hd) b12

theorem own_ok {u : Str} {us : List Str} (hu : NameOk u) (hus : ∀ w ∈ us, NameOk w) (hl : us.length ≤ 100) : Okd (entD (u, us)) := by
  refine ⟨⟨fun w hw => ?_, fun l h => ?_⟩, fun w rest h => ?_, ?_⟩
  · cases hw
    exact hu.ascii.1
  · cases h
    rw [List.length_map]
    show us.length ≤ 1000
    omega
  · cases h
    exact hu.ascii
  · refine Shp.tuple (n := 3) fun d hd => ?_
    rcases List.mem_cons.mp hd with rfl | hd
    · exact Shp.str hu.ascii.ok 3
    · rcases List.mem_cons.mp hd with rfl | hd
      · refine Shp.tuple (n := 2) fun d hd => ?_
        obtain ⟨w, hw, rfl⟩ := List.mem_map.mp hd
        exact Shp.str (hus w hw).ascii.ok 2
      · cases hd
def sp__law_entries (K : PySem.W.Frag) : Sp := fun vs H Q _ => ∃ (p : Addr) (n : Nat), vs = [.ref p] ∧ BagAt H p (n + 500) ∧
  ∀ (l : Addr) (ds : List PyData) H', Kp [p] H H' → Dt [p] H' (.ref l) (.list ds) → ds.length ≤ 6 → (∀ d ∈ ds, Okd d) → BagAt H' p n → Q (.ref l) H'
abbrev s__law_entries : Stmt := top 24
theorem sc__law_entries : FnScope ["_law_bag_here", "_law_found", "_law_names", "_law_turn", "_law_one", "_law_entry"] ["_law_bag_here"] (defScope s__law_entries) :=
  ⟨rfl, rfl, rfl, by decide +kernel, rfl, by decide +kernel, by decide +kernel⟩
theorem ok__law_entries {f : Addr} {fd : FuncData} (F : Fun K "_law_entries" "_law_entries" s__law_entries f fd) (T : Txt K mg C_Kinds C_BadKinds C_SilentswapsError C_BadLine G_RESERVED) (U__law_take : Use P w K mg base 2 "_law_take" ["_law_bag_here", "_law_many"] (sp__law_take)) (U__law_name : Use P w K mg base 6 "_law_name" ["_law_bag_here", "_law_taken"] (sp__law_name K)) (U__law_declares : Use P w K mg base 4 "_law_declares" ["_law_entry", "_law_names"] (sp__law_declares K)) (U__law_odd : Use P w K mg base 8 "_law_odd" ["_law_bag_here", "_law_names"] (sp__law_odd K)) :
    FnOk P w K mg base CX0 10 f fd ["_law_bag_here"] (sp__law_entries K) := by
  refine F.ok sc__law_entries (fun vs H Q E h => ?_) (fun cdv A outer s H vs Q E hr h => ?_)
  · obtain ⟨p, n, rfl, _⟩ := h
    rfl
  · obtain ⟨p, n, rfl, hb, q⟩ := h
    have hu := hu_of hr
    have hu64 := hr.units
    refine ⟨_, (pss_cons (ps_par (i := 1) (j := 2) (by rfl) sc__law_entries.nd rfl rfl (by decide) rfl rfl (pa_cons (pe_lst pa_nil) (pa_cons (pe_lst pa_nil) pa_nil)) (by rfl))
        (pss_cons (ps_for PassesOwn.never (by rfl) (pi_range1 (by rfl) T.z_range (pa_cons (pe_use U__law_take (hr.mono (by decide)) (by rfl) (pa_cons (pv 0) (pa_cons pe_int pa_nil))) pa_nil)) (pg_name (i := 3) sc__law_entries.nd rfl (by first | exact Or.inl rfl | exact Or.inr rfl))
          (pss_cons (ps_set (i := 5) sc__law_entries.nd rfl (by first | exact Or.inl rfl | exact Or.inr rfl) (pe_tup (pa_cons (pe_use U__law_name (hr.mono (by decide)) (by rfl) (pa_cons (pv 0) (pa_cons (pv 2) pa_nil))) (pa_cons (pe_callTy (K_tuple (K := K) rfl) (by rfl) T.z_tuple (by decide +kernel) (pa_cons (pe_lc (own := [("_law_one", 4)]) (by rfl) sc__law_entries.nd (K_pil (K := K) rfl (pv 2)) (blkOk_by (own := [("_law_one", 4)]) (N := ["_law_bag_here", "_law_found", "_law_names", "_law_turn", "_law_one", "_law_entry"]) (sc := defScope s__law_entries) (by decide +kernel)) (fun _ _ _ _ _ => (pg_name (i := 4) sc__law_entries.nd rfl (by first | exact Or.inl rfl | exact Or.inr rfl))) (fun _ _ _ _ _ => pts_one (pt_cmpR op_eq (pe_use U__law_take (hr.mono (by decide)) (by rfl) (pa_cons (pv 0) (pa_cons pe_int pa_nil))) pe_int (nomark _))) (fun _ _ _ _ _ => (pv 4))) pa_nil)) pa_nil))))
          (pss_cutS (ps_if (pt_cmpR op_eq (pe_use U__law_take (hr.mono (by decide)) (by rfl) (pa_cons (pv 0) (pa_cons pe_int pa_nil))) pe_int (nomark _))
            (pss_one (ps_set (i := 5) sc__law_entries.nd rfl (by first | exact Or.inl rfl | exact Or.inr rfl) (pe_use U__law_odd (hr.mono (by decide)) (by rfl) (pa_cons (pv 0) (pa_cons (pv 2) pa_nil)))))
            pss_nil)
          (pss_cons (ps_expr (K_bm (K := K) rfl PySem.F.plainAttrs_list PySem.F.slot_list_append PySem.F.type_list_append mt_append (pv 1) (pa_cons (pv 5) pa_nil)))
          (pss_one (ps_if (pt_val (pe_use U__law_declares (hr.mono (by decide)) (by rfl) (pa_cons (pv 5) (pa_cons (pv 2) pa_nil))))
            (pss_one (ps_expr (K_bm (K := K) rfl PySem.F.plainAttrs_list PySem.F.slot_list_append PySem.F.type_list_append mt_append (pv 2) (pa_cons (pe_ix (K_ixT (K := K) rfl) (pv 5) pe_int (fun _ _ => rfl)) pa_nil))))
            pss_nil))))))
        (pss_one (ps_ret (pv 1))))), ?_⟩
    walk_at "S"
    refine r_kLst (xs := []) (Nat.zero_le _) fun F H1 nF k1 eF => ?_
    walk_at "S"
    refine r_kLst (xs := []) (Nat.zero_le _) fun N H2 nN k2 eN => ?_
    walk_at "S"
    refine ⟨_, _, rfl, ?_⟩
    have b2 := (hb.kp k1 not_nil).kp k2 not_nil
    have Fp : F ≠ p := by
      obtain ⟨o, ho⟩ := hb.some
      exact ne_none ho nF
    have Np : N ≠ p := by
      obtain ⟨o, ho⟩ := (hb.kp k1 not_nil).some
      exact ne_none ho nN
    have NF : N ≠ F := ne_none eF nN
    have nN0 : H N = none := k1.free nN not_nil
    have eF2 := k2 _ _ eF not_nil
    walk_at "S"
    refine ⟨p, n + 499, 7, rfl, b2, by decide, by decide, fun r H3 r0 r1 k3 b3 => ?_⟩
    walk_at "S"
    refine r_cRng1 ⟨by omega, by omega⟩ ?_
    refine r_kForR (fun i σ' H' => ∃ (ds : List PyData) (ns : List Str) (acc : List V) (v3 v4 v5 : Option V), σ' = [some (.ref p), some (.ref F), some (.ref N), v3, v4, v5] ∧ Kp [p] H H' ∧ H' F = some (.lst acc) ∧ DtAll [F, N, p] H' acc ds ∧ ds.length = i ∧ (∀ d ∈ ds, Okd d) ∧
        H' N = some (.lst (ns.map V.str)) ∧ ns.length ≤ i ∧ (∀ w ∈ ns, NameOk w) ∧ BagAt H' p (n + 60 * (7 - i))) ⟨[], [], [], none, none, none, rfl, (k1.trans k2).nil.trans k3, k3 _ _ eF2 (not_one Fp), .nil, rfl, (fun d hd => by cases hd), k3 _ _ eN (not_one Np), Nat.le_refl _, (fun w hw => by cases hw), b3.mono (by omega)⟩ ?_ ?_
    · rintro i σ' H4 hi ⟨ds, ns, acc, v3, v4, v5, rfl, k4, e4F, hA, hds, hok, e4N, hns, hnok, b4⟩
      have hi6 : i < 6 := by omega
      walk_at "S"
      refine ⟨p, N, n + 60 * (7 - i) - 12, ns, rfl, b4.mono (by omega), SqL.of e4N, by omega, fun u H5 uok _ k5 b5 => ?_⟩
      have e5N := k5 _ _ e4N (not_one Np)
      walk_at "S"
      refine r_cWL (SqL.of e5N) ?_
      refine r_kLcL (fun D j ac H' => ∃ us : List Str, ac = us.map V.str ∧ us.length ≤ j ∧ (∀ w ∈ us, NameOk w) ∧ Kp [p] H5 H' ∧ BagAt H' p (n + 60 * (7 - i) - 12 - j)) (fun D H' nD k e => ⟨[], rfl, Nat.zero_le _, (fun w hw => by cases hw), k.nil, b5.kp k not_nil⟩)
        (fun D j ac H' _ h => by
          obtain ⟨_, _, _, _, k, _⟩ := h
          exact sql_kp (SqL.of e5N) k (not_one Np)) ?_ ?_
      · rintro D j ac x H6 nD hx eD ⟨us, rfl, hus, huok, k6, b6⟩
        obtain ⟨one, hone, rfl⟩ := map_at hx
        have hj := lt_at hone
        have Dp : D ≠ p := by
          obtain ⟨o, ho⟩ := b5.some
          exact ne_none ho nD
        walk_at "S"
        refine ⟨p, n + 60 * (7 - i) - 12 - (j + 1), 3, rfl, b6.mono (by omega), by decide, by decide, fun z H7 z0 z1 k7 b7 => ?_⟩
        walk_at "S"
        have eD7 := k7 _ _ eD (not_one Dp)
        refine r_kKeep (fun c => ?_) (fun c => ?_)
        · walk_at "S"
          refine r_kApp eD7 ?_ fun H8 k8 e8 => ⟨us ++ [one], ?_, ?_, fun w hw => ?_, (k6.trans k7).step nD k8, b7.kp k8 (not_one Dp.symm)⟩
          · rw [List.length_map]
            have : 20 < sizeLine := by decide
            omega
          · rw [List.map_append]
            rfl
          · rw [List.length_append]
            show us.length + 1 ≤ j + 1
            omega
          · rcases List.mem_append.mp hw with m | m
            · exact huok w m
            · rw [List.mem_singleton.mp m]
              exact hnok one (mem_at hone)
        · exact ⟨_, eD7, us, rfl, by omega, huok, k6.trans k7, b7⟩
      rintro D ac H6 nD eD ⟨us, rfl, hus, huok, k6, b6⟩
      rw [List.length_map] at hus b6
      walk_at "S"
      refine r_tupleL (SqL.of eD) fun bt H7 nb k7 eb => ?_
      walk_at "S"
      refine r_kTup (xs := [V.str u, V.ref bt]) (by show 2 ≤ sizeLine; decide) fun t H8 nt k8 et => ?_
      have b8 := (b6.kp k7 not_nil).kp k8 not_nil
      have k46 : Kp [p] H4 H6 := k5.trans k6
      have k48 : Kp [p] H4 H8 := k46.trans (k7.trans k8).nil
      have a6 := has_bag b6 k46
      have n8 : New H4 H8 (.ref t) (entD (u, us)) := New.tup (.cons (fun _ _ => .str u) (.cons (New.tup (fun ex _ => DtAll.of_strs us) nb a6 (k8 _ _ eb not_nil)) fun _ _ => .nil)) nt (fun c h => (a6 c h).kp k7) et
      walk_at "S"
      refine r_cutS (fun σ' H' => ∃ (x : V) (d : PyData) (v4 : Option V), σ' = [some (.ref p), some (.ref F), some (.ref N), some (.int (i : Int)), v4, some x] ∧ Kp [p] H4 H' ∧ New H4 H' x d ∧ Okd d ∧ BagAt H' p (n + 60 * (7 - i) - 45)) ?_ ?_
      · walk_at "S"
        refine ⟨p, n + 60 * (7 - i) - 20, 5, rfl, b8.mono (by omega), by decide, by decide, fun z H9 z0 z1 k9 b9 => ?_⟩
        walk_at "S"
        refine r_kIfS (fun c => ?_) (fun c => ?_)
        all_goals walk_at "S"
        · have e9N := k9 _ _ (k48 _ _ e4N (not_one Np)) (not_one Np)
          refine ⟨p, N, n + 60 * (7 - i) - 45, ns, rfl, b9.mono (by omega), e9N, by omega, hnok, fun x d H10 k10 hn ho b10 => ?_⟩
          walk_at "S"
          exact ⟨x, d, _, rfl, k48.trans (k9.trans k10), hn.back (has_bag b9 (k48.trans k9)), ho, b10⟩
        · exact ⟨_, _, _, rfl, k48.trans k9, n8.mono1 b4.some k9, own_ok uok huok (by omega), b9.mono (by omega)⟩
      rintro σ' H9 ⟨x, d, v4, rfl, k9, hn, hd, b9⟩
      have e9F := k9 _ _ e4F (not_one Fp)
      have e9N := k9 _ _ e4N (not_one Np)
      walk_at "S"
      refine r_kBMl (SqL.of e9F) ?_
      walk_at "S"
      have hal := hA.length
      refine r_append e9F ?_ fun H10 k10 e10 => ?_
      · have : 20 < sizeLine := by decide
        omega
      have hx9 : Dt [F, N, p] H9 x d := hn [F, N, p] fun b hb => by
        rcases List.mem_cons.mp hb with rfl | hb
        · exact ⟨_, e4F⟩
        · rcases List.mem_cons.mp hb with rfl | hb
          · exact ⟨_, e4N⟩
          · rw [List.mem_singleton.mp hb]
            exact b4.some
      have hA9 : DtAll [F, N, p] H9 acc ds := hA.mono (k9.mono fun b hb => by
        rw [List.mem_singleton.mp hb]
        exact List.mem_cons_of_mem _ (List.mem_cons_of_mem _ List.mem_cons_self))
      have k10' : Kp [F, N, p] H9 H10 := k10.mono fun b hb => by
        rw [List.mem_singleton.mp hb]
        exact List.mem_cons_self
      have hA10 := (hA9.snoc hx9).mono k10'
      have hx10 : Dt [] H10 x d := (hx9.mono k10').less fun _ m => absurd m not_nil
      have e10N := k10 _ _ e9N (not_one NF)
      have kH10 : Kp [p] H H10 := (k4.trans k9).step nF k10
      have b10 := b9.kp k10 (not_one Fp.symm)
      have hok' : ∀ y ∈ ds ++ [d], Okd y := fun y hy => by
        rcases List.mem_append.mp hy with m | m
        · exact hok y m
        · rw [List.mem_singleton.mp m]
          exact hd
      have hds' : (ds ++ [d]).length = i + 1 := by
        rw [List.length_append, hds]
        rfl
      walk_at "S"
      refine ⟨N, ns, x, d, rfl, SqL.of e10N, hx10, hd.1, hd.2.1, fun H11 k11 => ?_⟩
      walk_at "S"
      have hA11 := hA10.mono k11.nil
      have e11F := k11 _ _ e10 not_nil
      have e11N := k11 _ _ e10N not_nil
      refine r_kIfS (fun c => ?_) (fun c => ?_)
      all_goals walk_at "S"
      · obtain ⟨w, d1, bl, rfl, hw, _, _, _⟩ := declares_get c
        obtain ⟨tv, ys, rfl, _, etv, al2⟩ := (hx10.mono k11).tuple
        cases al2 with
        | cons h0 al2 =>
        cases al2 with
        | cons h1 al2 =>
        cases al2
        cases h0
        refine r_kBMl (SqL.of e11N) ?_
        walk_at "S"
        refine r_ixT (SqT.of etv) (atI_nat (j := 0) rfl) ?_
        walk_at "S"
        refine r_append e11N ?_ fun H12 k12 e12 => ?_
        · rw [List.length_map]
          have : 20 < sizeLine := by decide
          omega
        walk_at "S"
        refine ⟨_, ns ++ [w], _, _, _, _, rfl, (kH10.trans k11.nil).step nN0 k12, k12 _ _ e11F (not_one NF.symm), hA11.mono (k12.mono fun b hb => by
          rw [List.mem_singleton.mp hb]
          exact List.mem_cons_of_mem _ List.mem_cons_self), hds', hok', ?_, ?_, fun z hz => ?_, ((b10.kp k11 not_nil).kp k12 (not_one Np.symm)).mono (by omega)⟩
        · rw [List.map_append]
          exact e12
        · rw [List.length_append]
          show ns.length + 1 ≤ i + 1
          omega
        · rcases List.mem_append.mp hz with m | m
          · exact hnok z m
          · rw [List.mem_singleton.mp m]
            exact hw
      · exact ⟨_, ns, _, _, _, _, rfl, kH10.trans k11.nil, e11F, hA11, hds', hok', e11N, by omega, hnok, (b10.kp k11 not_nil).mono (by omega)⟩
    · rintro σ' H4 ⟨ds, ns, acc, v3, v4, v5, rfl, k4, e4F, hA, hds, hok, e4N, hns, hnok, b4⟩
      walk_at "S"
      exact q F ds H4 k4 (.lst (not_one Fp) e4F (hA.less fun b hb => by
        rw [List.mem_singleton.mp hb]
        exact List.mem_cons_of_mem _ (List.mem_cons_of_mem _ List.mem_cons_self))) (by omega) hok (b4.mono (by omega))

/-- the law: True -/
def sp_law (K : PySem.W.Frag) : Sp := fun vs H Q _ => ∃ (a : Addr) (ns : List Int), vs = [.ref a] ∧ SqL K H a (ns.map V.int) ∧ ns.length ≤ 63 ∧ ∀ H', Q (.bl true) H'
theorem told_due {d : PyData} {ds : List PyData} (h : seqOf d = some ds) : told d = match due ds with | some i => .list [.int (i : Int), .bool true, .bool true, .bool false] | none => .none := by
  have e : refused d = (due ds).map fun (i : Nat) => (i : Int) := by
    unfold refused
    rw [h]
  unfold told
  rw [e]
  cases due ds <;> rfl
theorem told_shp (d : PyData) : Shp 1 (told d) := by
  unfold told
  cases refused d with
  | none => exact Shp.none 1
  | some n =>
    refine Shp.list (n := 0) fun x hx => ?_
    simp only [List.mem_cons, List.not_mem_nil, or_false] at hx
    rcases hx with rfl | rfl | rfl | rfl
    · exact Shp.int n 0
    · exact Shp.bool true 0
    · exact Shp.bool true 0
    · exact Shp.bool false 0
theorem told_none {d : PyData} (h : seqOf d = none) : told d = .list [.int (-1), .bool true, .bool true, .bool false] := by
  unfold told refused
  rw [h]
theorem fine_none {d : PyData} (h : seqOf d = none) : Fine d := fun l hl => by
  rw [h] at hl
  cases hl
theorem told_nil {d : PyData} (h : seqOf d = some []) : told d = .none := by
  rw [told_due h]
  rfl
theorem fine_nil {d : PyData} (h : seqOf d = some []) : Fine d := fun l hl => by
  rw [h] at hl
  cases hl
  exact ⟨Nat.zero_le _, fun x hx => by cases hx⟩
theorem dt_none {ex : List Addr} {H : Hp} {x : V} (h : Dt ex H x .none) : x = .non := by
  cases h
  rfl
abbrev s_law : Stmt := top 25
theorem sc_law : FnScope ["_law_script", "_law_at", "_law_bag_here", "_law_entries_here", "_law_kept", "_law_due_here", "_law_handed", "_law_told", "_law_thing"] ["_law_script"] (defScope s_law) :=
  ⟨rfl, rfl, rfl, by decide +kernel, rfl, by decide +kernel, by decide +kernel⟩
theorem ok_law {f : Addr} {fd : FuncData} (F : Fun K "law" "law" s_law f fd) (T : Txt K mg C_Kinds C_BadKinds C_SilentswapsError C_BadLine G_RESERVED) (U_Kinds___init__ : UseCX P w K mg base 8 "Kinds" C_Kinds (sp_Kinds___init__ K C_Kinds C_BadKinds)) (U_Kinds___len__ : UseM P w K mg base 2 C_Kinds "__len__" (sp_Kinds___len__ K C_Kinds)) (U__law_bag : Use P w K mg base 2 "_law_bag" ["_law_script", "_law_at"] (sp__law_bag K)) (U__law_take : Use P w K mg base 2 "_law_take" ["_law_bag_here", "_law_many"] (sp__law_take)) (U__law_refused : Use P w K mg base 10 "_law_refused" ["_law_entries_here"] (sp__law_refused K)) (U__law_due : Use P w K mg base 6 "_law_due" ["_law_entries_here"] (sp__law_due K)) (U__law_entries : Use P w K mg base 10 "_law_entries" ["_law_bag_here"] (sp__law_entries K)) :
    FnOk P w K mg base CX0 12 f fd ["_law_script"] (sp_law K) := by
  refine F.ok sc_law (fun vs H Q E h => ?_) (fun cdv A outer s H vs Q E hr h => ?_)
  · obtain ⟨a, ns, rfl, _⟩ := h
    rfl
  · obtain ⟨a, ns, rfl, hS, hl, q⟩ := h
    obtain ⟨f_Kinds___init__, R_Kinds___init__, M_Kinds___init__, g_Kinds___init__⟩ := U_Kinds___init__
    obtain ⟨f_Kinds___len__, R_Kinds___len__, M_Kinds___len__⟩ := U_Kinds___len__
    have hu := hu_of hr
    have hu64 := hr.units
    refine ⟨_, (pss_cons (ps_for PassesOwn.never (by rfl) (pi_range1 (by rfl) T.z_range (pa_cons (pe_callB (cr_max2 rfl) (by rfl) T.z_max (by decide +kernel) (pa_cons pe_int (pa_cons (pe_callB (cr_min2 rfl) (by rfl) T.z_min (by decide +kernel) (pa_cons pe_int (pa_cons (pe_callB (K_len (K := K) rfl) (by rfl) T.z_len (by decide +kernel) (pa_cons (pv 0) pa_nil)) pa_nil))) pa_nil))) pa_nil)) (pg_name (i := 1) sc_law.nd rfl (by first | exact Or.inl rfl | exact Or.inr rfl))
          (pss_cons (ps_set (i := 2) sc_law.nd rfl (by first | exact Or.inl rfl | exact Or.inr rfl) (pe_use U__law_bag (hr.mono (by decide)) (by rfl) (pa_cons (pv 0) (pa_cons (pv 1) pa_nil))))
          (pss_cons (ps_set (i := 3) sc_law.nd rfl (by first | exact Or.inl rfl | exact Or.inr rfl) (pe_use U__law_entries (hr.mono (by decide)) (by rfl) (pa_cons (pv 2) pa_nil)))
          (pss_cons (ps_par (i := 4) (j := 5) (by rfl) sc_law.nd rfl rfl (by decide) rfl rfl (pa_cons (pe_callTy (K_list (K := K) rfl) (by rfl) T.z_list (by decide +kernel) (pa_cons (pv 3) pa_nil)) (pa_cons (pe_use U__law_due (hr.mono (by decide)) (by rfl) (pa_cons (pv 3) pa_nil)) pa_nil)) (by rfl))
          (pss_cons (ps_set (i := 6) sc_law.nd rfl (by first | exact Or.inl rfl | exact Or.inr rfl) (pe_cutE (pe_ifExp (pt_cmpR op_eq (pe_use U__law_take (hr.mono (by decide)) (by rfl) (pa_cons (pv 2) (pa_cons pe_int pa_nil))) pe_int (nomark _)) (pv 3) (pe_callTy (K_tuple (K := K) rfl) (by rfl) T.z_tuple (by decide +kernel) (pa_cons (pv 3) pa_nil)))))
          (pss_cons (ps_set (i := 7) sc_law.nd rfl (by first | exact Or.inl rfl | exact Or.inr rfl) (pe_use U__law_refused (hr.mono (by decide)) (by rfl) (pa_cons (pv 6) pa_nil)))
          (pss_cons (ps_if (pt_cutT (PW.pt (pw_or (pt_cmpR (K_neD (K := K) rfl hu64) (pv 7) (pe_ifExp (pt_cmpR op_isNo (pv 5) pe_non (nomark _)) pe_non (pe_lst (pa_cons (pv 5) (pa_cons pe_bl (pa_cons pe_bl (pa_cons pe_bl pa_nil)))))) (nomark _)) (pw_or1 (pt_cmpR (K_neD (K := K) rfl hu64) (pe_callTy (K_list (K := K) rfl) (by rfl) T.z_list (by decide +kernel) (pa_cons (pv 6) pa_nil)) (pv 4) (nomark _))))))
            (pss_one (ps_ret pe_bl))
            pss_nil)
          (pss_cons (ps_if (pt_cutT (PW.pt (pw_and (pt_cmpR op_notNo (pv 7) pe_non (nomark _)) (pw_and1 (pt_val (pe_callB (K_isi (K := K) rfl) (by rfl) T.z_isinstance (by decide +kernel) (pa_cons (pe_ix (K_ixL (K := K) rfl) (pv 7) pe_int (fun _ _ => rfl)) (pa_cons (pe_bltn (v := .ty "bool") (u := .type "bool") (by rfl) T.z_bool (by decide +kernel) rfl) pa_nil))))))))
            (pss_one (ps_ret pe_bl))
            pss_nil)
          (pss_cons (ps_for PassesOwn.never (by rfl) (K_pil (K := K) rfl (pe_lst (pa_cons pe_non (pa_cons pe_str (pa_cons pe_int (pa_cons pe_bl pa_nil)))))) (pg_name (i := 8) sc_law.nd rfl (by first | exact Or.inl rfl | exact Or.inr rfl))
            (pss_one (ps_if (pt_cmpR (K_neD (K := K) rfl hu64) (pe_use U__law_refused (hr.mono (by decide)) (by rfl) (pa_cons (pv 8) pa_nil)) (pe_lst (pa_cons (pe_un un_neg pe_int) (pa_cons pe_bl (pa_cons pe_bl (pa_cons pe_bl pa_nil))))) (nomark _))
              (pss_one (ps_ret pe_bl))
              pss_nil)))
          (pss_one (ps_if (pt_cutT (PW.pt (pw_or (pt_cmpR op_notNo (pe_use U__law_refused (hr.mono (by decide)) (by rfl) (pa_cons (pe_lst pa_nil) pa_nil)) pe_non (nomark _)) (pw_or (pt_cmpR op_notNo (pe_use U__law_refused (hr.mono (by decide)) (by rfl) (pa_cons (pe_tup pa_nil) pa_nil)) pe_non (nomark _)) (pw_or1 (pt_cmpR op_ne (pe_callB (cr_lenOwn M_Kinds___len__ R_Kinds___len__ (hr.mono (by decide))) (by rfl) T.z_len (by decide +kernel) (pa_cons (pe_makeR M_Kinds___init__ R_Kinds___init__ (hr.mono (by decide)) (by rfl) g_Kinds___init__ passL (pa_cons (pe_lst pa_nil) pa_nil)) pa_nil)) pe_int (nomark _)))))))
            (pss_one (ps_ret pe_bl))
            pss_nil)))))))))))
        (pss_one (ps_ret pe_bl))), ?_⟩
    walk_at "S"
    refine r_lenL hS ?_
    walk_at "S"
    have hlen : (ns.map V.int).length = ns.length := List.length_map _
    refine r_cRng1 ?_ ?_
    · rw [hlen]
      split <;> split <;> omega
    refine r_kForR (fun i σ' H' => ∃ v1 v2 v3 v4 v5 v6 v7 v8, σ' = [some (.ref a), v1, v2, v3, v4, v5, v6, v7, v8] ∧ Kp [] H H') ⟨none, none, none, none, none, none, none, none, rfl, Kp.refl _ _⟩ ?_ ?_
    · rintro i σ' H1 hi ⟨v1, v2, v3, v4, v5, v6, v7, v8, rfl, k1⟩
      have hi63 : i ≤ 63 := by
        rw [hlen] at hi
        split at hi <;> split at hi <;> omega
      walk_at "S"
      refine ⟨a, ns, i, rfl, k1.sql hS, by omega, fun p H2 np k2 b2 => ?_⟩
      walk_at "S"
      refine ⟨p, 69999990000, rfl, b2.mono (by omega), fun L ds H3 k3 hD hl6 hok b3 => ?_⟩
      obtain ⟨L', xs, e, Lp, eL, hA⟩ := hD.list
      cases e
      have Lp : L ≠ p := fun z => Lp (z ▸ List.mem_singleton.mpr rfl)
      have hsm : ∀ d ∈ ds, Small d ∧ Plain d := fun d hd => ⟨(hok d hd).1, (hok d hd).2.1⟩
      walk_at "S"
      refine r_listL (SqL.of eL) fun kp H4 nk k4 ek => ?_
      have eL4 := k4 _ _ eL not_nil
      have hA4 : DtAll [p] H4 xs ds := hA.mono k4.nil
      have kpp : kp ≠ p := by
        obtain ⟨o, ho⟩ := b3.some
        exact ne_none ho nk
      walk_at "S"
      refine ⟨L, xs, ds, rfl, eL4, hA4.less fun _ m => absurd m not_nil, by omega, hsm, fun H5 k5 => ?_⟩
      walk_at "S"
      refine ⟨_, _, rfl, ?_⟩
      have b5 := (b3.kp k4 not_nil).kp k5 not_nil
      have eL5 := k5 _ _ eL4 not_nil
      have ek5 := k5 _ _ ek not_nil
      have hA5 : DtAll [p] H5 xs ds := hA4.mono k5.nil
      walk_at "S"
      refine r_cutE (fun x H' => ∃ (h : Addr) (d : PyData), x = .ref h ∧ Kp [p] H5 H' ∧ Dt [] H' (.ref h) d ∧ seqOf d = some ds ∧ Sq K H' h xs) ?_ ?_
      · walk_at "S"
        refine ⟨p, 69999980000, 2, rfl, b5.mono (by omega), by decide, by decide, fun r H6 r0 r1 k6 b6 => ?_⟩
        have eL6 := k6 _ _ eL5 (not_one Lp)
        have hA6 : DtAll [] H6 xs ds := (hA5.mono k6).less fun _ m => absurd m not_nil
        walk_at "S"
        refine r_kIf (fun c => ?_) (fun c => ?_)
        all_goals walk_at "S"
        · exact ⟨L, .list ds, rfl, k6, .lst not_nil eL6 hA6, rfl, .inl (SqL.of eL6)⟩
        · refine r_tupleL (SqL.of eL6) fun t H7 nt k7 et => ?_
          exact ⟨t, .tuple ds, rfl, k6.trans k7.nil, .tup not_nil et (hA6.mono k7), rfl, .inr (SqT.of et)⟩
      rintro x H6 ⟨hh, d, rfl, k6, hd6, hseq, hq6⟩
      have k16 : Kp [] H1 H6 := (k2.nil.trans (k3.trans ((k4.trans k5).nil.trans k6))).drop np
      have ek6 := k6 _ _ ek5 (not_one kpp)
      have hA6 : DtAll [] H6 xs ds := (hA5.mono k6).less fun _ m => absurd m not_nil
      walk_at "S"
      refine ⟨.ref hh, d, rfl, hd6, fun l hl => ?_, fun tv H7 k7 ht => ?_⟩
      · rw [hseq] at hl
        cases hl
        exact ⟨by omega, fun x hx => (hok x hx).1⟩
      walk_at "S"
      have hdsv : dueV ds = (match due ds with | some i => .int (i : Int) | none => .non) := rfl
      have shds : Shp 5 (.list ds) := Shp.list fun x hx => (hok x hx).2.2
      refine r_cutT (fun b H' => Kp [] H7 H' ∧ b = false) ?_ ?_
      · walk_at "S"
        have rest : ∀ (y : V) (H8 : Hp), Kp [] H7 H8 → Dt [] H8 y (told d) → rNeD K tv y H8 (kB (kOr (tTest (tOp (rNeD K) (tCB (cList K) (tCons (tVar 6) tNil)) (tVar 4)))
            ((((((([some (V.ref a), v1, v2, v3, v4, v5, v6, v7, v8].set 1 (some (V.int (i : Int)))).set 2 (some (V.ref p))).set 3 (some (V.ref L))).set 4 (some (V.ref kp))).set 5 (some (dueV ds))).set 6 (some (V.ref hh))).set 7 (some tv)) (fun b H' => Kp [] H7 H' ∧ b = false))) := fun y H8 k8 hy => by
          refine r_neD0 (ht.mono k8) hy (told_shp d) (by decide) ?_
          walk_at "S"
          refine r_kOr0 rfl ?_
          walk_at "S"
          refine r_listQ (hq6.kp (k7.trans k8) not_nil) fun l2 H9 n9 k9 e9 => ?_
          walk_at "S"
          have hx9 : Dt [] H9 (.ref l2) (.list ds) := .lst not_nil e9 (hA6.mono (k7.trans (k8.trans k9)))
          have hk9 : Dt [] H9 (.ref kp) (.list ds) := .lst not_nil ((k7.trans (k8.trans k9)) _ _ ek6 not_nil) (hA6.mono (k7.trans (k8.trans k9)))
          refine r_neD0 hx9 hk9 shds (by decide) ?_
          walk_at "S"
          exact ⟨k8.trans k9, rfl⟩
        refine r_isNo ?_
        walk_at "S"
        have ht0 := told_due hseq
        cases hdue : due ds with
        | none =>
          rw [hdue] at ht0 hdsv
          refine r_kIf1 (by rw [hdsv]; rfl) ?_
          walk_at "S"
          refine rest .non H7 (Kp.refl _ _) ?_
          rw [ht0]
          exact .non
        | some j =>
          rw [hdue] at ht0 hdsv
          refine r_kIf0 (by rw [hdsv]; rfl) ?_
          walk_at "S"
          refine r_kLst (xs := [dueV ds, V.bl true, V.bl true, V.bl false]) (by show 4 ≤ sizeLine; decide) fun l1 H8 n8 k8 e8 => ?_
          refine rest (.ref l1) H8 k8 ?_
          rw [ht0]
          rw [hdsv] at e8
          exact .lst not_nil e8 (.cons (.int _) (.cons (.bl true) (.cons (.bl true) (.cons (.bl false) .nil))))
      rintro b H8 ⟨k8, rfl⟩
      refine r_kIfS0 rfl ?_
      walk_at "S"
      have ht8 := ht.mono k8
      refine r_cutT (fun b H' => H8 = H' ∧ b = false) ?_ ?_
      · walk_at "S"
        refine r_notNo ?_
        walk_at "S"
        have ht0 := told_due hseq
        cases hdue : due ds with
        | none =>
          rw [hdue] at ht0
          rw [ht0] at ht8
          obtain rfl := dt_none ht8
          exact r_kAnd0 rfl ⟨rfl, rfl⟩
        | some j =>
          rw [hdue] at ht0
          rw [ht0] at ht8
          obtain ⟨tl, ys, rfl, _, etl, al⟩ := ht8.list
          cases al with
          | cons h0 al =>
          cases h0
          refine r_kAnd1 rfl ?_
          walk_at "S"
          refine r_ixL (SqL.of etl) (atI_nat (j := 0) rfl) ?_
          walk_at "S"
          refine r_isiBool (ex := []) (.int _) ?_
          walk_at "S"
          exact ⟨rfl, rfl⟩
      rintro b H' ⟨rfl, rfl⟩
      refine r_kIfS0 rfl ?_
      walk_at "S"
      refine r_kLst (xs := [V.non, V.str "ab", V.int 3, V.bl true]) (by show 4 ≤ sizeLine; decide) fun l4 H9 n9 k9 e9 => ?_
      refine r_cWL (SqL.of e9) ?_
      refine r_kForL (fun m σ' H' => ∃ v8, σ' = [some (.ref a), some (.int (i : Int)), some (.ref p), some (.ref L), some (.ref kp), some (dueV ds), some (.ref hh), some tv, v8] ∧ Kp [] H9 H')
        ⟨v8, rfl, Kp.refl _ _⟩ (fun m σ' H' _ ⟨_, _, k⟩ => SqL.of (k _ _ e9 not_nil)) ?_ ?_
      · rintro m y σ' H10 hy ⟨v8, rfl, k10⟩
        obtain ⟨d4, hd4, hs4⟩ : ∃ d4, Dt [] H10 y d4 ∧ seqOf d4 = none := by
          match m, hy with
          | 0, hy =>
            cases hy
            exact ⟨.none, .non, rfl⟩
          | 1, hy =>
            cases hy
            exact ⟨.str "ab", .str _, rfl⟩
          | 2, hy =>
            cases hy
            exact ⟨.int 3, .int _, rfl⟩
          | 3, hy =>
            cases hy
            exact ⟨.bool true, .bl _, rfl⟩
          | m + 4, hy => simp at hy
        walk_at "S"
        refine ⟨y, d4, rfl, hd4, fine_none hs4, fun tz H11 k11 htz => ?_⟩
        walk_at "S"
        refine r_kLst (xs := [V.int (-1), V.bl true, V.bl true, V.bl false]) (by show 4 ≤ sizeLine; decide) fun l5 H12 n12 k12 e12 => ?_
        have hsh := told_shp d4
        rw [told_none hs4] at htz hsh
        refine r_neD0 (htz.mono k12) (.lst not_nil e12 (.cons (.int _) (.cons (.bl true) (.cons (.bl true) (.cons (.bl false) .nil))))) hsh (by decide) ?_
        walk_at "S"
        refine r_kIfS0 rfl ?_
        walk_at "S"
        exact ⟨_, rfl, k10.trans (k11.trans k12)⟩
      · rintro σ' H10 ⟨v8, rfl, k10⟩
        walk_at "S"
        refine r_cutT (fun b H' => Kp [] H10 H' ∧ b = false) ?_ ?_
        · walk_at "S"
          refine r_kLst (xs := []) (Nat.zero_le _) fun l6 H11 n11 k11 e11 => ?_
          walk_at "S"
          refine ⟨.ref l6, .list [], rfl, .lst not_nil e11 .nil, fine_nil rfl, fun tz H12 k12 htz => ?_⟩
          rw [told_nil rfl] at htz
          obtain rfl := dt_none htz
          walk_at "S"
          refine r_notNo ?_
          walk_at "S"
          refine r_kOr0 rfl ?_
          walk_at "S"
          refine r_kTup (xs := []) (Nat.zero_le _) fun l7 H13 n13 k13 e13 => ?_
          walk_at "S"
          refine ⟨.ref l7, .tuple [], rfl, .tup not_nil e13 .nil, fine_nil rfl, fun tz H14 k14 htz => ?_⟩
          rw [told_nil rfl] at htz
          obtain rfl := dt_none htz
          walk_at "S"
          refine r_notNo ?_
          walk_at "S"
          refine r_kOr0 rfl ?_
          walk_at "S"
          refine r_kLst (xs := []) (Nat.zero_le _) fun l8 H15 n15 k15 e15 => ?_
          walk_at "S"
          refine r_kMake fun o dx H16 no k16 eo => ?_
          refine ⟨o, dx, .ref l8, .list [], rfl, eo, .lst not_nil (k16 _ _ e15 not_nil) .nil, fine_nil rfl, fun H17 l k17 hs hd hK => r_kMade ?_, fun e n H17 hn _ _ => by cases hn⟩
          cases hs
          obtain ⟨dx', nt, et, _, _, e3, e4, _⟩ := hK.ob
          walk_at "S"
          refine ⟨o, dx', _, rfl, e3, ?_⟩
          refine ⟨o, dx', nt, _, _, rfl, e3, kf_n _ _, e4, ?_⟩
          refine ⟨0, rfl, by decide, by decide, ?_⟩
          walk_at "S"
          exact ⟨k11.trans (k12.trans (k13.trans (k14.trans (k15.trans ((k16.nil.trans k17).drop no))))), rfl⟩
        rintro b H11 ⟨k11, rfl⟩
        refine r_kIfS0 rfl ?_
        walk_at "S"
        exact ⟨_, _, _, _, _, _, _, _, rfl, k1.trans (k16.trans (k7.trans (k8.trans (k9.trans (k10.trans k11)))))⟩
    · rintro σ' H1 ⟨v1, v2, v3, v4, v5, v6, v7, v8, rfl, k1⟩
      walk_at "S"
      exact q H1

end
theorem all_mk {l : PySem.W.OpenLaw} {w : World} {K : PySem.W.Frag} {h : Heap} {mg : Str → Option Value} {fa f1 f2 f3 f4 f5 f6 f7 f8 f9 f10 f11 f12 f13 f14 f15 f16 f17 C_Kinds C_BadKinds C_SilentswapsError C_BadLine G_RESERVED : Addr} (X : K.In h) (G : h.Ns mainGlobals mg) (hfa : mg "law" = some (.ref fa))
    {od1 an1 od2 an2 od3 an3 od4 an4 od5 an5 od6 an6 od7 an7 od8 an8 od9 an9 od10 an10 od11 an11 od12 an12 od13 an13 od14 an14 od15 an15 od16 an16 od17 an17 : Option Addr} {sl1 sl2 sl3 sl4 sl5 sl6 sl7 sl8 sl9 sl10 sl11 sl12 sl13 sl14 sl15 sl16 sl17 : Array (Option Value)} {oc1 kV1 dc1 pm1 cd1 ct1 oc2 kV2 dc2 pm2 cd2 ct2 oc3 kV3 dc3 pm3 cd3 ct3 oc4 kV4 dc4 pm4 cd4 ct4 oc5 kV5 dc5 pm5 cd5 ct5 oc6 kV6 dc6 pm6 cd6 ct6 oc7 kV7 dc7 pm7 cd7 ct7 oc8 kV8 dc8 pm8 cd8 ct8 oc9 kV9 dc9 pm9 cd9 ct9 oc10 kV10 dc10 pm10 cd10 ct10 oc11 kV11 dc11 pm11 cd11 ct11 oc12 kV12 dc12 pm12 cd12 ct12 oc13 kV13 dc13 pm13 cd13 ct13 oc14 kV14 dc14 pm14 cd14 ct14 oc15 kV15 dc15 pm15 cd15 ct15 oc16 kV16 dc16 pm16 cd16 ct16 oc17 kV17 dc17 pm17 cd17 ct17 : Value} {tk_LETTERS tk_RESERVED_0 tk_RESERVED_1 tk_RESERVED_2 tk_RESERVED_3 tk_RESERVED_4 tk_RESERVED_5 tk_RESERVED_6 tk_RESERVED_7 tk_RESERVED_8 tk_RESERVED_9 tk_RESERVED_10 tk_RESERVED_11 tk_RESERVED_12 tk_RESERVED_13 tk_RESERVED_14 tk_RESERVED_15 tk_MOST_KINDS : Tok} {nm_BadKinds q_BadKinds fl_BadKinds : Str} {N_BadKinds f_BadKinds cda_BadKinds cc_BadKinds : Addr} {bs_BadKinds bm_BadKinds sub_BadKinds : List Value} {sn_BadKinds : List Str} {ab_BadKinds : Bool} {col_BadKinds : Option Bool} {dd_BadKinds od_BadKinds an_BadKinds cld_BadKinds cdd_BadKinds : Option Addr} {m0_BadKinds m1_BadKinds m2_BadKinds m3_BadKinds m5_BadKinds : Option Value} {oc_BadKinds kV_BadKinds dc_BadKinds pm_BadKinds ct_BadKinds cl_BadKinds ccl_BadKinds : Value} {osl_BadKinds csl_BadKinds ccs_BadKinds : Array (Option Value)} {vs_BadKinds : Array Value} {tf_BadKinds : Tok} {od_RESERVED : Option Addr} {sl_RESERVED : Array (Option Value)} {n_RESERVED : Nat}
    (aC_Kinds : PySem.W.nsIn K mainGlobals "Kinds" = some (some (.ref C_Kinds)))
    (pg_Kinds : PySem.W.plainGet K C_Kinds Str.empty = true)
    (hd_Kinds : PySem.W.hasDictIn K C_Kinds = true)
    (po_Kinds : PySem.W.plainOver K C_Kinds = true)
    (sa_Kinds : PySem.W.findIn K (.ref C_Kinds) "__setattr__" = some (some (.builtin "object.__setattr__")))
    (mk_Kinds : PySem.W.makesIn K C_Kinds = true)
    (kc_Kinds : PySem.W.keepIn K (.ref C_Kinds) = true)
    (na_Kinds_names : PySem.W.findIn K (.ref C_Kinds) "names" = some none)
    (na_Kinds_entries : PySem.W.findIn K (.ref C_Kinds) "entries" = some none)
    (aC_BadKinds : PySem.W.nsIn K mainGlobals "BadKinds" = some (some (.ref C_BadKinds)))
    (aC_SilentswapsError : PySem.W.nsIn K mainGlobals "SilentswapsError" = some (some (.ref C_SilentswapsError)))
    (aC_BadLine : PySem.W.nsIn K mainGlobals "BadLine" = some (some (.ref C_BadLine)))
    (hnC : PySem.W.specialIn K (.builtin "object.__class__") "__get__" = some (some (.builtin "getset_descriptor.__get__")))
    (htC : PySem.W.takesIn K (.builtin "object.__class__") = some true)
    (opq : PySem.W.nsIn K cStatics "thirdparty.any" = some none)
    (tops : (l.prog.main.scope.names.lookup ("super" : Str)).isSome = false)
    (xL_BadKinds : K.lookup C_BadKinds = some (excClassObj nm_BadKinds q_BadKinds C_BadKinds N_BadKinds bs_BadKinds bm_BadKinds true sn_BadKinds sub_BadKinds ab_BadKinds col_BadKinds dd_BadKinds m0_BadKinds m1_BadKinds m2_BadKinds m3_BadKinds m5_BadKinds "ValueError.__new__"))
    (rv_BadKinds : PySem.HandSPX.refsVE bm_BadKinds = true)
    (sa_BadKinds : PySem.W.findIn K (.ref C_BadKinds) "__setattr__" = some (some (.builtin "object.__setattr__")))
    (ga_BadKinds : PySem.W.findIn K (.ref C_BadKinds) "__getattribute__" = some (some (.builtin "BaseException.__getattribute__")))
    (gg_BadKinds : PySem.W.findIn K (.ref C_BadKinds) "__getattr__" = some none)
    (no_BadKinds : PySem.W.findIn K (.ref C_BadKinds) "at" = some none)
    (ai_BadKinds : PySem.W.findIn K (.ref C_BadKinds) "__init__" = some (some (.ref f_BadKinds)))
    (ti_BadKinds : PySem.W.typeIn K (.ref f_BadKinds) = some (.type "function"))
    (li_BadKinds : K.lookup f_BadKinds = some ⟨oc_BadKinds, od_BadKinds, .func (PySem.W.ksFn "__init__" "BadKinds.__init__" (defArgs s_BadKinds___init__) (defBody s_BadKinds___init__) (defScope s_BadKinds___init__) .none kV_BadKinds dc_BadKinds pm_BadKinds an_BadKinds (.ref cda_BadKinds) ct_BadKinds cc_BadKinds), osl_BadKinds⟩)
    (ci_BadKinds : PySem.W.codeIn K (.ref cda_BadKinds) "BadKinds.__init__" = true)
    (ce_BadKinds : K.lookup cc_BadKinds = some ⟨cl_BadKinds, cld_BadKinds, .cell (some (.ref C_BadKinds)), csl_BadKinds⟩)
    (cf_BadKinds : K.lookup cda_BadKinds = some ⟨ccl_BadKinds, cdd_BadKinds, .fields vs_BadKinds, ccs_BadKinds⟩)
    (cv_BadKinds : vs_BadKinds[2]? = some (.str fl_BadKinds tf_BadKinds))
    (cm_BadKinds : (l.prog.main.file == fl_BadKinds) = true)
    (kC_BadKinds : PySem.W.keepIn K (.ref C_BadKinds) = true)
    (eC_BadKinds : PySem.W.subIn K (.ref C_BadKinds) (.type "BaseException") = some true)
    (tC_BadKinds : PySem.W.typeIn K (.ref C_BadKinds) = some (.type "type"))
    (hC_BadKinds : PySem.W.hasDictIn K C_BadKinds = true)
    (sC_BadKinds : PySem.W.subIn K (.ref C_BadKinds) (.ref C_BadKinds) = some true)
    (up_BadKinds : PySem.W.ks_superIn K C_BadKinds C_BadKinds "__init__" = some (some (.builtin "ValueError.__init__")))
    (sV_BadKinds : PySem.W.subIn K (.ref C_BadKinds) (.type "ValueError") = some true)
    (mo_BadKinds : PySem.W.mroIn K C_BadKinds (.ref C_BadKinds) = some true)
    (ob_BadKinds : PySem.W.mroIn K C_BadKinds (.type "object") = some true)
    (ha_BadKinds : PySem.W.findIn K (.ref C_BadKinds) "__class__" = some (some (.builtin "object.__class__")))
    (fa_k_S : PySem.W.kitOne K (.ref C_BadKinds) (.ref C_SilentswapsError) = some true)
    (fa_k_V : PySem.W.kitOne K (.ref C_BadKinds) (.type "ValueError") = some true)
    (fa_k_L : PySem.W.kitOne K (.ref C_BadKinds) (.ref C_BadLine) = some false)
    (aG_LETTERS : PySem.W.nsIn K mainGlobals "LETTERS" = some (some (Value.str "abcdefghijklmnopqrstuvwxyz" tk_LETTERS)))
    (aG_RESERVED : PySem.W.nsIn K mainGlobals "RESERVED" = some (some (.ref G_RESERVED)))
    (lG_RESERVED : K.lookup G_RESERVED = some ⟨.type "tuple", od_RESERVED, .seq #[Value.str "kind" tk_RESERVED_0, Value.str "def" tk_RESERVED_1, Value.str "set" tk_RESERVED_2, Value.str "ask" tk_RESERVED_3, Value.str "call" tk_RESERVED_4, Value.str "again" tk_RESERVED_5, Value.str "check" tk_RESERVED_6, Value.str "mean" tk_RESERVED_7, Value.str "if" tk_RESERVED_8, Value.str "else" tk_RESERVED_9, Value.str "end" tk_RESERVED_10, Value.str "return" tk_RESERVED_11, Value.str "refuse" tk_RESERVED_12, Value.str "is" tk_RESERVED_13, Value.str "self" tk_RESERVED_14, Value.str "cls" tk_RESERVED_15] n_RESERVED, sl_RESERVED⟩)
    (aG_MOST_KINDS : PySem.W.nsIn K mainGlobals "MOST_KINDS" = some (some (Value.int (4) tk_MOST_KINDS)))
    (a1 : PySem.W.nsIn K mainGlobals "is_word" = some (some (.ref f1))) (l1 : K.lookup f1 = some ⟨oc1, od1, .func (PySem.W.fnOf "is_word" "is_word" (defArgs s_is_word) (defBody s_is_word) (defScope s_is_word) .none kV1 dc1 pm1 an1 cd1 ct1), sl1⟩) (c1 : PySem.W.codeIn K cd1 "is_word" = true) (k1 : PySem.W.keepIn K (.ref f1) = true)
    (a2 : PySem.W.findIn K (.ref C_Kinds) "__len__" = some (some (.ref f2))) (i2 : PySem.W.isFn K (.ref f2) = true) (l2 : K.lookup f2 = some ⟨oc2, od2, .func (PySem.W.fnOf "__len__" "Kinds.__len__" (defArgs s_Kinds___len__) (defBody s_Kinds___len__) (defScope s_Kinds___len__) .none kV2 dc2 pm2 an2 cd2 ct2), sl2⟩) (c2 : PySem.W.codeIn K cd2 "Kinds.__len__" = true) (k2 : PySem.W.keepIn K (.ref f2) = true)
    (a3 : PySem.W.nsIn K mainGlobals "_law_bag" = some (some (.ref f3))) (l3 : K.lookup f3 = some ⟨oc3, od3, .func (PySem.W.fnOf "_law_bag" "_law_bag" (defArgs s__law_bag) (defBody s__law_bag) (defScope s__law_bag) .none kV3 dc3 pm3 an3 cd3 ct3), sl3⟩) (c3 : PySem.W.codeIn K cd3 "_law_bag" = true) (k3 : PySem.W.keepIn K (.ref f3) = true)
    (a4 : PySem.W.nsIn K mainGlobals "_law_take" = some (some (.ref f4))) (l4 : K.lookup f4 = some ⟨oc4, od4, .func (PySem.W.fnOf "_law_take" "_law_take" (defArgs s__law_take) (defBody s__law_take) (defScope s__law_take) .none kV4 dc4 pm4 an4 cd4 ct4), sl4⟩) (c4 : PySem.W.codeIn K cd4 "_law_take" = true) (k4 : PySem.W.keepIn K (.ref f4) = true)
    (a5 : PySem.W.nsIn K mainGlobals "_law_is_word" = some (some (.ref f5))) (l5 : K.lookup f5 = some ⟨oc5, od5, .func (PySem.W.fnOf "_law_is_word" "_law_is_word" (defArgs s__law_is_word) (defBody s__law_is_word) (defScope s__law_is_word) .none kV5 dc5 pm5 an5 cd5 ct5), sl5⟩) (c5 : PySem.W.codeIn K cd5 "_law_is_word" = true) (k5 : PySem.W.keepIn K (.ref f5) = true)
    (a6 : PySem.W.nsIn K mainGlobals "_law_reserved" = some (some (.ref f6))) (l6 : K.lookup f6 = some ⟨oc6, od6, .func (PySem.W.fnOf "_law_reserved" "_law_reserved" (defArgs s__law_reserved) (defBody s__law_reserved) (defScope s__law_reserved) .none kV6 dc6 pm6 an6 cd6 ct6), sl6⟩) (c6 : PySem.W.codeIn K cd6 "_law_reserved" = true) (k6 : PySem.W.keepIn K (.ref f6) = true)
    (a7 : PySem.W.nsIn K mainGlobals "is_name" = some (some (.ref f7))) (l7 : K.lookup f7 = some ⟨oc7, od7, .func (PySem.W.fnOf "is_name" "is_name" (defArgs s_is_name) (defBody s_is_name) (defScope s_is_name) .none kV7 dc7 pm7 an7 cd7 ct7), sl7⟩) (c7 : PySem.W.codeIn K cd7 "is_name" = true) (k7 : PySem.W.keepIn K (.ref f7) = true)
    (a8 : PySem.W.nsIn K mainGlobals "_law_of" = some (some (.ref f8))) (l8 : K.lookup f8 = some ⟨oc8, od8, .func (PySem.W.fnOf "_law_of" "_law_of" (defArgs s__law_of) (defBody s__law_of) (defScope s__law_of) .none kV8 dc8 pm8 an8 cd8 ct8), sl8⟩) (c8 : PySem.W.codeIn K cd8 "_law_of" = true) (k8 : PySem.W.keepIn K (.ref f8) = true)
    (a9 : PySem.W.nsIn K mainGlobals "_law_declares" = some (some (.ref f9))) (l9 : K.lookup f9 = some ⟨oc9, od9, .func (PySem.W.fnOf "_law_declares" "_law_declares" (defArgs s__law_declares) (defBody s__law_declares) (defScope s__law_declares) .none kV9 dc9 pm9 an9 cd9 ct9), sl9⟩) (c9 : PySem.W.codeIn K cd9 "_law_declares" = true) (k9 : PySem.W.keepIn K (.ref f9) = true)
    (a10 : PySem.W.findIn K (.ref C_Kinds) "can_add" = some (some (.ref f10))) (i10 : PySem.W.isFn K (.ref f10) = true) (l10 : K.lookup f10 = some ⟨oc10, od10, .func (PySem.W.fnOf "can_add" "Kinds.can_add" (defArgs s_Kinds_can_add) (defBody s_Kinds_can_add) (defScope s_Kinds_can_add) .none kV10 dc10 pm10 an10 cd10 ct10), sl10⟩) (c10 : PySem.W.codeIn K cd10 "Kinds.can_add" = true) (k10 : PySem.W.keepIn K (.ref f10) = true)
    (a11 : PySem.W.nsIn K mainGlobals "_law_name" = some (some (.ref f11))) (l11 : K.lookup f11 = some ⟨oc11, od11, .func (PySem.W.fnOf "_law_name" "_law_name" (defArgs s__law_name) (defBody s__law_name) (defScope s__law_name) .none kV11 dc11 pm11 an11 cd11 ct11), sl11⟩) (c11 : PySem.W.codeIn K cd11 "_law_name" = true) (k11 : PySem.W.keepIn K (.ref f11) = true)
    (a12 : PySem.W.nsIn K mainGlobals "_law_due" = some (some (.ref f12))) (l12 : K.lookup f12 = some ⟨oc12, od12, .func (PySem.W.fnOf "_law_due" "_law_due" (defArgs s__law_due) (defBody s__law_due) (defScope s__law_due) .none kV12 dc12 pm12 an12 cd12 ct12), sl12⟩) (c12 : PySem.W.codeIn K cd12 "_law_due" = true) (k12 : PySem.W.keepIn K (.ref f12) = true)
    (a13 : PySem.W.findIn K (.ref C_Kinds) "__init__" = some (some (.ref f13))) (i13 : PySem.W.isFn K (.ref f13) = true) (l13 : K.lookup f13 = some ⟨oc13, od13, .func (PySem.W.fnOf "__init__" "Kinds.__init__" (defArgs s_Kinds___init__) (defBody s_Kinds___init__) (defScope s_Kinds___init__) .none kV13 dc13 pm13 an13 cd13 ct13), sl13⟩) (c13 : PySem.W.codeIn K cd13 "Kinds.__init__" = true) (k13 : PySem.W.keepIn K (.ref f13) = true)
    (a14 : PySem.W.nsIn K mainGlobals "_law_odd" = some (some (.ref f14))) (l14 : K.lookup f14 = some ⟨oc14, od14, .func (PySem.W.fnOf "_law_odd" "_law_odd" (defArgs s__law_odd) (defBody s__law_odd) (defScope s__law_odd) .none kV14 dc14 pm14 an14 cd14 ct14), sl14⟩) (c14 : PySem.W.codeIn K cd14 "_law_odd" = true) (k14 : PySem.W.keepIn K (.ref f14) = true)
    (a15 : PySem.W.nsIn K mainGlobals "_law_refused" = some (some (.ref f15))) (l15 : K.lookup f15 = some ⟨oc15, od15, .func (PySem.W.fnOf "_law_refused" "_law_refused" (defArgs s__law_refused) (defBody s__law_refused) (defScope s__law_refused) .none kV15 dc15 pm15 an15 cd15 ct15), sl15⟩) (c15 : PySem.W.codeIn K cd15 "_law_refused" = true) (k15 : PySem.W.keepIn K (.ref f15) = true)
    (a16 : PySem.W.nsIn K mainGlobals "_law_entries" = some (some (.ref f16))) (l16 : K.lookup f16 = some ⟨oc16, od16, .func (PySem.W.fnOf "_law_entries" "_law_entries" (defArgs s__law_entries) (defBody s__law_entries) (defScope s__law_entries) .none kV16 dc16 pm16 an16 cd16 ct16), sl16⟩) (c16 : PySem.W.codeIn K cd16 "_law_entries" = true) (k16 : PySem.W.keepIn K (.ref f16) = true)
    (a17 : PySem.W.nsIn K mainGlobals "law" = some (some (.ref f17))) (l17 : K.lookup f17 = some ⟨oc17, od17, .func (PySem.W.fnOf "law" "law" (defArgs s_law) (defBody s_law) (defScope s_law) .none kV17 dc17 pm17 an17 cd17 ct17), sl17⟩) (c17 : PySem.W.codeIn K cd17 "law" = true) (k17 : PySem.W.keepIn K (.ref f17) = true)
    (z_ValueError : PySem.W.nsIn K mainGlobals "ValueError" = some none) (z_all : PySem.W.nsIn K mainGlobals "all" = some none) (z_enumerate : PySem.W.nsIn K mainGlobals "enumerate" = some none) (z_range : PySem.W.nsIn K mainGlobals "range" = some none) (z_len : PySem.W.nsIn K mainGlobals "len" = some none) (z_iter : PySem.W.nsIn K mainGlobals "iter" = some none) (z_abs : PySem.W.nsIn K mainGlobals "abs" = some none) (z_int : PySem.W.nsIn K mainGlobals "int" = some none) (z_max : PySem.W.nsIn K mainGlobals "max" = some none) (z_isinstance : PySem.W.nsIn K mainGlobals "isinstance" = some none) (z_str : PySem.W.nsIn K mainGlobals "str" = some none) (z_bool : PySem.W.nsIn K mainGlobals "bool" = some none) (z_tuple : PySem.W.nsIn K mainGlobals "tuple" = some none) (z_min : PySem.W.nsIn K mainGlobals "min" = some none) (z_list : PySem.W.nsIn K mainGlobals "list" = some none) (z_super : PySem.W.nsIn K mainGlobals "super" = some none) :
    ∃ fd : FuncData, (∀ (s : Shared) (v : Value), BindsTo s fd ⟨[v], []⟩ [("_law_script", v)]) ∧ ∀ base : Heap, K.In base → base.Ns mainGlobals mg → FnOk l.prog w K mg base CX0 12 fa fd ["_law_script"] (sp_law K) := by
  have e := hfa.symm.trans (PySem.W.mg_of X G a17)
  cases e
  have T : Txt K mg C_Kinds C_BadKinds C_SilentswapsError C_BadLine G_RESERVED := ⟨PySem.W.mg_none_of X G z_ValueError, PySem.W.mg_none_of X G z_all, PySem.W.mg_none_of X G z_enumerate, PySem.W.mg_none_of X G z_range, PySem.W.mg_none_of X G z_len, PySem.W.mg_none_of X G z_iter, PySem.W.mg_none_of X G z_abs, PySem.W.mg_none_of X G z_int, PySem.W.mg_none_of X G z_max, PySem.W.mg_none_of X G z_isinstance, PySem.W.mg_none_of X G z_str, PySem.W.mg_none_of X G z_bool, PySem.W.mg_none_of X G z_tuple, PySem.W.mg_none_of X G z_min, PySem.W.mg_none_of X G z_list, PySem.W.mg_none_of X G z_super, ⟨pg_Kinds, hd_Kinds, po_Kinds, sa_Kinds⟩, ⟨_, PySem.W.mg_of X G aC_Kinds, rfl⟩, na_Kinds_names, na_Kinds_entries, ⟨_, PySem.W.mg_of X G aC_BadKinds, rfl⟩, ⟨_, PySem.W.mg_of X G aC_SilentswapsError, rfl⟩, ⟨_, PySem.W.mg_of X G aC_BadLine, rfl⟩, ⟨ga_BadKinds, gg_BadKinds, eC_BadKinds, hC_BadKinds, ha_BadKinds, hnC, htC, ob_BadKinds⟩, fa_k_S, fa_k_V, fa_k_L, ⟨_, PySem.W.mg_of X G aG_LETTERS, ⟨_, rfl⟩⟩, ⟨_, PySem.W.mg_of X G aG_RESERVED, rfl⟩, fun H => .inr ⟨_, _, _, lG_RESERVED, rfl, rfl, (by show 16 ≤ sizeLine; decide), .cons ⟨_, rfl⟩ (.cons ⟨_, rfl⟩ (.cons ⟨_, rfl⟩ (.cons ⟨_, rfl⟩ (.cons ⟨_, rfl⟩ (.cons ⟨_, rfl⟩ (.cons ⟨_, rfl⟩ (.cons ⟨_, rfl⟩ (.cons ⟨_, rfl⟩ (.cons ⟨_, rfl⟩ (.cons ⟨_, rfl⟩ (.cons ⟨_, rfl⟩ (.cons ⟨_, rfl⟩ (.cons ⟨_, rfl⟩ (.cons ⟨_, rfl⟩ (.cons ⟨_, rfl⟩ (.nil))))))))))))))))⟩, ⟨_, PySem.W.mg_of X G aG_MOST_KINDS, ⟨_, rfl⟩⟩⟩
  have F1 := fun_mk (st := s_is_word) l1 c1 k1
  have b1 := F1.binds (ps := ["thing"]) fun _ _ _ _ _ _ us hl => match us, hl with | [_], _ => rfl
  have F2 := fun_mk (st := s_Kinds___len__) l2 c2 k2
  have b2 := F2.binds (ps := ["self"]) fun _ _ _ _ _ _ us hl => match us, hl with | [_], _ => rfl
  have F3 := fun_mk (st := s__law_bag) l3 c3 k3
  have b3 := F3.binds (ps := ["_law_script", "_law_at"]) fun _ _ _ _ _ _ us hl => match us, hl with | [_, _], _ => rfl
  have F4 := fun_mk (st := s__law_take) l4 c4 k4
  have b4 := F4.binds (ps := ["_law_bag_here", "_law_many"]) fun _ _ _ _ _ _ us hl => match us, hl with | [_, _], _ => rfl
  have F5 := fun_mk (st := s__law_is_word) l5 c5 k5
  have b5 := F5.binds (ps := ["_law_thing"]) fun _ _ _ _ _ _ us hl => match us, hl with | [_], _ => rfl
  have F6 := fun_mk (st := s__law_reserved) l6 c6 k6
  have b6 := F6.binds (ps := []) fun _ _ _ _ _ _ us hl => match us, hl with | [], _ => rfl
  have F7 := fun_mk (st := s_is_name) l7 c7 k7
  have b7 := F7.binds (ps := ["thing"]) fun _ _ _ _ _ _ us hl => match us, hl with | [_], _ => rfl
  have F8 := fun_mk (st := s__law_of) l8 c8 k8
  have b8 := F8.binds (ps := ["_law_bag_here", "_law_some"]) fun _ _ _ _ _ _ us hl => match us, hl with | [_, _], _ => rfl
  have F9 := fun_mk (st := s__law_declares) l9 c9 k9
  have b9 := F9.binds (ps := ["_law_entry", "_law_names"]) fun _ _ _ _ _ _ us hl => match us, hl with | [_, _], _ => rfl
  have F10 := fun_mk (st := s_Kinds_can_add) l10 c10 k10
  have b10 := F10.binds (ps := ["self", "entry"]) fun _ _ _ _ _ _ us hl => match us, hl with | [_, _], _ => rfl
  have F11 := fun_mk (st := s__law_name) l11 c11 k11
  have b11 := F11.binds (ps := ["_law_bag_here", "_law_taken"]) fun _ _ _ _ _ _ us hl => match us, hl with | [_, _], _ => rfl
  have F12 := fun_mk (st := s__law_due) l12 c12 k12
  have b12 := F12.binds (ps := ["_law_entries_here"]) fun _ _ _ _ _ _ us hl => match us, hl with | [_], _ => rfl
  have F13 := fun_mk (st := s_Kinds___init__) l13 c13 k13
  have b13 := F13.binds (ps := ["self", "entries"]) fun _ _ _ _ _ _ us hl => match us, hl with | [_, _], _ => rfl
  have F14 := fun_mk (st := s__law_odd) l14 c14 k14
  have b14 := F14.binds (ps := ["_law_bag_here", "_law_names"]) fun _ _ _ _ _ _ us hl => match us, hl with | [_, _], _ => rfl
  have F15 := fun_mk (st := s__law_refused) l15 c15 k15
  have b15 := F15.binds (ps := ["_law_entries_here"]) fun _ _ _ _ _ _ us hl => match us, hl with | [_], _ => rfl
  have F16 := fun_mk (st := s__law_entries) l16 c16 k16
  have b16 := F16.binds (ps := ["_law_bag_here"]) fun _ _ _ _ _ _ us hl => match us, hl with | [_], _ => rfl
  have F17 := fun_mk (st := s_law) l17 c17 k17
  refine ⟨PySem.W.fnOf "law" "law" (defArgs s_law) (defBody s_law) (defScope s_law) .none kV17 dc17 pm17 an17 cd17 ct17, fun s v => .of_eq rfl, fun base _ _ => ?_⟩
  have E_BadKinds : OexC K C_BadKinds := ⟨⟨_, _, _, _, _, _, _, _, _, _, _, _, _, _, _, xL_BadKinds, rv_BadKinds⟩, sa_BadKinds, eC_BadKinds, tC_BadKinds, kC_BadKinds⟩
  have S_BadKinds : SFun l.prog K mg "BadKinds.__init__" s_BadKinds___init__ C_BadKinds f_BadKinds (PySem.W.ksFn "__init__" "BadKinds.__init__" (defArgs s_BadKinds___init__) (defBody s_BadKinds___init__) (defScope s_BadKinds___init__) .none kV_BadKinds dc_BadKinds pm_BadKinds an_BadKinds (.ref cda_BadKinds) ct_BadKinds cc_BadKinds) :=
    ⟨⟨_, _, _, _, _, _, _, _, _, _, _, _, _, rfl, li_BadKinds, ci_BadKinds, ce_BadKinds, ⟨E_BadKinds, up_BadKinds, sV_BadKinds, mo_BadKinds, opq, T.z_super, ⟨_, _, _, _, _, _, cf_BadKinds, cv_BadKinds, cm_BadKinds⟩, tops⟩⟩⟩
  have U_BadKinds : Exc1 l.prog w K mg base 1 "BadKinds" "at" C_BadKinds :=
    ⟨E_BadKinds, ⟨f_BadKinds, _, ["self", "at"], ai_BadKinds, ti_BadKinds, ok_BadKinds___init__ S_BadKinds no_BadKinds, Binds.all fun us hl => match us, hl with | [_, _], _ => rfl⟩, PySem.W.mg_of X G aC_BadKinds, ⟨ga_BadKinds, gg_BadKinds, eC_BadKinds, hC_BadKinds⟩, no_BadKinds, PySem.W.exm_ref eC_BadKinds hC_BadKinds tC_BadKinds sC_BadKinds⟩
  have U_is_word : Use l.prog w K mg base 2 "is_word" ["thing"] (sp_is_word) := ⟨_, _, ok_is_word F1 T, PySem.W.mg_of X G a1, k1, b1⟩
  have U_Kinds___len__ : UseM l.prog w K mg base 2 C_Kinds "__len__" (sp_Kinds___len__ K C_Kinds) := ⟨_, fnr (ok_Kinds___len__ F2 T) b2, ⟨a2, i2, k2⟩⟩
  have U__law_bag : Use l.prog w K mg base 2 "_law_bag" ["_law_script", "_law_at"] (sp__law_bag K) := ⟨_, _, ok__law_bag F3 T, PySem.W.mg_of X G a3, k3, b3⟩
  have U__law_take : Use l.prog w K mg base 2 "_law_take" ["_law_bag_here", "_law_many"] (sp__law_take) := ⟨_, _, ok__law_take F4 T, PySem.W.mg_of X G a4, k4, b4⟩
  have U__law_is_word : Use l.prog w K mg base 2 "_law_is_word" ["_law_thing"] (sp__law_is_word) := ⟨_, _, ok__law_is_word F5 T, PySem.W.mg_of X G a5, k5, b5⟩
  have U__law_reserved : Use l.prog w K mg base 2 "_law_reserved" [] (sp__law_reserved) := ⟨_, _, ok__law_reserved F6 T, PySem.W.mg_of X G a6, k6, b6⟩
  have U_is_name : Use l.prog w K mg base 4 "is_name" ["thing"] (sp_is_name) := ⟨_, _, ok_is_name F7 T U_is_word, PySem.W.mg_of X G a7, k7, b7⟩
  have U__law_of : Use l.prog w K mg base 4 "_law_of" ["_law_bag_here", "_law_some"] (sp__law_of K) := ⟨_, _, ok__law_of F8 T U__law_take, PySem.W.mg_of X G a8, k8, b8⟩
  have U__law_declares : Use l.prog w K mg base 4 "_law_declares" ["_law_entry", "_law_names"] (sp__law_declares K) := ⟨_, _, ok__law_declares F9 T U__law_is_word U__law_reserved, PySem.W.mg_of X G a9, k9, b9⟩
  have U_Kinds_can_add : UseM l.prog w K mg base 6 C_Kinds "can_add" (sp_Kinds_can_add K C_Kinds) := ⟨_, fnr (ok_Kinds_can_add F10 T U_is_name) b10, ⟨a10, i10, k10⟩⟩
  have U__law_name : Use l.prog w K mg base 6 "_law_name" ["_law_bag_here", "_law_taken"] (sp__law_name K) := ⟨_, _, ok__law_name F11 T U__law_take U__law_of, PySem.W.mg_of X G a11, k11, b11⟩
  have U__law_due : Use l.prog w K mg base 6 "_law_due" ["_law_entries_here"] (sp__law_due K) := ⟨_, _, ok__law_due F12 T U__law_declares, PySem.W.mg_of X G a12, k12, b12⟩
  have U_Kinds___init__ : UseCX l.prog w K mg base 8 "Kinds" C_Kinds (sp_Kinds___init__ K C_Kinds C_BadKinds) := ⟨_, fnrX (ok_Kinds___init__ F13 T U_Kinds_can_add U_BadKinds) b13, ⟨mk_Kinds, a13, i13, kc_Kinds⟩, PySem.W.mg_of X G aC_Kinds⟩
  have U__law_odd : Use l.prog w K mg base 8 "_law_odd" ["_law_bag_here", "_law_names"] (sp__law_odd K) := ⟨_, _, ok__law_odd F14 T U__law_of U__law_name U__law_reserved, PySem.W.mg_of X G a14, k14, b14⟩
  have U__law_refused : Use l.prog w K mg base 10 "_law_refused" ["_law_entries_here"] (sp__law_refused K) := ⟨_, _, ok__law_refused F15 T U_Kinds___init__ U_BadKinds, PySem.W.mg_of X G a15, k15, b15⟩
  have U__law_entries : Use l.prog w K mg base 10 "_law_entries" ["_law_bag_here"] (sp__law_entries K) := ⟨_, _, ok__law_entries F16 T U__law_take U__law_name U__law_declares U__law_odd, PySem.W.mg_of X G a16, k16, b16⟩
  exact ok_law F17 T U_Kinds___init__ U_Kinds___len__ U__law_bag U__law_take U__law_refused U__law_due U__law_entries
theorem walk {l : PySem.W.OpenLaw} {q : Program} {loose : List Str} {XP : (Str → Option Value) → Heap → Prop} {YP : World → Heap → Prop} {d : DefRec} {K : Params → PySem.W.Frag} (hn : l.most = some 63) (hdf : d.params.defaults = [])
    (hY : ∀ (w : World) (h : Heap), YP w h → (K w.params).In h)
    (F : ∀ (w : World) (mg : Str → Option Value) (fa : Addr) (h : Heap), (K w.params).In h → h.Ns mainGlobals mg → mg d.name = some (.ref fa) →
      ∃ fd : FuncData, (∀ (s : Shared) (u : Value), BindsTo s fd ⟨[u], []⟩ [("_law_script", u)]) ∧ ∀ base : Heap, (K w.params).In base → base.Ns mainGlobals mg → FnOk l.prog w (K w.params) mg base CX0 12 fa fd ["_law_script"] (sp_law (K w.params))) :
    PySem.W.WalkO q loose XP YP l.row.toRowW d [] (fun f vs => PySem.call f vs) :=
  L2.walk_of (n := 63) (k := 12) (x := "_law_script") (CX := fun _ => CX0) (sp := fun w => sp_law (K w.params)) hn (by decide) hdf ⟨rfl, by decide, by decide⟩ hY F (fun _ _ a ns hl _ hS => ⟨a, ns, rfl, hS, hl, fun _ => rfl⟩) fun _ _ _ _ _ z => z
end My
open PySem PySem.W PyProof.Rows
set_option maxRecDepth 100000 in
set_option maxHeartbeats 0 in
theorem PySem.Challenge.cw_silentswaps_k02_kinds_refused_holds : PySem.Challenge.rw_silentswaps_k02_kinds_refused.Holds := by
  w_on; o_law; k_head; (case hw => w_witness2)
  k_fill
  refine My.walk (l := PySem.Challenge.rw_silentswaps_k02_kinds_refused) rfl rfl (fun w h Y => PySem.W.kIn_of Y) ?F
  case F =>
    intro w mg fa h KX G hmg
    refine' My.all_mk KX G hmg ?aC_Kinds ?pg_Kinds ?hd_Kinds ?po_Kinds ?sa_Kinds ?mk_Kinds ?kc_Kinds ?na_Kinds_names ?na_Kinds_entries ?aC_BadKinds ?aC_SilentswapsError ?aC_BadLine ?hnC ?htC ?opq ?tops ?xL_BadKinds ?rv_BadKinds ?sa_BadKinds ?ga_BadKinds ?gg_BadKinds ?no_BadKinds ?ai_BadKinds ?ti_BadKinds ?li_BadKinds ?ci_BadKinds ?ce_BadKinds ?cf_BadKinds ?cv_BadKinds ?cm_BadKinds ?kC_BadKinds ?eC_BadKinds ?tC_BadKinds ?hC_BadKinds ?sC_BadKinds ?up_BadKinds ?sV_BadKinds ?mo_BadKinds ?ob_BadKinds ?ha_BadKinds ?fa_k_S ?fa_k_V ?fa_k_L ?aG_LETTERS ?aG_RESERVED ?lG_RESERVED ?aG_MOST_KINDS ?a1 ?l1 ?c1 ?k1 ?a2 ?i2 ?l2 ?c2 ?k2 ?a3 ?l3 ?c3 ?k3 ?a4 ?l4 ?c4 ?k4 ?a5 ?l5 ?c5 ?k5 ?a6 ?l6 ?c6 ?k6 ?a7 ?l7 ?c7 ?k7 ?a8 ?l8 ?c8 ?k8 ?a9 ?l9 ?c9 ?k9 ?a10 ?i10 ?l10 ?c10 ?k10 ?a11 ?l11 ?c11 ?k11 ?a12 ?l12 ?c12 ?k12 ?a13 ?i13 ?l13 ?c13 ?k13 ?a14 ?l14 ?c14 ?k14 ?a15 ?l15 ?c15 ?k15 ?a16 ?l16 ?c16 ?k16 ?a17 ?l17 ?c17 ?k17 ?z_ValueError ?z_all ?z_enumerate ?z_range ?z_len ?z_iter ?z_abs ?z_int ?z_max ?z_isinstance ?z_str ?z_bool ?z_tuple ?z_min ?z_list ?z_super
    (case aC_Kinds => k_is)
    (case pg_Kinds => k_is)
    (case hd_Kinds => k_is)
    (case po_Kinds => k_is)
    (case sa_Kinds => k_is)
    (case mk_Kinds => k_is)
    (case kc_Kinds => k_is)
    (case na_Kinds_names => k_is)
    (case na_Kinds_entries => k_is)
    (case aC_BadKinds => k_is)
    (case aC_SilentswapsError => k_is)
    (case aC_BadLine => k_is)
    (case hnC => k_is)
    (case htC => k_is)
    (case opq => k_is)
    (case tops => first | rfl | decide +kernel)
    (case xL_BadKinds => k_is)
    (case rv_BadKinds => first | rfl | decide +kernel)
    (case sa_BadKinds => k_is)
    (case ga_BadKinds => k_is)
    (case gg_BadKinds => k_is)
    (case no_BadKinds => k_is)
    (case ai_BadKinds => k_is)
    (case ti_BadKinds => k_is)
    (case li_BadKinds => k_is)
    (case ci_BadKinds => k_is)
    (case ce_BadKinds => k_is)
    (case cf_BadKinds => k_is)
    (case cv_BadKinds => first | rfl | decide +kernel)
    (case cm_BadKinds => first | rfl | decide +kernel)
    (case kC_BadKinds => k_is)
    (case eC_BadKinds => k_is)
    (case tC_BadKinds => k_is)
    (case hC_BadKinds => k_is)
    (case sC_BadKinds => first | k_is | rfl)
    (case up_BadKinds => first | k_is | rfl)
    (case sV_BadKinds => k_is)
    (case mo_BadKinds => first | k_is | rfl)
    (case ob_BadKinds => first | k_is | rfl)
    (case ha_BadKinds => k_is)
    (case fa_k_S => first | k_is | rfl)
    (case fa_k_V => first | k_is | rfl)
    (case fa_k_L => first | k_is | rfl)
    (case aG_LETTERS => k_is)
    (case aG_RESERVED => k_is)
    (case lG_RESERVED => k_is)
    (case aG_MOST_KINDS => k_is)
    (case a1 => k_is)
    (case l1 => k_is)
    (case c1 => k_is)
    (case k1 => k_is)
    (case a2 => k_is)
    (case i2 => k_is)
    (case l2 => k_is)
    (case c2 => k_is)
    (case k2 => k_is)
    (case a3 => k_is)
    (case l3 => k_is)
    (case c3 => k_is)
    (case k3 => k_is)
    (case a4 => k_is)
    (case l4 => k_is)
    (case c4 => k_is)
    (case k4 => k_is)
    (case a5 => k_is)
    (case l5 => k_is)
    (case c5 => k_is)
    (case k5 => k_is)
    (case a6 => k_is)
    (case l6 => k_is)
    (case c6 => k_is)
    (case k6 => k_is)
    (case a7 => k_is)
    (case l7 => k_is)
    (case c7 => k_is)
    (case k7 => k_is)
    (case a8 => k_is)
    (case l8 => k_is)
    (case c8 => k_is)
    (case k8 => k_is)
    (case a9 => k_is)
    (case l9 => k_is)
    (case c9 => k_is)
    (case k9 => k_is)
    (case a10 => k_is)
    (case i10 => k_is)
    (case l10 => k_is)
    (case c10 => k_is)
    (case k10 => k_is)
    (case a11 => k_is)
    (case l11 => k_is)
    (case c11 => k_is)
    (case k11 => k_is)
    (case a12 => k_is)
    (case l12 => k_is)
    (case c12 => k_is)
    (case k12 => k_is)
    (case a13 => k_is)
    (case i13 => k_is)
    (case l13 => k_is)
    (case c13 => k_is)
    (case k13 => k_is)
    (case a14 => k_is)
    (case l14 => k_is)
    (case c14 => k_is)
    (case k14 => k_is)
    (case a15 => k_is)
    (case l15 => k_is)
    (case c15 => k_is)
    (case k15 => k_is)
    (case a16 => k_is)
    (case l16 => k_is)
    (case c16 => k_is)
    (case k16 => k_is)
    (case a17 => k_is)
    (case l17 => k_is)
    (case c17 => k_is)
    (case k17 => k_is)
    (case z_ValueError => k_is)
    (case z_all => k_is)
    (case z_enumerate => k_is)
    (case z_range => k_is)
    (case z_len => k_is)
    (case z_iter => k_is)
    (case z_abs => k_is)
    (case z_int => k_is)
    (case z_max => k_is)
    (case z_isinstance => k_is)
    (case z_str => k_is)
    (case z_bool => k_is)
    (case z_tuple => k_is)
    (case z_min => k_is)
    (case z_list => k_is)
    (case z_super => k_is)
#print axioms PySem.Challenge.cw_silentswaps_k02_kinds_refused_holds
