import PyProof.Rows.All
import Wide.All
import OpenK.AllK
import Wide.FinOn
import KE.KExcSuper
import KE.KExcIs
import KE.KExcInit
import KE.GoesEnum
import KE.KCallOwn
import KE.DataMinMax
import PyProof.StrOps2
import PyProof.StrBlock2
import HandS.ForMost
import HandS.Wide
import HandS.IsInst
import HandS.DictComp
import HandS.SortInts
import HandS.TupAny
import HandS.Conv
import HandS.Strs
import HandS.Walk
import HandS.More
import HandS.Star
import HandS.Codes
import HandS.ExcInit
import HandS.Nested
import HandS.ExcField
import HandS.ExcOwn
import HandS.ExcIs
import HandS.WordsExc
import HandS.Property
import HandS.RaiseMore
import HandS.Text
import HandS.MakeKwOnly
import HandS.OwnIter
import HandS.IterNext
import PyProof.InstNe
import HandS.ClsMeth
import PySem.Challenge.RW_silentswaps_k21_errors_made
set_option Elab.async false
set_option maxRecDepth 100000

set_option maxHeartbeats 4000000
set_option maxHeartbeats 4000000
/-! Rd: what the proofs of this repo share. Frames (Kp), data in the heap (Dt), defs as callers use them (Use), readings as rules from back to front (r_..), the tactic rows walk_at "s" (one step), walk_at "S" (many). -/
namespace Rd
open PySem PySem.Spec L2

/-! ### frames -/
def Kp (ex : List Addr) (H H' : Hp) : Prop := ∀ b o, H b = some o → b ∉ ex → H' b = some o
theorem Kp.refl (ex : List Addr) (H : Hp) : Kp ex H H := fun _ _ e _ => e
theorem Kp.trans {ex : List Addr} {H H1 H2 : Hp} (a : Kp ex H H1) (b : Kp ex H1 H2) : Kp ex H H2 := fun c o e n => b c o (a c o e n) n
theorem Kp.mono {ex ex' : List Addr} {H H' : Hp} (a : Kp ex H H') (s : ∀ b ∈ ex, b ∈ ex') : Kp ex' H H' := fun c o e n => a c o e fun m => n (s c m)
theorem Kp.nil {ex : List Addr} {H H' : Hp} (a : Kp [] H H') : Kp ex H H' := a.mono fun _ m => nomatch m
theorem Kp.drop {l : Addr} {ex : List Addr} {H H' : Hp} (a : Kp (l :: ex) H H') (n : H l = none) : Kp ex H H' := fun c o e m => by
  refine a c o e fun z => ?_
  rcases List.mem_cons.mp z with q | q
  · subst q
    rw [n] at e
    cases e
  · exact m q
theorem Kp.free {ex : List Addr} {H H' : Hp} {q : Addr} (a : Kp ex H H') (n : H' q = none) (m : q ∉ ex) : H q = none := by
  cases e : H q with
  | none => rfl
  | some o =>
    rw [a q o e m] at n
    cases n
theorem Kp.new {ex : List Addr} {H : Hp} {p : Addr} {o : HO} (n : H p = none) : Kp ex H (upd H p o) := fun b u e _ => by
  rw [upd_ne (ne_of_none e n)]
  exact e
theorem Kp.put {ex : List Addr} {H : Hp} {p : Addr} {o : HO} (m : p ∈ ex) : Kp ex H (upd H p o) := fun b u e n => by
  rw [upd_ne fun (z : b = p) => n (z ▸ m)]
  exact e
theorem Kp.get {ex : List Addr} {H H' : Hp} {b : Addr} {o : HO} (a : Kp ex H H') (e : H b = some o) (n : b ∉ ex) : H' b = some o := a b o e n
theorem Kp.sql {K : PySem.W.Frag} {H H' : Hp} {a : Addr} {xs : List V} (k : Kp [] H H') (h : SqL K H a xs) : SqL K H' a xs :=
  Same.seq (fun b o e => k b o e (by simp)) h
theorem not_nil {b : Addr} : b ∉ ([] : List Addr) := fun m => nomatch m
theorem not_one {b p : Addr} (h : b ≠ p) : b ∉ [p] := fun m => h (List.mem_singleton.mp m)
theorem not_two {b p q : Addr} (h : b ≠ p) (h' : b ≠ q) : b ∉ [p, q] := fun m => by
  rcases List.mem_cons.mp m with e | e
  · exact h e
  · exact h' (List.mem_singleton.mp e)
theorem ne_none {H : Hp} {a b : Addr} {o : HO} (h : H a = some o) (h' : H b = none) : b ≠ a := fun e => ne_of_none h h' e.symm

/-! ### data -/
mutual
inductive Dt (ex : List Addr) (H : Hp) : V → PyData → Prop
  | non : Dt ex H .non .none
  | bl (b : Bool) : Dt ex H (.bl b) (.bool b)
  | int (i : Int) : Dt ex H (.int i) (.int i)
  | str (x : Str) : Dt ex H (.str x) (.str x)
  | lst {a : Addr} {xs : List V} {ds : List PyData} : a ∉ ex → H a = some (.lst xs) → DtAll ex H xs ds → Dt ex H (.ref a) (.list ds)
  | tup {a : Addr} {xs : List V} {ds : List PyData} : a ∉ ex → H a = some (.tup xs) → DtAll ex H xs ds → Dt ex H (.ref a) (.tuple ds)
inductive DtAll (ex : List Addr) (H : Hp) : List V → List PyData → Prop
  | nil : DtAll ex H [] []
  | cons {v : V} {vs : List V} {d : PyData} {ds : List PyData} : Dt ex H v d → DtAll ex H vs ds → DtAll ex H (v :: vs) (d :: ds)
end
mutual
theorem Dt.mono' {ex ex' : List Addr} {H H' : Hp} (k : Kp ex H H') (s : ∀ b ∈ ex', b ∈ ex) : ∀ (d : PyData) (v : V), Dt ex H v d → Dt ex' H' v d
  | .none, _, h => by cases h; exact .non
  | .bool b, _, h => by cases h; exact .bl b
  | .int i, _, h => by cases h; exact .int i
  | .str x, _, h => by cases h; exact .str x
  | .list ds, _, h => by
    cases h with
    | lst n e al => exact .lst (fun m => n (s _ m)) (k _ _ e n) (DtAll.mono' k s ds _ al)
  | .tuple ds, _, h => by
    cases h with
    | tup n e al => exact .tup (fun m => n (s _ m)) (k _ _ e n) (DtAll.mono' k s ds _ al)
  | .dict _, _, h => by cases h
theorem DtAll.mono' {ex ex' : List Addr} {H H' : Hp} (k : Kp ex H H') (s : ∀ b ∈ ex', b ∈ ex) : ∀ (ds : List PyData) (vs : List V), DtAll ex H vs ds → DtAll ex' H' vs ds
  | [], _, h => by cases h; exact .nil
  | d :: ds, _, h => by
    cases h with
    | cons h1 h2 => exact .cons (Dt.mono' k s d _ h1) (DtAll.mono' k s ds _ h2)
end
theorem Dt.mono {ex : List Addr} {H H' : Hp} {v : V} {d : PyData} (h : Dt ex H v d) (k : Kp ex H H') : Dt ex H' v d := Dt.mono' k (fun _ m => m) d v h
theorem DtAll.mono {ex : List Addr} {H H' : Hp} {vs : List V} {ds : List PyData} (h : DtAll ex H vs ds) (k : Kp ex H H') : DtAll ex H' vs ds := DtAll.mono' k (fun _ m => m) ds vs h
theorem Dt.less {ex ex' : List Addr} {H : Hp} {v : V} {d : PyData} (h : Dt ex H v d) (s : ∀ b ∈ ex', b ∈ ex) : Dt ex' H v d := Dt.mono' (Kp.refl ex H) s d v h
theorem DtAll.less {ex ex' : List Addr} {H : Hp} {vs : List V} {ds : List PyData} (h : DtAll ex H vs ds) (s : ∀ b ∈ ex', b ∈ ex) : DtAll ex' H vs ds := DtAll.mono' (Kp.refl ex H) s ds vs h
mutual
theorem Dt.more' {ex : List Addr} {H : Hp} {l : Addr} (n : H l = none) : ∀ (d : PyData) (v : V), Dt ex H v d → Dt (l :: ex) H v d
  | .none, _, h => by cases h; exact .non
  | .bool b, _, h => by cases h; exact .bl b
  | .int i, _, h => by cases h; exact .int i
  | .str x, _, h => by cases h; exact .str x
  | .list ds, _, h => by
    cases h with
    | lst m e al => exact .lst (fun z => (List.mem_cons.mp z).elim (ne_of_none e n) m) e (DtAll.more' n ds _ al)
  | .tuple ds, _, h => by
    cases h with
    | tup m e al => exact .tup (fun z => (List.mem_cons.mp z).elim (ne_of_none e n) m) e (DtAll.more' n ds _ al)
  | .dict _, _, h => by cases h
theorem DtAll.more' {ex : List Addr} {H : Hp} {l : Addr} (n : H l = none) : ∀ (ds : List PyData) (vs : List V), DtAll ex H vs ds → DtAll (l :: ex) H vs ds
  | [], _, h => by cases h; exact .nil
  | d :: ds, _, h => by
    cases h with
    | cons h1 h2 => exact .cons (Dt.more' n d _ h1) (DtAll.more' n ds _ h2)
end
/-- an address that is new to the heap is none of the data's -/
theorem Dt.more {ex : List Addr} {H : Hp} {v : V} {d : PyData} {l : Addr} (h : Dt ex H v d) (n : H l = none) : Dt (l :: ex) H v d := Dt.more' n d v h
theorem DtAll.more {ex : List Addr} {H : Hp} {vs : List V} {ds : List PyData} {l : Addr} (h : DtAll ex H vs ds) (n : H l = none) : DtAll (l :: ex) H vs ds := DtAll.more' n ds vs h
mutual
theorem Dt.dp' {K : PySem.W.Frag} {ex : List Addr} {H : Hp} : ∀ (d : PyData) (v : V), Dt ex H v d → Dp K H v d
  | .none, _, h => by cases h; exact .non
  | .bool b, _, h => by cases h; exact .bl b
  | .int i, _, h => by cases h; exact .int i
  | .str x, _, h => by cases h; exact .str x
  | .list ds, _, h => by
    cases h with
    | lst n e al => exact .lst (SqL.of e) (DtAll.dp' ds _ al)
  | .tuple ds, _, h => by
    cases h with
    | tup n e al => exact .tup (SqT.of e) (DtAll.dp' ds _ al)
  | .dict _, _, h => by cases h
theorem DtAll.dp' {K : PySem.W.Frag} {ex : List Addr} {H : Hp} : ∀ (ds : List PyData) (vs : List V), DtAll ex H vs ds → DpAll K H vs ds
  | [], _, h => by cases h; exact .nil
  | d :: ds, _, h => by
    cases h with
    | cons h1 h2 => exact .cons (Dt.dp' d _ h1) (DtAll.dp' ds _ h2)
end
theorem Dt.dp {K : PySem.W.Frag} {ex : List Addr} {H : Hp} {v : V} {d : PyData} (h : Dt ex H v d) : Dp K H v d := Dt.dp' d v h
theorem Dt.list {ex : List Addr} {H : Hp} {v : V} {ds : List PyData} (h : Dt ex H v (.list ds)) : ∃ a xs, v = .ref a ∧ a ∉ ex ∧ H a = some (.lst xs) ∧ DtAll ex H xs ds := by
  cases h with
  | lst n e al => exact ⟨_, _, rfl, n, e, al⟩
theorem Dt.tuple {ex : List Addr} {H : Hp} {v : V} {ds : List PyData} (h : Dt ex H v (.tuple ds)) : ∃ a xs, v = .ref a ∧ a ∉ ex ∧ H a = some (.tup xs) ∧ DtAll ex H xs ds := by
  cases h with
  | tup n e al => exact ⟨_, _, rfl, n, e, al⟩
theorem DtAll.length {ex : List Addr} {H : Hp} : ∀ {vs : List V} {ds : List PyData}, DtAll ex H vs ds → vs.length = ds.length
  | [], _, h => by cases h; rfl
  | _ :: _, _, h => by
    cases h with
    | cons _ h2 => exact congrArg (· + 1) (DtAll.length h2)
theorem DtAll.at {ex : List Addr} {H : Hp} : ∀ {vs : List V} {ds : List PyData} {i : Nat} {v : V}, DtAll ex H vs ds → vs[i]? = some v → ∃ d, ds[i]? = some d ∧ Dt ex H v d
  | [], _, i, v, h, e => by simp at e
  | _ :: _, _, 0, v, h, e => by
    cases h with
    | cons h1 _ =>
      cases e
      exact ⟨_, rfl, h1⟩
  | _ :: _, _, i + 1, v, h, e => by
    cases h with
    | cons _ h2 => exact DtAll.at (i := i) h2 e
theorem DtAll.append {ex : List Addr} {H : Hp} : ∀ {vs ws : List V} {ds es : List PyData}, DtAll ex H vs ds → DtAll ex H ws es → DtAll ex H (vs ++ ws) (ds ++ es)
  | [], _, _, _, h, g => by cases h; exact g
  | _ :: _, _, _, _, h, g => by
    cases h with
    | cons h1 h2 => exact .cons h1 (DtAll.append h2 g)
theorem DtAll.snoc {ex : List Addr} {H : Hp} {vs : List V} {ds : List PyData} {v : V} {d : PyData} (h : DtAll ex H vs ds) (g : Dt ex H v d) : DtAll ex H (vs ++ [v]) (ds ++ [d]) := h.append (.cons g .nil)
theorem DtAll.strs {ex : List Addr} {H : Hp} : ∀ {vs : List V} {ws : List Str}, DtAll ex H vs (ws.map PyData.str) → vs = ws.map V.str
  | [], [], _ => rfl
  | [], _ :: _, h => by cases h
  | _ :: _, [], h => by cases h
  | v :: vs, w :: ws, h => by
    cases h with
    | cons h1 h2 =>
      cases h1
      rw [DtAll.strs h2]
      rfl
theorem DtAll.of_strs {ex : List Addr} {H : Hp} : ∀ (ws : List Str), DtAll ex H (ws.map V.str) (ws.map PyData.str)
  | [] => .nil
  | w :: ws => .cons (.str w) (DtAll.of_strs ws)
theorem DtAll.ints {ex : List Addr} {H : Hp} : ∀ {vs : List V} {ns : List Int}, DtAll ex H vs (ns.map PyData.int) → vs = ns.map V.int
  | [], [], _ => rfl
  | [], _ :: _, h => by cases h
  | _ :: _, [], h => by cases h
  | v :: vs, w :: ws, h => by
    cases h with
    | cons h1 h2 =>
      cases h1
      rw [DtAll.ints h2]
      rfl
theorem DtAll.of_ints {ex : List Addr} {H : Hp} : ∀ (ns : List Int), DtAll ex H (ns.map V.int) (ns.map PyData.int)
  | [] => .nil
  | n :: ns => .cons (.int n) (DtAll.of_ints ns)
/-- a pair of a text and a number -/
theorem Dt.pair {ex : List Addr} {H : Hp} {v : V} {x : Str} {n : Int} (h : Dt ex H v (.tuple [.str x, .int n])) : ∃ a, v = .ref a ∧ a ∉ ex ∧ H a = some (.tup [.str x, .int n]) := by
  obtain ⟨a, xs, rfl, m, e, al⟩ := h.tuple
  cases al with
  | cons h1 h2 =>
    cases h2 with
    | cons h3 h4 =>
      cases h4
      cases h1
      cases h3
      exact ⟨a, rfl, m, e⟩

/-! ### a def as its callers use it -/
def Use (P : Program) (w : World) (K : PySem.W.Frag) (mg : Str → Option Value) (base : Heap) (n : Nat) (x : Str) (ps : List Str) (sp : Sp) : Prop :=
  ∃ f fd, FnOk P w K mg base CX0 n f fd ps sp ∧ mg x = some (.ref f) ∧ PySem.W.keepIn K (.ref f) = true ∧ Binds K fd ps []
def tUse (sp : Sp) (t : TA) : TE := fun σ H Q => t σ H fun vs H1 => sp vs H1 Q E0
theorem tUse_eq (sp : Sp) (t : TA) : tCall sp [] E0 t = tUse sp t := by
  funext σ H Q
  show (t σ H fun vs H1 => sp (vs ++ []) H1 Q E0) = (t σ H fun vs H1 => sp vs H1 Q E0)
  simp only [List.append_nil]
theorem pe_use {X : Cx} {n : Nat} {x : Str} {ps : List Str} {sp : Sp} {e : Expr} {es : List Expr} {t : TA} {p pos : Pos} (U : Use X.prog X.w X.K X.mg X.base n x ps sp) (hr : Room n X.A) (hg : Gl X x) (ha : PA X (e :: es) t)
    (hdb : (x == ("__debug__" : Str)) = false := by decide) (he : starEach (e :: es) X.env = (false, eval e X.env) :: starEach es X.env := by rfl) (hpl : (backTo pos (starEach es X.env)).any (·.1) = false := by rfl) :
    PE X (.Call (.Name x p) (e :: es) [] pos) (tUse sp t) := by
  obtain ⟨f, fd, F, hm, hk, hb⟩ := U
  rw [← tUse_eq]
  exact pe_call F hr hg hm hk hb .nil pass0 ha hdb he hpl
theorem pe_use0 {X : Cx} {n : Nat} {x : Str} {ps : List Str} {sp : Sp} {p pos : Pos} (U : Use X.prog X.w X.K X.mg X.base n x ps sp) (hr : Room n X.A) (hg : Gl X x)
    (hdb : (x == ("__debug__" : Str)) = false := by decide) : PE X (.Call (.Name x p) [] [] pos) (tUse sp tNil) := by
  obtain ⟨f, fd, F, hm, hk, hb⟩ := U
  rw [← tUse_eq]
  exact pe_call0 F hr hg hm hk hb .nil pass0 hdb
/-- not A as a value, A a test of any kind -/
theorem pe_notP {X : Cx} {a : Expr} {t : TE} {pos : Pos} (h : PE X a t) : PE X (.UnaryOp .Not a pos) (tNotV t) := pe_not h

/-! ### readings, from back to front -/
section
variable {σ : St} {H : Hp} {Q : VK} {QB : Bool → Hp → Prop} {QA : List V → Hp → Prop} {v x y : V} {i : Nat} {ta tb tc te tv td ty : TE} {t u c : TT} {tr : TA} {r : R2} {g : TG} {gs : TGs}
  {nx bk ct : St → Hp → Prop} {rt : VK} {t1 t2 : TS} {K : PySem.W.Frag} {b : Bool}
theorem r_var (h : σ[i]? = some (some v)) (q : Q v H) : tVar i σ H Q := ⟨v, h, q⟩
theorem r_c (q : Q v H) : tC v σ H Q := q
theorem r_op (q : ta σ H fun x H1 => tb σ H1 fun y H2 => r x y H2 Q) : tOp r ta tb σ H Q := q
theorem r_un {f : V → Hp → VK → Prop} (q : ta σ H fun x H1 => f x H1 Q) : tUn f ta σ H Q := q
def kB (QB : Bool → Hp → Prop) : VK := fun x H => ∃ k, x = .bl k ∧ QB k H
theorem r_kB (q : QB b H) : kB QB (.bl b) H := ⟨b, rfl, q⟩
theorem r_test (q : te σ H (kB QB)) : tTest te σ H QB := q
theorem r_tB (q : te σ H (kB QB)) : tB te σ H QB := q
def kAnd (u : TT) (σ : St) (QB : Bool → Hp → Prop) : Bool → Hp → Prop := fun c H => if c = true then u σ H QB else QB false H
def kOr (u : TT) (σ : St) (QB : Bool → Hp → Prop) : Bool → Hp → Prop := fun c H => if c = true then QB true H else u σ H QB
theorem r_and (q : t σ H (kAnd u σ QB)) : tAnd t u σ H QB := q
theorem r_or (q : t σ H (kOr u σ QB)) : tOr t u σ H QB := q
theorem r_not (q : t σ H fun c H1 => QB (!c) H1) : tNot t σ H QB := q
theorem r_kAnd (h1 : b = true → u σ H QB) (h2 : b = false → QB false H) : kAnd u σ QB b H := by
  unfold kAnd
  cases b
  · exact h2 rfl
  · exact h1 rfl
theorem r_kOr (h1 : b = true → QB true H) (h2 : b = false → u σ H QB) : kOr u σ QB b H := by
  unfold kOr
  cases b
  · exact h2 rfl
  · exact h1 rfl
theorem r_kAnd1 (h : b = true) (q : u σ H QB) : kAnd u σ QB b H := by
  subst h
  exact q
theorem r_kAnd0 (h : b = false) (q : QB false H) : kAnd u σ QB b H := by
  subst h
  exact q
theorem r_kOr1 (h : b = true) (q : QB true H) : kOr u σ QB b H := by
  subst h
  exact q
theorem r_kOr0 (h : b = false) (q : u σ H QB) : kOr u σ QB b H := by
  subst h
  exact q
def kAndV (tb : TE) (σ : St) (Q : VK) : VK := fun x H1 => ∃ c, x = .bl c ∧ if c = true then tb σ H1 Q else Q (.bl false) H1
def kOrV (tb : TE) (σ : St) (Q : VK) : VK := fun x H1 => ∃ c, x = .bl c ∧ if c = true then Q (.bl true) H1 else tb σ H1 Q
theorem r_andV (q : ta σ H (kAndV tb σ Q)) : tAndV ta tb σ H Q := q
theorem r_orV (q : ta σ H (kOrV tb σ Q)) : tOrV ta tb σ H Q := q
theorem r_kAndV (h1 : b = true → tb σ H Q) (h2 : b = false → Q (.bl false) H) : kAndV tb σ Q (.bl b) H := by
  refine ⟨b, rfl, ?_⟩
  cases b
  · exact h2 rfl
  · exact h1 rfl
theorem r_kOrV (h1 : b = true → Q (.bl true) H) (h2 : b = false → tb σ H Q) : kOrV tb σ Q (.bl b) H := by
  refine ⟨b, rfl, ?_⟩
  cases b
  · exact h2 rfl
  · exact h1 rfl
def kNotV (Q : VK) : VK := fun x H1 => ∃ c, x = .bl c ∧ Q (.bl (!c)) H1
theorem r_notV (q : ta σ H (kNotV Q)) : tNotV ta σ H Q := q
theorem r_kNotV (q : Q (.bl (!b)) H) : kNotV Q (.bl b) H := ⟨b, rfl, q⟩
def kIf (ta tb : TE) (σ : St) (Q : VK) : Bool → Hp → Prop := fun c H => if c = true then ta σ H Q else tb σ H Q
theorem r_if (q : t σ H (kIf ta tb σ Q)) : tIf t ta tb σ H Q := q
theorem r_kIf (h1 : b = true → ta σ H Q) (h2 : b = false → tb σ H Q) : kIf ta tb σ Q b H := by
  unfold kIf
  cases b
  · exact h2 rfl
  · exact h1 rfl
theorem r_kIf1 (h : b = true) (q : ta σ H Q) : kIf ta tb σ Q b H := by
  subst h
  exact q
theorem r_kIf0 (h : b = false) (q : tb σ H Q) : kIf ta tb σ Q b H := by
  subst h
  exact q
theorem r_nilA (q : QA [] H) : tNil σ H QA := q
theorem r_consA (q : ta σ H fun x H1 => tr σ H1 fun xs H2 => QA (x :: xs) H2) : tCons ta tr σ H QA := q
theorem r_use {sp : Sp} (q : tr σ H fun vs H1 => sp vs H1 Q E0) : tUse sp tr σ H Q := q
theorem r_cb {f : List V → Hp → VK → Prop} (q : tr σ H fun vs H1 => f vs H1 Q) : tCB f tr σ H Q := q
/-! operators on numbers -/
theorem r_I0 {f : Int → Int → V} {m n : Int} (q : Q (f m n) H) : rI0 f (.int m) (.int n) H Q := ⟨m, n, rfl, rfl, q⟩
theorem r_I {C : Int → Int → Prop} {f : Int → Int → V} {m n : Int} (h : C m n) (q : Q (f m n) H) : rI C f (.int m) (.int n) H Q := ⟨m, n, rfl, rfl, h, q⟩
theorem r_U {f : Int → V} {m : Int} (q : Q (f m) H) : rU f (.int m) H Q := ⟨m, rfl, q⟩
theorem r_eq (h : scal x y = true) (q : Q (.bl (decide (x = y))) H) : rEq x y H Q := ⟨h, q⟩
theorem r_ne (h : scal x y = true) (q : Q (.bl (!decide (x = y))) H) : rNe x y H Q := ⟨h, q⟩
theorem r_eqI {m n : Int} (q : Q (.bl (decide (m = n))) H) : rEq (.int m) (.int n) H Q := by
  refine ⟨rfl, ?_⟩
  have e : decide (V.int m = V.int n) = decide (m = n) := by
    by_cases h : m = n
    · subst h
      simp
    · rw [decide_eq_false h, decide_eq_false fun z => h (V.int.inj z)]
  rw [e]
  exact q
theorem r_neI {m n : Int} (q : Q (.bl (!decide (m = n))) H) : rNe (.int m) (.int n) H Q := by
  refine ⟨rfl, ?_⟩
  have e : decide (V.int m = V.int n) = decide (m = n) := by
    by_cases h : m = n
    · subst h
      simp
    · rw [decide_eq_false h, decide_eq_false fun z => h (V.int.inj z)]
  rw [e]
  exact q
/-! statements -/
theorem r_seq (q : t1 ⟨t2 ⟨nx, rt, bk, ct⟩, rt, bk, ct⟩ σ H) : tSeq t1 t2 ⟨nx, rt, bk, ct⟩ σ H := q
theorem r_next (q : nx σ H) : tNext ⟨nx, rt, bk, ct⟩ σ H := q
theorem r_brk (q : bk σ H) : tBreak ⟨nx, rt, bk, ct⟩ σ H := q
theorem r_cont (q : ct σ H) : tCont ⟨nx, rt, bk, ct⟩ σ H := q
theorem r_asg (q : te σ H fun x H1 => g x σ H1 nx) : tAsg te g ⟨nx, rt, bk, ct⟩ σ H := q
theorem r_drop (q : te σ H fun _ H1 => nx σ H1) : tDrop te ⟨nx, rt, bk, ct⟩ σ H := q
theorem r_ret (q : te σ H rt) : tRet te ⟨nx, rt, bk, ct⟩ σ H := q
theorem r_retN (q : rt .non H) : tRetN ⟨nx, rt, bk, ct⟩ σ H := q
def kIfS (t1 t2 : TS) (D : Ends) (σ : St) : Bool → Hp → Prop := fun b H => if b = true then t1 D σ H else t2 D σ H
theorem r_ifS (q : c σ H (kIfS t1 t2 ⟨nx, rt, bk, ct⟩ σ)) : tIfS c t1 t2 ⟨nx, rt, bk, ct⟩ σ H := q
theorem r_kIfS {D : Ends} (h1 : b = true → t1 D σ H) (h2 : b = false → t2 D σ H) : kIfS t1 t2 D σ b H := by
  unfold kIfS
  cases b
  · exact h2 rfl
  · exact h1 rfl
theorem r_kIfS1 {D : Ends} (h : b = true) (q : t1 D σ H) : kIfS t1 t2 D σ b H := by
  subst h
  exact q
theorem r_kIfS0 {D : Ends} (h : b = false) (q : t2 D σ H) : kIfS t1 t2 D σ b H := by
  subst h
  exact q
theorem r_name {QS : St → Hp → Prop} (q : QS (σ.set i (some v)) H) : gName i v σ H QS := q
theorem r_par {j : Nat} (q : tr σ H fun vs H1 => ∃ v w, vs = [v, w] ∧ nx ((σ.set i (some v)).set j (some w)) H1) : tPar i j tr ⟨nx, rt, bk, ct⟩ σ H := q
/-! displays, dicts -/
def kLst (Q : VK) : List V → Hp → Prop := fun xs H1 => xs.length ≤ sizeLine ∧ ∀ p, H1 p = none → Q (.ref p) (upd H1 p (.lst xs))
def kTup (Q : VK) : List V → Hp → Prop := fun xs H1 => xs.length ≤ sizeLine ∧ ∀ p, H1 p = none → Q (.ref p) (upd H1 p (.tup xs))
theorem r_lst (q : tr σ H (kLst Q)) : tLst tr σ H Q := q
theorem r_tup (q : tr σ H (kTup Q)) : tTup tr σ H Q := q
theorem r_kLst {xs : List V} (h : xs.length ≤ sizeLine) (q : ∀ p H', H p = none → Kp [] H H' → H' p = some (.lst xs) → Q (.ref p) H') : kLst Q xs H :=
  ⟨h, fun p n => q p _ n (Kp.new n) upd_same⟩
theorem r_kTup {xs : List V} (h : xs.length ≤ sizeLine) (q : ∀ p H', H p = none → Kp [] H H' → H' p = some (.tup xs) → Q (.ref p) H') : kTup Q xs H :=
  ⟨h, fun p n => q p _ n (Kp.new n) upd_same⟩
def kDG (Q : VK) : V → V → Hp → Prop := fun x y H2 => ∃ a v, x = .ref a ∧ DGet H2 a y (some v) ∧ Q v H2
theorem r_dget (q : td σ H fun x H1 => ty σ H1 fun y H2 => kDG Q x y H2) : tDGet td ty σ H Q := q
theorem r_kDGs {a : Addr} {kvs : List (Key × V)} {z : Str} (e : H a = some (.dK kvs)) (h : valV kvs (Sum.inr z) = some v) (q : Q v H) : kDG Q (.ref a) (.str z) H :=
  ⟨a, v, rfl, .inl ⟨kvs, Sum.inr z, .inl e, rfl, h.symm⟩, q⟩
theorem r_kDGi {a : Addr} {kvs : List (Key × V)} {z : Int} (e : H a = some (.dK kvs)) (h : valV kvs (Sum.inl z) = some v) (q : Q v H) : kDG Q (.ref a) (.int z) H :=
  ⟨a, v, rfl, .inl ⟨kvs, Sum.inl z, .inl e, rfl, h.symm⟩, q⟩
def kDP (nx : St → Hp → Prop) (σ : St) : V → V → V → Hp → Prop := fun v x y H3 => ∃ a H4, x = .ref a ∧ DPut H3 a y v H4 ∧ nx σ H4
theorem r_dput (q : tv σ H fun v H1 => td σ H1 fun x H2 => ty σ H2 fun y H3 => kDP nx σ v x y H3) : sDPut td ty tv ⟨nx, rt, bk, ct⟩ σ H := q
theorem r_kDPs {a : Addr} {kvs : List (Key × V)} {z : Str} (e : H a = some (.dK kvs)) (h : kvs.length < sizeLine) (q : nx σ (upd H a (.dK (putK kvs (Sum.inr z) v)))) : kDP nx σ v (.ref a) (.str z) H :=
  ⟨a, _, rfl, .inl ⟨kvs, Sum.inr z, e, rfl, h, rfl⟩, q⟩
end

section
variable {σ : St} {H : Hp} {Q : VK} {QA : List V → Hp → Prop} {v x y : V} {K : PySem.W.Frag} {xs : List V} {p : Addr}
/-! built-ins -/
abbrev R1 := List V → Hp → VK → Prop
def cInt : R1 := fun xs H Q => (∃ i, xs = [.int i] ∧ Q (.int i) H) ∨ ∃ k, xs = [.bl k] ∧ Q (.int (if k then 1 else 0)) H
def cAbs : R1 := fun xs H Q => ∃ i, xs = [.int i] ∧ Q (.int (if i < 0 then -i else i)) H
def cMax2 : R1 := fun xs H Q => ∃ i j, xs = [.int i, .int j] ∧ Q (.int (if j > i then j else i)) H
def cMin2 : R1 := fun xs H Q => ∃ i j, xs = [.int i, .int j] ∧ Q (.int (if j < i then j else i)) H
def cStrI : R1 := fun xs H Q => ∃ i, xs = [.int i] ∧ i.natAbs.log2 < 1920 ∧ Q (.str (toString i)) H
def cLen (K : PySem.W.Frag) : R1 := fun xs H Q => ∃ p ys, xs = [.ref p] ∧ (SqL K H p ys ∨ SqT K H p ys) ∧ Q (.int (ys.length : Nat)) H
def cLenS : R1 := fun xs H Q => ∃ z, xs = [.str z] ∧ z.length ≤ sizeLine ∧ Q (.int (z.length : Nat)) H
def cList (K : PySem.W.Frag) : R1 := fun xs H Q => ∃ p ys, xs = [.ref p] ∧ (SqL K H p ys ∨ SqT K H p ys) ∧ ∀ l, H l = none → Q (.ref l) (upd H l (.lst ys))
def cTuple (K : PySem.W.Frag) : R1 := fun xs H Q => ∃ p ys, xs = [.ref p] ∧ ((SqL K H p ys ∧ ∀ l, H l = none → Q (.ref l) (upd H l (.tup ys))) ∨ (SqT K H p ys ∧ Q (.ref p) H))
section
variable {X : Cx}
theorem cr_int : CallR X (.type "int") cInt := call_int1
theorem cr_abs : CallR X (.builtin "abs") cAbs := call_abs
theorem cr_max2 (hc : X.calm = true) : CallR X (.builtin "max") cMax2 := call_max2 hc
theorem cr_min2 (hc : X.calm = true) : CallR X (.builtin "min") cMin2 := call_min2 hc
theorem cr_strI : CallR X (.type "str") cStrI := call_str_int
theorem cr_len : CallR X (.builtin "len") (cLen X.K) := call_len_seq
theorem cr_lenS : CallR X (.builtin "len") cLenS := call_len_str
theorem cr_list : CallR X (.type "list") (cList X.K) := call_list_of
theorem cr_tuple : CallR X (.type "tuple") (cTuple X.K) := call_tuple_of
end
theorem r_intB {b : Bool} (q : Q (.int (if b = true then 1 else 0)) H) : cInt [.bl b] H Q := .inr ⟨b, rfl, q⟩
theorem r_int {n : Int} (q : Q (.int n) H) : cInt [.int n] H Q := .inl ⟨n, rfl, q⟩
theorem r_abs {n : Int} (q : Q (.int (if n < 0 then -n else n)) H) : cAbs [.int n] H Q := ⟨n, rfl, q⟩
theorem r_max2 {m n : Int} (q : Q (.int (if n > m then n else m)) H) : cMax2 [.int m, .int n] H Q := ⟨m, n, rfl, q⟩
theorem r_min2 {m n : Int} (q : Q (.int (if n < m then n else m)) H) : cMin2 [.int m, .int n] H Q := ⟨m, n, rfl, q⟩
theorem r_strI {n : Int} (h : n.natAbs.log2 < 1920) (q : Q (.str (toString n)) H) : cStrI [.int n] H Q := ⟨n, rfl, h, q⟩
theorem r_lenL (h : SqL K H p xs) (q : Q (.int (xs.length : Nat)) H) : cLen K [.ref p] H Q := ⟨p, xs, rfl, .inl h, q⟩
theorem r_lenT (h : SqT K H p xs) (q : Q (.int (xs.length : Nat)) H) : cLen K [.ref p] H Q := ⟨p, xs, rfl, .inr h, q⟩
theorem r_lenS {z : Str} (h : z.length ≤ sizeLine) (q : Q (.int (z.length : Nat)) H) : cLenS [.str z] H Q := ⟨z, rfl, h, q⟩
theorem r_listL (h : SqL K H p xs) (q : ∀ l H', H l = none → Kp [] H H' → H' l = some (.lst xs) → Q (.ref l) H') : cList K [.ref p] H Q := ⟨p, xs, rfl, .inl h, fun l n => q l _ n (Kp.new n) upd_same⟩
theorem r_listT (h : SqT K H p xs) (q : ∀ l H', H l = none → Kp [] H H' → H' l = some (.lst xs) → Q (.ref l) H') : cList K [.ref p] H Q := ⟨p, xs, rfl, .inr h, fun l n => q l _ n (Kp.new n) upd_same⟩
theorem r_tupleL (h : SqL K H p xs) (q : ∀ l H', H l = none → Kp [] H H' → H' l = some (.tup xs) → Q (.ref l) H') : cTuple K [.ref p] H Q := ⟨p, xs, rfl, .inl ⟨h, fun l n => q l _ n (Kp.new n) upd_same⟩⟩
theorem r_tupleT (h : SqT K H p xs) (q : Q (.ref p) H) : cTuple K [.ref p] H Q := ⟨p, xs, rfl, .inr ⟨h, q⟩⟩
theorem r_ixL {i : Int} (h : SqL K H p xs) (e : atI xs i = some v) (q : Q v H) : rIxL K (.ref p) (.int i) H Q := ⟨p, xs, i, v, rfl, rfl, h, e, q⟩
theorem r_ixT {i : Int} (h : SqT K H p xs) (e : atI xs i = some v) (q : Q v H) : rIxT K (.ref p) (.int i) H Q := ⟨p, xs, i, v, rfl, rfl, h, e, q⟩
theorem r_ixS {z : Str} {i : Int} {c : Nat} (h : z.length ≤ sizeLine) (e : atI z.cps.toList i = some c) (q : Q (.str ⟨#[c]⟩) H) : rIxS (.str z) (.int i) H Q := ⟨z, i, c, rfl, rfl, h, e, q⟩
/-- an item at a number that lies within -/
theorem atI_in {α : Type} {l : List α} {i : Int} (h0 : 0 ≤ i) (h1 : i < (l.length : Int)) : ∃ v, atI l i = some v ∧ v ∈ l ∧ l[i.toNat]? = some v := by
  have hk : i.toNat < l.length := by omega
  have e : l[i.toNat]? = some l[i.toNat] := List.getElem?_eq_getElem hk
  have ei : i = ((i.toNat : Nat) : Int) := by omega
  have q : atI l ((i.toNat : Nat) : Int) = some l[i.toNat] := atI_nat e
  rw [← ei] at q
  exact ⟨l[i.toNat], q, List.getElem_mem hk, e⟩
/-! a display of a dict -/
def kDisp (Q : VK) (p : Addr) : List (V × V) → Hp → Prop := fun ps H2 => H2 p = some (.dK []) ∧ ∃ kvs : List (Key × V), ps = kvs.map (fun kv => (kV kv.1, kv.2)) ∧ kvs.length ≤ 15 ∧ Q (.ref p) (upd H2 p (.dK (mergeK [] kvs)))
theorem r_disp {trs : List (TE × TE)} (q : ∀ p H1, H p = none → Kp [] H H1 → H1 p = some (.dK []) → tPairs trs σ H1 (kDisp Q p)) : tDisp trs σ H Q := fun p n => q p _ n (Kp.new n) upd_same
theorem r_pnil {R : List (V × V) → Hp → Prop} (q : R [] H) : tPairs [] σ H R := q
theorem r_pcons {R : List (V × V) → Hp → Prop} {tk tv : TE} {r : List (TE × TE)} (q : tk σ H fun x H1 => tv σ H1 fun y H2 => tPairs r σ H2 fun ps H3 => R ((x, y) :: ps) H3) : tPairs ((tk, tv) :: r) σ H R := q
theorem r_kDisp {p : Addr} {kvs : List (Key × V)} (e : H p = some (.dK [])) (h : kvs.length ≤ 15) (q : ∀ H', Kp [p] H H' → H' p = some (.dK (mergeK [] kvs)) → Q (.ref p) H') : kDisp Q p (kvs.map fun kv => (kV kv.1, kv.2)) H :=
  ⟨e, kvs, rfl, h, q _ (Kp.put (by simp)) upd_same⟩
end

theorem sql_kp {K : PySem.W.Frag} {ex : List Addr} {H H' : Hp} {a : Addr} {xs : List V} (h : SqL K H a xs) (k : Kp ex H H') (m : a ∉ ex) : SqL K H' a xs := by
  rcases h with (h | ⟨o, h⟩) | h
  · exact .inl (.inl (k _ _ h m))
  · exact .inl (.inr ⟨o, k _ _ h m⟩)
  · exact .inr h
/-- a list stays where only the object o at p changes, which is no list -/
theorem sql_but {K : PySem.W.Frag} {H H' : Hp} {a p : Addr} {xs : List V} {o : HO} (h : SqL K H a xs) (k : Kp [p] H H') (e : H p = some o) (d : ∀ ys, o ≠ .lst ys) (d' : ∀ ob u, o ≠ .frz ob u) : SqL K H' a xs := by
  rcases h with (h | ⟨ob, h⟩) | h
  · exact .inl (.inl (k _ _ h (not_one (ne_of h e fun z => d _ z.symm))))
  · exact .inl (.inr ⟨ob, k _ _ h (not_one (ne_of h e fun z => d' _ _ z.symm))⟩)
  · exact .inr h
theorem sqt_kp {K : PySem.W.Frag} {ex : List Addr} {H H' : Hp} {a : Addr} {xs : List V} (h : SqT K H a xs) (k : Kp ex H H') (m : a ∉ ex) : SqT K H' a xs := by
  rcases h with (h | ⟨o, h⟩) | h
  · exact .inl (.inl (k _ _ h m))
  · exact .inl (.inr ⟨o, k _ _ h m⟩)
  · exact .inr h
section
variable {σ : St} {H : Hp} {Q : VK} {QA : List V → Hp → Prop} {v x y : V} {K : PySem.W.Frag} {xs : List V} {p : Addr} {te tk tv : TE} {tr : TA} {g : TG} {tb : TS} {tt : TT} {wi : TI} {nx bk ct : St → Hp → Prop} {rt : VK}
  {J : It} {n : Nat} {G : Hp → Prop} {Y : Nat → Hp → V → Hp → Prop} {vs : List Nat}
/-! what is walked -/
def cRng1 (R : It → Hp → Prop) : List V → Hp → Prop := fun ws H1 => ∃ j : Int, ws = [.int j] ∧ -(2 ^ 62) ≤ j ∧ j < 2 ^ 62 ∧ R (Itr 0 j.toNat) H1
def cRng2 (R : It → Hp → Prop) : List V → Hp → Prop := fun ws H1 => ∃ i j : Int, ws = [.int i, .int j] ∧ (-(2 ^ 62) ≤ i ∧ i < 2 ^ 62 ∧ -(2 ^ 62) ≤ j ∧ j < 2 ^ 62) ∧ R (Itr i (j - i).toNat) H1
def cWL (K : PySem.W.Frag) (R : It → Hp → Prop) : V → Hp → Prop := fun x H1 => ∃ a, x = .ref a ∧ (∃ xs, SqL K H1 a xs) ∧ R (Itl K a) H1
def cWT (K : PySem.W.Frag) (R : It → Hp → Prop) : V → Hp → Prop := fun x H1 => ∃ a, x = .ref a ∧ (∃ xs, SqT K H1 a xs) ∧ R (Itt K a) H1
def cWS (R : It → Hp → Prop) : V → Hp → Prop := fun v H1 => ∃ x, v = .str x ∧ R (Its x) H1
def cEnum (K : PySem.W.Frag) (R : It → Hp → Prop) : List V → Hp → Prop := fun ws H1 => ∃ a xs, ws = [.ref a] ∧ SqL K H1 a xs ∧ R (Ite K a) H1
def cZip (K : PySem.W.Frag) (R : It → Hp → Prop) : List V → Hp → Prop := fun ws H1 => ∃ a b xs ys, ws = [.ref a, .ref b] ∧ SqL K H1 a xs ∧ SqL K H1 b ys ∧ R (Itz K a b) H1
variable {R : It → Hp → Prop}
theorem r_rng1 (q : tr σ H (cRng1 R)) : iRng1 tr σ H R := q
theorem r_rng2 (q : tr σ H (cRng2 R)) : iRng2 tr σ H R := q
theorem r_wl (q : te σ H (cWL K R)) : iList K te σ H R := q
theorem r_wt (q : te σ H (cWT K R)) : iTup K te σ H R := q
theorem r_ws (q : te σ H (cWS R)) : iStr te σ H R := q
theorem r_enum (q : tr σ H (cEnum K R)) : iEnum K tr σ H R := q
theorem r_zip (q : tr σ H (cZip K R)) : iZip K tr σ H R := q
theorem r_cRng1 {j : Int} (h : -(2 ^ 62) ≤ j ∧ j < 2 ^ 62) (q : R (Itr 0 j.toNat) H) : cRng1 R [.int j] H := ⟨j, rfl, h.1, h.2, q⟩
theorem r_cRng2 {i j : Int} (h : -(2 ^ 62) ≤ i ∧ i < 2 ^ 62 ∧ -(2 ^ 62) ≤ j ∧ j < 2 ^ 62) (q : R (Itr i (j - i).toNat) H) : cRng2 R [.int i, .int j] H := ⟨i, j, rfl, h, q⟩
theorem r_cWL (h : SqL K H p xs) (q : R (Itl K p) H) : cWL K R (.ref p) H := ⟨p, rfl, ⟨xs, h⟩, q⟩
theorem r_cWT (h : SqT K H p xs) (q : R (Itt K p) H) : cWT K R (.ref p) H := ⟨p, rfl, ⟨xs, h⟩, q⟩
theorem r_cWS {z : Str} (q : R (Its z) H) : cWS R (.str z) H := ⟨z, rfl, q⟩
theorem r_cEnum (h : SqL K H p xs) (q : R (Ite K p) H) : cEnum K R [.ref p] H := ⟨p, xs, rfl, h, q⟩
theorem r_cZip {p' : Addr} {ys : List V} (h : SqL K H p xs) (h' : SqL K H p' ys) (q : R (Itz K p p') H) : cZip K R [.ref p, .ref p'] H := ⟨p, p', xs, ys, rfl, h, h', q⟩
/-! for -/
def kFor (g : TG) (tb : TS) (D : Ends) (σ : St) : It → Hp → Prop := fun J H1 => ∃ W : Nat → Nat → St → Hp → Prop, (∃ m, W 0 m σ H1) ∧ ∀ i m σ H, W i m σ H →
  (J.stop i H ∧ D.nx σ H) ∨ (J.go i H ∧ ∃ N : St → Hp → Prop, (∀ σ' H', N σ' H' → ∃ m', m' < m ∧ W (i + 1) m' σ' H') ∧ ∀ x H', J.yld i H x H' → g x σ H' fun σ2 H2 => tb { D with nx := N, ct := N, bk := D.nx } σ2 H2)
theorem r_for (q : wi σ H (kFor g tb ⟨nx, rt, bk, ct⟩ σ)) : tFor wi g tb ⟨nx, rt, bk, ct⟩ σ H := q
theorem r_kFor (w : Walk J n G Y) (Pv : Nat → St → Hp → Prop) (h0 : Pv 0 σ H) (hG : ∀ i σ H, i ≤ n → Pv i σ H → G H)
    (hs : ∀ i x σ H H', i < n → Pv i σ H → Y i H x H' → g x σ H' fun σ2 H2 => tb ⟨Pv (i + 1), rt, nx, Pv (i + 1)⟩ σ2 H2) (hd : ∀ σ H, Pv n σ H → nx σ H) : kFor g tb ⟨nx, rt, bk, ct⟩ σ J H :=
  for_it w (D := ⟨nx, rt, bk, ct⟩) Pv h0 hG hs hd
theorem r_kForR {m : Nat} (Pv : Nat → St → Hp → Prop) (h0 : Pv 0 σ H)
    (hs : ∀ (i : Nat) σ H, i < m → Pv i σ H → g (.int (i : Int)) σ H fun σ2 H2 => tb ⟨Pv (i + 1), rt, nx, Pv (i + 1)⟩ σ2 H2) (hd : ∀ σ H, Pv m σ H → nx σ H) : kFor g tb ⟨nx, rt, bk, ct⟩ σ (Itr 0 m) H := by
  refine r_kFor walk_range Pv h0 (fun _ _ _ _ _ => trivial) (fun i x σ H H' hi hp y => ?_) hd
  obtain ⟨rfl, rfl⟩ := y
  have e : V.int ((0 : Int) + (i : Int)) = V.int (i : Int) := congrArg V.int (by omega)
  show g (V.int ((0 : Int) + (i : Int))) σ _ _
  rw [e]
  exact hs i σ _ hi hp
theorem r_kForL (Pv : Nat → St → Hp → Prop) (h0 : Pv 0 σ H) (hl : ∀ i σ H, i ≤ xs.length → Pv i σ H → SqL K H p xs)
    (hs : ∀ (i : Nat) x σ H, xs[i]? = some x → Pv i σ H → g x σ H fun σ2 H2 => tb ⟨Pv (i + 1), rt, nx, Pv (i + 1)⟩ σ2 H2) (hd : ∀ σ H, Pv xs.length σ H → nx σ H) : kFor g tb ⟨nx, rt, bk, ct⟩ σ (Itl K p) H := by
  refine r_kFor walk_list Pv h0 hl (fun i x σ H H' hi hp y => ?_) hd
  obtain ⟨rfl, e⟩ := y
  exact hs i x σ _ e hp
theorem r_kForT (Pv : Nat → St → Hp → Prop) (h0 : Pv 0 σ H) (hl : ∀ i σ H, i ≤ xs.length → Pv i σ H → SqT K H p xs)
    (hs : ∀ (i : Nat) x σ H, xs[i]? = some x → Pv i σ H → g x σ H fun σ2 H2 => tb ⟨Pv (i + 1), rt, nx, Pv (i + 1)⟩ σ2 H2) (hd : ∀ σ H, Pv xs.length σ H → nx σ H) : kFor g tb ⟨nx, rt, bk, ct⟩ σ (Itt K p) H := by
  refine r_kFor walk_tup Pv h0 hl (fun i x σ H H' hi hp y => ?_) hd
  obtain ⟨rfl, e⟩ := y
  exact hs i x σ _ e hp
/-! [e for ..]: Pv by the new list's place, the turn, what is made so far, the heap -/
def kN (Pv : List V → Hp → Prop) (D : Addr) : Hp → Prop := fun H' => ∃ acc, H' D = some (.lst acc) ∧ Pv acc H'
def kApp (D : Addr) (N : Hp → Prop) : VK := fun y H4 => ∃ acc, H4 D = some (.lst acc) ∧ acc.length < sizeLine ∧ N (upd H4 D (.lst (acc ++ [y])))
def kKeep (te : TE) (σ : St) (D : Addr) (N : Hp → Prop) : Bool → Hp → Prop := fun b H3 => if b = true then te σ H3 (kApp D N) else N H3
def kTurn (tt : TT) (te : TE) (σ0 : St) (vs : List Nat) (D : Addr) (N : Hp → Prop) : St → Hp → Prop := fun σ2 H2 => wipe σ2 vs = σ0 ∧ tt σ2 H2 (kKeep te σ2 D N)
def kLc (g : TG) (tt : TT) (te : TE) (vs : List Nat) (σ : St) (Q : VK) : It → Hp → Prop := fun J H1 => ∀ D, H1 D = none → ∃ W : Nat → Nat → Hp → Prop, (∃ m, W 0 m (upd H1 D (.lst []))) ∧ ∀ i m H, W i m H →
  (J.stop i H ∧ Q (.ref D) H) ∨ (J.go i H ∧ ∃ Nx : Hp → Prop, (∀ H', Nx H' → ∃ m', m' < m ∧ W (i + 1) m' H') ∧ ∀ x H', J.yld i H x H' → g x (wipe σ vs) H' fun σ2 H2 => wipe σ2 vs = wipe σ vs ∧ tt σ2 H2 fun b H3 =>
    if b = true then te σ2 H3 fun y H4 => ∃ acc, H4 D = some (.lst acc) ∧ acc.length < sizeLine ∧ Nx (upd H4 D (.lst (acc ++ [y]))) else Nx H3)
theorem r_lc (q : wi σ H (kLc g tt te vs σ Q)) : tLc wi g tt te vs σ H Q := q
theorem r_kTurn {σ0 : St} {D : Addr} {N : Hp → Prop} (h : wipe σ vs = σ0) (q : tt σ H (kKeep te σ D N)) : kTurn tt te σ0 vs D N σ H := ⟨h, q⟩
theorem r_yes {QB : Bool → Hp → Prop} (q : QB true H) : tYes σ H QB := q
theorem r_kKeep1 {D : Addr} {N : Hp → Prop} {b : Bool} (h : b = true) (q : te σ H (kApp D N)) : kKeep te σ D N b H := by
  subst h
  exact q
theorem r_kKeep0 {D : Addr} {acc : List V} {Pv : List V → Hp → Prop} {b : Bool} (h : b = false) (e : H D = some (.lst acc)) (q : Pv acc H) : kKeep te σ D (kN Pv D) b H := by
  subst h
  exact ⟨acc, e, q⟩
theorem r_kKeep {D : Addr} {N : Hp → Prop} {b : Bool} (h1 : b = true → te σ H (kApp D N)) (h0 : b = false → N H) : kKeep te σ D N b H := by
  cases b
  · exact h0 rfl
  · exact h1 rfl
theorem r_kApp {D : Addr} {acc : List V} {Pv : List V → Hp → Prop} (e : H D = some (.lst acc)) (h : acc.length < sizeLine) (q : ∀ H5, Kp [D] H H5 → H5 D = some (.lst (acc ++ [y])) → Pv (acc ++ [y]) H5) : kApp D (kN Pv D) y H :=
  ⟨acc, e, h, acc ++ [y], upd_same, q _ (Kp.put (by simp)) upd_same⟩
theorem r_kLc (w : Walk J n G Y) (Pv : Addr → Nat → List V → Hp → Prop) (h0 : ∀ D H', H D = none → Kp [] H H' → H' D = some (.lst []) → Pv D 0 [] H') (hG : ∀ D i acc H', i ≤ n → Pv D i acc H' → G H')
    (hs : ∀ D i acc x H' H'', H D = none → i < n → H' D = some (.lst acc) → Pv D i acc H' → Y i H' x H'' → g x (wipe σ vs) H'' (kTurn tt te (wipe σ vs) vs D (kN (Pv D (i + 1)) D)))
    (hd : ∀ D acc H', H D = none → H' D = some (.lst acc) → Pv D n acc H' → Q (.ref D) H') : kLc g tt te vs σ Q J H := by
  intro D hD
  exact lc_it w (fun i => kN (Pv D i) D) ⟨[], upd_same, h0 D _ hD (Kp.new hD) upd_same⟩ (fun i H' hi ⟨acc, _, p⟩ => hG D i acc H' hi p) (fun i x H' H'' hi ⟨acc, e, p⟩ y => hs D i acc x H' H'' hD hi e p y) (fun H' ⟨acc, e, p⟩ => hd D acc H' hD e p)
theorem r_kLcL (Pv : Addr → Nat → List V → Hp → Prop) (h0 : ∀ D H', H D = none → Kp [] H H' → H' D = some (.lst []) → Pv D 0 [] H') (hG : ∀ D i acc H', i ≤ xs.length → Pv D i acc H' → SqL K H' p xs)
    (hs : ∀ D (i : Nat) acc x H', H D = none → xs[i]? = some x → H' D = some (.lst acc) → Pv D i acc H' → g x (wipe σ vs) H' (kTurn tt te (wipe σ vs) vs D (kN (Pv D (i + 1)) D)))
    (hd : ∀ D acc H', H D = none → H' D = some (.lst acc) → Pv D xs.length acc H' → Q (.ref D) H') : kLc g tt te vs σ Q (Itl K p) H := by
  refine r_kLc walk_list Pv h0 hG (fun D i acc x H' H'' hD hi e hp y => ?_) hd
  obtain ⟨rfl, e'⟩ := y
  exact hs D i acc x _ hD e' e hp
theorem r_kLcT (Pv : Addr → Nat → List V → Hp → Prop) (h0 : ∀ D H', H D = none → Kp [] H H' → H' D = some (.lst []) → Pv D 0 [] H') (hG : ∀ D i acc H', i ≤ xs.length → Pv D i acc H' → SqT K H' p xs)
    (hs : ∀ D (i : Nat) acc x H', H D = none → xs[i]? = some x → H' D = some (.lst acc) → Pv D i acc H' → g x (wipe σ vs) H' (kTurn tt te (wipe σ vs) vs D (kN (Pv D (i + 1)) D)))
    (hd : ∀ D acc H', H D = none → H' D = some (.lst acc) → Pv D xs.length acc H' → Q (.ref D) H') : kLc g tt te vs σ Q (Itt K p) H := by
  refine r_kLc walk_tup Pv h0 hG (fun D i acc x H' H'' hD hi e hp y => ?_) hd
  obtain ⟨rfl, e'⟩ := y
  exact hs D i acc x _ hD e' e hp
theorem r_kLcR {m : Nat} (Pv : Addr → Nat → List V → Hp → Prop) (h0 : ∀ D H', H D = none → Kp [] H H' → H' D = some (.lst []) → Pv D 0 [] H')
    (hs : ∀ D (i : Nat) acc H', H D = none → i < m → H' D = some (.lst acc) → Pv D i acc H' → g (.int (i : Int)) (wipe σ vs) H' (kTurn tt te (wipe σ vs) vs D (kN (Pv D (i + 1)) D)))
    (hd : ∀ D acc H', H D = none → H' D = some (.lst acc) → Pv D m acc H' → Q (.ref D) H') : kLc g tt te vs σ Q (Itr 0 m) H := by
  refine r_kLc walk_range Pv h0 (fun _ _ _ _ _ _ => trivial) (fun D i acc x H' H'' hD hi e hp y => ?_) hd
  obtain ⟨rfl, rfl⟩ := y
  have e : V.int ((0 : Int) + (i : Int)) = V.int (i : Int) := congrArg V.int (by omega)
  show g (V.int ((0 : Int) + (i : Int))) (wipe σ vs) _ _
  rw [e]
  exact hs D i acc _ hD hi (by assumption) hp
theorem r_kLcS {z : Str} (Pv : Addr → Nat → List V → Hp → Prop) (h0 : ∀ D H', H D = none → Kp [] H H' → H' D = some (.lst []) → Pv D 0 [] H')
    (hs : ∀ D (i : Nat) acc c H', H D = none → z.cps.toList[i]? = some c → H' D = some (.lst acc) → Pv D i acc H' → g (.str ⟨#[c]⟩) (wipe σ vs) H' (kTurn tt te (wipe σ vs) vs D (kN (Pv D (i + 1)) D)))
    (hd : ∀ D acc H', H D = none → H' D = some (.lst acc) → Pv D z.cps.toList.length acc H' → Q (.ref D) H') : kLc g tt te vs σ Q (Its z) H := by
  refine r_kLc walk_str Pv h0 (fun _ _ _ _ _ _ => trivial) (fun D i acc x H' H'' hD hi e hp y => ?_) (fun D acc H' a b c => hd D acc H' a b (by simpa using c))
  obtain ⟨rfl, c, e', rfl⟩ := y
  exact hs D i acc c _ hD (by simpa using e') e hp
/-! {k: v for ..} -/
def kND (Pv : List (Key × V) → Hp → Prop) (D : Addr) : Hp → Prop := fun H' => ∃ kvs, H' D = some (.dK kvs) ∧ Pv kvs H'
def kPut (D : Addr) (N : Hp → Prop) (y : V) : VK := fun z H5 => ∃ kvs k, y = kV k ∧ H5 D = some (.dK kvs) ∧ kvs.length < sizeLine ∧ N (upd H5 D (.dK (putK kvs k z)))
def kKeepD (tk tv : TE) (σ : St) (D : Addr) (N : Hp → Prop) : Bool → Hp → Prop := fun b H3 => if b = true then tk σ H3 (fun y H4 => tv σ H4 (kPut D N y)) else N H3
def kTurnD (tt : TT) (tk tv : TE) (σ0 : St) (vs : List Nat) (D : Addr) (N : Hp → Prop) : St → Hp → Prop := fun σ2 H2 => wipe σ2 vs = σ0 ∧ tt σ2 H2 (kKeepD tk tv σ2 D N)
def kDc (g : TG) (tt : TT) (tk tv : TE) (vs : List Nat) (σ : St) (Q : VK) : It → Hp → Prop := fun J H1 => ∀ D, H1 D = none → ∃ W : Nat → Nat → Hp → Prop, (∃ m, W 0 m (upd H1 D (.dK []))) ∧ ∀ i m H, W i m H →
  (J.stop i H ∧ Q (.ref D) H) ∨ (J.go i H ∧ ∃ Nx : Hp → Prop, (∀ H', Nx H' → ∃ m', m' < m ∧ W (i + 1) m' H') ∧ ∀ x H', J.yld i H x H' → g x (wipe σ vs) H' fun σ2 H2 => wipe σ2 vs = wipe σ vs ∧ tt σ2 H2 fun b H3 =>
    if b = true then tk σ2 H3 fun y H4 => tv σ2 H4 fun z H5 => ∃ kvs k, y = kV k ∧ H5 D = some (.dK kvs) ∧ kvs.length < sizeLine ∧ Nx (upd H5 D (.dK (putK kvs k z))) else Nx H3)
theorem r_dc (q : wi σ H (kDc g tt tk tv vs σ Q)) : tDc wi g tt tk tv vs σ H Q := q
theorem r_kTurnD {σ0 : St} {D : Addr} {N : Hp → Prop} (h : wipe σ vs = σ0) (q : tt σ H (kKeepD tk tv σ D N)) : kTurnD tt tk tv σ0 vs D N σ H := ⟨h, q⟩
theorem r_kKeepD1 {D : Addr} {N : Hp → Prop} {b : Bool} (h : b = true) (q : tk σ H (fun y H4 => tv σ H4 (kPut D N y))) : kKeepD tk tv σ D N b H := by
  subst h
  exact q
theorem r_kPut {D : Addr} {kvs : List (Key × V)} {k : Key} {Pv : List (Key × V) → Hp → Prop} (ey : x = kV k) (e : H D = some (.dK kvs)) (h : kvs.length < sizeLine) (q : ∀ H5, Kp [D] H H5 → H5 D = some (.dK (putK kvs k y)) → Pv (putK kvs k y) H5) : kPut D (kND Pv D) x y H :=
  ⟨kvs, k, ey, e, h, _, upd_same, q _ (Kp.put (by simp)) upd_same⟩
theorem r_kDc (w : Walk J n G Y) (Pv : Addr → Nat → List (Key × V) → Hp → Prop) (h0 : ∀ D H', H D = none → Kp [] H H' → H' D = some (.dK []) → Pv D 0 [] H') (hG : ∀ D i acc H', i ≤ n → Pv D i acc H' → G H')
    (hs : ∀ D i acc x H' H'', H D = none → i < n → H' D = some (.dK acc) → Pv D i acc H' → Y i H' x H'' → g x (wipe σ vs) H'' (kTurnD tt tk tv (wipe σ vs) vs D (kND (Pv D (i + 1)) D)))
    (hd : ∀ D acc H', H D = none → H' D = some (.dK acc) → Pv D n acc H' → Q (.ref D) H') : kDc g tt tk tv vs σ Q J H := by
  intro D hD
  refine ⟨fun i m H' => m = n - i ∧ i ≤ n ∧ kND (Pv D i) D H', ⟨n, by simp, Nat.zero_le _, [], upd_same, h0 D _ hD (Kp.new hD) upd_same⟩, ?_⟩
  rintro i m H' ⟨rfl, hi, acc, e, p⟩
  have q := hG D i acc H' hi p
  by_cases hlt : i < n
  · exact .inr ⟨w.goes i H' hlt q, kND (Pv D (i + 1)) D, fun H2 p' => ⟨n - (i + 1), by omega, rfl, hlt, p'⟩, fun x H2 y => hs D i acc x H' H2 hD hlt e p (w.yields i H' x H2 hlt q y)⟩
  · have e' : i = n := by omega
    subst e'
    exact .inl ⟨w.stops H' q, hd D acc H' hD e p⟩
/-! targets that are tuples -/
theorem r_gtup {K : PySem.W.Frag} {m : Nat} {t : TGs} {QS : St → Hp → Prop} {a : Addr} (h : SqT K H a xs) (hl : xs.length = m) (q : t xs σ H QS) : gTup K m t (.ref a) σ H QS := ⟨a, xs, rfl, h, hl, q⟩
theorem r_gnil {QS : St → Hp → Prop} (q : QS σ H) : gNil [] σ H QS := ⟨rfl, q⟩
theorem r_gcons {t : TG} {u : TGs} {QS : St → Hp → Prop} (q : t x σ H fun σ' H' => u xs σ' H' QS) : gCons t u (x :: xs) σ H QS := ⟨x, xs, rfl, q⟩
/-! methods of lists -/
def kBM (K : PySem.W.Frag) (T : String) (r : V → List V → Hp → VK → Prop) (tr : TA) (σ : St) (Q : VK) : VK := fun x H1 => tyV K T x H1 ∧ tr σ H1 fun xs H2 => r x xs H2 Q
theorem r_bm {T : String} {r : V → List V → Hp → VK → Prop} (q : te σ H (kBM K T r tr σ Q)) : tBM K T r te tr σ H Q := q
theorem r_kBMl {r : V → List V → Hp → VK → Prop} (h : SqL K H p xs) (q : tr σ H fun ys H2 => r (.ref p) ys H2 Q) : kBM K "list" r tr σ Q (.ref p) H := ⟨.inl ⟨rfl, _, h⟩, q⟩
def kBM0 (K : PySem.W.Frag) (T : String) (r : V → List V → Hp → VK → Prop) (Q : VK) : VK := fun x H1 => tyV K T x H1 ∧ r x [] H1 Q
theorem r_bm0 {T : String} {r : V → List V → Hp → VK → Prop} (q : te σ H (kBM0 K T r Q)) : tBM0 K T r te σ H Q := q
theorem r_kBM0l {r : V → List V → Hp → VK → Prop} (h : SqL K H p xs) (q : r (.ref p) [] H Q) : kBM0 K "list" r Q (.ref p) H := ⟨.inl ⟨rfl, _, h⟩, q⟩
theorem r_append (e : H p = some (.lst xs)) (h : xs.length < sizeLine) (q : ∀ H', Kp [p] H H' → H' p = some (.lst (xs ++ [x])) → Q .non H') : rAppend (.ref p) [x] H Q := ⟨p, xs, x, rfl, rfl, e, h, q _ (Kp.put (by simp)) upd_same⟩
/-! texts -/
def rAddT : R2 := fun x y H Q => ∃ i j, x = .str i ∧ y = .str j ∧ i.length + j.length ≤ sizeLine ∧ Q (.str (i ++ j)) H
theorem op_addT {X : Cx} : OpR X (binaryOp .Add) rAddT := op_add_str
theorem r_addT {a b : Str} (h : a.length + b.length ≤ sizeLine) (q : Q (.str (a ++ b)) H) : rAddT (.str a) (.str b) H Q := ⟨a, b, rfl, rfl, h, q⟩
theorem r_eqS {a b : Str} (q : Q (.bl (decide (a = b))) H) : rEq (.str a) (.str b) H Q := by
  refine ⟨rfl, ?_⟩
  have e : decide (V.str a = V.str b) = decide (a = b) := by
    by_cases h : a = b
    · subst h
      simp
    · rw [decide_eq_false h, decide_eq_false fun z => h (V.str.inj z)]
  rw [e]
  exact q
theorem r_neS {a b : Str} (q : Q (.bl (!decide (a = b))) H) : rNe (.str a) (.str b) H Q := by
  refine ⟨rfl, ?_⟩
  have e : decide (V.str a = V.str b) = decide (a = b) := by
    by_cases h : a = b
    · subst h
      simp
    · rw [decide_eq_false h, decide_eq_false fun z => h (V.str.inj z)]
  rw [e]
  exact q
/-! in, not in, of texts in a list -/
theorem eqV_str (a b : Str) : eqV (.str a) (.str b) = decide (a = b) := by
  show (a == b) = decide (a = b)
  by_cases h : a = b
  · subst h
    simp
  · rw [decide_eq_false h]
    exact beq_eq_false_iff_ne.mpr h
theorem inV_strs (x : Str) : ∀ ws : List Str, inV (.str x) (ws.map V.str) = decide (x ∈ ws)
  | [] => by simp [inV]
  | w :: ws => by
    have ih := inV_strs x ws
    unfold inV at ih
    unfold inV
    rw [List.map_cons, List.any_cons, ih, eqV_str]
    by_cases h : x = w
    · subst h
      simp
    · have h' : ¬ w = x := fun e => h e.symm
      simp [h, h']
theorem flat_strs (ws : List Str) : (ws.map V.str).all flatV = true := by
  rw [List.all_eq_true]
  intro v hv
  obtain ⟨w, _, rfl⟩ := List.mem_map.mp hv
  rfl
theorem r_inL {z : Str} {ws : List Str} (h : SqL K H p (ws.map V.str)) (q : Q (.bl (decide (z ∈ ws))) H) : rIn K false (.str z) (.ref p) H Q := by
  refine ⟨p, _, rfl, .inl h, rfl, flat_strs ws, ?_⟩
  show Q (.bl (inV (.str z) (ws.map V.str))) H
  rw [inV_strs]
  exact q
theorem r_notInL {z : Str} {ws : List Str} (h : SqL K H p (ws.map V.str)) (q : Q (.bl (!decide (z ∈ ws))) H) : rIn K true (.str z) (.ref p) H Q := by
  refine ⟨p, _, rfl, .inl h, rfl, flat_strs ws, ?_⟩
  show Q (.bl (!inV (.str z) (ws.map V.str))) H
  rw [inV_strs]
  exact q
end

/-! the layer's rules with K named: within a comprehension's block it could not be found otherwise -/
section
variable {X : Cx} {K : PySem.W.Frag} (hK : X.K = K)
include hK
theorem K_in : OpR X (compareOp .In) (rIn K false) := by
  subst hK
  exact op_in_seq
theorem K_notIn : OpR X (compareOp .NotIn) (rIn K true) := by
  subst hK
  exact op_notIn_seq
theorem K_eqD (hu : X.A.units + 64 < cLine) : OpR X (compareOp .Eq) (rEqD K) := by
  subst hK
  exact op_eqD hu
theorem K_neD (hu : X.A.units + 64 < cLine) : OpR X (compareOp .NotEq) (rNeD K) := by
  subst hK
  exact op_neD hu
theorem K_len : CallR X (.builtin "len") (cLen K) := by
  subst hK
  exact cr_len
theorem K_list : CallR X (.type "list") (cList K) := by
  subst hK
  exact cr_list
theorem K_tuple : CallR X (.type "tuple") (cTuple K) := by
  subst hK
  exact cr_tuple
theorem K_ixL : IxR X (rIxL K) := by
  subst hK
  exact ix_list
theorem K_ixT : IxR X (rIxT K) := by
  subst hK
  exact ix_tup
theorem K_sum (hc : X.calm = true) : CallR X (.builtin "sum") (rSum K) := by
  subst hK
  exact cr_sum hc
theorem K_max (hc : X.calm = true) : CallR X (.builtin "max") (rMax K) := by
  subst hK
  exact cr_max hc
theorem K_min (hc : X.calm = true) : CallR X (.builtin "min") (rMin K) := by
  subst hK
  exact cr_min hc
theorem K_any (hc : X.calm = true) : CallR X (.builtin "any") (rAny K) := by
  subst hK
  exact cr_any hc
theorem K_all (hc : X.calm = true) : CallR X (.builtin "all") (rAll K) := by
  subst hK
  exact cr_all hc
theorem K_sortedI : CallR X (.builtin "sorted") (rSortedI K) := by
  subst hK
  exact cr_sortedI
theorem K_sortedS : CallR X (.builtin "sorted") (rSortedS K) := by
  subst hK
  exact cr_sortedS
theorem K_isi : CallR X (.builtin "isinstance") (rIsi K) := by
  subst hK
  exact call_isi
theorem K_isiT : CallR X (.builtin "isinstance") (rIsiT K) := by
  subst hK
  exact call_isiT
theorem K_slL : SlR X (rSlL K) := by
  subst hK
  exact sl_list
theorem K_slT : SlR X (rSlT K) := by
  subst hK
  exact sl_tup
theorem K_catT : OpR X (binaryOp .Add) (rCatA K) := by
  subst hK
  exact op_catA
theorem K_index : MtR X "list.index" (rIndex K) := by
  subst hK
  exact mt_index
theorem K_pil {tg l : Expr} {tl : TE} (hl : PE X l tl) : PI X tg l (iList K tl) := by
  subst hK
  exact pi_list hl
theorem K_pit {tg l : Expr} {tl : TE} (hl : PE X l tl) : PI X tg l (iTup K tl) := by
  subst hK
  exact pi_tup hl
theorem K_enum {e : Expr} {ta : TA} {p pos tpos : Pos} {elts : List Expr} {kk : Nat} (hg : Gl X "enumerate") (hm : X.mg "enumerate" = none) (ha : PA X [e] ta) (hs : starEach [e] X.env = [(false, eval e X.env)] := by rfl) :
    PI X (.Tuple elts kk tpos) (.Call (.Name "enumerate" p) [e] [] pos) (iEnum K ta) := by
  subst hK
  exact pi_enum hg hm ha hs
theorem K_zip {e e2 : Expr} {ta : TA} {p pos tpos : Pos} {elts : List Expr} {kk : Nat} (hg : Gl X "zip") (hm : X.mg "zip" = none) (ha : PA X [e, e2] ta) (hs : starEach [e, e2] X.env = (false, eval e X.env) :: starEach [e2] X.env := by rfl) (hpl : (backTo pos (starEach [e2] X.env)).any (·.1) = false := by rfl) :
    PI X (.Tuple elts kk tpos) (.Call (.Name "zip" p) [e, e2] [] pos) (iZip K ta) := by
  subst hK
  exact pi_zip hg hm ha hs hpl
theorem K_bm {o e : Expr} {es : List Expr} {T : String} {name : Str} {id : String} {r : V → List V → Hp → VK → Prop} {to : TE} {t : TA} {apos cpos : Pos} (pa : PlainAttrs T) (slot : Slot T name id) (hty : typeOf (.builtin id) = pure (.type "method_descriptor")) (hm : MtR X id r) (ho : PE X o to) (ha : PA X (e :: es) t) (hbase : attributeBase o name X.env (eval o X.env) = eval o X.env := by rfl) (hfew : ((backTo cpos (starEach (e :: es) X.env)).all (fun x => !x.1) && (backToKw cpos (keywordEach [] X.env)).all (fun x => x.1.isSome) && decide ((e :: es).length + ([] : List Keyword).length + (if ([] : List Keyword).isEmpty then 0 else 1) < 30)) = true := by rfl) (hline : (apos.endLine == cpos.line) = true := by rfl) (hs : starEach (e :: es) X.env = (false, eval e X.env) :: starEach es X.env := by rfl) (hplain : (backTo cpos (starEach es X.env)).any (·.1) = false := by rfl) : PE X (.Call (.Attribute o name apos) (e :: es) [] cpos) (tBM K T r to t) := by
  subst hK
  exact pe_bm pa slot hty hm ho ha hbase hfew hline hs hplain
theorem K_bm0 {o : Expr} {T : String} {name : Str} {id : String} {r : V → List V → Hp → VK → Prop} {to : TE} {apos cpos : Pos} (pa : PlainAttrs T) (slot : Slot T name id) (hty : typeOf (.builtin id) = pure (.type "method_descriptor")) (hm : MtR X id r) (ho : PE X o to) (hbase : attributeBase o name X.env (eval o X.env) = eval o X.env := by rfl) (hline : (apos.endLine == cpos.line) = true := by rfl) : PE X (.Call (.Attribute o name apos) [] [] cpos) (tBM0 K T r to) := by
  subst hK
  exact pe_bm0 pa slot hty hm ho hbase hline
theorem K_gtup {es : List Expr} {k : Nat} {t : TGs} {n : Nat} {pos : Pos} (hc : X.calm = true) (h : PGs X es t) (hn : (assignEach es X.env).length = n := by rfl) (hst : (assignEach es X.env).findIdx? (·.1) = none := by rfl) : PG X (.Tuple es k pos) (gTup K n t) := by
  subst hK
  exact pg_tup hc h hn hst
theorem K_fld {e : Expr} {f : Str} {pos : Pos} {ta : TE} (he : PE X e ta) (hb : attributeBase e f X.env (eval e X.env) = eval e X.env) : PE X (.Attribute e f pos) (tFld K ta f) := by
  subst hK
  exact pe_fld he hb
theorem K_join {o e : Expr} {to te : TE} {apos pos : Pos} (ho : PE X o to) (he : PE X e te) (hs : starEach [e] X.env = [(false, eval e X.env)] := by rfl) (hbase : attributeBase o "join" X.env (eval o X.env) = eval o X.env := by rfl) (hline : (apos.endLine == pos.line) = true := by rfl) : PE X (.Call (.Attribute o "join" apos) [e] [] pos) (tM1 (fun x xs H Q => ∃ a p, ∃ ys : List Str, x = .str a ∧ xs = [.ref p] ∧ (SqL K H p (ys.map V.str) ∨ SqT K H p (ys.map V.str)) ∧ (ys.map (·.length)).sum + ys.length * a.length ≤ 16777216 ∧ Q (.str (Txt.join a ys)) H) to te) := by
  subst hK
  exact pe_join ho he hs hbase hline
end

/-! cuts: what stands behind is read once -/
section
variable {X : Cx}
def tCutS (t u : TS) : TS := fun D σ H => ∃ M : St → Hp → Prop, t { D with nx := M } σ H ∧ ∀ σ' H', M σ' H' → u D σ' H'
theorem pss_cutS {st : Stmt} {more : List Stmt} {t u : TS} (a : PS X st t) (b : PSs X more u) : PSs X (st :: more) (tCutS t u) := by
  constructor
  intro pins s σ H D I ⟨M, hm, hu⟩
  refine wpAny_execs_cons (thn (a.run pins s σ H { D with nx := M } I hm) fun f s1 w => ?_)
  match f, w with
  | .next, ⟨σ', H', I', w'⟩ => exact b.run pins s1 σ' H' D I' (hu σ' H' w')
  | .ret _, w => exact w
  | .brk, w => exact w
  | .cont, w => exact w
theorem r_cutS {t u : TS} {nx bk ct : St → Hp → Prop} {rt : VK} {σ : St} {H : Hp} (M : St → Hp → Prop) (h : t ⟨M, rt, bk, ct⟩ σ H) (q : ∀ σ' H', M σ' H' → u ⟨nx, rt, bk, ct⟩ σ' H') : tCutS t u ⟨nx, rt, bk, ct⟩ σ H := ⟨M, h, q⟩
def tCutT (t : TT) : TT := fun σ H Q => ∃ M : Bool → Hp → Prop, t σ H M ∧ ∀ b H', M b H' → Q b H'
theorem pt_cutT {e : Expr} {t : TT} (a : PT X e t) : PT X e (tCutT t) := by
  constructor
  intro pins s σ H Q I ⟨M, hm, hq⟩
  exact wpAny_mono (a.run pins s σ H M I hm) (fun b s' ⟨H', I', w⟩ => ⟨H', I', hq b H' w⟩) fun _ _ z => z
theorem r_cutT {t : TT} {σ : St} {H : Hp} {QB : Bool → Hp → Prop} (M : Bool → Hp → Prop) (h : t σ H M) (q : ∀ b H', M b H' → QB b H') : tCutT t σ H QB := ⟨M, h, q⟩
def tCutE (t : TE) : TE := fun σ H Q => ∃ M : VK, t σ H M ∧ ∀ x H', M x H' → Q x H'
theorem pe_cutE {e : Expr} {t : TE} (a : PE X e t) : PE X e (tCutE t) := by
  constructor
  intro pins s σ H Q I ⟨M, hm, hq⟩
  exact wpAny_mono (a.run pins s σ H M I hm) (fun u s' ⟨v, H', I', r, w⟩ => ⟨v, H', I', r, hq v H' w⟩) fun _ _ z => z
theorem r_cutE {t : TE} {σ : St} {H : Hp} {Q : VK} (M : VK) (h : t σ H M) (q : ∀ x H', M x H' → Q x H') : tCutE t σ H Q := ⟨M, h, q⟩
end

/-! lists by turns -/
theorem take_more {α : Type} : ∀ {l : List α} {i : Nat} {x : α}, l[i]? = some x → l.take (i + 1) = l.take i ++ [x]
  | [], i, x, h => by simp at h
  | a :: l, 0, x, h => by
    cases h
    rfl
  | a :: l, i + 1, x, h => by
    have ih := take_more (l := l) (i := i) (x := x) h
    rw [List.take_succ_cons, ih]
    rfl
theorem take_map {α β : Type} {l : List α} {i : Nat} {x : α} (f : α → β) (h : l[i]? = some x) : (l.take (i + 1)).map f = (l.take i).map f ++ [f x] := by
  rw [take_more h, List.map_append]
  rfl
theorem take_filter {α : Type} {l : List α} {i : Nat} {x : α} (f : α → Bool) (h : l[i]? = some x) : (l.take (i + 1)).filter f = (l.take i).filter f ++ (if f x = true then [x] else []) := by
  rw [take_more h, List.filter_append]
  cases e : f x <;> simp [e]
theorem map_at {α β : Type} {l : List α} {i : Nat} {y : β} {f : α → β} (h : (l.map f)[i]? = some y) : ∃ x, l[i]? = some x ∧ y = f x := by
  rw [List.getElem?_map] at h
  cases e : l[i]? with
  | none =>
    rw [e] at h
    cases h
  | some x =>
    rw [e] at h
    exact ⟨x, rfl, (Option.some.inj h).symm⟩
theorem lt_at {α : Type} {l : List α} {i : Nat} {x : α} (h : l[i]? = some x) : i < l.length := (List.getElem?_eq_some_iff.mp h).1
theorem mem_at {α : Type} {l : List α} {i : Nat} {x : α} (h : l[i]? = some x) : x ∈ l := List.mem_of_getElem? h
/-- a word's heap behind a new list at D has grown by a change of D -/
theorem Kp.step {D : Addr} {ex : List Addr} {H H1 H2 : Hp} (a : Kp ex H H1) (n : H D = none) (b : Kp [D] H1 H2) : Kp ex H H2 :=
  Kp.drop (l := D) ((a.mono fun _ m => List.mem_cons_of_mem _ m).trans (b.mono fun x m => by rw [List.mem_singleton.mp m]; exact List.mem_cons_self)) n

/-! a walk over a list or a tuple -/
def iSeq (K : PySem.W.Frag) (tl : TE) : TI := fun σ H R => tl σ H fun x H1 => ∃ a, x = .ref a ∧ (((∃ xs, SqL K H1 a xs) ∧ R (Itl K a) H1) ∨ ((∃ xs, SqT K H1 a xs) ∧ R (Itt K a) H1))
theorem K_pis {X : Cx} {K : PySem.W.Frag} (hK : X.K = K) {tg l : Expr} {tl : TE} (hl : PE X l tl) : PI X tg l (iSeq K tl) := by
  subst hK
  constructor
  intro pins s σ H R I h
  refine thn (hl.run pins s σ H _ I h) fun v s1 w => ?_
  obtain ⟨_, H1, I1, rv, a, rfl, w⟩ := w
  cases rv
  have fresh : ∀ b ∈ [s1.heap.objs.size], FpOk X pins H1 b := fun b m => (List.mem_singleton.mp m) ▸ I1.fpOk (Nat.le_refl _) (I1.hok.fresh (Nat.le_refl _))
  rcases w with ⟨⟨xs, hs⟩, w⟩ | ⟨⟨xs, hs⟩, w⟩
  · obtain ⟨_, _, pl, _⟩ := I1.list hs
    exact wpAny_pyIter_list pl.isList ⟨_, [s1.heap.objs.size], _, _, H1, rfl, I1.kept (t' := s1.toks) fun _ _ => Heap.get?_push_of_some _, turn_list a _, ⟨_, Heap.get?_push_size _ rfl, rfl, rfl⟩, fresh, w⟩
  · obtain ⟨_, _, pl, _⟩ := I1.tuple hs
    exact wpAny_pyIter_tuple pl ⟨_, [s1.heap.objs.size], _, _, H1, rfl, I1.kept (t' := s1.toks) fun _ _ => Heap.get?_push_of_some _, turn_tuple a _, ⟨_, Heap.get?_push_size _ rfl, rfl, rfl⟩, fresh, w⟩
def cWQ (K : PySem.W.Frag) (R : It → Hp → Prop) : V → Hp → Prop := fun x H1 => ∃ a, x = .ref a ∧ (((∃ xs, SqL K H1 a xs) ∧ R (Itl K a) H1) ∨ ((∃ xs, SqT K H1 a xs) ∧ R (Itt K a) H1))
section
variable {σ : St} {H : Hp} {Q : VK} {K : PySem.W.Frag} {te : TE} {R : It → Hp → Prop} {p : Addr} {xs : List V} {x : V}
theorem r_wq (q : te σ H (cWQ K R)) : iSeq K te σ H R := q
theorem r_cWQl (h : SqL K H p xs) (q : R (Itl K p) H) : cWQ K R (.ref p) H := ⟨p, rfl, .inl ⟨⟨xs, h⟩, q⟩⟩
theorem r_cWQt (h : SqT K H p xs) (q : R (Itt K p) H) : cWQ K R (.ref p) H := ⟨p, rfl, .inr ⟨⟨xs, h⟩, q⟩⟩
/-- a list or a tuple -/
def Sq (K : PySem.W.Frag) (H : Hp) (p : Addr) (xs : List V) : Prop := SqL K H p xs ∨ SqT K H p xs
theorem Sq.kp {ex : List Addr} {H' : Hp} (h : Sq K H p xs) (k : Kp ex H H') (m : p ∉ ex) : Sq K H' p xs := h.elim (fun z => .inl (sql_kp z k m)) fun z => .inr (sqt_kp z k m)
theorem r_lenQ (h : Sq K H p xs) (q : Q (.int (xs.length : Nat)) H) : cLen K [.ref p] H Q := ⟨p, xs, rfl, h, q⟩
theorem r_listQ (h : Sq K H p xs) (q : ∀ l H', H l = none → Kp [] H H' → H' l = some (.lst xs) → Q (.ref l) H') : cList K [.ref p] H Q := ⟨p, xs, rfl, h, fun l n => q l _ n (Kp.new n) upd_same⟩
/-! isinstance -/
theorem r_isiTy {T n : String} {b : Bool} (h : TyX K H x (.type T)) (e : kitB T n = some b) (q : Q (.bl b) H) : rIsi K [x, .ty n] H Q := ⟨x, .ty n, _, _, b, rfl, .ty n, h, kit_ty e, q⟩
/-! [e for ..] over a list or a tuple -/
theorem r_kLcQ {g : TG} {tt : TT} {vs : List Nat} (Pv : Addr → Nat → List V → Hp → Prop) (hq : Sq K H p xs) (h0 : ∀ D H', H D = none → Kp [] H H' → H' D = some (.lst []) → Pv D 0 [] H') (hG : ∀ D i acc H', i ≤ xs.length → Pv D i acc H' → Kp [] H H')
    (hs : ∀ D (i : Nat) acc x H', H D = none → xs[i]? = some x → H' D = some (.lst acc) → Pv D i acc H' → g x (wipe σ vs) H' (kTurn tt te (wipe σ vs) vs D (kN (Pv D (i + 1)) D)))
    (hd : ∀ D acc H', H D = none → H' D = some (.lst acc) → Pv D xs.length acc H' → Q (.ref D) H') : cWQ K (kLc g tt te vs σ Q) (.ref p) H := by
  rcases hq with h | h
  · exact r_cWQl h (r_kLcL Pv h0 (fun D i acc H' hi p => sql_kp h (hG D i acc H' hi p) not_nil) hs hd)
  · exact r_cWQt h (r_kLcT Pv h0 (fun D i acc H' hi p => sqt_kp h (hG D i acc H' hi p) not_nil) hs hd)
end

/-! list.index of a number -/
theorem eqV_int (a b : Int) : eqV (.int a) (.int b) = (a == b) := rfl
theorem flat_ints (ns : List Int) : (ns.map V.int).all flatV = true := by
  rw [List.all_eq_true]
  intro v hv
  obtain ⟨w, _, rfl⟩ := List.mem_map.mp hv
  rfl
theorem lt_idx {n : Int} : ∀ {l : List Int} {m : Nat} {z : Int}, m < l.idxOf n → l[m]? = some z → z ≠ n
  | [], m, z, _, e => by simp at e
  | x :: l, m, z, h, e => by
    rw [List.idxOf_cons] at h
    by_cases c : x = n
    · subst c
      simp at h
    · have c' : (x == n) = false := beq_eq_false_iff_ne.mpr c
      rw [c'] at h
      cases m with
      | zero =>
        cases e
        exact c
      | succ m =>
        exact lt_idx (l := l) (m := m) (Nat.lt_of_succ_lt_succ h) e
theorem r_indexI {K : PySem.W.Frag} {H : Hp} {Q : VK} {p : Addr} {ns : List Int} {n : Int} (h : SqL K H p (ns.map V.int)) (m : n ∈ ns) (q : Q (.int (ns.idxOf n : Nat)) H) : rIndex K (.ref p) [.int n] H Q := by
  have hi := List.idxOf_lt_length_of_mem m
  have e : ns[ns.idxOf n]? = some n := by rw [List.getElem?_eq_getElem hi, List.getElem_idxOf]
  refine ⟨p, _, .int n, ns.idxOf n, .int n, rfl, rfl, h, rfl, flat_ints ns, ?_, beq_self_eq_true n, fun j z' hj hz => ?_, q⟩
  · rw [List.getElem?_map, e]
    rfl
  · obtain ⟨z, hz', rfl⟩ := map_at hz
    exact beq_eq_false_iff_ne.mpr (lt_idx hj hz')
/-! == of data -/
def Shp (n : Nat) (d : PyData) : Prop := d.canLay0 = true ∧ d.depth ≤ n
theorem Shp.ok {n : Nat} {d : PyData} (h : Shp n d) (hn : n ≤ 64) : SeqAt.shaped d = true := Bool.and_eq_true_iff.mpr ⟨h.1, decide_eq_true (Nat.le_trans h.2 hn)⟩
theorem Shp.all {n : Nat} : ∀ {l : List PyData}, (∀ d ∈ l, Shp n d) → PyData.canLayAll0 l = true ∧ PyData.depthAll l ≤ n
  | [], _ => ⟨rfl, Nat.zero_le _⟩
  | d :: l, h => by
    have h1 := h d List.mem_cons_self
    have h2 := Shp.all (l := l) fun x hx => h x (List.mem_cons_of_mem _ hx)
    exact ⟨Bool.and_eq_true_iff.mpr ⟨h1.1, h2.1⟩, Nat.max_le.mpr ⟨h1.2, h2.2⟩⟩
theorem Shp.list {n : Nat} {l : List PyData} (h : ∀ d ∈ l, Shp n d) : Shp (n + 1) (.list l) := ⟨(Shp.all h).1, Nat.succ_le_succ (Shp.all h).2⟩
theorem Shp.tuple {n : Nat} {l : List PyData} (h : ∀ d ∈ l, Shp n d) : Shp (n + 1) (.tuple l) := ⟨(Shp.all h).1, Nat.succ_le_succ (Shp.all h).2⟩
theorem Shp.int (i : Int) (n : Nat) : Shp n (.int i) := ⟨rfl, Nat.zero_le _⟩
theorem Shp.bool (b : Bool) (n : Nat) : Shp n (.bool b) := ⟨rfl, Nat.zero_le _⟩
theorem Shp.none (n : Nat) : Shp n .none := ⟨rfl, Nat.zero_le _⟩
theorem Shp.str {x : Str} (h : PyData.strOk x = true) (n : Nat) : Shp n (.str x) := ⟨h, Nat.zero_le _⟩
theorem strOk_of {x : Str} {m : Nat} (h : ∀ c ∈ x.cps.toList, c ≤ m) (hm : m < 0x110000) : PyData.strOk x = true := by
  unfold PyData.strOk
  rw [← Array.all_toList, List.all_eq_true]
  intro c hc
  have := h c hc
  exact decide_eq_true (by omega)
section
variable {H : Hp} {Q : VK} {K : PySem.W.Frag} {x y : V} {d e : PyData} {ex ex' : List Addr} {n : Nat}
theorem r_eqD (hx : Dt ex H x d) (hy : Dt ex' H y e) (sx : Shp n d) (sy : Shp n e) (hn : n ≤ 64) (q : Q (.bl (PyData.eqv d e)) H) : rEqD K x y H Q := ⟨d, e, hx.dp, hy.dp, sx.ok hn, sy.ok hn, q⟩
theorem r_neD (hx : Dt ex H x d) (hy : Dt ex' H y e) (sx : Shp n d) (sy : Shp n e) (hn : n ≤ 64) (q : Q (.bl (!PyData.eqv d e)) H) : rNeD K x y H Q := ⟨d, e, hx.dp, hy.dp, sx.ok hn, sy.ok hn, q⟩
theorem r_eqD1 (hx : Dt ex H x d) (hy : Dt ex' H y d) (sx : Shp n d) (hn : n ≤ 64) (q : Q (.bl true) H) : rEqD K x y H Q := by
  refine r_eqD hx hy sx sx hn ?_
  rw [SeqAt.eqv_refl d sx.1]
  exact q
theorem r_neD0 (hx : Dt ex H x d) (hy : Dt ex' H y d) (sx : Shp n d) (hn : n ≤ 64) (q : Q (.bl false) H) : rNeD K x y H Q := by
  refine r_neD hx hy sx sx hn ?_
  rw [SeqAt.eqv_refl d sx.1]
  exact q
end
end Rd

set_option maxHeartbeats 4000000
/-! Ob: objects of own classes (fields, methods, making), their `in`, len, ==; isinstance of data; text in text; walks over a list or a tuple. -/
namespace Rd
open PySem PySem.Spec L2 StX

def UseM (P : Program) (w : World) (K : PySem.W.Frag) (mg : Str → Option Value) (base : Heap) (n : Nat) (C : Addr) (m : Str) (sp : Sp) : Prop := ∃ f, FnR P w K mg base CX0 n f sp ∧ Meth K C m f
def UseC (P : Program) (w : World) (K : PySem.W.Frag) (mg : Str → Option Value) (base : Heap) (n : Nat) (x : Str) (C : Addr) (sp : Sp) : Prop := ∃ f, FnR P w K mg base CX0 n f sp ∧ Mk K C f ∧ mg x = some (.ref C)
theorem fnr {P : Program} {w : World} {K : PySem.W.Frag} {mg : Str → Option Value} {base : Heap} {n : Nat} {f : Addr} {fd : FuncData} {ps : List Str} {sp : Sp} (F : FnOk P w K mg base CX0 n f fd ps sp) (b : Binds K fd ps []) : FnR P w K mg base CX0 n f sp :=
  (F.raw b .nil).imp fun vs H Q E h => by
    rw [List.append_nil]
    exact h

section
variable {σ : St} {H : Hp} {Q : VK} {QB : Bool → Hp → Prop} {v x y : V} {ta tb tc tv : TE} {tr : TA} {K : PySem.W.Frag} {C a dx : Addr} {fs : List (Str × V)} {f m : Str} {nx bk ct : St → Hp → Prop} {rt : VK} {sp : Sp} {r r' : R2} {b : Bool}
/-! fields -/
def kFld (K : PySem.W.Frag) (f : Str) (Q : VK) : VK := fun x H1 => ∃ a C dx fs v, x = .ref a ∧ H1 a = some (.ins C dx fs) ∧ Cls K C ∧ NoAttr K C f ∧ fs.lookup f = some v ∧ Q v H1
theorem r_fld (q : ta σ H (kFld K f Q)) : tFld K ta f σ H Q := q
theorem r_kFld (e : H a = some (.ins C dx fs)) (c : Cls K C) (n : NoAttr K C f) (l : fs.lookup f = some v) (q : Q v H) : kFld K f Q (.ref a) H := ⟨a, C, dx, fs, v, rfl, e, c, n, l, q⟩
def kSF (K : PySem.W.Frag) (f : Str) (y : V) (nx : St → Hp → Prop) (σ : St) : VK := fun x H2 => ∃ a C dx fs, x = .ref a ∧ H2 a = some (.ins C dx fs) ∧ Cls K C ∧ NoAttr K C f ∧ fs.length < 1000 ∧ nx σ (upd H2 a (.ins C dx (putF f y fs)))
theorem r_sfld (q : tv σ H fun y H1 => ta σ H1 (kSF K f y nx σ)) : sFld K ta tv f ⟨nx, rt, bk, ct⟩ σ H := q
theorem r_kSF (e : H a = some (.ins C dx fs)) (c : Cls K C) (n : NoAttr K C f) (l : fs.length < 1000) (q : ∀ H', Kp [a] H H' → H' a = some (.ins C dx (putF f y fs)) → nx σ H') : kSF K f y nx σ (.ref a) H :=
  ⟨a, C, dx, fs, rfl, e, c, n, l, q _ (Kp.put (by simp)) upd_same⟩
/-! methods, making -/
def kMeth (C : Addr) (m : Str) (sp : Sp) (t : TA) (σ : St) (Q : VK) : VK := fun x H1 => ∃ a dx fs, x = .ref a ∧ H1 a = some (.ins C dx fs) ∧ fs.lookup m = none ∧ t σ H1 fun vs H2 => sp (x :: vs) H2 Q E0
theorem r_methR (q : ta σ H (kMeth C m sp tr σ Q)) : tMethR C m sp E0 ta tr σ H Q := q
theorem r_kMeth (e : H a = some (.ins C dx fs)) (l : fs.lookup m = none) (q : tr σ H fun vs H2 => sp (.ref a :: vs) H2 Q E0) : kMeth C m sp tr σ Q (.ref a) H := ⟨a, dx, fs, rfl, e, l, q⟩
def kMade (x : Addr) (Q : VK) : VK := fun v H2 => v = .non ∧ Q (.ref x) H2
theorem r_kMade {p : Addr} (q : Q (.ref p) H) : kMade p Q .non H := ⟨rfl, q⟩
def kMake (C : Addr) (sp : Sp) (Q : VK) : List V → Hp → Prop := fun vs H1 => ∀ x dx, H1 x = none → H1 dx = none → dx ≠ x → sp (.ref x :: vs) (upd (upd H1 dx (.own x)) x (.ins C dx [])) (kMade x Q) E0
theorem r_makeR (q : tr σ H (kMake C sp Q)) : tMakeR C sp E0 tr σ H Q := q
theorem r_kMake {vs : List V} (q : ∀ a dx H', H a = none → Kp [] H H' → H' a = some (.ins C dx []) → sp (.ref a :: vs) H' (kMade a Q) E0) : kMake C sp Q vs H := fun a dx n n' d =>
  q a dx _ n ((Kp.new n').trans (Kp.new (by rw [upd_ne d.symm]; exact n))) upd_same
/-! a op b op c -/
def kCh (r' : R2) (y : V) (tc : TE) (σ : St) (Q : VK) : VK := fun z H3 => ∃ k, z = .bl k ∧ (if k = true then tc σ H3 fun w' H4 => r' y w' H4 Q else Q (.bl false) H3)
theorem r_chain (q : ta σ H fun x H1 => tb σ H1 fun y H2 => r x y H2 (kCh r' y tc σ Q)) : tChain r r' ta tb tc σ H Q := q
theorem r_kCh (h1 : b = true → tc σ H fun w' H4 => r' y w' H4 Q) (h2 : b = false → Q (.bl false) H) : kCh r' y tc σ Q (.bl b) H := by
  refine ⟨b, rfl, ?_⟩
  cases b
  · exact h2 rfl
  · exact h1 rfl
/-! text in text -/
def rInS : R2 := fun x y H Q => ∃ i j, x = .str i ∧ y = .str j ∧ Q (.bl (!(Builtin.Str.occurrences j i 0 j.length 1).isEmpty)) H
def rNinS : R2 := fun x y H Q => ∃ i j, x = .str i ∧ y = .str j ∧ Q (.bl (!(!(Builtin.Str.occurrences j i 0 j.length 1).isEmpty))) H
theorem op_inS {X : Cx} : OpR X (compareOp .In) rInS := op_in_str
theorem op_ninS {X : Cx} : OpR X (compareOp .NotIn) rNinS := op_notin_str
theorem r_inC {c : Nat} {z : Str} (q : Q (.bl (decide (c ∈ z.cps.toList))) H) : rInS (.str ⟨#[c]⟩) (.str z) H Q := by
  refine ⟨_, _, rfl, rfl, ?_⟩
  have e := StrLaws.found_one z c
  rw [show (!(Builtin.Str.occurrences z ⟨#[c]⟩ 0 z.length 1).isEmpty) = decide (c ∈ z.cps.toList) from e]
  exact q
theorem r_ninC {c : Nat} {z : Str} (q : Q (.bl (!decide (c ∈ z.cps.toList))) H) : rNinS (.str ⟨#[c]⟩) (.str z) H Q := by
  refine ⟨_, _, rfl, rfl, ?_⟩
  have e := StrLaws.found_one z c
  rw [show (!(Builtin.Str.occurrences z ⟨#[c]⟩ 0 z.length 1).isEmpty) = decide (c ∈ z.cps.toList) from e]
  exact q
/-! in a tuple of texts; all of truth values -/
theorem r_inT {z : Str} {ws : List Str} {p : Addr} (h : SqT K H p (ws.map V.str)) (q : Q (.bl (decide (z ∈ ws))) H) : rIn K false (.str z) (.ref p) H Q := by
  refine ⟨p, _, rfl, .inr h, rfl, flat_strs ws, ?_⟩
  show Q (.bl (inV (.str z) (ws.map V.str))) H
  rw [inV_strs]
  exact q
theorem r_ninT {z : Str} {ws : List Str} {p : Addr} (h : SqT K H p (ws.map V.str)) (q : Q (.bl (!decide (z ∈ ws))) H) : rIn K true (.str z) (.ref p) H Q := by
  refine ⟨p, _, rfl, .inr h, rfl, flat_strs ws, ?_⟩
  show Q (.bl (!inV (.str z) (ws.map V.str))) H
  rw [inV_strs]
  exact q
theorem r_all {bs : List Bool} {p : Addr} (h : SqL K H p (bs.map V.bl)) (q : Q (.bl (bs.all id)) H) : rAll K [.ref p] H Q := ⟨p, bs, rfl, h, q⟩
theorem r_any {bs : List Bool} {p : Addr} (h : SqL K H p (bs.map V.bl)) (q : Q (.bl (bs.any id)) H) : rAny K [.ref p] H Q := ⟨p, bs, rfl, h, q⟩
/-! two tuples, one behind the other -/
theorem r_catT {a b : Addr} {xs ys : List V} (ha : SqT K H a xs) (hb : SqT K H b ys) (hz : xs.length + ys.length ≤ sizeLine) (hy : ys ≠ []) (hx : xs = [] → Q (.ref b) H) (q : xs ≠ [] → ∀ p H', H p = none → Kp [] H H' → H' p = some (.tup (xs ++ ys)) → Q (.ref p) H') : rCatA K (.ref a) (.ref b) H Q :=
  ⟨a, b, xs, ys, rfl, rfl, ha, hb, hz, hx, fun _ e => absurd e hy, fun hx _ p n => q hx p _ n (Kp.new n) upd_same⟩
/-- the sum of two tuples, the second one not empty: some tuple -/
theorem r_catT' {a b : Addr} {xs ys : List V} (ha : SqT K H a xs) (hb : H b = some (.tup ys)) (hz : xs.length + ys.length ≤ sizeLine) (hy : ys ≠ []) (q : ∀ p H', Kp [] H H' → H' p = some (.tup (xs ++ ys)) → (p = b ∨ H p = none) → Q (.ref p) H') : rCatA K (.ref a) (.ref b) H Q := by
  refine r_catT ha (SqT.of hb) hz hy (fun e => ?_) fun _ p H' n k e => q p H' k e (.inr n)
  subst e
  exact q b H (Kp.refl _ _) hb (.inl rfl)
end

/-! `in`, len by own defs -/
def kOwnB (neg : Bool) (Q : VK) : VK := fun z H' => ∃ b, z = .bl b ∧ Q (.bl (b != neg)) H'
def rInOwn (C : Addr) (sp : Sp) (neg : Bool) : R2 := fun x y H Q => ∃ a dx fs, y = .ref a ∧ H a = some (.ins C dx fs) ∧ sp [.ref a, x] H (kOwnB neg Q) E0
def kOwnI (Q : VK) : VK := fun z H' => ∃ n : Int, z = .int n ∧ 0 ≤ n ∧ n < 2 ^ 63 ∧ Q (.int n) H'
def cLenOwn (C : Addr) (sp : Sp) : R1 := fun xs H Q => ∃ a dx fs, xs = [.ref a] ∧ H a = some (.ins C dx fs) ∧ sp [.ref a] H (kOwnI Q) E0
/-- x == y, both of the class at C -/
def rEqOwn (C : Addr) (sp : Sp) : R2 := fun x y H Q => ∃ a dx fs b dy gs, x = .ref a ∧ y = .ref b ∧ H a = some (.ins C dx fs) ∧ H b = some (.ins C dy gs) ∧ sp [.ref a, .ref b] H (fun z H' => ∃ c, z = .bl c ∧ Q (.bl c) H') E0
section
variable {X : Cx} {n : Nat} {C f : Addr} {sp : Sp}
theorem op_inOwn (hm : Meth X.K C "__contains__" f) (F : FnR X.prog X.w X.K X.mg X.base CX0 n f sp) (hr : Room n X.A) : OpR X (compareOp .In) (rInOwn C sp false) := by
  intro pins s σ H x y v u Q I rx ry h
  obtain ⟨a, dx, fs, rfl, ea, q⟩ := h
  cases (show u = Value.ref a from ry)
  obtain ⟨mA, O, _⟩ := ins_get I.hok ea
  obtain ⟨od, J, _⟩ := O.look
  obtain ⟨m, hF⟩ := I.fr
  refine PySem.W.in_K hF I.ok.mod.kin J hm.at_ hm.fn (wpAny_mono (wpAny_call (run_fnR (us := [.ref a, v]) (vs := [.ref a, x]) F hr pass0 I (.cons rfl (.cons rx .nil)) q)) (fun r s' z => ?_) fun _ _ x => x)
  obtain ⟨z', H', I', rz, b, rfl, qz⟩ := z
  cases (show r = Value.bool b from rz)
  refine wpAny_truthy_bool ⟨.bl b, H', I', rfl, ?_⟩
  have e : (b != false) = b := by cases b <;> rfl
  rw [e] at qz
  exact qz
theorem op_ninOwn (hm : Meth X.K C "__contains__" f) (F : FnR X.prog X.w X.K X.mg X.base CX0 n f sp) (hr : Room n X.A) : OpR X (compareOp .NotIn) (rInOwn C sp true) := by
  intro pins s σ H x y v u Q I rx ry h
  obtain ⟨a, dx, fs, rfl, ea, q⟩ := h
  cases (show u = Value.ref a from ry)
  obtain ⟨mA, O, _⟩ := ins_get I.hok ea
  obtain ⟨od, J, _⟩ := O.look
  obtain ⟨m, hF⟩ := I.fr
  refine PySem.W.notIn_K hF I.ok.mod.kin J hm.at_ hm.fn (wpAny_mono (wpAny_call (run_fnR (us := [.ref a, v]) (vs := [.ref a, x]) F hr pass0 I (.cons rfl (.cons rx .nil)) q)) (fun r s' z => ?_) fun _ _ x => x)
  obtain ⟨z', H', I', rz, b, rfl, qz⟩ := z
  cases (show r = Value.bool b from rz)
  refine wpAny_truthy_bool ⟨.bl (!b), H', I', rfl, ?_⟩
  have e : (b != true) = !b := by cases b <;> rfl
  rw [e] at qz
  exact qz
theorem cr_lenOwn (hm : Meth X.K C "__len__" f) (F : FnR X.prog X.w X.K X.mg X.base CX0 n f sp) (hr : Room (n + 1) X.A) : CallR X (.builtin "len") (cLenOwn C sp) := by
  intro pins s σ H xs us Q I r h
  obtain ⟨a, dx, fs, rfl, ea, q⟩ := h
  obtain ⟨u, rfl, ru⟩ := r.one
  cases (show u = Value.ref a from ru)
  obtain ⟨mA, O, _⟩ := ins_get I.hok ea
  obtain ⟨od, J, _⟩ := O.look
  obtain ⟨m, hF⟩ := I.fr
  refine PySem.W.len_K hF I.ok.mod.kin J hm.at_ hm.fn (wpAny_call (codeAny_mono (F X.A.in1 X.stack s H [.ref a] [.ref a] _ E0 hr.in1 I.env0.in1 (.cons rfl .nil) q) fun r s' z => ?_))
  cases r with
  | error e => exact False.elim z
  | ok fl =>
    cases fl with
    | ret u =>
      obtain ⟨z', H', I', rz, k, rfl, k0, k1, qz⟩ := I.after z
      obtain ⟨t, e⟩ := (show ∃ t, u = Value.int k t from rz)
      cases e
      exact ⟨⟨k0, k1⟩, .int k, H', I'.tok _, ⟨_, rfl⟩, qz⟩
    | next => exact False.elim z
    | brk => exact False.elim z
    | cont => exact False.elim z
theorem op_eqOwn (hm : Meth X.K C "__eq__" f) (F : FnR X.prog X.w X.K X.mg X.base CX0 n f sp) (hr : Room n X.A) : OpR X (compareOp .Eq) (rEqOwn C sp) := by
  intro pins s σ H x y v u Q I rx ry h
  obtain ⟨a, dx, fs, b, dy, gs, rfl, rfl, ea, eb, q⟩ := h
  cases (show v = Value.ref a from rx)
  cases (show u = Value.ref b from ry)
  obtain ⟨mA, O, _⟩ := ins_get I.hok ea
  obtain ⟨od, J, _⟩ := O.look
  obtain ⟨mB, O', _⟩ := ins_get I.hok eb
  obtain ⟨od', J', _⟩ := O'.look
  obtain ⟨m, hF⟩ := I.fr
  have nf : PySem.W.notFirst X.K C (.ref C) = true := by
    unfold PySem.W.notFirst
    simp
  refine PySem.W.cmp_K (op := .Eq) (tb := .ref C) hr.units0 hF I.ok.mod.kin J J'.type nf hm.at_ hm.fn ?_
  refine wpAny_mono (wpAny_call (run_fnR (us := [.ref a, .ref b]) (vs := [.ref a, .ref b]) F hr pass0 I (.cons rfl (.cons rfl .nil)) q)) (fun r s' z => ?_) fun _ _ x => x
  obtain ⟨z', H', I', rz, c, rfl, qz⟩ := z
  cases (show r = Value.bool c from rz)
  exact ⟨.bl c, H', I', rfl, qz⟩
end
section
variable {H : Hp} {Q : VK} {C a dx : Addr} {fs : List (Str × V)} {sp : Sp} {x : V} {neg b : Bool}
theorem r_inOwn (e : H a = some (.ins C dx fs)) (q : sp [.ref a, x] H (kOwnB neg Q) E0) : rInOwn C sp neg x (.ref a) H Q := ⟨a, dx, fs, rfl, e, q⟩
theorem r_kOwnB (q : Q (.bl (b != neg)) H) : kOwnB neg Q (.bl b) H := ⟨b, rfl, q⟩
end

/-! data of any kind: its type -/
def tyD : PyData → String
  | .none => "NoneType"
  | .bool _ => "bool"
  | .int _ => "int"
  | .str _ => "str"
  | .list _ => "list"
  | .tuple _ => "tuple"
  | .dict _ => "dict"
theorem Dt.tyx {K : PySem.W.Frag} {ex : List Addr} {H : Hp} {v : V} {d : PyData} (h : Dt ex H v d) : TyX K H v (.type (tyD d)) := by
  cases h with
  | non => exact .base .non
  | bl b => exact .base (.bl b)
  | int i => exact .base (.int i)
  | str x => exact .base (.str x)
  | lst _ e _ => exact .base (.lst e)
  | tup _ e _ => exact .base (.tup e)
def isStr : PyData → Bool
  | .str _ => true
  | _ => false
def isTup : PyData → Bool
  | .tuple _ => true
  | _ => false
def isLst : PyData → Bool
  | .list _ => true
  | _ => false
def isInt : PyData → Bool
  | .int _ => true
  | .bool _ => true
  | _ => false
def isBool : PyData → Bool
  | .bool _ => true
  | _ => false
theorem kit_D {n : String} {f : PyData → Bool} {d : PyData} (b0 b1 b2 b3 b4 b5 b6 : Bool) (h0 : kitB "NoneType" n = some b0) (h1 : kitB "bool" n = some b1) (h2 : kitB "int" n = some b2) (h3 : kitB "str" n = some b3) (h4 : kitB "list" n = some b4) (h5 : kitB "tuple" n = some b5) (h6 : kitB "dict" n = some b6)
    (e0 : f .none = b0) (e1 : ∀ b, f (.bool b) = b1) (e2 : ∀ b, f (.int b) = b2) (e3 : ∀ b, f (.str b) = b3) (e4 : ∀ b, f (.list b) = b4) (e5 : ∀ b, f (.tuple b) = b5) (e6 : ∀ b, f (.dict b) = b6) : kitB (tyD d) n = some (f d) := by
  cases d with
  | none => rw [e0]; exact h0
  | bool b => rw [e1]; exact h1
  | int b => rw [e2]; exact h2
  | str b => rw [e3]; exact h3
  | list b => rw [e4]; exact h4
  | tuple b => rw [e5]; exact h5
  | dict b => rw [e6]; exact h6
theorem kit_str (d : PyData) : kitB (tyD d) "str" = some (isStr d) :=
  kit_D false false false true false false false (by decide +kernel) (by decide +kernel) (by decide +kernel) (by decide +kernel) (by decide +kernel) (by decide +kernel) (by decide +kernel) rfl (fun _ => rfl) (fun _ => rfl) (fun _ => rfl) (fun _ => rfl) (fun _ => rfl) (fun _ => rfl)
theorem kit_tup (d : PyData) : kitB (tyD d) "tuple" = some (isTup d) :=
  kit_D false false false false false true false (by decide +kernel) (by decide +kernel) (by decide +kernel) (by decide +kernel) (by decide +kernel) (by decide +kernel) (by decide +kernel) rfl (fun _ => rfl) (fun _ => rfl) (fun _ => rfl) (fun _ => rfl) (fun _ => rfl) (fun _ => rfl)
theorem kit_lst (d : PyData) : kitB (tyD d) "list" = some (isLst d) :=
  kit_D false false false false true false false (by decide +kernel) (by decide +kernel) (by decide +kernel) (by decide +kernel) (by decide +kernel) (by decide +kernel) (by decide +kernel) rfl (fun _ => rfl) (fun _ => rfl) (fun _ => rfl) (fun _ => rfl) (fun _ => rfl) (fun _ => rfl)
theorem kit_int (d : PyData) : kitB (tyD d) "int" = some (isInt d) :=
  kit_D false true true false false false false (by decide +kernel) (by decide +kernel) (by decide +kernel) (by decide +kernel) (by decide +kernel) (by decide +kernel) (by decide +kernel) rfl (fun _ => rfl) (fun _ => rfl) (fun _ => rfl) (fun _ => rfl) (fun _ => rfl) (fun _ => rfl)
theorem kit_bool (d : PyData) : kitB (tyD d) "bool" = some (isBool d) :=
  kit_D false true false false false false false (by decide +kernel) (by decide +kernel) (by decide +kernel) (by decide +kernel) (by decide +kernel) (by decide +kernel) (by decide +kernel) rfl (fun _ => rfl) (fun _ => rfl) (fun _ => rfl) (fun _ => rfl) (fun _ => rfl) (fun _ => rfl)
section
variable {K : PySem.W.Frag} {ex : List Addr} {H : Hp} {Q : VK} {x : V} {d : PyData} {tp : Addr}
theorem r_isiStr (h : Dt ex H x d) (q : Q (.bl (isStr d)) H) : rIsi K [x, .ty "str"] H Q := r_isiTy h.tyx (kit_str d) q
theorem r_isiTup (h : Dt ex H x d) (q : Q (.bl (isTup d)) H) : rIsi K [x, .ty "tuple"] H Q := r_isiTy h.tyx (kit_tup d) q
theorem r_isiLst (h : Dt ex H x d) (q : Q (.bl (isLst d)) H) : rIsi K [x, .ty "list"] H Q := r_isiTy h.tyx (kit_lst d) q
theorem r_isiInt (h : Dt ex H x d) (q : Q (.bl (isInt d)) H) : rIsi K [x, .ty "int"] H Q := r_isiTy h.tyx (kit_int d) q
theorem r_isiBool (h : Dt ex H x d) (q : Q (.bl (isBool d)) H) : rIsi K [x, .ty "bool"] H Q := r_isiTy h.tyx (kit_bool d) q
theorem r_isiLT (h : Dt ex H x d) (e : H tp = some (.tup [.ty "list", .ty "tuple"])) (q : Q (.bl (isLst d || isTup d)) H) : rIsiT K [x, .ref tp] H Q := by
  refine ⟨x, tp, _, _, _, _, rfl, e, .cons (.ty "list") (.cons (.ty "tuple") .nil), h.tyx, ?_, q⟩
  refine kitAny_cons (kit_ty (kit_lst d)) (fun c => ?_) fun c => by rw [c]; rfl
  rw [c]
  refine kitAny_cons (kit_ty (kit_tup d)) (fun c => ?_) fun c => by rw [c]; rfl
  rw [c]
  rfl
end
mutual
theorem Dt.skip' {ex : List Addr} {H : Hp} {a : Addr} {o : HO} (e : H a = some o) (n1 : ∀ xs, o ≠ .lst xs) (n2 : ∀ xs, o ≠ .tup xs) : ∀ (d : PyData) (v : V), Dt ex H v d → Dt (a :: ex) H v d
  | .none, _, h => by cases h; exact .non
  | .bool b, _, h => by cases h; exact .bl b
  | .int i, _, h => by cases h; exact .int i
  | .str x, _, h => by cases h; exact .str x
  | .list ds, _, h => by
    cases h with
    | lst m e' al => exact .lst (fun z => (List.mem_cons.mp z).elim (fun q => n1 _ (Option.some.inj ((q ▸ e).symm.trans e'))) m) e' (DtAll.skip' e n1 n2 ds _ al)
  | .tuple ds, _, h => by
    cases h with
    | tup m e' al => exact .tup (fun z => (List.mem_cons.mp z).elim (fun q => n2 _ (Option.some.inj ((q ▸ e).symm.trans e'))) m) e' (DtAll.skip' e n1 n2 ds _ al)
  | .dict _, _, h => by cases h
theorem DtAll.skip' {ex : List Addr} {H : Hp} {a : Addr} {o : HO} (e : H a = some o) (n1 : ∀ xs, o ≠ .lst xs) (n2 : ∀ xs, o ≠ .tup xs) : ∀ (ds : List PyData) (vs : List V), DtAll ex H vs ds → DtAll (a :: ex) H vs ds
  | [], _, h => by cases h; exact .nil
  | d :: ds, _, h => by
    cases h with
    | cons h1 h2 => exact .cons (Dt.skip' e n1 n2 d _ h1) (DtAll.skip' e n1 n2 ds _ h2)
end
/-- nothing of the data lies where an object of another kind stands -/
theorem Dt.skip {ex : List Addr} {H : Hp} {a : Addr} {o : HO} {v : V} {d : PyData} (h : Dt ex H v d) (e : H a = some o) (n1 : ∀ xs, o ≠ .lst xs) (n2 : ∀ xs, o ≠ .tup xs) : Dt (a :: ex) H v d := Dt.skip' e n1 n2 d v h
theorem DtAll.skip {ex : List Addr} {H : Hp} {a : Addr} {o : HO} {vs : List V} {ds : List PyData} (h : DtAll ex H vs ds) (e : H a = some o) (n1 : ∀ xs, o ≠ .lst xs) (n2 : ∀ xs, o ≠ .tup xs) : DtAll (a :: ex) H vs ds := DtAll.skip' e n1 n2 ds vs h

theorem pe_globE {X : Cx} {x : Str} {v : V} {pos : Pos} (h : ∃ u, X.mg x = some u ∧ RelV v u) (hg : Gl X x) (hd : (x == ("__debug__" : Str)) = false := by decide) : PE X (.Name x pos) (tC v) := by
  obtain ⟨u, hm, r⟩ := h
  exact pe_glob hg hm r hd
/-! for over a list or a tuple -/
section
variable {σ : St} {H : Hp} {K : PySem.W.Frag} {xs : List V} {p : Addr} {g : TG} {tb : TS} {nx bk ct : St → Hp → Prop} {rt : VK}
theorem r_kForQ (Pv : Nat → St → Hp → Prop) (hq : Sq K H p xs) (h0 : Pv 0 σ H) (hl : ∀ i σ H', i ≤ xs.length → Pv i σ H' → ∃ ex, p ∉ ex ∧ Kp ex H H')
    (hs : ∀ (i : Nat) x σ H, xs[i]? = some x → Pv i σ H → g x σ H fun σ2 H2 => tb ⟨Pv (i + 1), rt, nx, Pv (i + 1)⟩ σ2 H2) (hd : ∀ σ H, Pv xs.length σ H → nx σ H) : cWQ K (kFor g tb ⟨nx, rt, bk, ct⟩ σ) (.ref p) H := by
  rcases hq with h | h
  · exact r_cWQl h (r_kForL Pv h0 (fun i σ H' hi q => let ⟨_, m, k⟩ := hl i σ H' hi q; sql_kp h k m) hs hd)
  · exact r_cWQt h (r_kForT Pv h0 (fun i σ H' hi q => let ⟨_, m, k⟩ := hl i σ H' hi q; sqt_kp h k m) hs hd)
end
/-! displays of data -/
def ED (te : TE) (σ : St) (H : Hp) (d : PyData) : Prop := ∀ Q : VK, (∀ x H', Kp [] H H' → Dt [] H' x d → Q x H') → te σ H Q
def AD (tr : TA) (σ : St) (H : Hp) (ds : List PyData) : Prop := ∀ QA : List V → Hp → Prop, (∀ xs H', Kp [] H H' → DtAll [] H' xs ds → QA xs H') → tr σ H QA
section
variable {σ : St} {H : Hp} {Q : VK} {d : PyData} {ds : List PyData} {te : TE} {tr : TA} {v : V} {i : Nat}
theorem r_ED (h : ED te σ H d) (q : ∀ x H', Kp [] H H' → Dt [] H' x d → Q x H') : te σ H Q := h Q q
theorem ED_c (h : Dt [] H v d) : ED (tC v) σ H d := fun _ q => q v H (Kp.refl _ _) h
theorem ED_var (e : σ[i]? = some (some v)) (h : Dt [] H v d) : ED (tVar i) σ H d := fun _ q => ⟨v, e, q v H (Kp.refl _ _) h⟩
theorem AD_nil : AD tNil σ H [] := fun _ q => q [] H (Kp.refl _ _) .nil
theorem AD_cons (h : ED te σ H d) (hr : ∀ H1, Kp [] H H1 → AD tr σ H1 ds) : AD (tCons te tr) σ H (d :: ds) := fun _ q =>
  h _ fun x H1 k1 h1 => hr H1 k1 _ fun xs H2 k2 h2 => q (x :: xs) H2 (k1.trans k2) (.cons (h1.mono k2) h2)
theorem ED_tup (h : AD tr σ H ds) (hl : ds.length ≤ sizeLine) : ED (tTup tr) σ H (.tuple ds) := fun _ q =>
  h _ fun xs H1 k1 h1 => ⟨h1.length ▸ hl, fun p n => q (.ref p) _ (k1.trans (Kp.new n)) (.tup not_nil upd_same (h1.mono (Kp.new n)))⟩
theorem ED_lst (h : AD tr σ H ds) (hl : ds.length ≤ sizeLine) : ED (tLst tr) σ H (.list ds) := fun _ q =>
  h _ fun xs H1 k1 h1 => ⟨h1.length ▸ hl, fun p n => q (.ref p) _ (k1.trans (Kp.new n)) (.lst not_nil upd_same (h1.mono (Kp.new n)))⟩
theorem r_neB {a b : Bool} (q : Q (.bl (!decide (a = b))) H) : rNe (.bl a) (.bl b) H Q := by
  refine ⟨rfl, ?_⟩
  have e : decide (V.bl a = V.bl b) = decide (a = b) := by cases a <;> cases b <;> rfl
  rw [e]
  exact q
theorem r_eqB {a b : Bool} (q : Q (.bl (decide (a = b))) H) : rEq (.bl a) (.bl b) H Q := by
  refine ⟨rfl, ?_⟩
  have e : decide (V.bl a = V.bl b) = decide (a = b) := by cases a <;> cases b <;> rfl
  rw [e]
  exact q
theorem idx_in {i : Int} {n : Nat} (h0 : 0 ≤ i) (h1 : i < n) : seqIndex? i n = some i.toNat := by
  unfold seqIndex?
  have e : ¬ i < 0 := by omega
  simp [e, h0, h1]
theorem r_popAt {l : Addr} {xs : List V} {i : Int} {y : V} (e : H l = some (.lst xs)) (h0 : 0 ≤ i) (h1 : i < (xs.length : Int)) (h2 : xs.length < 2 ^ 62) (hy : xs[i.toNat]? = some y) (q : ∀ H', Kp [l] H H' → H' l = some (.lst (xs.eraseIdx i.toNat)) → Q y H') : rPopAt (.ref l) [.int i] H Q :=
  ⟨l, xs, i, i.toNat, y, rfl, rfl, e, by omega, by omega, idx_in h0 h1, hy, q _ (Kp.put (by simp)) upd_same⟩
theorem r_cat {l b : Addr} {xs zs : List V} (e : H l = some (.lst xs)) (e' : H b = some (.lst zs)) (hz : xs.length + zs.length ≤ sizeLine) (q : ∀ p H', H p = none → Kp [] H H' → H' p = some (.lst (xs ++ zs)) → Q (.ref p) H') : rCat (.ref l) (.ref b) H Q :=
  ⟨l, b, xs, zs, rfl, rfl, e, e', hz, fun p n => q p _ n (Kp.new n) upd_same⟩
end
end Rd

set_option maxHeartbeats 4000000
/-! Sup: defs with the cell __class__; super().__init__(text) of an exception over ValueError, as a body's first statement. -/
namespace Rd
open PySem PySem.Spec L2 NdefX

/-! ### a body at its own code -/
structure QS (X : Cx) (c : Code) (ss : List Stmt) (t : TS) : Prop where
  run : ∀ (pins : List (Addr × Obj)) (s : Shared) (σ : St) (H : Hp) (D : Ends), Inv X pins σ H s → t D σ H → _root_.PySem.wpAt (model X.prog X.w) X.A c (execs ss X.env) (SP X pins D) X.xe s
theorem qs_of {X : Cx} {c : Code} {ss : List Stmt} {t : TS} (h : PSs X ss t) : QS X c ss t := ⟨fun pins s σ H D I q => wpAt_of_wpAny (h.run pins s σ H D I q)⟩

/-! ### a def of the text with the cell __class__ -/
theorem cells_written {P : Program} {w : World} {K : PySem.W.Frag} {mg : Str → Option Value} {base : Heap} {A : Around} {outer : List Env} {s : Shared} {H : Hp} {cc : Addr} {u : Value} {cl : Value} {cld : Option Addr} {csl : Array (Option Value)}
    (e0 : Env0 P w K mg base A outer s H) (cell : K.lookup cc = some ⟨cl, cld, .cell (some u), csl⟩) : CellsAt [("__class__", cc)] ["__class__"] [none] s.heap H := by
  have hb := e0.bs _ _ (e0.mod.kin _ _ cell)
  have hc : s.heap.IsCell cc (some u) := ⟨_, hb.1, rfl⟩
  have look : ∀ {y : Str} {c : Addr}, ([("__class__", cc)] : List (Str × Addr)).lookup y = some c → y = "__class__" ∧ c = cc := fun {y c} h => by
    rw [List.lookup_cons] at h
    by_cases e : (y == ("__class__" : Str)) = true
    · rw [e] at h
      exact ⟨beq_iff_eq.mp e, (Option.some.inj h).symm⟩
    · rw [Bool.eq_false_iff.mpr e] at h
      cases h
  refine ⟨rfl, fun y c h => ?_, fun x y c h1 h2 => (look h1).1.trans (look h2).1.symm, fun i y h => ?_⟩
  · obtain ⟨_, rfl⟩ := look h
    exact ⟨hb.2, _, hc⟩
  · match i, h with
    | 0, h =>
      cases h
      exact ⟨cc, by rw [List.lookup_cons]; simp, fun v hv => nomatch hv⟩
    | i + 1, h => cases h
theorem fn_sup {CX : CXT} {P : Program} {w : World} {K : PySem.W.Frag} {mg : Str → Option Value} {base : Heap} {k : Nat} {f cc cda : Addr} {name qual : Str} {params : Arguments} {body : List Stmt} {scope : Scope} {dV kV doc pm ct oc cl u : Value} {an od cld : Option Addr}
    {osl csl : Array (Option Value)} {N ps : List Str} {sp : Sp} (lk : K.lookup f = some ⟨oc, od, .func (PySem.W.ksFn name qual params body scope dV kV doc pm an (.ref cda) ct cc), osl⟩) (hcd : PySem.W.codeIn K (.ref cda) qual = true)
    (cell : K.lookup cc = some ⟨cl, cld, .cell (some u), csl⟩) (S : NScope N ps ["__class__"] scope)
    (len : ∀ vs H Q E, sp vs H Q E → vs.length = ps.length)
    (hbody : ∀ (A : Around) (outer : List Env) (s : Shared) (H : Hp) (vs : List V) (Q : VK) (E : XK), Room k (A.deeper (envF ⟨name, qual, params, body, scope, [("__class__", cc)], cda⟩ f s.heap.objs.size)) → sp vs H Q E →
      ∃ t, QS (ncx CX P w K mg base N ⟨name, qual, params, body, scope, [("__class__", cc)], cda⟩ f A outer s H E) (.func body (envF ⟨name, qual, params, body, scope, [("__class__", cc)], cda⟩ f s.heap.objs.size)) body t ∧
        t { nx := fun _ H' => Q .non H', rt := Q } (startF N vs [none]) H) : FnOk P w K mg base CX (k + 1) f (PySem.W.ksFn name qual params body scope dV kV doc pm an (.ref cda) ct cc) ps sp := by
  refine ⟨len, fun A outer s H args us vs Q E hr e0 hb r hsp => ?_⟩
  have hl := len _ _ _ _ hsp
  have KX : K.In s.heap := e0.mod.kin.keeps fun b o e => (e0.bs b o e).1
  have lim : s.heap.NoLimit := e0.mod.nolimit.keeps fun b o e => (e0.bs b o e).1
  refine codeAny_call_function hr.depth (KX _ _ lk) rfl S.co S.gen rfl (PySem.W.codeRec_of KX hcd) (hb _ _ _ _ ?_)
  refine (wpAny_newFunctionEnv S.nocell (fun ⟨n, _⟩ hy => S.par n (List.of_mem_zip hy).1) (fun h₁ hns hsb => ⟨lim.fresh _ hsb, ?_⟩) S.kind)
  show codeAny _ _ (.func body (envF ⟨name, qual, params, body, scope, [("__class__", cc)], cda⟩ f s.heap.objs.size)) _ _
  refine ks_codeAny_funcAt ?_
  have kp : ∀ b o, s.heap.get? b = some o → h₁.get? b = some o := fun b o e => hsb.extBut b o (Nat.ne_of_lt (Heap.lt_size e)) (Heap.get?_push_of_some _ e)
  obtain ⟨t, ht, hq⟩ := hbody A outer s H vs Q E (hr.deeper _) hsp
  have I : Inv (ncx CX P w K mg base N ⟨name, qual, params, body, scope, [("__class__", cc)], cda⟩ f A outer s H E) [] (startF N vs [none]) H { s with heap := h₁, toks := s.toks + (ps.zip us).length } := inv_startN S hr.hd e0 hl r (cells_written e0 cell) hns kp
  refine ks_wpAt_mono (ht.run [] _ (startF N vs [none]) H _ I hq) (fun fl s' hs => ?_) fun e s' hs => hs
  have fin : ∀ {σ' : L2.St} {H' : Hp} {v : V} {u : Value}, Inv (ncx CX P w K mg base N ⟨name, qual, params, body, scope, [("__class__", cc)], cda⟩ f A outer s H E) [] σ' H' s' → RelV v u → Q v H' → CE outer P w H s Q u s' := fun {σ' H' v u} J rv q => ⟨v, H', J.os, J.bare, J.base, J.hok, rv, q⟩
  match fl, hs with
  | .ret u, ⟨v, σ', H', J, rv, q⟩ => exact fin J rv q
  | .next, ⟨σ', H', J, q⟩ => exact fin (v := V.non) (u := Value.none) J rfl q
  | .brk, ⟨_, _, _, q⟩ => exact False.elim q
  | .cont, ⟨_, _, _, q⟩ => exact False.elim q

/-! ### the wrapper's call -/
section
variable {prog : Program} {w : World} {A : Around} {E : Value → Shared → Prop} {h : Heap} {g : Array GenState} {d : Drawn} {t : Nat} {os : OsState}
variable {nm q : Str} {C N : Addr} {bs bm bmB : List Value} {hdct : Bool} {sn : List Str} {sub : List Value} {ab : Bool} {col : Option Bool} {dd : Option Addr} {k0 k1 k2 k3 k5 : Option Value} {B newId initId : String}
theorem mw_call (F : ExcBaseFacts B newId initId bmB) {u e t0 : Addr} {rest : List Value} {Q : Value → Shared → Prop}
    (hC : h.get? C = some (excClassObj nm q C N bs bm hdct sn sub ab col dd k0 k1 k2 k3 k5 newId)) (he : h.get? e = some (HandSPX.excO C t0)) (hu : h.get? u = some (W.kxs_mw initId e)) (hrest : rest.length ≤ sizeLine)
    (hq : ∀ h' t1, (∀ b o, b ≠ e → h.get? b = some o → h'.get? b = some o) → h'.get? e = some (HandSPX.excO C t1) → Q .none ⟨h', g, d, t, os⟩) : wpAny (model prog w) A (call (.ref u) rest) Q E ⟨h, g, d, t, os⟩ := by
  refine wpAny_call (codeAny_of_tree ?_)
  show wpAny _ A.in1 (callAny (.ref u) ⟨rest, []⟩) _ _ _
  unfold callAny
  refine wpAny_bind (wpAny_load hu ?_)
  simp only [show (Value.type "method-wrapper" == Value.type "method" || Value.type "method-wrapper" == Value.type "builtin_function_or_method" || Value.type "method-wrapper" == Value.type "method-wrapper") = true by decide, if_true]
  refine W.KFB.if_so (by decide) (wpAny_bind (W.check_bound_init F.toExcCallFacts hC he rfl (wpAny_bind (wpAny_pure (wpAny_pure ⟨plainId_quiet F.init.plain _, codeAny_builtin F.initEntry ?_⟩)))))
  rw [Around.under_plainId F.init.plain _]
  wp_walk
  refine hq _ h.objs.size (fun b o hb ho => ?_) ?_
  · rw [Heap.get?_update_other _ _ (Ne.symm hb)]
    exact Heap.get?_push_of_some _ ho
  · rw [Heap.get?_update_self _ (Heap.get?_push_of_some _ he) rfl]
    rfl
end

/-! ### super().__init__(text) -/
/-- what is asked of an exception's class at C (straight or farther over ValueError), whose __init__ has the code object at cda -/
structure SupC (P : Program) (K : PySem.W.Frag) (mg : Str → Option Value) (C cda : Addr) : Prop where
  oex : OexC K C
  up : PySem.W.ks_superIn K C C "__init__" = some (some (.builtin "ValueError.__init__"))
  sub : PySem.W.subIn K (.ref C) (.type "ValueError") = some true
  own : PySem.W.mroIn K C (.ref C) = some true
  opq : PySem.W.nsIn K cStatics "thirdparty.any" = some none
  zs : mg "super" = none
  file : ∃ ccl cdd vs ccs fl tf, K.lookup cda = some ⟨ccl, cdd, .fields vs, ccs⟩ ∧ vs[2]? = some (.str fl tf) ∧ (P.main.file == fl) = true
  top : (P.main.scope.names.lookup ("super" : Str)).isSome = false
def tSupI (C : Addr) (t : TS) : TS := fun D σ H => ∃ a, σ[0]? = some (some (.ref a)) ∧ H a = some (exo a C none) ∧ t D σ H
theorem qs_sup {CX : CXT} {P : Program} {w : World} {K : PySem.W.Frag} {mg : Str → Option Value} {base : Heap} {f cc cda C : Addr} {name qual : Str} {params : Arguments} {body body' : List Stmt} {scope : Scope} {dV kV doc pm ct oc cl : Value} {an od cld : Option Addr}
    {osl csl : Array (Option Value)} {N : List Str} {A : Around} {outer : List Env} {s0 : Shared} {H0 : Hp} {E : XK} {ar : Arg} {p0 p1 p2 p3 p4 p5 : Pos} {m : Str} {j : Nat} {pl : Sem Bool} {rest : List Stmt} {t : TS}
    (lk : K.lookup f = some ⟨oc, od, .func (PySem.W.ksFn name qual params body scope dV kV doc pm an (.ref cda) ct cc), osl⟩) (cell : K.lookup cc = some ⟨cl, cld, .cell (some (.ref C)), csl⟩) (Z : SupC P K mg C cda)
    (hks : scope.names.lookup ("super" : Str) = some .globalImplicit) (hkc : scope.names.lookup ("__class__" : Str) = some .free) (hp : (params.posonlyargs ++ params.args).head? = some ar) (hN : N[0]? = some ar.arg)
    (hka : scope.names.lookup ar.arg = some .local) (hk : scope.kind = .function)
    (hi : interactive (envF ⟨name, qual, params, body, scope, [("__class__", cc)], cda⟩ f s0.heap.objs.size) = false)
    (hs : swapsWith (.Call (.Attribute (.Call (.Name "super" p0) [] [] p1) "__init__" p2) [.Constant (.str m) j p3] [] p4) none p5.line (envF ⟨name, qual, params, body, scope, [("__class__", cc)], cda⟩ f s0.heap.objs.size) = pure false)
    (he : eval (.Call (.Attribute (.Call (.Name "super" p0) [] [] p1) "__init__" p2) [.Constant (.str m) j p3] [] p4) (envF ⟨name, qual, params, body, scope, [("__class__", cc)], cda⟩ f s0.heap.objs.size) = (do
      let ov ← attributeBase (.Call (.Name "super" p0) [] [] p1) "__init__" (envF ⟨name, qual, params, body, scope, [("__class__", cc)], cda⟩ f s0.heap.objs.size) (eval (.Call (.Name "super" p0) [] [] p1) (envF ⟨name, qual, params, body, scope, [("__class__", cc)], cda⟩ f s0.heap.objs.size))
      standAt p2.atName
      let (fx, first) ← holding [ov] (getMethod ov "__init__" pl)
      callWith p4 fx first (backTo p4 (starEach [.Constant (.str m) j p3] (envF ⟨name, qual, params, body, scope, [("__class__", cc)], cda⟩ f s0.heap.objs.size))) []))
    (hst : starEach [.Constant (.str m) j p3] (envF ⟨name, qual, params, body, scope, [("__class__", cc)], cda⟩ f s0.heap.objs.size) = [(false, eval (.Constant (.str m) j p3) (envF ⟨name, qual, params, body, scope, [("__class__", cc)], cda⟩ f s0.heap.objs.size))])
    (hr : QS (ncx CX P w K mg base N ⟨name, qual, params, body, scope, [("__class__", cc)], cda⟩ f A outer s0 H0 E) (.func body' (envF ⟨name, qual, params, body, scope, [("__class__", cc)], cda⟩ f s0.heap.objs.size)) rest t) :
    QS (ncx CX P w K mg base N ⟨name, qual, params, body, scope, [("__class__", cc)], cda⟩ f A outer s0 H0 E) (.func body' (envF ⟨name, qual, params, body, scope, [("__class__", cc)], cda⟩ f s0.heap.objs.size))
      (.Expr (.Call (.Attribute (.Call (.Name "super" p0) [] [] p1) "__init__" p2) [.Constant (.str m) j p3] [] p4) p5 :: rest) (tSupI C t) := by
  constructor
  intro pins s σ H D I ⟨a, hσ, ha, q⟩
  have KX := I.kIn
  obtain ⟨t1, ho⟩ := exo_at I.hok ha
  obtain ⟨ccl, cdd, vs, ccs, fl, tf, hcode, hvs, hfile⟩ := Z.file
  obtain ⟨nm, qq, N', bs, bm, sn, sub, ab, col, dd, k0, k1, k2, k3, k5, hC, hbm⟩ := Z.oex.cls
  refine ks_wpAt_execs_cons (ks_wpAt_Expr_any (ks_wpAt_MethodCall (pl := pl) ?_ he) hi hs)
  obtain ⟨hh, g, d, tk, os⟩ := s
  have hD1 := KX _ _ hC
  refine ks_wpAt_super_base hks hkc (by decide) rfl (KX _ _ lk) rfl hp rfl (KX _ _ hcode) rfl hvs hfile Z.top ?_
  obtain ⟨mb, hbn, hbv⟩ := I.ok.mod.blt
  have hbo : bootBuiltins "super" = some (.type "super") := by first | rfl | decide +kernel
  refine W.ks_loadName_global hk hks (Calls.loadGlobal_builtin (I.mod.glob.keeps I.bk) Z.zs (hbn.keeps I.bk) ((hbv ("super" : Str) (by decide +kernel)).trans hbo) ⟨rfl, ?_⟩)
  refine wpAny_loadName_free hk hkc rfl ⟨_, KX _ _ cell, rfl⟩ ?_
  obtain ⟨ml, hns, hl⟩ := I.loc
  obtain ⟨u, ru, lku⟩ := hl 0 ar.arg (.ref a) hN hσ (.inl hka)
  have hm : ml ar.arg = some u := by
    rcases lku with ⟨_, z⟩ | ⟨z, _⟩
    · exact z
    · rcases z with z | z
      · exact absurd (hka.symm.trans z) (by decide)
      · exact absurd (hka.symm.trans z) (by decide)
  obtain rfl : u = Value.ref a := ru
  refine wpAny_loadName_local hk hka hns hm ?_
  refine ks_wpAny_isType_cls hD1 rfl ⟨rfl, ?_⟩
  refine ks_wpAny_call_super hD1 rfl ho rfl (fun c z => nomatch z) (W.looks_mroIn KX Z.own) fun h' e1 kp => ?_
  have I1 : Inv _ pins σ H ⟨h', g, d, tk, os⟩ := I.kept (t' := tk) kp
  have KX1 := I1.kIn
  have ho1 := kp _ _ ho
  have J : W.InstAt h' a (HandSPX.excO C t1) C none := ⟨ho1, rfl, rfl, trivial⟩
  have up := Z.up
  cases hc : W.clsIn K C with
  | none =>
    unfold W.ks_superIn at up
    rw [hc] at up
    cases up
  | some cd =>
    unfold W.ks_superIn at up
    rw [hc] at up
    refine W.kxs_getMethod W.kxs_ValueError e1 (W.looks_opaque KX1 Z.opq) (l₀ := cd.mro) (fun A Q E s k z => wpAny_bind ((W.looks_clsIn KX1 hc) A _ E s k (wpAny_pure z))) rfl KX1 up (J.type.andThen (W.looks_subIn KX1 Z.sub)) (W.ks_ne KX1 J hc) (by decide) ?_
    have k2 : ∀ b o, h'.get? b = some o → (h'.push (W.kxs_mw "ValueError.__init__" a)).get? b = some o := fun b o e => Heap.get?_push_of_some _ e
    have I2 : Inv _ pins σ H ⟨h'.push (W.kxs_mw "ValueError.__init__" a), g, d, tk + 1, os⟩ := I1.kept (t' := tk + 1) k2
    have hu : (h'.push (W.kxs_mw "ValueError.__init__" a)).get? h'.objs.size = some (W.kxs_mw "ValueError.__init__" a) := Heap.get?_push_size _ rfl
    have hst' : starEach [.Constant (.str m) j p3] (ncx CX P w K mg base N ⟨name, qual, params, body, scope, [("__class__", cc)], cda⟩ f A outer s0 H0 E).env = [(false, eval (.Constant (.str m) j p3) (ncx CX P w K mg base N ⟨name, qual, params, body, scope, [("__class__", cc)], cda⟩ f A outer s0 H0 E).env)] := hst
    rw [hst']
    refine W.kxs_callWith (i := "ValueError.__init__") (x := a) rfl (Calls.evalArgs_plain (Calls.spliced_cons (Calls.Constant_str (pos := p3) (k := j) (Calls.spliced_nil ⟨hu, ?_⟩))))
    refine mw_call F.excBase_ValueError (I2.kIn _ _ hC) (k2 _ _ ho1) hu (by show 1 ≤ sizeLine; decide) fun h3 t2 k3 e3 => ?_
    have J3 := (I2.tok (tk + 1 + 1)).write (t' := tk + 1 + 1) (x := a) (e := a) (o := exo a C none) (by rw [ha]; exact True.intro) (.inl rfl) k3 ⟨_, e3⟩ (exo_ok e3)
    have eu : upd H a (exo a C none) = H := by
      funext b
      by_cases hb : b = a
      · rw [hb, upd_same, ha]
      · rw [upd_ne hb]
    rw [eu] at J3
    exact hr.run pins _ σ H D J3 q

/-- such a def of the text, its class at C -/
structure SFun (P : Program) (K : PySem.W.Frag) (mg : Str → Option Value) (qual : Str) (st : Stmt) (C f : Addr) (fd : FuncData) : Prop where
  ex : ∃ (oc kV doc pm ct cl : Value) (od an cld : Option Addr) (cda cc : Addr) (osl csl : Array (Option Value)), fd = PySem.W.ksFn "__init__" qual (defArgs st) (defBody st) (defScope st) .none kV doc pm an (.ref cda) ct cc ∧
    K.lookup f = some ⟨oc, od, .func (PySem.W.ksFn "__init__" qual (defArgs st) (defBody st) (defScope st) .none kV doc pm an (.ref cda) ct cc), osl⟩ ∧ PySem.W.codeIn K (.ref cda) qual = true ∧ K.lookup cc = some ⟨cl, cld, .cell (some (.ref C)), csl⟩ ∧ SupC P K mg C cda
/-- __init__(self, fld) of an exception: super().__init__(text); self.fld = fld -/
def sp_exc1 (fld : Str) (C : Addr) : Sp := fun vs H Q _ => ∃ (a : Addr) (v : V), vs = [.ref a, v] ∧ H a = some (exo a C none) ∧ ∀ dx, H dx = none → dx ≠ a → Q .non (upd (upd H dx (exd dx [(fld, v)])) a (exo a C (some dx)))
theorem r_sup {C : Addr} {t : TS} {D : Ends} {σ : St} {H : Hp} {a : Addr} (e : σ[0]? = some (some (.ref a))) (ha : H a = some (exo a C none)) (q : t D σ H) : tSupI C t D σ H := ⟨a, e, ha, q⟩
theorem r_ost {K : PySem.W.Frag} {fld : Str} {i j : Nat} {D : Ends} {σ : St} {H : Hp} {a C : Addr} {v : V} (e : σ[i]? = some (some (.ref a))) (e' : σ[j]? = some (some v)) (T : OexC K C) (n : PySem.W.findIn K (.ref C) fld = some none) (ha : H a = some (exo a C none))
    (q : ∀ dx, H dx = none → dx ≠ a → D.nx σ (upd (upd H dx (exd dx [(fld, v)])) a (exo a C (some dx)))) : tOst K fld (tVar i) (tVar j) D σ H :=
  ⟨v, e', .ref a, e, a, C, rfl, T, n, .inl ⟨ha, q⟩⟩

/-! ### such an exception as its users see it -/
structure Exc1 (P : Program) (w : World) (K : PySem.W.Frag) (mg : Str → Option Value) (base : Heap) (k : Nat) (x fld : Str) (C : Addr) : Prop where
  oex : OexC K C
  made : ∃ fI fd ps, PySem.W.findIn K (.ref C) "__init__" = some (some (.ref fI)) ∧ PySem.W.typeIn K (.ref fI) = some (.type "function") ∧ FnOk P w K mg base CX0 k fI fd ps (sp_exc1 fld C) ∧ Binds K fd ps []
  gC : mg x = some (.ref C)
  xf : XfC K C
  nof : PySem.W.findIn K (.ref C) fld = some none
  te : PySem.W.exmOne K (.ref C) (.ref C) = some true
def kMkO (C : Addr) (fld : Str) (Q : XK) : List V → Hp → Prop := fun vs H1 => vs.length ≤ 1000 ∧ ∀ a, H1 a = none → sp_exc1 fld C (.ref a :: (vs ++ [])) (upd H1 a (exo a C none))
  (fun v H2 => v = .non ∧ ∃ (d : Addr) (fs : List (Str × V)), H2 a = some (exo a C (some d)) ∧ H2 d = some (exd d fs) ∧ H1 d = none ∧ Q (.ref C) (some d) (upd (del H2 a) d (.xd fs))) (fun _ _ _ => False)
theorem r_kMkO {C : Addr} {fld : Str} {Q : XK} {v : V} {H : Hp} (q : ∀ d H', H d = none → Kp [] H H' → H' d = some (.xd [(fld, v)]) → Q (.ref C) (some d) H') : kMkO C fld Q [v] H := by
  refine ⟨by show 1 ≤ 1000; decide, fun a ha => ⟨a, v, rfl, upd_same, fun dx hdx ne => ⟨rfl, dx, [(fld, v)], upd_same, by rw [upd_ne ne, upd_same], ?_, ?_⟩⟩⟩
  · rw [upd_ne ne] at hdx
    exact hdx
  · have n1 : H dx = none := by
      rw [upd_ne ne] at hdx
      exact hdx
    have eq : upd (del (upd (upd (upd H a (exo a C none)) dx (exd dx [(fld, v)])) a (exo a C (some dx))) a) dx (.xd [(fld, v)]) = upd H dx (.xd [(fld, v)]) := by
      funext b
      by_cases hb : b = dx
      · rw [hb, upd_same, upd_same]
      · rw [upd_ne hb, upd_ne hb]
        by_cases hba : b = a
        · rw [hba, del_same, ha]
        · rw [del_ne hba, upd_ne hba, upd_ne hb, upd_ne hba]
    rw [eq]
    exact q dx _ n1 (Kp.new n1) upd_same
/-- raise X(e) -/
def tRaise1 (C : Addr) (fld : Str) (W : WX) (ta : TA) : TS := fun _ σ H => ta σ H (kMkO C fld fun cls d H' => W cls d σ H')
section
variable {X : Cx} {x fld : Str} {C : Addr} {k : Nat} {e : Expr} {ta : TA} {p pos pos2 : Pos} {W : WX}
theorem ps_raise1 (T : Exc1 X.prog X.w X.K X.mg X.base k x fld C) (hr : Room (k + 1) X.A) (hc : X.calm = true) (tk : Takes X W) (hg : Gl X x) (ha : PA X [e] ta) (hdb : (x == ("__debug__" : Str)) = false := by decide)
    (hst : starEach (e :: []) X.env = (false, eval e X.env) :: starEach [] X.env := by rfl) (hpl : (backTo pos (starEach [] X.env)).any (·.1) = false := by rfl) :
    PS X (.Raise (some (.Call (.Name x p) [e] [] pos)) none pos2) (tRaise1 C fld W ta) := by
  obtain ⟨fI, fd, ps, iC, tI, F1, hb⟩ := T.made
  exact ps_raise hc tk (pmk_oex (dvs := []) T.oex iC tI F1 hr hb .nil pass0 hg T.gC ha hdb hst hpl)
end
theorem r_raise1 {C : Addr} {fld : Str} {W : WX} {ta : TA} {D : Ends} {σ : St} {H : Hp} (q : ta σ H (kMkO C fld fun cls d H' => W cls d σ H')) : tRaise1 C fld W ta D σ H := q

/-! ### an object made where an exception of its __init__ is wished for -/
def kMakeS (C : Addr) (sp : Sp) (E : XK) (Q : VK) : List V → Hp → Prop := fun vs H1 => ∀ x dx, H1 x = none → H1 dx = none → dx ≠ x → sp (.ref x :: vs) (upd (upd H1 dx (.own x)) x (.ins C dx [])) (kMade x Q) E
def tMakeS (C : Addr) (sp : Sp) (E : St → XK) (t : TA) : TE := fun σ H Q => t σ H (kMakeS C sp (E σ) Q)
theorem r_makeS {C : Addr} {sp : Sp} {E : St → XK} {t : TA} {σ : St} {H : Hp} {Q : VK} (q : t σ H (kMakeS C sp (E σ) Q)) : tMakeS C sp E t σ H Q := q
theorem r_kMakeS {C : Addr} {sp : Sp} {E : XK} {H : Hp} {Q : VK} {vs : List V} (q : ∀ a dx H', H a = none → Kp [] H H' → H' a = some (.ins C dx []) → sp (.ref a :: vs) H' (kMade a Q) E) : kMakeS C sp E Q vs H := fun a dx n n' d =>
  q a dx _ n ((Kp.new n').trans (Kp.new (by rw [upd_ne d.symm]; exact n))) upd_same
section
variable {X : Cx} {CX : CXT} {k : Nat} {f C : Addr} {sp : Sp} {E : St → XK} {x : Str} {e : Expr} {es : List Expr} {t : TA} {p pos : Pos}
theorem pe_makeS (mk : Mk X.K C f) (F : FnR X.prog X.w X.K X.mg X.base CX k f sp) (hr : Room (k + 1) X.A) (hg : Gl X x) (hm : X.mg x = some (.ref C)) (hx : ∀ σ, PassesAt CX X σ (E σ)) (ha : PA X (e :: es) t) (hdb : (x == ("__debug__" : Str)) = false := by decide)
    (hst : starEach (e :: es) X.env = (false, eval e X.env) :: starEach es X.env := by rfl) (hpl : (backTo pos (starEach es X.env)).any (·.1) = false := by rfl) : PE X (.Call (.Name x p) (e :: es) [] pos) (tMakeS C sp E t) := by
  constructor
  intro pins s σ H Q I h
  refine wpAny_Call_Name_kw (ld_glob I hg hm (PySem.W.callWith_K (h₀ := X.base) I.ok.mod.kin mk.kp (thn (ha.run pos pins s σ H _ I h) fun us s1 ⟨vs, H1, I1, r, q⟩ => ⟨I1.kIn, ?_⟩) hst hpl) hdb)
  have old : H1 (s1.heap.objs.size + 1) = none ∧ H1 s1.heap.objs.size = none := ⟨I1.hok.fresh (Nat.le_succ _), I1.hok.fresh (Nat.le_refl _)⟩
  have J := Inv.made (C := C) I1
  have r2 : Vals (V.ref (s1.heap.objs.size + 1) :: vs) (Value.ref (s1.heap.objs.size + 1) :: us) := .cons rfl r
  have go := F _ X.stack _ _ (Value.ref (s1.heap.objs.size + 1) :: us) _ _ (E σ) (hr.make C us []) (J.env0.make C us []) r2 (q _ _ old.1 old.2 (Nat.ne_of_lt (Nat.lt_succ_self _)))
  refine wpAny_call (make_map (f := f) I1.kIn mk.makes mk.init (beq_iff_eq.mp mk.fn) (codeAny_mono go fun z s' hz => ?_))
  match z, hz with
  | .error u, hz => exact hx σ pins _ _ u s' J hz
  | .ok (.ret u), hz =>
    obtain ⟨v, H', I3, rv, ev, q3⟩ := J.after hz
    subst ev
    exact ⟨rv, V.ref (s1.heap.objs.size + 1), H', I3, rfl, q3⟩
  | .ok .next, hz => exact hz.elim
  | .ok .brk, hz => exact hz.elim
  | .ok .cont, hz => exact hz.elim
end

/-! ### isinstance(e, c), e.f of the exception that a suite holds, which has a dict -/
def rIsX (K : PySem.W.Frag) (C a : Addr) (cls : Value) (d : Option Addr) : R1 := fun xs H Q => cls = .ref C ∧ ∃ (dd : Addr) (fs : List (Str × V)) (c : V) (cv : Value) (b : Bool), d = some dd ∧ H dd = some (.xd fs) ∧ xs = [.ref a, c] ∧ ClsV c cv ∧ PySem.W.kitOne K (.ref C) cv = some b ∧ Q (.bl b) H
theorem call_isX {X : Cx} {a C : Addr} {oe : Obj} {cls : Value} {d : Option Addr} {pn : List (Addr × Obj)} (T : ExcC X.K C) (hz : Zc cls d oe) (hf : ∃ vs, oe.data = .fields vs) : CallR (X.suite a ((a, oe) :: pn)) (.builtin "isinstance") (rIsX X.K C a cls d) := by
  rintro pins s σ H xs us Q I r ⟨rfl, dd, fs, c, cv, b, rfl, ed, rfl, k, e, q⟩
  obtain ⟨u1, u2, rfl, r1, r2⟩ := vals2 r
  cases (show u1 = Value.ref a from r1)
  have e2 := k.eq r2
  subst e2
  obtain ⟨hget, _⟩ := I.pin (a, oe) (List.mem_append_left _ List.mem_cons_self)
  obtain ⟨vs, hv⟩ := hf
  have hx : ObjOk X.prog X.w H s.heap dd (.xd fs) := I.hok dd _ ed
  obtain ⟨mA, hns, _⟩ := hx
  obtain ⟨od, ho, _⟩ := lookIn_ns hns
  have J : PySem.W.InstAt s.heap a oe C (some od) := ⟨hget, hz.1, by unfold PySem.W.notCls; rw [hv] <;> rfl, by rw [hz.2]; exact ho⟩
  obtain ⟨cd, hc, _⟩ := PySem.W.any_some T.hd
  exact PySem.W.kia_one (PySem.W.kitx_exc (by rw [hc]; rfl) T.hg T.hk T.hs T.ha T.hn T.ht T.hm) I.kIn J e (fun z => nomatch z) fun tk => ⟨.bl b, H, I.kept (t' := tk) fun _ _ z => z, rfl, q⟩
theorem r_isX {K : PySem.W.Frag} {C a dd : Addr} {fs : List (Str × V)} {H : Hp} {Q : VK} {c : V} {cv : Value} {b : Bool} (ed : H dd = some (.xd fs)) (k : ClsV c cv) (e : PySem.W.kitOne K (.ref C) cv = some b) (q : Q (.bl b) H) : rIsX K C a (.ref C) (some dd) [.ref a, c] H Q :=
  ⟨rfl, dd, fs, c, cv, b, rfl, ed, rfl, k, e, q⟩
def kXf (a : Addr) (cls : Value) (d : Option Addr) (C : Addr) (f : Str) (Q : VK) : VK := fun x H1 => x = .ref a ∧ cls = .ref C ∧ ∃ (dd : Addr) (fs : List (Str × V)) (v : V), d = some dd ∧ H1 dd = some (.xd fs) ∧ fs.lookup f = some v ∧ Q v H1
theorem r_xf {a C : Addr} {cls : Value} {d : Option Addr} {f : Str} {te : TE} {σ : St} {H : Hp} {Q : VK} (q : te σ H (kXf a cls d C f Q)) : tXf a cls d C f te σ H Q := q
theorem r_kXf {a C dd : Addr} {f : Str} {H : Hp} {Q : VK} {fs : List (Str × V)} {v : V} (ed : H dd = some (.xd fs)) (l : fs.lookup f = some v) (q : Q v H) : kXf a (.ref C) (some dd) C f Q (.ref a) H := ⟨rfl, rfl, dd, fs, v, rfl, ed, l, q⟩
def UseCX (P : Program) (w : World) (K : PySem.W.Frag) (mg : Str → Option Value) (base : Heap) (n : Nat) (x : Str) (C : Addr) (sp : Sp) : Prop := ∃ f, FnR P w K mg base (L2.CX P w) n f sp ∧ Mk K C f ∧ mg x = some (.ref C)
theorem fnrX {P : Program} {w : World} {K : PySem.W.Frag} {mg : Str → Option Value} {base : Heap} {n : Nat} {f : Addr} {fd : FuncData} {ps : List Str} {sp : Sp} (F : FnOk P w K mg base (L2.CX P w) n f fd ps sp) (b : Binds K fd ps []) : FnR P w K mg base (L2.CX P w) n f sp :=
  (F.raw b .nil).imp fun vs H Q E h => by
    rw [List.append_nil]
    exact h
end Rd

set_option maxHeartbeats 4000000
/-! ExcB: own exception classes over ValueError, LookupError, RuntimeError, as values: made by position and by name, their fields, isinstance. -/
namespace Rd
open PySem PySem.Spec L2 NdefX PyProof.Rows
/-! ### the bases -/
structure ExcBase (B newId initId : String) (t : List Value) : Prop where
  facts : ExcBaseFacts B newId initId t
  kx : PySem.W.KxsFacts B initId
  pass : ∀ self, refuseLoop self "__setattr__" t = pure ()
  obj : t.contains (.type "object") = true
  ne : t.isEmpty = false
theorem base_VE : ExcBase "ValueError" "ValueError.__new__" "ValueError.__init__" [.type "ValueError", .type "Exception", .type "BaseException", .type "object"] := ⟨F.excBase_ValueError, PySem.W.kxs_ValueError, fun s => F.store_ValueError.passes s, by decide +kernel, rfl⟩
theorem base_LE : ExcBase "LookupError" "LookupError.__new__" "LookupError.__init__" [.type "LookupError", .type "Exception", .type "BaseException", .type "object"] := ⟨F.excBase_LookupError, PySem.W.kxs_LookupError, fun s => F.store_LookupError.passes s, by decide +kernel, rfl⟩
theorem base_RE : ExcBase "RuntimeError" "RuntimeError.__new__" "RuntimeError.__init__" [.type "RuntimeError", .type "Exception", .type "BaseException", .type "object"] := ⟨F.excBase_RuntimeError, PySem.W.kxs_RuntimeError, fun s => F.store_RuntimeError.passes s, by decide +kernel, rfl⟩
/-- own classes, then the base's mro -/
def refsT (t : List Value) : List Value → Bool
  | .ref _ :: r => refsT t r
  | l => l == t
theorem refsT_cases (t : List Value) : ∀ l : List Value, refsT t l = true → (∃ c r, l = .ref c :: r ∧ refsT t r = true) ∨ l = t
  | [], e => .inr (beq_iff_eq.mp e)
  | .ref c :: r, e => .inl ⟨c, r, rfl, e⟩
  | .none :: _, e => .inr (beq_iff_eq.mp e)
  | .ellipsis :: _, e => .inr (beq_iff_eq.mp e)
  | .notImplemented :: _, e => .inr (beq_iff_eq.mp e)
  | .bool _ :: _, e => .inr (beq_iff_eq.mp e)
  | .int _ _ :: _, e => .inr (beq_iff_eq.mp e)
  | .float _ _ :: _, e => .inr (beq_iff_eq.mp e)
  | .str _ _ :: _, e => .inr (beq_iff_eq.mp e)
  | .bytes _ _ :: _, e => .inr (beq_iff_eq.mp e)
  | .type _ :: _, e => .inr (beq_iff_eq.mp e)
  | .builtin _ :: _, e => .inr (beq_iff_eq.mp e)
section
variable {B newId initId : String} {t : List Value} (Z : ExcBase B newId initId t)
include Z
theorem refsT_pass (self : Value) : ∀ l : List Value, refsT t l = true → refuseLoop self "__setattr__" l = pure () := by
  intro l
  induction l with
  | nil =>
    intro e
    have e' : ([] : List Value) = t := beq_iff_eq.mp e
    have := Z.ne
    rw [← e'] at this
    cases this
  | cons a r ih =>
    intro e
    rcases refsT_cases t (a :: r) e with ⟨c, r', q, h⟩ | q
    · obtain ⟨rfl, rfl⟩ := List.cons.inj q
      rw [refuseLoop_ref]
      exact ih h
    · rw [q]
      exact Z.pass self
theorem refsT_contains (X : String) : ∀ l : List Value, refsT t l = true → l.contains (.type X) = t.contains (.type X) := by
  intro l
  induction l with
  | nil =>
    intro e
    have e' : ([] : List Value) = t := beq_iff_eq.mp e
    rw [e']
  | cons a r ih =>
    intro e
    rcases refsT_cases t (a :: r) e with ⟨c, r', q, h⟩ | q
    · obtain ⟨rfl, rfl⟩ := List.cons.inj q
      rw [List.contains_cons, ih h]
      rfl
    · rw [q]
theorem refsT_ne {l : List Value} (e : refsT t l = true) : l.isEmpty = false := by
  cases l with
  | nil =>
    have e' : ([] : List Value) = t := beq_iff_eq.mp e
    have := Z.ne
    rw [← e'] at this
    cases this
  | cons _ _ => rfl
end
end Rd
namespace PySem
namespace HandSPX
open Builtin Builtin.ObjectAttr Rd
section
variable {prog : Program} {w : World} {A : Around} {E : Value → Shared → Prop} {R : Result → Shared → Prop} {hp : Heap} {g : Array GenState} {d : Drawn} {t : Nat} {os : OsState}
theorem exc_osaT {B newId initId : String} {tl : List Value} (Z : ExcBase B newId initId tl) {K : W.Frag} {name : Str} {tk : Tok} {v : Value} {x C : Addr} {fv : Array Value} {cd : ClassData}
    (X : K.In hp) (hx : hp.get? x = some { cls := .ref C, data := .fields fv }) (hcd : W.clsIn K C = some cd) (hm : refsT tl cd.mro = true) (hh : cd.hasDict = true) (ha : W.findIn K (.ref C) name = some none)
    (hq : ∀ h' tk' dx, (∀ b o, b ≠ x → hp.get? b = some o → h'.get? b = some o) → hp.objs.size ≤ dx → dx ≠ x → h'.get? x = some { cls := .ref C, dict := some dx, data := .fields fv } →
      h'.Ns1 dx (fun y => if y = name then some v else none) → R (.ok (.ret .none)) ⟨h', g, d, tk', os⟩) :
    codeAny (model prog w) A (.call (.builtin "object.__setattr__") ⟨[.ref x, .str name tk, v], []⟩) R ⟨hp, g, d, t, os⟩ := by
  have I : W.InstAt hp x { cls := .ref C, data := .fields fv } C none := ⟨hx, rfl, rfl, trivial⟩
  have SF := F.store_object
  have ne := refsT_ne Z hm
  have hob : cd.mro.contains (.type "object") = true := (refsT_contains Z "object" _ hm).trans Z.obj
  have hxs : x ≠ hp.objs.size := Nat.ne_of_lt (Heap.lt_size hx)
  have sub : W.Looks (model prog w) hp (isInstance (.ref x) (.type "object")) true := I.type.andThen (W.looks_mroIn X (by unfold W.mroIn; rw [hcd, Option.bind_some, if_neg (by rw [ne]; decide), hob]))
  refine codeAny_call_builtin SF.slot.plain SF.entry (@W.check_slot (model prog w) _ _ ⟨hp, g, d, t, os⟩ "object.__setattr__" "object" "__setattr__" (.ref x) [.str name tk, v] [] _ SF.kind SF.split sub (SF.args (.ref x) (.str name tk) v) ?_)
  have hmr : W.Looks (model prog w) hp (mroOf (.ref C)) cd.mro := (W.looks_clsIn X hcd).andThen .now
  have L3 : W.Looks (model prog w) hp (storeTaker? none) none := .now
  have hcls : W.Looks (model prog w) hp (classData C) cd := W.looks_clsIn X hcd
  rw [W.osa_eq, refuse_eq]
  refine wpAny_bind (wpAny_bind (I.type.at (wpAny_bind (hmr.at ?_))))
  rw [refsT_pass Z _ _ hm]
  refine wpAny_pure (wpAny_bind (I.type.at (wpAny_bind ((W.looks_findIn X ha).at (wpAny_bind (L3.at ?_))))))
  show wpAny _ _ (storeInOwnDict (.ref x) (.ref C) (.str name tk) name v false) _ _ _
  obtain ⟨nm, bs, mro, ns, qn, hd, sn, sb, ab, col, del⟩ := cd
  dsimp only at hh
  subst hh
  unfold storeInOwnDict ownDictForStores
  repeat (first | with_reducible refine store_in_new ?_ ?_ | with_reducible refine wpAny_loadPart_at hx ?_ | with_reducible refine hcls.at ?_ | wp_step)
  · exact ⟨_, #[], _, (Heap.get?_update_ne _ _ _ _ hxs.symm).trans (Heap.get?_push_at rfl rfl), rfl, fun e he => absurd he (by simp), fun _ => rfl⟩
  · intro h' tk' hn' hs
    have hx₁ : (hp.push { cls := .type "dict", data := .dict #[] }).get? x = some { cls := .ref C, data := .fields fv } := Heap.get?_push_of_some _ hx
    refine hq h' tk' hp.objs.size (fun b o hb ho => ?_) (Nat.le_refl _) hxs.symm ?_ hn'
    · exact (hs.2 b (Nat.ne_of_lt (Heap.lt_size ho))).trans ((Heap.get?_update_ne _ _ _ _ hb).trans (Heap.get?_push_of_some _ ho))
    · exact (hs.2 x hxs).trans (Heap.get?_update_self _ hx₁ rfl)
end
end HandSPX
namespace OEX
open PySem.W PySem.Calls PyProof.Rows PySem.HandSPX
open Builtin Builtin.ObjectAttr Rd
section
variable {prog : Program} {w : World} {A : Around} {E : Value → Shared → Prop} {R : Result → Shared → Prop} {hp : Heap} {g : Array GenState} {d : Drawn} {t : Nat} {os : OsState}
theorem osa_oldT {B newId initId : String} {tl : List Value} (Z : ExcBase B newId initId tl) {K : W.Frag} {name : Str} {tk : Tok} {v : Value} {x C dx : Addr} {fv : Array Value} {cd : ClassData} {m0 : Str → Option Value} {nl : List Str}
    (X : K.In hp) (hx : hp.get? x = some { cls := .ref C, dict := some dx, data := .fields fv }) (hns : hp.Ns1 dx m0) (hw : Within m0 nl) (hz : nl.length ≤ 1000) (hcd : W.clsIn K C = some cd) (hm : refsT tl cd.mro = true) (hh : cd.hasDict = true)
    (ha : W.findIn K (.ref C) name = some none)
    (hq : ∀ h' tk', (∀ b o, b ≠ dx → hp.get? b = some o → h'.get? b = some o) → h'.Ns1 dx (fun y => if y = name then some v else m0 y) → R (.ok (.ret .none)) ⟨h', g, d, tk', os⟩) :
    codeAny (model prog w) A (.call (.builtin "object.__setattr__") ⟨[.ref x, .str name tk, v], []⟩) R ⟨hp, g, d, t, os⟩ := by
  obtain ⟨oD, esD, epD, hoD, hdD, _⟩ := hns.count hw
  have I : W.InstAt hp x { cls := .ref C, dict := some dx, data := .fields fv } C (some oD) := ⟨hx, rfl, rfl, hoD⟩
  have SF := F.store_object
  have ne := refsT_ne Z hm
  have hob : cd.mro.contains (.type "object") = true := (refsT_contains Z "object" _ hm).trans Z.obj
  have sub : W.Looks (model prog w) hp (isInstance (.ref x) (.type "object")) true := I.type.andThen (W.looks_mroIn X (by unfold W.mroIn; rw [hcd, Option.bind_some, if_neg (by rw [ne]; decide), hob]))
  refine codeAny_call_builtin SF.slot.plain SF.entry (@W.check_slot (model prog w) _ _ ⟨hp, g, d, t, os⟩ "object.__setattr__" "object" "__setattr__" (.ref x) [.str name tk, v] [] _ SF.kind SF.split sub (SF.args (.ref x) (.str name tk) v) ?_)
  have hmr : W.Looks (model prog w) hp (mroOf (.ref C)) cd.mro := (W.looks_clsIn X hcd).andThen .now
  have L3 : W.Looks (model prog w) hp (storeTaker? none) none := .now
  have hcls : W.Looks (model prog w) hp (classData C) cd := W.looks_clsIn X hcd
  rw [W.osa_eq, refuse_eq]
  refine wpAny_bind (wpAny_bind (I.type.at (wpAny_bind (hmr.at ?_))))
  rw [refsT_pass Z _ _ hm]
  refine wpAny_pure (wpAny_bind (I.type.at (wpAny_bind ((W.looks_findIn X ha).at (wpAny_bind (L3.at ?_))))))
  show wpAny _ _ (storeInOwnDict (.ref x) (.ref C) (.str name tk) name v false) _ _ _
  obtain ⟨nm, bs, mro, ns, qn, hd, sn, sb, ab, col, del⟩ := cd
  dsimp only at hh
  subst hh
  unfold storeInOwnDict ownDictForStores
  repeat (first | with_reducible refine store_in_old hns hw hz ?_ | with_reducible refine wpAny_loadPart_at hx ?_ | with_reducible refine hcls.at ?_ | wp_step)
  intro h' tk' hn' hs
  exact hq h' tk' (fun b o hb ho => (hs.2 b hb).trans ho) hn'
end
end OEX
end PySem

set_option maxHeartbeats 4000000
/-! ExcK: an own exception class called with keywords. -/
namespace PySem
namespace HandSPX
open Builtin Builtin.ObjectAttr
section
variable {M : Model} {A : Around} {E : Value → Shared → Prop} {h : Heap} {g : Array GenState} {d : Drawn} {t : Nat} {os : OsState}
variable {nm q : Str} {C N : Addr} {bs bm bmB : List Value} {hdct : Bool} {sn : List Str} {sub : List Value} {ab : Bool} {col : Option Bool} {dd : Option Addr} {k0 k1 k2 k3 k5 : Option Value} {B newId initId : String}
theorem check_new_kw (F : ExcBaseFacts B newId initId bmB) (hT : ∀ X : String, bm.contains (.type X) = bmB.contains (.type X)) {rest : List Value} {kw : List (Str × Value)} {Q : Unit → Shared → Prop}
    (hC : h.get? C = some (excClassObj nm q C N bs bm hdct sn sub ab col dd k0 k1 k2 k3 k5 newId)) (hq : Q () ⟨h, g, d, t, os⟩) : wpAny M A (checkBuiltinCall newId ⟨.ref C :: rest, kw⟩) Q E ⟨h, g, d, t, os⟩ := by
  have hcont : (Value.ref C :: bm).contains (.type B) = true := by rw [List.contains_cons, hT, F.hasB, Bool.or_true]
  have hstar := F.noStar
  simp only [checkBuiltinCall, F.newKind, F.newSplit, F.newRow]
  repeat (first | refine wpAny_loadPart_at hC ?_ | (refine wpAny_isSubtype_exc hC ?_; rw [hcont]) | refine wpAny_staticBase_exc hC ?_ | refine wpAny_madeBy_exc hC ?_ | simp only [bne_self_eq_false, Bool.false_eq_true, if_false] | wp_step)
  exact hq
end
section
variable {prog : Program} {w : World} {A : Around} {E : Value → Shared → Prop} {R : Result → Shared → Prop} {h : Heap} {g : Array GenState} {d : Drawn} {t : Nat} {os : OsState}
variable {nm q : Str} {C N : Addr} {bs bm bmB : List Value} {hdct : Bool} {sn : List Str} {sub : List Value} {ab : Bool} {col : Option Bool} {dd : Option Addr} {k0 k1 k2 k3 k5 : Option Value} {B newId initId : String}
theorem new_kw (F : ExcBaseFacts B newId initId bmB) (hT : ∀ X : String, bm.contains (.type X) = bmB.contains (.type X)) {rest : List Value} {kw : List (Str × Value)}
    (hC : h.get? C = some (excClassObj nm q C N bs bm hdct sn sub ab col dd k0 k1 k2 k3 k5 newId))
    (hq : R (.ok (.ret (.ref (h.objs.size + 1)))) ⟨(h.push { cls := .type "tuple", data := .seq rest.toArray }).push
      { cls := .ref C, data := .fields #[.ref h.objs.size, .none, .none, .none, .bool false, .none] }, g, d, t, os⟩) (hrest : rest.length ≤ sizeLine) :
    codeAny (model prog w) A (.builtin newId ⟨.ref C :: rest, kw⟩) R ⟨h, g, d, t, os⟩ := by
  have hends := F.ends
  have hcB : (Value.ref C :: bm).contains (.type B) = true := by rw [List.contains_cons, hT, F.hasB, Bool.or_true]
  have hcA : (Value.ref C :: bm).contains (.type "AttributeError") = false := by rw [List.contains_cons, hT, F.noAttr]; rfl
  have hcN : (Value.ref C :: bm).contains (.type "NameError") = false := by rw [List.contains_cons, hT, F.noName]; rfl
  refine codeAny_builtinAt F.entry ?_
  unfold Builtin.«BaseException.__new__»
  refine wpAt_bind ?_
  show wpAt _ _ _ (stack >>= _) _ _ _
  refine wpAt_bind (wpAt_stack fun p below => wpAt_of_wpAny ?_)
  wp_walk
  refine wpAt_of_wpAny ?_
  rw [F.owner]
  repeat (first | with_reducible refine wpAny_madeHere_exc F.canon hC ?_ | with_reducible refine wpAny_loadPart_at hC ?_ | (with_reducible refine wpAny_isSubtype_exc hC ?_; first | rw [hcB] | rw [hcA] | rw [hcN]) | wp_step)
  show R _ _
  rw [Heap.size_push]
  exact hq
theorem type_call_kw (F : ExcBaseFacts B newId initId bmB) (hT : ∀ X : String, bm.contains (.type X) = bmB.contains (.type X)) {rest : List Value} {kw : List (Str × Value)} {fI : Addr} {Q : Fin → Shared → Prop}
    (hC : h.get? C = some (excClassObj nm q C N bs bm hdct sn sub ab col dd k0 k1 k2 k3 k5 newId))
    (hi : W.Looks (model prog w) h (typeLookup (.ref C) "__init__") (some (.ref fI))) (hb : ∀ self, W.Looks (model prog w) h (bindSpecial (.ref fI) self) (.ref fI, [self])) (hrest : rest.length ≤ sizeLine)
    (hq : codeAny (model prog w) A (.call (.ref fI) ⟨.ref (h.objs.size + 1) :: rest, kw⟩)
      (fun r s' => match r with | .ok (.ret v) => v = .none ∧ Q (.done (.ret (.ref (h.objs.size + 1)))) s' | .ok _ => False | .error e => E e s')
      ⟨(h.push (W.kdv_tup rest)).push (excO C h.objs.size), g, d, t, os⟩) :
    wpAny (model prog w) A (Builtin.«type.__call__» ⟨.ref C :: rest, kw⟩) Q E ⟨h, g, d, t, os⟩ := by
  repeat (first | with_reducible refine wpAny_loadPart_at hC ?_ | with_reducible refine wpAny_madeBy_exc hC ?_ | wp_step)
  refine codeAny_call_builtin_code (Code.quiet_builtin _ F.quiet) (check_new_kw F hT hC ?_)
  refine new_kw F hT hC ?_ hrest
  show wpAny _ _ _ _ _ _
  have k : ∀ b o, h.get? b = some o → ((h.push (W.kdv_tup rest)).push (excO C h.objs.size)).get? b = some o := fun b o e => Heap.get?_push_of_some _ (Heap.get?_push_of_some _ e)
  have hC₁ := k _ _ hC
  have hget : ((h.push (W.kdv_tup rest)).push (excO C h.objs.size)).get? (h.objs.size + 1) = some (excO C h.objs.size) := by heap_get
  have hcC : (Value.ref C :: bm).contains (.ref C) = true := by simp
  have i1 := hi.keeps k
  have b1 := (hb (.ref (h.objs.size + 1))).keeps k
  unfold isInstance
  repeat (first | with_reducible refine wpAny_loadPart_at hget ?_ | (with_reducible refine wpAny_isSubtype_exc hC₁ ?_; rw [hcC]) | wp_step)
  show wpAny _ _ (typeLookup (.ref C) _) _ _ _
  refine i1.at ?_
  refine wpAny_holding (wpAny_bind (b1.at ?_))
  refine wpAny_bind (wpAny_call (codeAny_mono hq fun r s' z => ?_))
  rcases r with e | (v | _ | _ | _) <;> first | exact z | exact z.elim | skip
  obtain ⟨rfl, z⟩ := z
  first
    | exact wpAny_pure (wpAny_pure z)
    | (wp_walk; exact z)
theorem call_kw (F : ExcBaseFacts B newId initId bmB) (hT : ∀ X : String, bm.contains (.type X) = bmB.contains (.type X)) {rest : List Value} {kw : List (Str × Value)} {fI : Addr}
    (hC : h.get? C = some (excClassObj nm q C N bs bm hdct sn sub ab col dd k0 k1 k2 k3 k5 newId))
    (hi : W.Looks (model prog w) h (typeLookup (.ref C) "__init__") (some (.ref fI))) (hb : ∀ self, W.Looks (model prog w) h (bindSpecial (.ref fI) self) (.ref fI, [self])) (hrest : rest.length ≤ sizeLine)
    (hq : codeAny (model prog w) (A.under (.builtin "type.__call__" ⟨.ref C :: rest, kw⟩)) (.call (.ref fI) ⟨.ref (h.objs.size + 1) :: rest, kw⟩) (W.InitBack (h.objs.size + 1) R)
      ⟨(h.push (W.kdv_tup rest)).push (excO C h.objs.size), g, d, t, os⟩) :
    codeAny (model prog w) A (.call (.ref C) ⟨rest, kw⟩) R ⟨h, g, d, t, os⟩ := by
  have f1 := tc_lookup
  have f2 := tc_bind (.ref C)
  have f3 := tc_sub
  have hTy : (⟨h, g, d, t, os⟩ : Shared).TypeIs (.ref C) "type" := ⟨_, hC, rfl⟩
  have typ : W.Looks (model prog w) h (isInstance (.ref C) (.type "type")) true := by
    unfold isInstance
    exact ((W.Looks.ld hC).andThen .now).andThen (W.Looks.of_pure f3)
  refine codeAny_of_tree ?_
  show wpAny _ _ (callAny (.ref C) _) _ _ _
  repeat (any_goals (first | assumption | with_reducible refine wpAny_loadPart_at hC ?_ | wp_step))
  refine ⟨rfl, ?_⟩
  refine codeAny_call_builtin_at (Code.quiet_builtin _ (by decide +kernel)) entry_typeCall (W.check_slot tc_kind tc_split typ (W.tc_args _ _ _) (type_call_kw F hT hC hi hb hrest ?_))
  refine codeAny_mono hq fun r s' z => ?_
  rcases r with e | (v | _ | _ | _) <;> exact z
end
end HandSPX
end PySem

set_option maxHeartbeats 4000000
/-! ExcV: exceptions of own classes (over ValueError, LookupError, RuntimeError) as values. -/
namespace Rd
open PySem PySem.Spec L2 NdefX PyProof.Rows
structure OexB (K : PySem.W.Frag) (C : Addr) (newId : String) (t : List Value) : Prop where
  cls : ∃ nm q N bs bm sn sub ab col dd k0 k1 k2 k3 k5, K.lookup C = some (excClassObj nm q C N bs bm true sn sub ab col dd k0 k1 k2 k3 k5 newId) ∧ refsT t bm = true
  sa : PySem.W.findIn K (.ref C) "__setattr__" = some (some (.builtin "object.__setattr__"))
  exC : PySem.W.subIn K (.ref C) (.type "BaseException") = some true
  tyC : PySem.W.typeIn K (.ref C) = some (.type "type")
  kC : PySem.W.keepIn K (.ref C) = true
section
variable {X : Cx} {pins : List (Addr × Obj)} {σ : L2.St} {H : Hp} {s : Shared} {a C dx : Addr} {f : Str} {y : V} {u : Value} {fs : List (Str × V)} {Q : Unit → Shared → Prop} {E : Value → Shared → Prop} {A : Around} {B newId initId : String} {tl : List Value}
theorem ost_newB (Z : ExcBase B newId initId tl) (T : OexB X.K C newId tl) (I : Inv X pins σ H s) (e : H a = some (exo a C none)) (hno : PySem.W.findIn X.K (.ref C) f = some none) (ry : RelV y u)
    (h : ∀ dx s', H dx = none → dx ≠ a → Inv X pins σ (upd (upd H dx (exd dx [(f, y)])) a (exo a C (some dx))) s' → Q () s') : wpAny (model X.prog X.w) A (setAttr (.ref a) f u) Q E s := by
  obtain ⟨nm, q, N, bs, bm, sn, sub, ab, col, dd, k0, k1, k2, k3, k5, hC, hbm⟩ := T.cls
  have hcl : PySem.W.clsIn X.K C = some { name := nm, bases := bs, mro := .ref C :: bm, ns := N, qualname := q, hasDict := true, slotNames := sn, subclasses := sub, abstract := ab, collection := col, hasDel := false } := by unfold PySem.W.clsIn; rw [hC] <;> rfl
  obtain ⟨t1, ho⟩ := exo_at I.hok e
  obtain ⟨hp, g, d, t, os⟩ := s
  refine PySem.W.set_plain I.kIn (ox := { cls := .ref C, dict := none, data := .fields #[.ref t1, .none, .none, .none, .bool false, .none] }) (od := none) ⟨ho, rfl, rfl, trivial⟩ T.sa ?_
  refine PySem.HandSPX.exc_osaT Z I.kIn ho hcl (show refsT tl (.ref C :: bm) = true from hbm) rfl hno (fun h' tk' dx k dn dne hx hn => ?_)
  have hnd : H dx = none := I.hok.fresh dn
  have nd : ∀ {b : Addr} {o : Obj}, hp.get? b = some o → b ≠ dx := fun {b o} q => Nat.ne_of_lt (Nat.lt_of_lt_of_le (Heap.lt_size q) dn)
  have na : ∀ {b : Addr}, H b = none → b ≠ a := fun {b} n z => by
    rw [z, e] at n
    cases n
  have Un1 : Un X.fs [] H (upd (upd H dx (exd dx [(f, y)])) a (exo a C (some dx))) hp h' := {
    keep := fun b o q n _ _ => k b o (na n) q
    slot := fun b o q n _ _ => ⟨o.slots, k b o (na n) q⟩
    free := fun b o q n _ => by rw [upd_ne (na n), upd_ne (nd q)]; exact n
    there := fun b o q _ => by
      by_cases hb : b = a
      · exact ⟨_, by rw [hb]; exact hx⟩
      · exact ⟨o, k b o hb q⟩
    tups := fun b xs q => by rw [upd_ne (at_ne e q exo_tup), upd_ne (ne_of_none q hnd)]; exact q
    frzs := fun b o v q => by rw [upd_ne (at_ne e q exo_frz), upd_ne (ne_of_none q hnd)]; exact q
    tbls := fun b ps q => ⟨#[], by rw [upd_ne (at_ne e q exo_tbl), upd_ne (ne_of_none q hnd), q]; simp⟩ }
  refine h dx _ hnd dne (I.un (t' := tk') Un1 fun b o q => ?_)
  by_cases hb : b = a
  · subst hb
    rw [upd_same] at q
    cases q
    exact exo_ok hx
  · rw [upd_ne hb] at q
    by_cases hd : b = dx
    · subst hd
      rw [upd_same] at q
      cases q
      exact exd_ok hn (relO_put (fs := []) ry fun g => True.intro)
    · rw [upd_ne hd] at q
      exact (I.hok b o q).stay (fun c v hc z => k c v (by
          rcases hc with hc | hc
          · rw [hc]
            exact hb
          · exact at_ne e hc exo_own) z)
        (fun c hc => by rw [upd_ne (at_ne e hc exo_own), upd_ne (ne_of_none hc hnd)]; exact hc) (fun c xs hc => by rw [upd_ne (at_ne e hc exo_tup), upd_ne (ne_of_none hc hnd)]; exact hc)
theorem ost_oldB (Z : ExcBase B newId initId tl) (T : OexB X.K C newId tl) (I : Inv X pins σ H s) (e : H a = some (exo a C (some dx))) (ed : H dx = some (exd dx fs)) (hl : fs.length ≤ 900) (hno : PySem.W.findIn X.K (.ref C) f = some none) (ry : RelV y u)
    (h : ∀ s', Inv X pins σ (upd H dx (exd dx ((f, y) :: fs))) s' → Q () s') : wpAny (model X.prog X.w) A (setAttr (.ref a) f u) Q E s := by
  obtain ⟨nm, q, N, bs, bm, sn, sub, ab, col, dd, k0, k1, k2, k3, k5, hC, hbm⟩ := T.cls
  have hcl : PySem.W.clsIn X.K C = some { name := nm, bases := bs, mro := .ref C :: bm, ns := N, qualname := q, hasDict := true, slotNames := sn, subclasses := sub, abstract := ab, collection := col, hasDel := false } := by unfold PySem.W.clsIn; rw [hC] <;> rfl
  obtain ⟨t1, ho⟩ := exo_at I.hok e
  obtain ⟨mA, hns, rel⟩ := exd_at I.hok ed
  have hw := within_of rel
  obtain ⟨hp, g, d, t, os⟩ := s
  obtain ⟨oD, _, _, hoD, _, _⟩ := hns.count hw
  refine PySem.W.set_plain I.kIn (ox := { cls := .ref C, dict := some dx, data := .fields #[.ref t1, .none, .none, .none, .bool false, .none] }) (od := some oD) ⟨ho, rfl, rfl, hoD⟩ T.sa ?_
  refine PySem.OEX.osa_oldT Z I.kIn ho hns hw (by rw [List.length_map]; omega) hcl (show refsT tl (.ref C :: bm) = true from hbm) rfl hno (fun h' tk' k hn => ?_)
  have hd : ∃ o, h'.get? dx = some o := by
    obtain ⟨o, _, _, e', _⟩ := hn
    exact ⟨o, e'⟩
  exact h _ (I.write (t' := tk') (x := dx) (e := dx) (o := exd dx ((f, y) :: fs)) (by rw [ed]; exact True.intro) (.inl rfl) k hd (exd_ok hn (relO_put ry rel)))
end
/-- self.f = e -/
def tOstB (newId : String) (tl : List Value) (K : PySem.W.Frag) (f : Str) (to te : TE) : TS := fun D σ H => te σ H fun y H1 => to σ H1 fun x H2 => ∃ a C : Addr, x = .ref a ∧ OexB K C newId tl ∧ PySem.W.findIn K (.ref C) f = some none ∧
  ((H2 a = some (exo a C none) ∧ ∀ dx, H2 dx = none → dx ≠ a → D.nx σ (upd (upd H2 dx (exd dx [(f, y)])) a (exo a C (some dx)))) ∨
    ∃ (dx : Addr) (fs : List (Str × V)), H2 a = some (exo a C (some dx)) ∧ H2 dx = some (exd dx fs) ∧ fs.length ≤ 900 ∧ D.nx σ (upd H2 dx (exd dx ((f, y) :: fs))))
section
variable {X : Cx} {o e : Expr} {to te : TE} {f : Str} {p' pos : Pos} {B newId initId : String} {tl : List Value}
theorem ps_ostB (Z : ExcBase B newId initId tl) (ho : PE X o to) (he : PE X e te) (hs : swapsWith e (some (.Attribute o f p')) pos.line X.env = pure false := by rfl) : PS X (.Assign [.Attribute o f p'] e pos) (tOstB newId tl X.K f to te) := by
  refine ⟨fun pins s σ H D I h => ?_⟩
  refine plainObj_wpAny_Assign_Attribute (thn (he.run pins s σ H _ I h) fun v s1 ⟨y, H1, I1, r1, q1⟩ => thn (ho.run pins s1 σ H1 _ I1 q1) fun u s2 ⟨x, H2, I2, r2, a, C, ex, T, hno, q⟩ => ?_) hs
  subst ex
  obtain rfl : u = Value.ref a := r2
  rcases q with ⟨ea, q⟩ | ⟨dx, fs, ea, ed, hl, q⟩
  · exact ost_newB Z T I2 ea hno r1 fun dx s' n ne J => ⟨σ, _, J, q dx n ne⟩
  · exact ost_oldB Z T I2 ea ed hl hno r1 fun s' J => ⟨σ, _, J, q⟩
end
theorem r_ostB {newId : String} {tl : List Value} {K : PySem.W.Frag} {fld : Str} {i j : Nat} {nx bk ct : L2.St → Hp → Prop} {rt : VK} {σ : L2.St} {H : Hp} {a C : Addr} {v : V} (e : σ[i]? = some (some (.ref a))) (e' : σ[j]? = some (some v)) (T : OexB K C newId tl) (n : PySem.W.findIn K (.ref C) fld = some none) (ha : H a = some (exo a C none))
    (q : ∀ dx H', H dx = none → dx ≠ a → Kp [a] H H' → H' a = some (exo a C (some dx)) → H' dx = some (exd dx [(fld, v)]) → nx σ H') : tOstB newId tl K fld (tVar i) (tVar j) ⟨nx, rt, bk, ct⟩ σ H :=
  ⟨v, e', .ref a, e, a, C, rfl, T, n, .inl ⟨ha, fun dx nd ne => q dx _ nd ne (fun b o eb hb => by
    have hba : b ≠ a := fun z => hb (List.mem_singleton.mpr z)
    have hbd : b ≠ dx := fun z => by
      rw [z, nd] at eb
      cases eb
    rw [upd_ne hba, upd_ne hbd]
    exact eb) upd_same (by rw [upd_ne ne, upd_same])⟩⟩
theorem r_ostB2 {newId : String} {tl : List Value} {K : PySem.W.Frag} {fld : Str} {i j : Nat} {nx bk ct : L2.St → Hp → Prop} {rt : VK} {σ : L2.St} {H : Hp} {a C dx : Addr} {v : V} {fs : List (Str × V)} (e : σ[i]? = some (some (.ref a))) (e' : σ[j]? = some (some v)) (T : OexB K C newId tl) (n : PySem.W.findIn K (.ref C) fld = some none) (ha : H a = some (exo a C (some dx)))
    (hd : H dx = some (exd dx fs)) (hl : fs.length ≤ 900) (q : ∀ H', Kp [dx] H H' → H' dx = some (exd dx ((fld, v) :: fs)) → nx σ H') : tOstB newId tl K fld (tVar i) (tVar j) ⟨nx, rt, bk, ct⟩ σ H :=
  ⟨v, e', .ref a, e, a, C, rfl, T, n, .inr ⟨dx, fs, ha, hd, hl, q _ (Kp.put (by simp)) upd_same⟩⟩
/-! ### super().__init__(text) -/
structure SupCB (P : Program) (K : PySem.W.Frag) (mg : Str → Option Value) (C cda : Addr) (B newId initId : String) (tl : List Value) : Prop where
  oex : OexB K C newId tl
  up : PySem.W.ks_superIn K C C "__init__" = some (some (.builtin initId))
  sub : PySem.W.subIn K (.ref C) (.type B) = some true
  own : PySem.W.mroIn K C (.ref C) = some true
  opq : PySem.W.nsIn K cStatics "thirdparty.any" = some none
  zs : mg "super" = none
  file : ∃ ccl cdd vs ccs fl tf, K.lookup cda = some ⟨ccl, cdd, .fields vs, ccs⟩ ∧ vs[2]? = some (.str fl tf) ∧ (P.main.file == fl) = true
  top : (P.main.scope.names.lookup ("super" : Str)).isSome = false
theorem qs_supB {CX : CXT} {P : Program} {w : World} {K : PySem.W.Frag} {mg : Str → Option Value} {base : Heap} {f cc cda C : Addr} {name qual : Str} {params : Arguments} {body body' : List Stmt} {scope : Scope} {dV kV doc pm ct oc cl : Value} {an od cld : Option Addr}
    {osl csl : Array (Option Value)} {N : List Str} {A : Around} {outer : List Env} {s0 : Shared} {H0 : Hp} {E : XK} {ar : Arg} {p0 p1 p2 p3 p4 p5 : Pos} {m : Str} {j : Nat} {pl : Sem Bool} {rest : List Stmt} {t : TS} {B newId initId : String} {tl : List Value} (Zb : ExcBase B newId initId tl)
    (lk : K.lookup f = some ⟨oc, od, .func (PySem.W.ksFn name qual params body scope dV kV doc pm an (.ref cda) ct cc), osl⟩) (cell : K.lookup cc = some ⟨cl, cld, .cell (some (.ref C)), csl⟩) (Z : SupCB P K mg C cda B newId initId tl)
    (hks : scope.names.lookup ("super" : Str) = some .globalImplicit) (hkc : scope.names.lookup ("__class__" : Str) = some .free) (hp : (params.posonlyargs ++ params.args).head? = some ar) (hN : N[0]? = some ar.arg)
    (hka : scope.names.lookup ar.arg = some .local) (hk : scope.kind = .function)
    (hi : interactive (envF ⟨name, qual, params, body, scope, [("__class__", cc)], cda⟩ f s0.heap.objs.size) = false)
    (hs : swapsWith (.Call (.Attribute (.Call (.Name "super" p0) [] [] p1) "__init__" p2) [.Constant (.str m) j p3] [] p4) none p5.line (envF ⟨name, qual, params, body, scope, [("__class__", cc)], cda⟩ f s0.heap.objs.size) = pure false)
    (he : eval (.Call (.Attribute (.Call (.Name "super" p0) [] [] p1) "__init__" p2) [.Constant (.str m) j p3] [] p4) (envF ⟨name, qual, params, body, scope, [("__class__", cc)], cda⟩ f s0.heap.objs.size) = (do
      let ov ← attributeBase (.Call (.Name "super" p0) [] [] p1) "__init__" (envF ⟨name, qual, params, body, scope, [("__class__", cc)], cda⟩ f s0.heap.objs.size) (eval (.Call (.Name "super" p0) [] [] p1) (envF ⟨name, qual, params, body, scope, [("__class__", cc)], cda⟩ f s0.heap.objs.size))
      standAt p2.atName
      let (fx, first) ← holding [ov] (getMethod ov "__init__" pl)
      callWith p4 fx first (backTo p4 (starEach [.Constant (.str m) j p3] (envF ⟨name, qual, params, body, scope, [("__class__", cc)], cda⟩ f s0.heap.objs.size))) []))
    (hst : starEach [.Constant (.str m) j p3] (envF ⟨name, qual, params, body, scope, [("__class__", cc)], cda⟩ f s0.heap.objs.size) = [(false, eval (.Constant (.str m) j p3) (envF ⟨name, qual, params, body, scope, [("__class__", cc)], cda⟩ f s0.heap.objs.size))])
    (hr : QS (ncx CX P w K mg base N ⟨name, qual, params, body, scope, [("__class__", cc)], cda⟩ f A outer s0 H0 E) (.func body' (envF ⟨name, qual, params, body, scope, [("__class__", cc)], cda⟩ f s0.heap.objs.size)) rest t) :
    QS (ncx CX P w K mg base N ⟨name, qual, params, body, scope, [("__class__", cc)], cda⟩ f A outer s0 H0 E) (.func body' (envF ⟨name, qual, params, body, scope, [("__class__", cc)], cda⟩ f s0.heap.objs.size))
      (.Expr (.Call (.Attribute (.Call (.Name "super" p0) [] [] p1) "__init__" p2) [.Constant (.str m) j p3] [] p4) p5 :: rest) (tSupI C t) := by
  constructor
  intro pins s σ H D I ⟨a, hσ, ha, q⟩
  have KX := I.kIn
  obtain ⟨t1, ho⟩ := exo_at I.hok ha
  obtain ⟨ccl, cdd, vs, ccs, fl, tf, hcode, hvs, hfile⟩ := Z.file
  obtain ⟨nm, qq, N', bs, bm, sn, sub, ab, col, dd, k0, k1, k2, k3, k5, hC, hbm⟩ := Z.oex.cls
  refine ks_wpAt_execs_cons (ks_wpAt_Expr_any (ks_wpAt_MethodCall (pl := pl) ?_ he) hi hs)
  obtain ⟨hh, g, d, tk, os⟩ := s
  have hD1 := KX _ _ hC
  refine ks_wpAt_super_base hks hkc (by decide) rfl (KX _ _ lk) rfl hp rfl (KX _ _ hcode) rfl hvs hfile Z.top ?_
  obtain ⟨mb, hbn, hbv⟩ := I.ok.mod.blt
  have hbo : bootBuiltins "super" = some (.type "super") := by first | rfl | decide +kernel
  refine W.ks_loadName_global hk hks (Calls.loadGlobal_builtin (I.mod.glob.keeps I.bk) Z.zs (hbn.keeps I.bk) ((hbv ("super" : Str) (by decide +kernel)).trans hbo) ⟨rfl, ?_⟩)
  refine wpAny_loadName_free hk hkc rfl ⟨_, KX _ _ cell, rfl⟩ ?_
  obtain ⟨ml, hns, hl⟩ := I.loc
  obtain ⟨u, ru, lku⟩ := hl 0 ar.arg (.ref a) hN hσ (.inl hka)
  have hm : ml ar.arg = some u := by
    rcases lku with ⟨_, z⟩ | ⟨z, _⟩
    · exact z
    · rcases z with z | z
      · exact absurd (hka.symm.trans z) (by decide)
      · exact absurd (hka.symm.trans z) (by decide)
  obtain rfl : u = Value.ref a := ru
  refine wpAny_loadName_local hk hka hns hm ?_
  refine ks_wpAny_isType_cls hD1 rfl ⟨rfl, ?_⟩
  refine ks_wpAny_call_super hD1 rfl ho rfl (fun c z => nomatch z) (W.looks_mroIn KX Z.own) fun h' e1 kp => ?_
  have I1 : Inv _ pins σ H ⟨h', g, d, tk, os⟩ := I.kept (t' := tk) kp
  have KX1 := I1.kIn
  have ho1 := kp _ _ ho
  have J : W.InstAt h' a (HandSPX.excO C t1) C none := ⟨ho1, rfl, rfl, trivial⟩
  have up := Z.up
  cases hc : W.clsIn K C with
  | none =>
    unfold W.ks_superIn at up
    rw [hc] at up
    cases up
  | some cd =>
    unfold W.ks_superIn at up
    rw [hc] at up
    refine W.kxs_getMethod Zb.kx e1 (W.looks_opaque KX1 Z.opq) (l₀ := cd.mro) (fun A Q E s k z => wpAny_bind ((W.looks_clsIn KX1 hc) A _ E s k (wpAny_pure z))) rfl KX1 up (J.type.andThen (W.looks_subIn KX1 Z.sub)) (W.ks_ne KX1 J hc) (by decide) ?_
    have k2 : ∀ b o, h'.get? b = some o → (h'.push (W.kxs_mw initId a)).get? b = some o := fun b o e => Heap.get?_push_of_some _ e
    have I2 : Inv _ pins σ H ⟨h'.push (W.kxs_mw initId a), g, d, tk + 1, os⟩ := I1.kept (t' := tk + 1) k2
    have hu : (h'.push (W.kxs_mw initId a)).get? h'.objs.size = some (W.kxs_mw initId a) := Heap.get?_push_size _ rfl
    have hst' : starEach [.Constant (.str m) j p3] (ncx CX P w K mg base N ⟨name, qual, params, body, scope, [("__class__", cc)], cda⟩ f A outer s0 H0 E).env = [(false, eval (.Constant (.str m) j p3) (ncx CX P w K mg base N ⟨name, qual, params, body, scope, [("__class__", cc)], cda⟩ f A outer s0 H0 E).env)] := hst
    rw [hst']
    refine W.kxs_callWith (i := initId) (x := a) rfl (Calls.evalArgs_plain (Calls.spliced_cons (Calls.Constant_str (pos := p3) (k := j) (Calls.spliced_nil ⟨hu, ?_⟩))))
    refine mw_call Zb.facts (I2.kIn _ _ hC) (k2 _ _ ho1) hu (by show 1 ≤ sizeLine; decide) fun h3 t2 k3 e3 => ?_
    have J3 := (I2.tok (tk + 1 + 1)).write (t' := tk + 1 + 1) (x := a) (e := a) (o := exo a C none) (by rw [ha]; exact True.intro) (.inl rfl) k3 ⟨_, e3⟩ (exo_ok e3)
    have eu : upd H a (exo a C none) = H := by
      funext b
      by_cases hb : b = a
      · rw [hb, upd_same, ha]
      · rw [upd_ne hb]
    rw [eu] at J3
    exact hr.run pins _ σ H D J3 q
/-! ### C(e, ..), C(k = v, ..) as values -/
structure UseV (P : Program) (w : World) (K : PySem.W.Frag) (mg : Str → Option Value) (base : Heap) (k : Nat) (x : Str) (C : Addr) (ps : List Str) (sp : Sp) : Prop where
  ex : ∃ B newId initId tl fI fd, ExcBase B newId initId tl ∧ OexB K C newId tl ∧ PySem.W.findIn K (.ref C) "__init__" = some (some (.ref fI)) ∧ PySem.W.typeIn K (.ref fI) = some (.type "function") ∧ FnOk P w K mg base CX0 k fI fd ps sp ∧
    (∀ (s : Shared) (us : List Value), us.length = ps.length → BindsTo s fd ⟨us, []⟩ (ps.zip us)) ∧
    (∀ (s : Shared) (us ws : List Value), (us ++ ws).length = ps.length → us.length = 1 → BindsTo s fd ⟨us, (ps.drop 1).zip ws⟩ (ps.zip (us ++ ws))) ∧
    ∀ (s : Shared) (us ws : List Value), (us ++ ws).length = ps.length → us.length = 1 → BindsTo s fd ⟨us, (ps.drop 1).reverse.zip ws⟩ (ps.zip (us ++ ws.reverse))
  gC : mg x = some (.ref C)
  ec : ExcC K C
def kMkW (C : Addr) (sp : Sp) (Q : VK) : List V → Hp → Prop := fun vs H1 => vs.length ≤ 1000 ∧ ∀ a, H1 a = none → sp (.ref a :: vs) (upd H1 a (exo a C none)) (kMade a Q) E0
def kMkV (n : Nat) (gV : List V → List V) (C : Addr) (sp : Sp) (Q : VK) : List V → Hp → Prop := fun us H1 => us.length = n ∧ kMkW C sp Q (gV us) H1
theorem r_kMkV {n : Nat} {gV : List V → List V} {C : Addr} {sp : Sp} {Q : VK} {us : List V} {H : Hp} (hn : us.length = n) (h : (gV us).length ≤ 1000) (q : ∀ a H', H a = none → Kp [] H H' → H' a = some (exo a C none) → sp (.ref a :: gV us) H' (kMade a Q) E0) : kMkV n gV C sp Q us H :=
  ⟨hn, h, fun a n => q a _ n (Kp.new n) upd_same⟩
def tMkV (n : Nat) (C : Addr) (sp : Sp) (gV : List V → List V) (t : TA) : TE := fun σ H Q => t σ H (kMkV n gV C sp Q)
theorem r_mkV {n : Nat} {C : Addr} {sp : Sp} {gV : List V → List V} {t : TA} {σ : L2.St} {H : Hp} {Q : VK} (q : t σ H (kMkV n gV C sp Q)) : tMkV n C sp gV t σ H Q := q
section
variable {X : Cx} {k : Nat} {C : Addr} {ps ks : List Str} {sp : Sp} {x : Str} {e : Expr} {es : List Expr} {t tk : TA} {p pos : Pos} {kws : List Keyword}
theorem run_mkV {B newId initId : String} {tl : List Value} {fI : Addr} {fd : FuncData} {pins : List (Addr × Obj)} {σ : L2.St} {H1 : Hp} {s1 : Shared} {Q : VK} {us : List Value} {kw : List (Str × Value)} {gs : List Value} {vs : List V} (Z : ExcBase B newId initId tl) (T : OexB X.K C newId tl)
    (iC : PySem.W.findIn X.K (.ref C) "__init__" = some (some (.ref fI))) (tI : PySem.W.typeIn X.K (.ref fI) = some (.type "function")) (F1 : FnOk X.prog X.w X.K X.mg X.base CX0 k fI fd ps sp) (hr : Room (k + 1) X.A)
    (hb : ∀ (s : Shared) (v : Value), BindsTo s fd ⟨v :: us, kw⟩ (ps.zip (v :: gs))) (hus : us.length ≤ sizeLine) (I1 : Inv X pins σ H1 s1) (r1 : Vals vs gs) (q1 : kMkW C sp Q vs H1) :
    wpAny (model X.prog X.w) X.A (call (.ref C) us kw) (EP X pins σ Q) X.xe s1 := by
  obtain ⟨nm, q, N, bs, bm, sn, sub, ab, col, dd, k0, k1, k2, k3, k5, hC, hbm⟩ := T.cls
  obtain ⟨hp, g, dr, tk, os⟩ := s1
  have hsz : hp.objs.size ≤ hp.objs.size + 1 := Nat.le_succ _
  have hn : H1 (hp.objs.size + 1) = none := I1.hok.fresh hsz
  have hq := q1.2 (hp.objs.size + 1) hn
  have kk : ∀ b o, hp.get? b = some o → ((hp.push (PySem.W.kdv_tup us)).push (PySem.HandSPX.excO C hp.objs.size)).get? b = some o := fun b o e => Heap.get?_push_of_some _ (Heap.get?_push_of_some _ e)
  have hget : ((hp.push (PySem.W.kdv_tup us)).push (PySem.HandSPX.excO C hp.objs.size)).get? (hp.objs.size + 1) = some (PySem.HandSPX.excO C hp.objs.size) := by heap_get
  have I2 : Inv X pins σ (upd H1 (hp.objs.size + 1) (exo (hp.objs.size + 1) C none)) ⟨(hp.push (PySem.W.kdv_tup us)).push (PySem.HandSPX.excO C hp.objs.size), g, dr, tk, os⟩ :=
    I1.laid (t' := tk) (a := hp.objs.size + 1) (o := exo (hp.objs.size + 1) C none) (h' := (hp.push (PySem.W.kdv_tup us)).push (PySem.HandSPX.excO C hp.objs.size)) kk hsz (exo_ok hget)
  have r2 : Vals (V.ref (hp.objs.size + 1) :: vs) (Value.ref (hp.objs.size + 1) :: gs) := .cons rfl r1
  refine wpAny_call (PySem.HandSPX.call_kw Z.facts (fun Y => refsT_contains Z Y bm hbm) (I1.kIn _ _ hC) (PySem.W.looks_findIn I1.kIn iC) (fun self => PySem.W.bind_fn I1.kIn self tI) hus
    (codeAny_mono (F1.run _ X.stack _ _ ⟨Value.ref (hp.objs.size + 1) :: us, kw⟩ (Value.ref (hp.objs.size + 1) :: gs) _ _ E0 (hr.make C us kw) (I2.env0.make C us kw) (hb _ _) r2 hq) fun r s' hq' => ?_))
  cases r with
  | error er => exact pass0 (X := X) pins σ _ _ er s' I2 hq'
  | ok fl =>
    cases fl with
    | ret u =>
      obtain ⟨v, H', I3, rv, ev, q3⟩ := I2.after hq'
      subst ev
      exact ⟨rv, ⟨V.ref (hp.objs.size + 1), H', I3, rfl, q3⟩⟩
    | next => exact False.elim hq'
    | brk => exact False.elim hq'
    | cont => exact False.elim hq'
theorem pe_mkV (U : UseV X.prog X.w X.K X.mg X.base k x C ps sp) (hr : Room (k + 1) X.A) (hg : Gl X x) (hl : (e :: es).length + 1 = ps.length) (ha : PA X (e :: es) t) (hdb : (x == ("__debug__" : Str)) = false := by decide)
    (he : starEach (e :: es) X.env = (false, eval e X.env) :: starEach es X.env := by rfl) (hpl : (backTo pos (starEach es X.env)).any (·.1) = false := by rfl) : PE X (.Call (.Name x p) (e :: es) [] pos) (tMkV (e :: es).length C sp id t) := by
  obtain ⟨B, newId, initId, tl, fI, fd, Z, T, iC, tI, F1, hb, _, _⟩ := U.ex
  constructor
  intro pins s σ H Q I h
  refine wpAny_Call_Name_kw (ld_glob I hg U.gC ?_ hdb)
  refine PySem.W.callWith_K (h₀ := X.base) I.ok.mod.kin T.kC (thn (ha.run pos pins s σ H _ I h) fun us s1 ⟨vs, H1, I1, r1, hlen, q1⟩ => ⟨I1.kIn, ?_⟩) he hpl
  have hul : us.length = (e :: es).length := r1.length.symm.trans hlen
  exact run_mkV Z T iC tI F1 hr (fun s v => hb s (v :: us) (by rw [List.length_cons, hul, hl])) (by
    show us.length ≤ sizeLine
    have h9 : vs.length ≤ 1000 := q1.1
    rw [hul, sizeLine_eq]
    omega) I1 r1 q1
theorem pe_mkV0 (U : UseV X.prog X.w X.K X.mg X.base k x C ps sp) (hr : Room (k + 1) X.A) (hg : Gl X x) (hl : ps.length = 1) (hdb : (x == ("__debug__" : Str)) = false := by decide) : PE X (.Call (.Name x p) [] [] pos) (tMkV 0 C sp id tNil) := by
  obtain ⟨B, newId, initId, tl, fI, fd, Z, T, iC, tI, F1, hb, _, _⟩ := U.ex
  constructor
  intro pins s σ H Q I h
  refine wpAny_Call_Name_kw (ld_glob I hg U.gC ?_ hdb)
  refine PySem.W.callWith_K0 (first := []) I.kIn T.kC ?_
  exact run_mkV Z T iC tI F1 hr (fun s v => hb s [v] (by rw [hl]; rfl)) (by rw [sizeLine_eq]; decide) I .nil h.2
theorem pe_mkVK {g : List Value → List Value} {gV : List V → List V} {B newId initId : String} {tl : List Value} {fI : Addr} {fd : FuncData} (Z : ExcBase B newId initId tl) (T : OexB X.K C newId tl) (iC : PySem.W.findIn X.K (.ref C) "__init__" = some (some (.ref fI))) (tI : PySem.W.typeIn X.K (.ref fI) = some (.type "function"))
    (F1 : FnOk X.prog X.w X.K X.mg X.base CX0 k fI fd ps sp) (hm : X.mg x = some (.ref C)) (hr : Room (k + 1) X.A) (hg : Gl X x)
    (hb : ∀ (s : Shared) (v : Value) (ws : List Value), ws.length = ks.length → BindsTo s fd ⟨[v], ks.zip ws⟩ (ps.zip (v :: g ws))) (hrel : ∀ {zs : List V} {ws : List Value}, Vals zs ws → Vals (gV zs) (g ws)) (hkw : PK X kws tk)
    (hall : (backToKw pos (keywordEach kws X.env)).all (·.1.isSome) = true := by rfl) (hks : (backToKw pos (keywordEach kws X.env)).filterMap (·.1) = ks := by rfl) (hdb : (x == ("__debug__" : Str)) = false := by decide)
    (hpl : ((backTo pos (starEach [] X.env)).any (·.1) || (backToKw pos (keywordEach kws X.env)).any (·.1.isNone)) = false := by rfl) :
    PE X (.Call (.Name x p) [] kws pos) (tMkV ks.length C sp gV tk) := by
  refine ⟨fun pins s σ H Q I h => ?_⟩
  refine wpAny_Call_Name_kw (ld_glob I hg hm ?_ hdb)
  refine PySem.W.callWith_KW0 (h₀ := X.base) I.ok.mod.kin T.kC hall ?_ hpl
  refine thn (hkw.run pos pins s σ H _ I h) fun ws s ⟨zs, H, I, rz, l2, h⟩ => ⟨I.kIn, ?_⟩
  rw [hks]
  exact run_mkV (us := []) Z T iC tI F1 hr (fun s v => hb s v ws (rz.length.symm.trans l2)) (Nat.zero_le _) I (hrel rz) h
end
section
variable {X : Cx} {k : Nat} {C : Addr} {ps : List Str} {sp : Sp} {x : Str} {tk : TA} {p pos : Pos} {kws : List Keyword}
theorem pe_mkVS (ks : List Str) (U : UseV X.prog X.w X.K X.mg X.base k x C ps sp) (hr : Room (k + 1) X.A) (hg : Gl X x) (hp : ps.length = ks.length + 1) (hps : ps.drop 1 = ks) (hkw : PK X kws tk)
    (hall : (backToKw pos (keywordEach kws X.env)).all (·.1.isSome) = true := by rfl) (hks : (backToKw pos (keywordEach kws X.env)).filterMap (·.1) = ks := by rfl) (hdb : (x == ("__debug__" : Str)) = false := by decide)
    (hpl : ((backTo pos (starEach [] X.env)).any (·.1) || (backToKw pos (keywordEach kws X.env)).any (·.1.isNone)) = false := by rfl) :
    PE X (.Call (.Name x p) [] kws pos) (tMkV ks.length C sp id tk) := by
  obtain ⟨B, newId, initId, tl, fI, fd, Z, T, iC, tI, F1, _, hb, _⟩ := U.ex
  refine pe_mkVK (ks := ks) (g := id) Z T iC tI F1 U.gC hr hg (fun s v ws l2 => ?_) (fun r => r) hkw hall hks hdb hpl
  have := hb s [v] ws (by rw [List.length_append, l2, hp, Nat.add_comm]; rfl) rfl
  rw [hps] at this
  exact this
theorem pe_mkVR (ks : List Str) (U : UseV X.prog X.w X.K X.mg X.base k x C ps sp) (hr : Room (k + 1) X.A) (hg : Gl X x) (hp : ps.length = ks.length + 1) (hps : (ps.drop 1).reverse = ks) (hkw : PK X kws tk)
    (hall : (backToKw pos (keywordEach kws X.env)).all (·.1.isSome) = true := by rfl) (hks : (backToKw pos (keywordEach kws X.env)).filterMap (·.1) = ks := by rfl) (hdb : (x == ("__debug__" : Str)) = false := by decide)
    (hpl : ((backTo pos (starEach [] X.env)).any (·.1) || (backToKw pos (keywordEach kws X.env)).any (·.1.isNone)) = false := by rfl) :
    PE X (.Call (.Name x p) [] kws pos) (tMkV ks.length C sp List.reverse tk) := by
  obtain ⟨B, newId, initId, tl, fI, fd, Z, T, iC, tI, F1, _, _, hb⟩ := U.ex
  have vrev : ∀ {zs : List V} {ws : List Value}, Vals zs ws → Vals zs.reverse ws.reverse := fun r => by
    induction r with
    | nil => exact .nil
    | cons a _ ih =>
      rw [List.reverse_cons, List.reverse_cons]
      exact ih.append (.cons a .nil)
  refine pe_mkVK (ks := ks) (g := List.reverse) Z T iC tI F1 U.gC hr hg (fun s v ws l2 => ?_) vrev hkw hall hks hdb hpl
  have := hb s [v] ws (by rw [List.length_append, l2, hp, Nat.add_comm]; rfl) rfl
  rw [hps] at this
  exact this
end
/-! ### fields, isinstance -/
/-- an exception as a value: its fields -/
def ExAt (C : Addr) (H : Hp) (a : Addr) (fs : List (Str × V)) : Prop := (H a = some (exo a C none) ∧ fs = []) ∨ ∃ dx, H a = some (exo a C (some dx)) ∧ H dx = some (exd dx fs)
theorem ExAt.kp {C : Addr} {H H' : Hp} {a : Addr} {fs : List (Str × V)} (h : ExAt C H a fs) (k : Kp [] H H') : ExAt C H' a fs := by
  rcases h with ⟨h, e⟩ | ⟨dx, h, e⟩
  · exact .inl ⟨k _ _ h not_nil, e⟩
  · exact .inr ⟨dx, k _ _ h not_nil, k _ _ e not_nil⟩
def kOfl (K : PySem.W.Frag) (f : Str) (Q : VK) : VK := fun x H1 => ∃ a C fs v, x = .ref a ∧ ExAt C H1 a fs ∧ XfC K C ∧ PySem.W.findIn K (.ref C) f = some none ∧ fs.lookup f = some v ∧ Q v H1
def tOfl (K : PySem.W.Frag) (f : Str) (te : TE) : TE := fun σ H Q => te σ H (kOfl K f Q)
def rIsiO (K : PySem.W.Frag) : R1 := fun xs H Q => ∃ (a C : Addr) (fs : List (Str × V)) (c : V) (cv : Value) (b : Bool), xs = [.ref a, c] ∧ ExAt C H a fs ∧ ExcC K C ∧ ClsV c cv ∧ PySem.W.kitOne K (.ref C) cv = some b ∧ Q (.bl b) H
section
variable {X : Cx} {K : PySem.W.Frag} {e : Expr} {te : TE} {n : Str} {pos : Pos}
theorem exat_inst {pins : List (Addr × Obj)} {σ : L2.St} {H : Hp} {s : Shared} {C a : Addr} {fs : List (Str × V)} (I : Inv X pins σ H s) (h : ExAt C H a fs) : ∃ oe od, PySem.W.InstAt s.heap a oe C od := by
  rcases h with ⟨h, _⟩ | ⟨dx, h, e⟩
  · obtain ⟨t1, ho⟩ := exo_at I.hok h
    exact ⟨_, none, ho, rfl, rfl, trivial⟩
  · obtain ⟨t1, ho⟩ := exo_at I.hok h
    obtain ⟨mA, hns, _⟩ := exd_at I.hok e
    obtain ⟨od, hod, _⟩ := lookIn_ns hns
    exact ⟨_, some od, ho, rfl, rfl, hod⟩
theorem K_ofl (hK : X.K = K) (he : PE X e te) (hb : attributeBase e n X.env (eval e X.env) = eval e X.env := by rfl) : PE X (.Attribute e n pos) (tOfl K n te) := by
  subst hK
  refine ⟨fun pins s σ H Q I h => ?_⟩
  refine attr_of hb (thn (he.run pins s σ H _ I h) fun u s1 ⟨x, H1, I1, rx, a, C, fs, v, ex, hA, T, hno, l, q⟩ => ?_)
  subst ex
  obtain rfl : u = Value.ref a := rx
  rcases hA with ⟨_, e⟩ | ⟨dx, ha, ed⟩
  · rw [e] at l
    cases l
  · obtain ⟨t1, ho⟩ := exo_at I1.hok ha
    obtain ⟨mA, hns, hr⟩ := exd_at I1.hok ed
    obtain ⟨od, hod, hl⟩ := lookIn_ns hns
    obtain ⟨u, hu, ru⟩ := RelO.some_of (v := v) (o := mA n) (by rw [← l]; exact hr n)
    have J : PySem.W.InstAt s1.heap a _ C (some od) := ⟨ho, rfl, rfl, hod⟩
    exact HandSPX.exc_get I1.kIn J T.ga T.gg T.exC (PySem.W.findObj_own T.hdC hno rfl (by rw [hl, hu])) (handed_of ru) ⟨v, H1, I1.tok _, ru, q⟩
theorem K_isiO (hK : X.K = K) : CallR X (.builtin "isinstance") (rIsiO K) := by
  subst hK
  rintro pins s σ H xs us Q I r ⟨a, C, fs, c, cv, b, rfl, hA, T, k, e, q⟩
  obtain ⟨u1, u2, rfl, r1, r2⟩ := vals2 r
  cases (show u1 = Value.ref a from r1)
  have e2 := k.eq r2
  subst e2
  obtain ⟨oe, od, J⟩ := exat_inst I hA
  obtain ⟨cd, hc, _⟩ := PySem.W.any_some T.hd
  exact PySem.W.kia_one (PySem.W.kitx_exc (by rw [hc]; rfl) T.hg T.hk T.hs T.ha T.hn T.ht T.hm) I.kIn J e (fun z => nomatch z) fun tk => ⟨.bl b, H, I.kept (t' := tk) fun _ _ z => z, rfl, q⟩
end
section
variable {K : PySem.W.Frag} {H : Hp} {Q : VK} {C a : Addr} {fs : List (Str × V)} {f : Str} {v c : V} {cv : Value} {b : Bool} {te : TE} {σ : L2.St}
theorem r_ofl (q : te σ H (kOfl K f Q)) : tOfl K f te σ H Q := q
theorem r_kOfl (h : ExAt C H a fs) (T : XfC K C) (n : PySem.W.findIn K (.ref C) f = some none) (l : fs.lookup f = some v) (q : Q v H) : kOfl K f Q (.ref a) H := ⟨a, C, fs, v, rfl, h, T, n, l, q⟩
theorem r_isiO (h : ExAt C H a fs) (T : ExcC K C) (k : ClsV c cv) (e : PySem.W.kitOne K (.ref C) cv = some b) (q : Q (.bl b) H) : rIsiO K [.ref a, c] H Q := ⟨a, C, fs, c, cv, b, rfl, h, T, k, e, q⟩
end
/-! ### __init__ of such a class: its fields are what was passed -/
structure SFunB (P : Program) (K : PySem.W.Frag) (mg : Str → Option Value) (qual : Str) (st : Stmt) (C f : Addr) (fd : FuncData) (B newId initId : String) (tl : List Value) : Prop where
  ex : ∃ (oc kV doc pm ct cl : Value) (od an cld : Option Addr) (cda cc : Addr) (osl csl : Array (Option Value)), fd = PySem.W.ksFn "__init__" qual (defArgs st) (defBody st) (defScope st) .none kV doc pm an (.ref cda) ct cc ∧
    K.lookup f = some ⟨oc, od, .func (PySem.W.ksFn "__init__" qual (defArgs st) (defBody st) (defScope st) .none kV doc pm an (.ref cda) ct cc), osl⟩ ∧ PySem.W.codeIn K (.ref cda) qual = true ∧ K.lookup cc = some ⟨cl, cld, .cell (some (.ref C)), csl⟩ ∧ SupCB P K mg C cda B newId initId tl
def sp_ev (fs : List Str) (C : Addr) : Sp := fun vs H Q _ => ∃ (a : Addr) (us : List V), vs = .ref a :: us ∧ us.length = fs.length ∧ H a = some (exo a C none) ∧ ∀ H', Kp [a] H H' → ExAt C H' a (fs.zip us).reverse → Q .non H'
theorem r_kMkE {n : Nat} {gV : List V → List V} {C : Addr} {fs : List Str} {Q : VK} {us : List V} {H : Hp} (hn : us.length = n) (h : (gV us).length = fs.length) (h9 : fs.length ≤ 1000) (q : ∀ a H', H a = none → Kp [] H H' → ExAt C H' a (fs.zip (gV us)).reverse → Q (.ref a) H') : kMkV n gV C (sp_ev fs C) Q us H :=
  r_kMkV hn (by rw [h]; exact h9) fun a H1 na k e => ⟨a, gV us, rfl, h, e, fun H2 k2 x => r_kMade (q a H2 na (k.nil.trans k2 |>.drop na) x)⟩
end Rd

set_option maxHeartbeats 4000000
/-! ExcW: families of exception classes: what their lookups tell (isinstance among them). -/
namespace Rd
open PySem PySem.Spec L2 NdefX PyProof.Rows
structure ExL (K : PySem.W.Frag) (nm : Str) (C : Addr) (bm : List Value) (newId : String) : Prop where
  ex : ∃ q N bs sn sub ab col dd k0 k1 k2 k3 k5, K.lookup C = some (excClassObj nm q C N bs bm true sn sub ab col dd k0 k1 k2 k3 k5 newId)
section
variable {K : PySem.W.Frag} {nm nm' : Str} {C D : Addr} {bm bm' : List Value} {n n' : String}
theorem ExL.cls (h : ExL K nm C bm n) : ∃ bs N q sn sub ab col, PySem.W.clsIn K C = some { name := nm, bases := bs, mro := .ref C :: bm, ns := N, qualname := q, hasDict := true, slotNames := sn, subclasses := sub, abstract := ab, collection := col, hasDel := false } := by
  obtain ⟨q, N, bs, sn, sub, ab, col, dd, k0, k1, k2, k3, k5, e⟩ := h.ex
  refine ⟨bs, N, q, sn, sub, ab, col, ?_⟩
  unfold PySem.W.clsIn
  rw [e] <;> rfl
theorem ExL.mro (h : ExL K nm C bm n) (v : Value) : PySem.W.mroIn K C v = some ((Value.ref C :: bm).contains v) := by
  obtain ⟨bs, N, q, sn, sub, ab, col, e⟩ := h.cls
  unfold PySem.W.mroIn
  rw [e]
  rfl
theorem ExL.sub (h : ExL K nm C bm n) (v : Value) : PySem.W.subIn K (.ref C) v = some ((Value.ref C :: bm).contains v) := h.mro v
theorem ExL.ty (h : ExL K nm C bm n) : PySem.W.typeIn K (.ref C) = some (.type "type") := by
  obtain ⟨q, N, bs, sn, sub, ab, col, dd, k0, k1, k2, k3, k5, e⟩ := h.ex
  show (K.lookup C).map (·.cls) = _
  rw [e]
  rfl
theorem ExL.hd (h : ExL K nm C bm n) : PySem.W.hasDictIn K C = true := by
  obtain ⟨bs, N, q, sn, sub, ab, col, e⟩ := h.cls
  unfold PySem.W.hasDictIn
  rw [e]
  rfl
theorem ExL.ne (h : ExL K nm C bm n) (h' : ExL K nm' D bm' n') (m : nm ≠ nm') : C ≠ D := by
  rintro rfl
  obtain ⟨q, N, bs, sn, sub, ab, col, dd, k0, k1, k2, k3, k5, e⟩ := h.ex
  obtain ⟨q', N', bs', sn', sub', ab', col', dd', j0, j1, j2, j3, j5, e'⟩ := h'.ex
  rw [e] at e'
  injection e' with e'
  injection e' with _ _ e' _
  injection e' with e'
  injection e' with e' _
  exact m e'
theorem ref_beq {a b : Addr} : (Value.ref a == Value.ref b) = decide (a = b) := by
  by_cases c : a = b
  · subst c
    rw [decide_eq_true rfl]
    exact beq_self_eq_true _
  · rw [decide_eq_false c]
    exact beq_eq_false_iff_ne.mpr fun e => c (Value.ref.inj e)
theorem ExL.kit (h : ExL K nm C bm n) (h' : ExL K nm' D bm' n') : PySem.W.kitOne K (.ref C) (.ref D) = some ((Value.ref C :: bm).contains (.ref D)) := by
  unfold PySem.W.kitOne
  by_cases c : C = D
  · subst c
    rw [if_pos (beq_self_eq_true _), List.contains_cons, beq_self_eq_true]
    rfl
  · rw [if_neg (by rw [ref_beq, decide_eq_false c]; decide)]
    obtain ⟨bs, N, q, sn, sub, ab, col, e⟩ := h'.cls
    show (if ((PySem.W.clsIn K D).isSome && PySem.W.typeIn K (.ref D) == some (.type "type")) = true then PySem.W.subIn K (.ref C) (.ref D) else none) = _
    rw [e, h'.ty, h.sub, if_pos]
    exact beq_self_eq_true _
theorem ExL.kitT (h : ExL K nm C bm n) {T : String} (m : PySem.W.kitMeta T = true) : PySem.W.kitOne K (.ref C) (.type T) = some ((Value.ref C :: bm).contains (.type T)) := by
  unfold PySem.W.kitOne
  rw [if_neg (by
    have e : (Value.ref C == Value.type T) = false := beq_eq_false_iff_ne.mpr fun e => nomatch e
    rw [e]
    decide)]
  show (if PySem.W.kitMeta T = true then PySem.W.subIn K (.ref C) (.type T) else none) = _
  rw [if_pos m, h.sub]
end
end Rd

namespace My
open PySem L2 Rd StX
def top (i : Nat) : Stmt := PySem.Challenge.pw_silentswaps_k21_errors_made.main.body.getD i (.Pass ⟨0, 0, 0, 0⟩)
local macro_rules | `(tactic| walk_at "s") => `(tactic| (first
  | (with_reducible refine r_seq ?_)
  | (with_reducible refine r_asg ?_)
  | ((with_reducible refine' r_var (v := ?v) ?hv ?_); (case hv => exact rfl))
  | (with_reducible refine r_c ?_)
  | (with_reducible refine r_name ?_)
  | (with_reducible refine r_op ?_)
  | (with_reducible refine r_un ?_)
  | (with_reducible refine r_consA ?_)
  | (with_reducible refine r_nilA ?_)
  | (with_reducible refine r_I0 ?_)
  | (with_reducible refine r_U ?_)
  | (with_reducible refine r_eqI ?_)
  | (with_reducible refine r_neI ?_)
  | (with_reducible refine r_test ?_)
  | (with_reducible refine r_tB ?_)
  | (with_reducible refine r_kB ?_)
  | (with_reducible refine r_ifS ?_)
  | (with_reducible refine r_if ?_)
  | (with_reducible refine r_and ?_)
  | (with_reducible refine r_or ?_)
  | (with_reducible refine r_not ?_)
  | (with_reducible refine r_ret ?_)
  | (with_reducible refine r_retN ?_)
  | (with_reducible refine r_next ?_)
  | (with_reducible refine r_drop ?_)
  | (with_reducible refine r_brk ?_)
  | (with_reducible refine r_cont ?_)
  | (with_reducible refine r_andV ?_)
  | (with_reducible refine r_orV ?_)
  | (with_reducible refine r_notV ?_)
  | (with_reducible refine r_kNotV ?_)
  | (with_reducible refine r_lst ?_)
  | (with_reducible refine r_tup ?_)
  | (with_reducible refine r_dget ?_)
  | (with_reducible refine r_dput ?_)
  | (with_reducible refine r_use ?_)
  | (with_reducible refine r_cb ?_)
  | (with_reducible refine r_par ?_)
  | (with_reducible refine r_int ?_)
  | (with_reducible refine r_abs ?_)
  | (with_reducible refine r_max2 ?_)
  | (with_reducible refine r_min2 ?_)
  | (with_reducible refine r_pnil ?_)
  | (with_reducible refine r_pcons ?_)
  | (with_reducible refine r_eqS ?_)
  | (with_reducible refine r_neS ?_)
  | (with_reducible refine r_for ?_)
  | (with_reducible refine r_rng1 ?_)
  | (with_reducible refine r_rng2 ?_)
  | (with_reducible refine r_wl ?_)
  | (with_reducible refine r_wt ?_)
  | (with_reducible refine r_wq ?_)
  | (with_reducible refine r_ws ?_)
  | (with_reducible refine r_cWS ?_)
  | (with_reducible refine r_enum ?_)
  | (with_reducible refine r_zip ?_)
  | (with_reducible refine r_lc ?_)
  | (with_reducible refine r_dc ?_)
  | ((with_reducible refine r_kTurn ?ht ?_); (case ht => rfl))
  | ((with_reducible refine r_kTurnD ?ht ?_); (case ht => rfl))
  | (with_reducible refine r_yes ?_)
  | ((with_reducible refine r_kKeep1 ?hk ?_); (case hk => rfl))
  | ((with_reducible refine r_kKeepD1 ?hk ?_); (case hk => rfl))
  | (with_reducible refine r_gcons ?_)
  | (with_reducible refine r_gnil ?_)
  | (with_reducible refine r_bm ?_)
  | (with_reducible refine r_bm0 ?_)
  | (with_reducible refine r_fld ?_)
  | (with_reducible refine r_sfld ?_)
  | (with_reducible refine r_methR ?_)
  | (with_reducible refine r_makeR ?_)
  | (with_reducible refine r_chain ?_)))
local macro_rules | `(tactic| walk_at "S") => `(tactic| repeat walk_at "s")
local macro_rules | `(tactic| walk_at "D") => `(tactic| repeat' (first
  | exact AD_nil
  | refine AD_cons ?_ (fun _ _ => ?_)
  | refine ED_tup ?_ (Nat.le_trans (m := 100) (Nat.le_of_ble_eq_true rfl) (by decide))
  | refine ED_lst ?_ (Nat.le_trans (m := 100) (Nat.le_of_ble_eq_true rfl) (by decide))
  | exact ED_c (by constructor)
  | exact ED_var rfl (by constructor)))
local macro_rules | `(tactic| walk_at "N") => `(tactic| repeat' (first
  | exact AN_nil
  | refine AN_cons ?_ (fun _ _ => ?_)
  | refine EN_tup ?_ (Nat.le_trans (m := 100) (Nat.le_of_ble_eq_true rfl) (by decide))
  | refine EN_lst ?_ (Nat.le_trans (m := 100) (Nat.le_of_ble_eq_true rfl) (by decide))
  | exact EN_c (fun _ => by constructor)
  | exact EN_var rfl (fun _ => by constructor)))

/-- what the walk asks of the module's names -/
structure Txt (K : PySem.W.Frag) (mg : Str → Option Value) (C_SilentswapsError : Addr) (C_BadCall : Addr) (C_BadFunction : Addr) (C_BadKinds : Addr) (C_BadLine : Addr) (C_BadPlan : Addr) (C_BadPromise : Addr) (C_BadSlip : Addr) (C_BadValues : Addr) (C_HasStars : Addr) (C_Refused : Addr) (C_TooMany : Addr) (C_Unlike : Addr) (C_Untested : Addr) (C_NoFunction : Addr) (C_NoPlace : Addr) (C_NoRow : Addr) (C_Over : Addr) : Prop where
  z_ValueError : mg "ValueError" = none
  z_LookupError : mg "LookupError" = none
  z_RuntimeError : mg "RuntimeError" = none
  z_range : mg "range" = none
  z_abs : mg "abs" = none
  z_int : mg "int" = none
  z_isinstance : mg "isinstance" = none
  z_max : mg "max" = none
  z_len : mg "len" = none
  z_min : mg "min" = none
  z_super : mg "super" = none
  z_bool : mg "bool" = none
  v_SilentswapsError : ∃ u, mg "SilentswapsError" = some u ∧ RelV (.ref C_SilentswapsError) u
  v_BadCall : ∃ u, mg "BadCall" = some u ∧ RelV (.ref C_BadCall) u
  v_BadFunction : ∃ u, mg "BadFunction" = some u ∧ RelV (.ref C_BadFunction) u
  v_BadKinds : ∃ u, mg "BadKinds" = some u ∧ RelV (.ref C_BadKinds) u
  v_BadLine : ∃ u, mg "BadLine" = some u ∧ RelV (.ref C_BadLine) u
  v_BadPlan : ∃ u, mg "BadPlan" = some u ∧ RelV (.ref C_BadPlan) u
  v_BadPromise : ∃ u, mg "BadPromise" = some u ∧ RelV (.ref C_BadPromise) u
  v_BadSlip : ∃ u, mg "BadSlip" = some u ∧ RelV (.ref C_BadSlip) u
  v_BadValues : ∃ u, mg "BadValues" = some u ∧ RelV (.ref C_BadValues) u
  v_HasStars : ∃ u, mg "HasStars" = some u ∧ RelV (.ref C_HasStars) u
  v_Refused : ∃ u, mg "Refused" = some u ∧ RelV (.ref C_Refused) u
  v_TooMany : ∃ u, mg "TooMany" = some u ∧ RelV (.ref C_TooMany) u
  v_Unlike : ∃ u, mg "Unlike" = some u ∧ RelV (.ref C_Unlike) u
  v_Untested : ∃ u, mg "Untested" = some u ∧ RelV (.ref C_Untested) u
  v_NoFunction : ∃ u, mg "NoFunction" = some u ∧ RelV (.ref C_NoFunction) u
  v_NoPlace : ∃ u, mg "NoPlace" = some u ∧ RelV (.ref C_NoPlace) u
  v_NoRow : ∃ u, mg "NoRow" = some u ∧ RelV (.ref C_NoRow) u
  v_Over : ∃ u, mg "Over" = some u ∧ RelV (.ref C_Over) u
  e_BadCall : ExL K "BadCall" C_BadCall [.ref C_SilentswapsError, .type "ValueError", .type "Exception", .type "BaseException", .type "object"] "ValueError.__new__"
  i_BadCall : ExcC K C_BadCall
  x_BadCall : XfC K C_BadCall
  n_BadCall_index : PySem.W.findIn K (.ref C_BadCall) "index" = some none
  e_BadFunction : ExL K "BadFunction" C_BadFunction [.ref C_SilentswapsError, .type "ValueError", .type "Exception", .type "BaseException", .type "object"] "ValueError.__new__"
  i_BadFunction : ExcC K C_BadFunction
  x_BadFunction : XfC K C_BadFunction
  n_BadFunction_name : PySem.W.findIn K (.ref C_BadFunction) "name" = some none
  e_BadKinds : ExL K "BadKinds" C_BadKinds [.ref C_SilentswapsError, .type "ValueError", .type "Exception", .type "BaseException", .type "object"] "ValueError.__new__"
  i_BadKinds : ExcC K C_BadKinds
  x_BadKinds : XfC K C_BadKinds
  n_BadKinds_at : PySem.W.findIn K (.ref C_BadKinds) "at" = some none
  e_BadLine : ExL K "BadLine" C_BadLine [.ref C_SilentswapsError, .type "ValueError", .type "Exception", .type "BaseException", .type "object"] "ValueError.__new__"
  i_BadLine : ExcC K C_BadLine
  x_BadLine : XfC K C_BadLine
  n_BadLine_at : PySem.W.findIn K (.ref C_BadLine) "at" = some none
  e_BadPlan : ExL K "BadPlan" C_BadPlan [.ref C_SilentswapsError, .type "ValueError", .type "Exception", .type "BaseException", .type "object"] "ValueError.__new__"
  i_BadPlan : ExcC K C_BadPlan
  x_BadPlan : XfC K C_BadPlan
  n_BadPlan_plan : PySem.W.findIn K (.ref C_BadPlan) "plan" = some none
  e_BadPromise : ExL K "BadPromise" C_BadPromise [.ref C_SilentswapsError, .type "ValueError", .type "Exception", .type "BaseException", .type "object"] "ValueError.__new__"
  i_BadPromise : ExcC K C_BadPromise
  x_BadPromise : XfC K C_BadPromise
  n_BadPromise_promise : PySem.W.findIn K (.ref C_BadPromise) "promise" = some none
  e_BadSlip : ExL K "BadSlip" C_BadSlip [.ref C_SilentswapsError, .type "ValueError", .type "Exception", .type "BaseException", .type "object"] "ValueError.__new__"
  i_BadSlip : ExcC K C_BadSlip
  x_BadSlip : XfC K C_BadSlip
  n_BadSlip_what : PySem.W.findIn K (.ref C_BadSlip) "what" = some none
  e_BadValues : ExL K "BadValues" C_BadValues [.ref C_SilentswapsError, .type "ValueError", .type "Exception", .type "BaseException", .type "object"] "ValueError.__new__"
  i_BadValues : ExcC K C_BadValues
  x_BadValues : XfC K C_BadValues
  n_BadValues_at : PySem.W.findIn K (.ref C_BadValues) "at" = some none
  e_HasStars : ExL K "HasStars" C_HasStars [.ref C_SilentswapsError, .type "ValueError", .type "Exception", .type "BaseException", .type "object"] "ValueError.__new__"
  i_HasStars : ExcC K C_HasStars
  x_HasStars : XfC K C_HasStars
  n_HasStars_name : PySem.W.findIn K (.ref C_HasStars) "name" = some none
  e_Refused : ExL K "Refused" C_Refused [.ref C_SilentswapsError, .type "ValueError", .type "Exception", .type "BaseException", .type "object"] "ValueError.__new__"
  i_Refused : ExcC K C_Refused
  x_Refused : XfC K C_Refused
  n_Refused_door : PySem.W.findIn K (.ref C_Refused) "door" = some none
  e_TooMany : ExL K "TooMany" C_TooMany [.ref C_SilentswapsError, .type "ValueError", .type "Exception", .type "BaseException", .type "object"] "ValueError.__new__"
  i_TooMany : ExcC K C_TooMany
  x_TooMany : XfC K C_TooMany
  n_TooMany_what : PySem.W.findIn K (.ref C_TooMany) "what" = some none
  e_Unlike : ExL K "Unlike" C_Unlike [.ref C_SilentswapsError, .type "ValueError", .type "Exception", .type "BaseException", .type "object"] "ValueError.__new__"
  i_Unlike : ExcC K C_Unlike
  x_Unlike : XfC K C_Unlike
  e_Untested : ExL K "Untested" C_Untested [.ref C_SilentswapsError, .type "ValueError", .type "Exception", .type "BaseException", .type "object"] "ValueError.__new__"
  i_Untested : ExcC K C_Untested
  x_Untested : XfC K C_Untested
  n_Untested_promise : PySem.W.findIn K (.ref C_Untested) "promise" = some none
  e_NoFunction : ExL K "NoFunction" C_NoFunction [.type "LookupError", .type "Exception", .type "BaseException", .type "object"] "LookupError.__new__"
  i_NoFunction : ExcC K C_NoFunction
  x_NoFunction : XfC K C_NoFunction
  n_NoFunction_name : PySem.W.findIn K (.ref C_NoFunction) "name" = some none
  e_NoPlace : ExL K "NoPlace" C_NoPlace [.type "LookupError", .type "Exception", .type "BaseException", .type "object"] "LookupError.__new__"
  i_NoPlace : ExcC K C_NoPlace
  x_NoPlace : XfC K C_NoPlace
  n_NoPlace_what : PySem.W.findIn K (.ref C_NoPlace) "what" = some none
  e_NoRow : ExL K "NoRow" C_NoRow [.type "LookupError", .type "Exception", .type "BaseException", .type "object"] "LookupError.__new__"
  i_NoRow : ExcC K C_NoRow
  x_NoRow : XfC K C_NoRow
  n_NoRow_name : PySem.W.findIn K (.ref C_NoRow) "name" = some none
  n_NoRow_row : PySem.W.findIn K (.ref C_NoRow) "row" = some none
  e_Over : ExL K "Over" C_Over [.type "RuntimeError", .type "Exception", .type "BaseException", .type "object"] "RuntimeError.__new__"
  i_Over : ExcC K C_Over
  x_Over : XfC K C_Over
  e_SilentswapsError : ExL K "SilentswapsError" C_SilentswapsError [.type "ValueError", .type "Exception", .type "BaseException", .type "object"] "ValueError.__new__"
section
variable {P : Program} {w : World} {K : PySem.W.Frag} {mg : Str → Option Value} {base : Heap}
variable {C_SilentswapsError : Addr} {C_BadCall : Addr} {C_BadFunction : Addr} {C_BadKinds : Addr} {C_BadLine : Addr} {C_BadPlan : Addr} {C_BadPromise : Addr} {C_BadSlip : Addr} {C_BadValues : Addr} {C_HasStars : Addr} {C_Refused : Addr} {C_TooMany : Addr} {C_Unlike : Addr} {C_Untested : Addr} {C_NoFunction : Addr} {C_NoPlace : Addr} {C_NoRow : Addr} {C_Over : Addr}

open NdefX PyProof.Rows
local macro_rules | `(tactic| walk_at "s") => `(tactic| (first
  | (with_reducible refine r_mkV ?_)
  | (with_reducible refine r_ofl ?_)))

theorem evl_0 {us : List V} (h : us.length = 0) : us = [] := List.length_eq_zero_iff.mp h
theorem evl_1 {us : List V} (h : us.length = 1) : ∃ u, us = [u] := by
  match us, h with
  | [u], _ => exact ⟨u, rfl⟩
theorem evl_2 {us : List V} (h : us.length = 2) : ∃ u v, us = [u, v] := by
  match us, h with
  | [u, v], _ => exact ⟨u, v, rfl⟩

abbrev s_BadCall___init__ : Stmt := inClass (top 6) 0
theorem ok_BadCall___init__ {f : Addr} {fd : FuncData} {C : Addr} (F : SFunB P K mg "BadCall.__init__" s_BadCall___init__ C f fd "ValueError" "ValueError.__new__" "ValueError.__init__" [.type "ValueError", .type "Exception", .type "BaseException", .type "object"]) (n0 : PySem.W.findIn K (.ref C) "index" = some none) : FnOk P w K mg base CX0 1 f fd ["self", "index"] (sp_ev ["index"] C) := by
  obtain ⟨oc, kV, doc, pm, ct, cl, od, an, cld, cda, cc, osl, csl, rfl, lk, hcd, cell, Z⟩ := F.ex
  refine fn_sup (N := ["self", "index", "__class__"]) lk hcd cell (nscope_by (by decide +kernel)) (fun vs H Q E h => ?_) (fun A outer s H vs Q E hr h => ?_)
  · obtain ⟨a, us, rfl, hl, _⟩ := h
    exact congrArg Nat.succ hl
  · obtain ⟨a, us, rfl, hl, ha, q⟩ := h
    obtain ⟨u0, rfl⟩ := evl_1 hl
    exact ⟨_, qs_supB (params := defArgs s_BadCall___init__) (body := defBody s_BadCall___init__) (scope := defScope s_BadCall___init__) (pl := _) base_VE lk cell Z rfl rfl rfl rfl rfl rfl rfl rfl rfl rfl (qs_of (pss_one (ps_ostB base_VE (pv 0) (pv 1) rfl))), r_sup rfl ha (r_ostB rfl rfl Z.oex n0 ha fun dx H' nd ne k e1 e2 => q H' k (.inr ⟨dx, e1, e2⟩))⟩
abbrev s_BadFunction___init__ : Stmt := inClass (top 4) 0
theorem ok_BadFunction___init__ {f : Addr} {fd : FuncData} {C : Addr} (F : SFunB P K mg "BadFunction.__init__" s_BadFunction___init__ C f fd "ValueError" "ValueError.__new__" "ValueError.__init__" [.type "ValueError", .type "Exception", .type "BaseException", .type "object"]) (n0 : PySem.W.findIn K (.ref C) "name" = some none) : FnOk P w K mg base CX0 1 f fd ["self", "name"] (sp_ev ["name"] C) := by
  obtain ⟨oc, kV, doc, pm, ct, cl, od, an, cld, cda, cc, osl, csl, rfl, lk, hcd, cell, Z⟩ := F.ex
  refine fn_sup (N := ["self", "name", "__class__"]) lk hcd cell (nscope_by (by decide +kernel)) (fun vs H Q E h => ?_) (fun A outer s H vs Q E hr h => ?_)
  · obtain ⟨a, us, rfl, hl, _⟩ := h
    exact congrArg Nat.succ hl
  · obtain ⟨a, us, rfl, hl, ha, q⟩ := h
    obtain ⟨u0, rfl⟩ := evl_1 hl
    exact ⟨_, qs_supB (params := defArgs s_BadFunction___init__) (body := defBody s_BadFunction___init__) (scope := defScope s_BadFunction___init__) (pl := _) base_VE lk cell Z rfl rfl rfl rfl rfl rfl rfl rfl rfl rfl (qs_of (pss_one (ps_ostB base_VE (pv 0) (pv 1) rfl))), r_sup rfl ha (r_ostB rfl rfl Z.oex n0 ha fun dx H' nd ne k e1 e2 => q H' k (.inr ⟨dx, e1, e2⟩))⟩
abbrev s_BadKinds___init__ : Stmt := inClass (top 2) 0
theorem ok_BadKinds___init__ {f : Addr} {fd : FuncData} {C : Addr} (F : SFunB P K mg "BadKinds.__init__" s_BadKinds___init__ C f fd "ValueError" "ValueError.__new__" "ValueError.__init__" [.type "ValueError", .type "Exception", .type "BaseException", .type "object"]) (n0 : PySem.W.findIn K (.ref C) "at" = some none) : FnOk P w K mg base CX0 1 f fd ["self", "at"] (sp_ev ["at"] C) := by
  obtain ⟨oc, kV, doc, pm, ct, cl, od, an, cld, cda, cc, osl, csl, rfl, lk, hcd, cell, Z⟩ := F.ex
  refine fn_sup (N := ["self", "at", "__class__"]) lk hcd cell (nscope_by (by decide +kernel)) (fun vs H Q E h => ?_) (fun A outer s H vs Q E hr h => ?_)
  · obtain ⟨a, us, rfl, hl, _⟩ := h
    exact congrArg Nat.succ hl
  · obtain ⟨a, us, rfl, hl, ha, q⟩ := h
    obtain ⟨u0, rfl⟩ := evl_1 hl
    exact ⟨_, qs_supB (params := defArgs s_BadKinds___init__) (body := defBody s_BadKinds___init__) (scope := defScope s_BadKinds___init__) (pl := _) base_VE lk cell Z rfl rfl rfl rfl rfl rfl rfl rfl rfl rfl (qs_of (pss_one (ps_ostB base_VE (pv 0) (pv 1) rfl))), r_sup rfl ha (r_ostB rfl rfl Z.oex n0 ha fun dx H' nd ne k e1 e2 => q H' k (.inr ⟨dx, e1, e2⟩))⟩
abbrev s_BadLine___init__ : Stmt := inClass (top 3) 0
theorem ok_BadLine___init__ {f : Addr} {fd : FuncData} {C : Addr} (F : SFunB P K mg "BadLine.__init__" s_BadLine___init__ C f fd "ValueError" "ValueError.__new__" "ValueError.__init__" [.type "ValueError", .type "Exception", .type "BaseException", .type "object"]) (n0 : PySem.W.findIn K (.ref C) "at" = some none) : FnOk P w K mg base CX0 1 f fd ["self", "at"] (sp_ev ["at"] C) := by
  obtain ⟨oc, kV, doc, pm, ct, cl, od, an, cld, cda, cc, osl, csl, rfl, lk, hcd, cell, Z⟩ := F.ex
  refine fn_sup (N := ["self", "at", "__class__"]) lk hcd cell (nscope_by (by decide +kernel)) (fun vs H Q E h => ?_) (fun A outer s H vs Q E hr h => ?_)
  · obtain ⟨a, us, rfl, hl, _⟩ := h
    exact congrArg Nat.succ hl
  · obtain ⟨a, us, rfl, hl, ha, q⟩ := h
    obtain ⟨u0, rfl⟩ := evl_1 hl
    exact ⟨_, qs_supB (params := defArgs s_BadLine___init__) (body := defBody s_BadLine___init__) (scope := defScope s_BadLine___init__) (pl := _) base_VE lk cell Z rfl rfl rfl rfl rfl rfl rfl rfl rfl rfl (qs_of (pss_one (ps_ostB base_VE (pv 0) (pv 1) rfl))), r_sup rfl ha (r_ostB rfl rfl Z.oex n0 ha fun dx H' nd ne k e1 e2 => q H' k (.inr ⟨dx, e1, e2⟩))⟩
abbrev s_BadPlan___init__ : Stmt := inClass (top 9) 0
theorem ok_BadPlan___init__ {f : Addr} {fd : FuncData} {C : Addr} (F : SFunB P K mg "BadPlan.__init__" s_BadPlan___init__ C f fd "ValueError" "ValueError.__new__" "ValueError.__init__" [.type "ValueError", .type "Exception", .type "BaseException", .type "object"]) (n0 : PySem.W.findIn K (.ref C) "plan" = some none) : FnOk P w K mg base CX0 1 f fd ["self", "plan"] (sp_ev ["plan"] C) := by
  obtain ⟨oc, kV, doc, pm, ct, cl, od, an, cld, cda, cc, osl, csl, rfl, lk, hcd, cell, Z⟩ := F.ex
  refine fn_sup (N := ["self", "plan", "__class__"]) lk hcd cell (nscope_by (by decide +kernel)) (fun vs H Q E h => ?_) (fun A outer s H vs Q E hr h => ?_)
  · obtain ⟨a, us, rfl, hl, _⟩ := h
    exact congrArg Nat.succ hl
  · obtain ⟨a, us, rfl, hl, ha, q⟩ := h
    obtain ⟨u0, rfl⟩ := evl_1 hl
    exact ⟨_, qs_supB (params := defArgs s_BadPlan___init__) (body := defBody s_BadPlan___init__) (scope := defScope s_BadPlan___init__) (pl := _) base_VE lk cell Z rfl rfl rfl rfl rfl rfl rfl rfl rfl rfl (qs_of (pss_one (ps_ostB base_VE (pv 0) (pv 1) rfl))), r_sup rfl ha (r_ostB rfl rfl Z.oex n0 ha fun dx H' nd ne k e1 e2 => q H' k (.inr ⟨dx, e1, e2⟩))⟩
abbrev s_BadPromise___init__ : Stmt := inClass (top 8) 0
theorem ok_BadPromise___init__ {f : Addr} {fd : FuncData} {C : Addr} (F : SFunB P K mg "BadPromise.__init__" s_BadPromise___init__ C f fd "ValueError" "ValueError.__new__" "ValueError.__init__" [.type "ValueError", .type "Exception", .type "BaseException", .type "object"]) (n0 : PySem.W.findIn K (.ref C) "promise" = some none) : FnOk P w K mg base CX0 1 f fd ["self", "promise"] (sp_ev ["promise"] C) := by
  obtain ⟨oc, kV, doc, pm, ct, cl, od, an, cld, cda, cc, osl, csl, rfl, lk, hcd, cell, Z⟩ := F.ex
  refine fn_sup (N := ["self", "promise", "__class__"]) lk hcd cell (nscope_by (by decide +kernel)) (fun vs H Q E h => ?_) (fun A outer s H vs Q E hr h => ?_)
  · obtain ⟨a, us, rfl, hl, _⟩ := h
    exact congrArg Nat.succ hl
  · obtain ⟨a, us, rfl, hl, ha, q⟩ := h
    obtain ⟨u0, rfl⟩ := evl_1 hl
    exact ⟨_, qs_supB (params := defArgs s_BadPromise___init__) (body := defBody s_BadPromise___init__) (scope := defScope s_BadPromise___init__) (pl := _) base_VE lk cell Z rfl rfl rfl rfl rfl rfl rfl rfl rfl rfl (qs_of (pss_one (ps_ostB base_VE (pv 0) (pv 1) rfl))), r_sup rfl ha (r_ostB rfl rfl Z.oex n0 ha fun dx H' nd ne k e1 e2 => q H' k (.inr ⟨dx, e1, e2⟩))⟩
abbrev s_BadSlip___init__ : Stmt := inClass (top 7) 0
theorem ok_BadSlip___init__ {f : Addr} {fd : FuncData} {C : Addr} (F : SFunB P K mg "BadSlip.__init__" s_BadSlip___init__ C f fd "ValueError" "ValueError.__new__" "ValueError.__init__" [.type "ValueError", .type "Exception", .type "BaseException", .type "object"]) (n0 : PySem.W.findIn K (.ref C) "what" = some none) : FnOk P w K mg base CX0 1 f fd ["self", "what"] (sp_ev ["what"] C) := by
  obtain ⟨oc, kV, doc, pm, ct, cl, od, an, cld, cda, cc, osl, csl, rfl, lk, hcd, cell, Z⟩ := F.ex
  refine fn_sup (N := ["self", "what", "__class__"]) lk hcd cell (nscope_by (by decide +kernel)) (fun vs H Q E h => ?_) (fun A outer s H vs Q E hr h => ?_)
  · obtain ⟨a, us, rfl, hl, _⟩ := h
    exact congrArg Nat.succ hl
  · obtain ⟨a, us, rfl, hl, ha, q⟩ := h
    obtain ⟨u0, rfl⟩ := evl_1 hl
    exact ⟨_, qs_supB (params := defArgs s_BadSlip___init__) (body := defBody s_BadSlip___init__) (scope := defScope s_BadSlip___init__) (pl := _) base_VE lk cell Z rfl rfl rfl rfl rfl rfl rfl rfl rfl rfl (qs_of (pss_one (ps_ostB base_VE (pv 0) (pv 1) rfl))), r_sup rfl ha (r_ostB rfl rfl Z.oex n0 ha fun dx H' nd ne k e1 e2 => q H' k (.inr ⟨dx, e1, e2⟩))⟩
abbrev s_BadValues___init__ : Stmt := inClass (top 5) 0
theorem ok_BadValues___init__ {f : Addr} {fd : FuncData} {C : Addr} (F : SFunB P K mg "BadValues.__init__" s_BadValues___init__ C f fd "ValueError" "ValueError.__new__" "ValueError.__init__" [.type "ValueError", .type "Exception", .type "BaseException", .type "object"]) (n0 : PySem.W.findIn K (.ref C) "at" = some none) : FnOk P w K mg base CX0 1 f fd ["self", "at"] (sp_ev ["at"] C) := by
  obtain ⟨oc, kV, doc, pm, ct, cl, od, an, cld, cda, cc, osl, csl, rfl, lk, hcd, cell, Z⟩ := F.ex
  refine fn_sup (N := ["self", "at", "__class__"]) lk hcd cell (nscope_by (by decide +kernel)) (fun vs H Q E h => ?_) (fun A outer s H vs Q E hr h => ?_)
  · obtain ⟨a, us, rfl, hl, _⟩ := h
    exact congrArg Nat.succ hl
  · obtain ⟨a, us, rfl, hl, ha, q⟩ := h
    obtain ⟨u0, rfl⟩ := evl_1 hl
    exact ⟨_, qs_supB (params := defArgs s_BadValues___init__) (body := defBody s_BadValues___init__) (scope := defScope s_BadValues___init__) (pl := _) base_VE lk cell Z rfl rfl rfl rfl rfl rfl rfl rfl rfl rfl (qs_of (pss_one (ps_ostB base_VE (pv 0) (pv 1) rfl))), r_sup rfl ha (r_ostB rfl rfl Z.oex n0 ha fun dx H' nd ne k e1 e2 => q H' k (.inr ⟨dx, e1, e2⟩))⟩
abbrev s_HasStars___init__ : Stmt := inClass (top 12) 0
theorem ok_HasStars___init__ {f : Addr} {fd : FuncData} {C : Addr} (F : SFunB P K mg "HasStars.__init__" s_HasStars___init__ C f fd "ValueError" "ValueError.__new__" "ValueError.__init__" [.type "ValueError", .type "Exception", .type "BaseException", .type "object"]) (n0 : PySem.W.findIn K (.ref C) "name" = some none) : FnOk P w K mg base CX0 1 f fd ["self", "name"] (sp_ev ["name"] C) := by
  obtain ⟨oc, kV, doc, pm, ct, cl, od, an, cld, cda, cc, osl, csl, rfl, lk, hcd, cell, Z⟩ := F.ex
  refine fn_sup (N := ["self", "name", "__class__"]) lk hcd cell (nscope_by (by decide +kernel)) (fun vs H Q E h => ?_) (fun A outer s H vs Q E hr h => ?_)
  · obtain ⟨a, us, rfl, hl, _⟩ := h
    exact congrArg Nat.succ hl
  · obtain ⟨a, us, rfl, hl, ha, q⟩ := h
    obtain ⟨u0, rfl⟩ := evl_1 hl
    exact ⟨_, qs_supB (params := defArgs s_HasStars___init__) (body := defBody s_HasStars___init__) (scope := defScope s_HasStars___init__) (pl := _) base_VE lk cell Z rfl rfl rfl rfl rfl rfl rfl rfl rfl rfl (qs_of (pss_one (ps_ostB base_VE (pv 0) (pv 1) rfl))), r_sup rfl ha (r_ostB rfl rfl Z.oex n0 ha fun dx H' nd ne k e1 e2 => q H' k (.inr ⟨dx, e1, e2⟩))⟩
abbrev s_Refused___init__ : Stmt := inClass (top 14) 0
theorem ok_Refused___init__ {f : Addr} {fd : FuncData} {C : Addr} (F : SFunB P K mg "Refused.__init__" s_Refused___init__ C f fd "ValueError" "ValueError.__new__" "ValueError.__init__" [.type "ValueError", .type "Exception", .type "BaseException", .type "object"]) (n0 : PySem.W.findIn K (.ref C) "door" = some none) : FnOk P w K mg base CX0 1 f fd ["self", "door"] (sp_ev ["door"] C) := by
  obtain ⟨oc, kV, doc, pm, ct, cl, od, an, cld, cda, cc, osl, csl, rfl, lk, hcd, cell, Z⟩ := F.ex
  refine fn_sup (N := ["self", "door", "__class__"]) lk hcd cell (nscope_by (by decide +kernel)) (fun vs H Q E h => ?_) (fun A outer s H vs Q E hr h => ?_)
  · obtain ⟨a, us, rfl, hl, _⟩ := h
    exact congrArg Nat.succ hl
  · obtain ⟨a, us, rfl, hl, ha, q⟩ := h
    obtain ⟨u0, rfl⟩ := evl_1 hl
    exact ⟨_, qs_supB (params := defArgs s_Refused___init__) (body := defBody s_Refused___init__) (scope := defScope s_Refused___init__) (pl := _) base_VE lk cell Z rfl rfl rfl rfl rfl rfl rfl rfl rfl rfl (qs_of (pss_one (ps_ostB base_VE (pv 0) (pv 1) rfl))), r_sup rfl ha (r_ostB rfl rfl Z.oex n0 ha fun dx H' nd ne k e1 e2 => q H' k (.inr ⟨dx, e1, e2⟩))⟩
abbrev s_TooMany___init__ : Stmt := inClass (top 10) 0
theorem ok_TooMany___init__ {f : Addr} {fd : FuncData} {C : Addr} (F : SFunB P K mg "TooMany.__init__" s_TooMany___init__ C f fd "ValueError" "ValueError.__new__" "ValueError.__init__" [.type "ValueError", .type "Exception", .type "BaseException", .type "object"]) (n0 : PySem.W.findIn K (.ref C) "what" = some none) : FnOk P w K mg base CX0 1 f fd ["self", "what"] (sp_ev ["what"] C) := by
  obtain ⟨oc, kV, doc, pm, ct, cl, od, an, cld, cda, cc, osl, csl, rfl, lk, hcd, cell, Z⟩ := F.ex
  refine fn_sup (N := ["self", "what", "__class__"]) lk hcd cell (nscope_by (by decide +kernel)) (fun vs H Q E h => ?_) (fun A outer s H vs Q E hr h => ?_)
  · obtain ⟨a, us, rfl, hl, _⟩ := h
    exact congrArg Nat.succ hl
  · obtain ⟨a, us, rfl, hl, ha, q⟩ := h
    obtain ⟨u0, rfl⟩ := evl_1 hl
    exact ⟨_, qs_supB (params := defArgs s_TooMany___init__) (body := defBody s_TooMany___init__) (scope := defScope s_TooMany___init__) (pl := _) base_VE lk cell Z rfl rfl rfl rfl rfl rfl rfl rfl rfl rfl (qs_of (pss_one (ps_ostB base_VE (pv 0) (pv 1) rfl))), r_sup rfl ha (r_ostB rfl rfl Z.oex n0 ha fun dx H' nd ne k e1 e2 => q H' k (.inr ⟨dx, e1, e2⟩))⟩
abbrev s_Unlike___init__ : Stmt := inClass (top 11) 0
theorem ok_Unlike___init__ {f : Addr} {fd : FuncData} {C : Addr} (F : SFunB P K mg "Unlike.__init__" s_Unlike___init__ C f fd "ValueError" "ValueError.__new__" "ValueError.__init__" [.type "ValueError", .type "Exception", .type "BaseException", .type "object"]) : FnOk P w K mg base CX0 1 f fd ["self"] (sp_ev [] C) := by
  obtain ⟨oc, kV, doc, pm, ct, cl, od, an, cld, cda, cc, osl, csl, rfl, lk, hcd, cell, Z⟩ := F.ex
  refine fn_sup (N := ["self", "__class__"]) lk hcd cell (nscope_by (by decide +kernel)) (fun vs H Q E h => ?_) (fun A outer s H vs Q E hr h => ?_)
  · obtain ⟨a, us, rfl, hl, _⟩ := h
    exact congrArg Nat.succ hl
  · obtain ⟨a, us, rfl, hl, ha, q⟩ := h
    obtain ⟨rfl⟩ := evl_0 hl
    exact ⟨_, qs_supB (params := defArgs s_Unlike___init__) (body := defBody s_Unlike___init__) (scope := defScope s_Unlike___init__) (pl := _) base_VE lk cell Z rfl rfl rfl rfl rfl rfl rfl rfl rfl rfl (qs_of pss_nil), r_sup rfl ha (r_next (q H (Kp.refl _ _) (.inl ⟨ha, rfl⟩)))⟩
abbrev s_Untested___init__ : Stmt := inClass (top 13) 0
theorem ok_Untested___init__ {f : Addr} {fd : FuncData} {C : Addr} (F : SFunB P K mg "Untested.__init__" s_Untested___init__ C f fd "ValueError" "ValueError.__new__" "ValueError.__init__" [.type "ValueError", .type "Exception", .type "BaseException", .type "object"]) (n0 : PySem.W.findIn K (.ref C) "promise" = some none) : FnOk P w K mg base CX0 1 f fd ["self", "promise"] (sp_ev ["promise"] C) := by
  obtain ⟨oc, kV, doc, pm, ct, cl, od, an, cld, cda, cc, osl, csl, rfl, lk, hcd, cell, Z⟩ := F.ex
  refine fn_sup (N := ["self", "promise", "__class__"]) lk hcd cell (nscope_by (by decide +kernel)) (fun vs H Q E h => ?_) (fun A outer s H vs Q E hr h => ?_)
  · obtain ⟨a, us, rfl, hl, _⟩ := h
    exact congrArg Nat.succ hl
  · obtain ⟨a, us, rfl, hl, ha, q⟩ := h
    obtain ⟨u0, rfl⟩ := evl_1 hl
    exact ⟨_, qs_supB (params := defArgs s_Untested___init__) (body := defBody s_Untested___init__) (scope := defScope s_Untested___init__) (pl := _) base_VE lk cell Z rfl rfl rfl rfl rfl rfl rfl rfl rfl rfl (qs_of (pss_one (ps_ostB base_VE (pv 0) (pv 1) rfl))), r_sup rfl ha (r_ostB rfl rfl Z.oex n0 ha fun dx H' nd ne k e1 e2 => q H' k (.inr ⟨dx, e1, e2⟩))⟩
abbrev s_NoFunction___init__ : Stmt := inClass (top 15) 0
theorem ok_NoFunction___init__ {f : Addr} {fd : FuncData} {C : Addr} (F : SFunB P K mg "NoFunction.__init__" s_NoFunction___init__ C f fd "LookupError" "LookupError.__new__" "LookupError.__init__" [.type "LookupError", .type "Exception", .type "BaseException", .type "object"]) (n0 : PySem.W.findIn K (.ref C) "name" = some none) : FnOk P w K mg base CX0 1 f fd ["self", "name"] (sp_ev ["name"] C) := by
  obtain ⟨oc, kV, doc, pm, ct, cl, od, an, cld, cda, cc, osl, csl, rfl, lk, hcd, cell, Z⟩ := F.ex
  refine fn_sup (N := ["self", "name", "__class__"]) lk hcd cell (nscope_by (by decide +kernel)) (fun vs H Q E h => ?_) (fun A outer s H vs Q E hr h => ?_)
  · obtain ⟨a, us, rfl, hl, _⟩ := h
    exact congrArg Nat.succ hl
  · obtain ⟨a, us, rfl, hl, ha, q⟩ := h
    obtain ⟨u0, rfl⟩ := evl_1 hl
    exact ⟨_, qs_supB (params := defArgs s_NoFunction___init__) (body := defBody s_NoFunction___init__) (scope := defScope s_NoFunction___init__) (pl := _) base_LE lk cell Z rfl rfl rfl rfl rfl rfl rfl rfl rfl rfl (qs_of (pss_one (ps_ostB base_LE (pv 0) (pv 1) rfl))), r_sup rfl ha (r_ostB rfl rfl Z.oex n0 ha fun dx H' nd ne k e1 e2 => q H' k (.inr ⟨dx, e1, e2⟩))⟩
abbrev s_NoPlace___init__ : Stmt := inClass (top 17) 0
theorem ok_NoPlace___init__ {f : Addr} {fd : FuncData} {C : Addr} (F : SFunB P K mg "NoPlace.__init__" s_NoPlace___init__ C f fd "LookupError" "LookupError.__new__" "LookupError.__init__" [.type "LookupError", .type "Exception", .type "BaseException", .type "object"]) (n0 : PySem.W.findIn K (.ref C) "what" = some none) : FnOk P w K mg base CX0 1 f fd ["self", "what"] (sp_ev ["what"] C) := by
  obtain ⟨oc, kV, doc, pm, ct, cl, od, an, cld, cda, cc, osl, csl, rfl, lk, hcd, cell, Z⟩ := F.ex
  refine fn_sup (N := ["self", "what", "__class__"]) lk hcd cell (nscope_by (by decide +kernel)) (fun vs H Q E h => ?_) (fun A outer s H vs Q E hr h => ?_)
  · obtain ⟨a, us, rfl, hl, _⟩ := h
    exact congrArg Nat.succ hl
  · obtain ⟨a, us, rfl, hl, ha, q⟩ := h
    obtain ⟨u0, rfl⟩ := evl_1 hl
    exact ⟨_, qs_supB (params := defArgs s_NoPlace___init__) (body := defBody s_NoPlace___init__) (scope := defScope s_NoPlace___init__) (pl := _) base_LE lk cell Z rfl rfl rfl rfl rfl rfl rfl rfl rfl rfl (qs_of (pss_one (ps_ostB base_LE (pv 0) (pv 1) rfl))), r_sup rfl ha (r_ostB rfl rfl Z.oex n0 ha fun dx H' nd ne k e1 e2 => q H' k (.inr ⟨dx, e1, e2⟩))⟩
abbrev s_NoRow___init__ : Stmt := inClass (top 16) 0
theorem ok_NoRow___init__ {f : Addr} {fd : FuncData} {C : Addr} (F : SFunB P K mg "NoRow.__init__" s_NoRow___init__ C f fd "LookupError" "LookupError.__new__" "LookupError.__init__" [.type "LookupError", .type "Exception", .type "BaseException", .type "object"]) (n0 : PySem.W.findIn K (.ref C) "name" = some none) (n1 : PySem.W.findIn K (.ref C) "row" = some none) : FnOk P w K mg base CX0 1 f fd ["self", "name", "row"] (sp_ev ["name", "row"] C) := by
  obtain ⟨oc, kV, doc, pm, ct, cl, od, an, cld, cda, cc, osl, csl, rfl, lk, hcd, cell, Z⟩ := F.ex
  refine fn_sup (N := ["self", "name", "row", "__class__"]) lk hcd cell (nscope_by (by decide +kernel)) (fun vs H Q E h => ?_) (fun A outer s H vs Q E hr h => ?_)
  · obtain ⟨a, us, rfl, hl, _⟩ := h
    exact congrArg Nat.succ hl
  · obtain ⟨a, us, rfl, hl, ha, q⟩ := h
    obtain ⟨u0, u1, rfl⟩ := evl_2 hl
    exact ⟨_, qs_supB (params := defArgs s_NoRow___init__) (body := defBody s_NoRow___init__) (scope := defScope s_NoRow___init__) (pl := _) base_LE lk cell Z rfl rfl rfl rfl rfl rfl rfl rfl rfl rfl (qs_of (pss_cons (ps_ostB base_LE (pv 0) (pv 1) rfl) (pss_one (ps_ostB base_LE (pv 0) (pv 2) rfl)))), r_sup rfl ha (r_seq (r_ostB rfl rfl Z.oex n0 ha fun dx H1 nd ne k e1 e2 => r_ostB2 rfl rfl Z.oex n1 e1 e2 (by show 1 ≤ 900; decide) fun H2 k2 e3 => q H2 (k.step nd k2) (.inr ⟨dx, k2 _ _ e1 (not_one (fun z => ne z.symm)), e3⟩)))⟩
abbrev s_Over___init__ : Stmt := inClass (top 18) 0
theorem ok_Over___init__ {f : Addr} {fd : FuncData} {C : Addr} (F : SFunB P K mg "Over.__init__" s_Over___init__ C f fd "RuntimeError" "RuntimeError.__new__" "RuntimeError.__init__" [.type "RuntimeError", .type "Exception", .type "BaseException", .type "object"]) : FnOk P w K mg base CX0 1 f fd ["self"] (sp_ev [] C) := by
  obtain ⟨oc, kV, doc, pm, ct, cl, od, an, cld, cda, cc, osl, csl, rfl, lk, hcd, cell, Z⟩ := F.ex
  refine fn_sup (N := ["self", "__class__"]) lk hcd cell (nscope_by (by decide +kernel)) (fun vs H Q E h => ?_) (fun A outer s H vs Q E hr h => ?_)
  · obtain ⟨a, us, rfl, hl, _⟩ := h
    exact congrArg Nat.succ hl
  · obtain ⟨a, us, rfl, hl, ha, q⟩ := h
    obtain ⟨rfl⟩ := evl_0 hl
    exact ⟨_, qs_supB (params := defArgs s_Over___init__) (body := defBody s_Over___init__) (scope := defScope s_Over___init__) (pl := _) base_RE lk cell Z rfl rfl rfl rfl rfl rfl rfl rfl rfl rfl (qs_of pss_nil), r_sup rfl ha (r_next (q H (Kp.refl _ _) (.inl ⟨ha, rfl⟩)))⟩
/-! ### the draws: a dict of four numbers -/
def bagL (d s t r : Int) : List (Key × V) := [(Sum.inr "digits", .int d), (Sum.inr "seed", .int s), (Sum.inr "turn", .int t), (Sum.inr "room", .int r)]
/-- the draws of a cell stand at p, at least n of them are left -/
def BagAt (H : Hp) (p : Addr) (n : Nat) : Prop := ∃ d s t r : Int, H p = some (.dK (bagL d s t r)) ∧ 0 ≤ d ∧ 0 ≤ s ∧ s < 2305843009213693951 ∧ 0 ≤ t ∧ t + n ≤ 80000000000
theorem BagAt.mono {H : Hp} {p : Addr} {n m : Nat} (b : BagAt H p n) (h : m ≤ n) : BagAt H p m := by
  obtain ⟨d, s, t, r, e, h1, h2, h3, h4, h5⟩ := b
  exact ⟨d, s, t, r, e, h1, h2, h3, h4, by omega⟩
theorem BagAt.kp {H H' : Hp} {p : Addr} {n : Nat} {ex : List Addr} (b : BagAt H p n) (k : Kp ex H H') (m : p ∉ ex) : BagAt H' p n := by
  obtain ⟨d, s, t, r, e, h⟩ := b
  exact ⟨d, s, t, r, k _ _ e m, h⟩
theorem BagAt.some {H : Hp} {p : Addr} {n : Nat} (b : BagAt H p n) : ∃ o, H p = Option.some o := by
  obtain ⟨d, s, t, r, e, _⟩ := b
  exact ⟨_, e⟩
theorem bag_d (d s t r : Int) : valV (bagL d s t r) (Sum.inr "digits") = some (.int d) := by
  unfold bagL
  rw [valV_pos rfl]
theorem bag_s (d s t r : Int) : valV (bagL d s t r) (Sum.inr "seed") = some (.int s) := by
  unfold bagL
  rw [valV_neg (show ¬ (Sum.inr ("digits" : Str) : Key) = Sum.inr ("seed" : Str) by decide +kernel), valV_pos rfl]
theorem bag_t (d s t r : Int) : valV (bagL d s t r) (Sum.inr "turn") = some (.int t) := by
  unfold bagL
  rw [valV_neg (show ¬ (Sum.inr ("digits" : Str) : Key) = Sum.inr ("turn" : Str) by decide +kernel), valV_neg (show ¬ (Sum.inr ("seed" : Str) : Key) = Sum.inr ("turn" : Str) by decide +kernel), valV_pos rfl]
theorem bag_d' (d s t r z : Int) : putK (bagL d s t r) (Sum.inr "digits") (.int z) = bagL z s t r := by
  unfold putK bagL
  have e1 : ¬ (("seed" : Str) = "digits") := by decide +kernel
  have e2 : ¬ (("turn" : Str) = "digits") := by decide +kernel
  have e3 : ¬ (("room" : Str) = "digits") := by decide +kernel
  simp [e1, e2, e3]
theorem bag_t' (d s t r z : Int) : putK (bagL d s t r) (Sum.inr "turn") (.int z) = bagL d s z r := by
  unfold putK bagL
  have e1 : ¬ (("seed" : Str) = "turn") := by decide +kernel
  have e2 : ¬ (("digits" : Str) = "turn") := by decide +kernel
  have e3 : ¬ (("room" : Str) = "turn") := by decide +kernel
  simp [e1, e2, e3]
theorem bag_len (d s t r : Int) : (bagL d s t r).length < sizeLine := by
  show 4 < sizeLine
  decide
theorem bag_mk (d s t r : Int) : mergeK [] (bagL d s t r) = bagL d s t r := by
  have e1 : ¬ (("seed" : Str) = "digits") := by decide +kernel
  have e2 : ¬ (("turn" : Str) = "digits") := by decide +kernel
  have e3 : ¬ (("room" : Str) = "digits") := by decide +kernel
  have e4 : ¬ (("turn" : Str) = "seed") := by decide +kernel
  have e5 : ¬ (("room" : Str) = "seed") := by decide +kernel
  have e6 : ¬ (("room" : Str) = "turn") := by decide +kernel
  have f1 : ¬ (("digits" : Str) = "seed") := by decide +kernel
  have f2 : ¬ (("digits" : Str) = "turn") := by decide +kernel
  have f3 : ¬ (("digits" : Str) = "room") := by decide +kernel
  have f4 : ¬ (("seed" : Str) = "turn") := by decide +kernel
  have f5 : ¬ (("seed" : Str) = "room") := by decide +kernel
  have f6 : ¬ (("turn" : Str) = "room") := by decide +kernel
  simp [mergeK, bagL, putK, f1, f2, f3, f4, f5, f6]
/-- _law_bag(script, at): a new bag -/
def sp__law_bag (K : PySem.W.Frag) : Sp := fun vs H Q _ => ∃ (a : Addr) (ns : List Int) (k : Nat), vs = [.ref a, .int (k : Int)] ∧ SqL K H a (ns.map V.int) ∧ k ≤ 1000 ∧
  ∀ p H', H p = none → Kp [] H H' → BagAt H' p 70000000000 → Q (.ref p) H'
/-- _law_take(bag, many): some number from 0 to below many; nothing but the bag changes -/
def sp__law_take : Sp := fun vs H Q _ => ∃ (p : Addr) (n : Nat) (m : Int), vs = [.ref p, .int m] ∧ BagAt H p (n + 1) ∧ 0 < m ∧ m < 2 ^ 200 ∧
  ∀ (r : Int) H', 0 ≤ r → r < m → Kp [p] H H' → BagAt H' p n → Q (.int r) H'
theorem cdivw {i j : Int} (h : 0 < j) (h2 : j < 2 ^ 200) : CDivW i j := wide_div h (by omega : j.natAbs < 2 ^ 200) (by decide) (by decide)
abbrev s__law_take : Stmt := top 21
theorem sc__law_take : FnScope ["_law_bag_here", "_law_many", "_law_digit", "_law_mixed"] ["_law_bag_here", "_law_many"] (defScope s__law_take) :=
  ⟨rfl, rfl, rfl, by decide +kernel, rfl, by decide +kernel, by decide +kernel⟩
theorem ok__law_take {f : Addr} {fd : FuncData} (F : Fun K "_law_take" "_law_take" s__law_take f fd) (T : Txt K mg C_SilentswapsError C_BadCall C_BadFunction C_BadKinds C_BadLine C_BadPlan C_BadPromise C_BadSlip C_BadValues C_HasStars C_Refused C_TooMany C_Unlike C_Untested C_NoFunction C_NoPlace C_NoRow C_Over) :
    FnOk P w K mg base CX0 2 f fd ["_law_bag_here", "_law_many"] (sp__law_take) := by
  refine F.ok sc__law_take (fun vs H Q E h => ?_) (fun cdv A outer s H vs Q E hr h => ?_)
  · obtain ⟨p, n, m, rfl, _⟩ := h
    rfl
  · obtain ⟨p, n, m, rfl, hb, h0, h1, q⟩ := h
    obtain ⟨d, z, t, r, e, b1, b2, b3, b4, b5⟩ := hb
    have hu := hu_of hr
    have hu64 := hr.units
    refine ⟨_, (pss_cons (ps_if (pt_cmpR op_gt (pe_dget hu (pv 0) pe_str (fun _ _ => rfl)) pe_int (nomark _))
          (pss_cons (ps_set (i := 2) sc__law_take.nd rfl (by first | exact Or.inl rfl | exact Or.inr rfl) (pe_op op_modN (pe_callTy cr_int (by rfl) T.z_int (by decide +kernel) (pa_cons (pe_dget hu (pv 0) pe_str (fun _ _ => rfl)) pa_nil)) (pv 1)))
          (pss_cons (ps_dput hu (pv 0) pe_str (pe_op op_fdivW (pe_dget hu (pv 0) pe_str (fun _ _ => rfl)) (pv 1)) rfl)
          (pss_one (ps_ret (pv 2)))))
          pss_nil)
        (pss_cons (ps_dput hu (pv 0) pe_str (pe_op op_add (pe_dget hu (pv 0) pe_str (fun _ _ => rfl)) pe_int) rfl)
        (pss_cons (ps_set (i := 3) sc__law_take.nd rfl (by first | exact Or.inl rfl | exact Or.inr rfl) (pe_op op_modN (pe_callTy cr_int (by rfl) T.z_int (by decide +kernel) (pa_cons (pe_op op_add (pe_op op_pow (pe_op op_add (pe_dget hu (pv 0) pe_str (fun _ _ => rfl)) (pe_op op_mul pe_int (pe_dget hu (pv 0) pe_str (fun _ _ => rfl)))) pe_int) (pe_op op_mul pe_int (pe_dget hu (pv 0) pe_str (fun _ _ => rfl)))) pa_nil)) pe_int))
        (pss_cons (ps_set (i := 3) sc__law_take.nd rfl (by first | exact Or.inl rfl | exact Or.inr rfl) (pe_op op_modN (pe_callTy cr_int (by rfl) T.z_int (by decide +kernel) (pa_cons (pe_op op_pow (pe_op op_add (pv 3) (pe_op op_mul pe_int (pe_dget hu (pv 0) pe_str (fun _ _ => rfl)))) pe_int) pa_nil)) pe_int))
        (pss_one (ps_ret (pe_op op_modN (pe_callTy cr_int (by rfl) T.z_int (by decide +kernel) (pa_cons (pe_op op_fdivW (pv 3) pe_int) pa_nil)) (pv 1)))))))), ?_⟩
    walk_at "S"
    refine r_kDGs e (bag_d _ _ _ _) ?_
    walk_at "S"
    refine r_kIfS (fun c => ?_) (fun c => ?_)
    · walk_at "S"
      refine r_kDGs e (bag_d _ _ _ _) ?_
      walk_at "S"
      refine r_I (by omega) ?_
      walk_at "S"
      refine r_kDGs e (bag_d _ _ _ _) ?_
      walk_at "S"
      refine r_I (cdivw h0 h1) ?_
      walk_at "S"
      refine r_kDPs e (bag_len _ _ _ _) ?_
      walk_at "S"
      rw [bag_d']
      refine q _ _ (Int.fmod_nonneg_of_pos _ h0) (Int.fmod_lt_of_pos _ h0) (Kp.put (by simp)) ⟨_, _, _, _, upd_same, Int.ediv_nonneg b1 (by omega), b2, b3, b4, by omega⟩
    · walk_at "S"
      refine r_kDGs e (bag_t _ _ _ _) ?_
      walk_at "S"
      refine r_kDPs e (bag_len _ _ _ _) ?_
      rw [bag_t']
      have e' : upd H p (.dK (bagL d z (t + 1) r)) p = some (.dK (bagL d z (t + 1) r)) := upd_same
      generalize hH : upd H p (.dK (bagL d z (t + 1) r)) = H1 at e'
      have k1 : Kp [p] H H1 := by
        rw [← hH]
        exact Kp.put (by simp)
      walk_at "S"
      refine r_kDGs e' (bag_s _ _ _ _) ?_
      walk_at "S"
      refine r_kDGs e' (bag_t _ _ _ _) ?_
      walk_at "S"
      refine r_I (.inl (by decide)) ?_
      walk_at "S"
      refine r_I ⟨by decide, by decide, by omega⟩ ?_
      walk_at "S"
      refine r_kDGs e' (bag_t _ _ _ _) ?_
      walk_at "S"
      refine r_I (.inl (by decide)) ?_
      walk_at "S"
      refine r_I (by decide) ?_
      generalize hx : Int.fmod _ 2305843009213693921 = x
      have x0 : 0 ≤ x := hx ▸ Int.fmod_nonneg_of_pos _ (by decide)
      have x1 : x < 2305843009213693921 := hx ▸ Int.fmod_lt_of_pos _ (by decide)
      walk_at "S"
      refine r_kDGs e' (bag_t _ _ _ _) ?_
      walk_at "S"
      refine r_I (.inl (by decide)) ?_
      walk_at "S"
      refine r_I ⟨by decide, by decide, by omega⟩ ?_
      walk_at "S"
      refine r_I (by decide) ?_
      walk_at "S"
      refine r_I (cdivw (by decide) (by decide)) ?_
      walk_at "S"
      refine r_I (by omega) ?_
      exact q _ _ (Int.fmod_nonneg_of_pos _ h0) (Int.fmod_lt_of_pos _ h0) k1 ⟨_, _, _, _, e', b1, b2, b3, by omega, by omega⟩

abbrev s__law_bag : Stmt := top 20
theorem sc__law_bag : FnScope ["_law_script", "_law_at", "_law_cell", "_law_digits"] ["_law_script", "_law_at"] (defScope s__law_bag) :=
  ⟨rfl, rfl, rfl, by decide +kernel, rfl, by decide +kernel, by decide +kernel⟩
theorem ok__law_bag {f : Addr} {fd : FuncData} (F : Fun K "_law_bag" "_law_bag" s__law_bag f fd) (T : Txt K mg C_SilentswapsError C_BadCall C_BadFunction C_BadKinds C_BadLine C_BadPlan C_BadPromise C_BadSlip C_BadValues C_HasStars C_Refused C_TooMany C_Unlike C_Untested C_NoFunction C_NoPlace C_NoRow C_Over) :
    FnOk P w K mg base CX0 2 f fd ["_law_script", "_law_at"] (sp__law_bag K) := by
  refine F.ok sc__law_bag (fun vs H Q E h => ?_) (fun cdv A outer s H vs Q E hr h => ?_)
  · obtain ⟨a, ns, k, rfl, _⟩ := h
    rfl
  · obtain ⟨a, ns, k, rfl, hS, hk, q⟩ := h
    have hu := hu_of hr
    have hu64 := hr.units
    refine ⟨_, (pss_cons (ps_set (i := 2) sc__law_bag.nd rfl (by first | exact Or.inl rfl | exact Or.inr rfl) (pe_ifExp (pt_cmpR op_lt (pv 1) (pe_callB (K_len (K := K) rfl) (by rfl) T.z_len (by decide +kernel) (pa_cons (pv 0) pa_nil)) (nomark _)) (pe_ix (K_ixL (K := K) rfl) (pv 0) (pv 1) (fun _ _ => rfl)) pe_int))
        (pss_cons (ps_set (i := 3) sc__law_bag.nd rfl (by first | exact Or.inl rfl | exact Or.inr rfl) (pe_ifExp (pt_cmpR op_ge (pe_callB cr_abs (by rfl) T.z_abs (by decide +kernel) (pa_cons (pv 2) pa_nil)) (pe_op op_pow pe_int pe_int) (nomark _)) (pe_callB cr_abs (by rfl) T.z_abs (by decide +kernel) (pa_cons (pv 2) pa_nil)) pe_int))
        (pss_one (ps_ret (pe_disp (pps_cons pe_str (pv 3) (pps_cons pe_str (pe_op op_modN (pe_callTy cr_int (by rfl) T.z_int (by decide +kernel) (pa_cons (pv 2) pa_nil)) pe_int) (pps_cons pe_str (pe_op op_mul pe_int (pv 1)) (pps_cons pe_str pe_int pps_nil)))) (by rfl) (by rfl) (fun z => by cases z) (by decide)))))), ?_⟩
    have rest : ∀ c d : Int, 0 ≤ d → ∀ (p : Addr) (H1 : Hp), H p = none → Kp [] H H1 → H1 p = some (.dK []) →
        kDisp Q p ((bagL d (Int.fmod c 2305843009213693951) (31 * (k : Int)) 0).map fun kv => (kV kv.1, kv.2)) H1 := fun c d hd p H1 np k1 e1 => by
      refine r_kDisp e1 (by show 4 ≤ 15; decide) fun H2 k2 e2 => ?_
      rw [bag_mk] at e2
      exact q p H2 np (k1.nil.trans k2 |>.drop np) ⟨_, _, _, _, e2, hd, Int.fmod_nonneg_of_pos _ (by decide), Int.fmod_lt_of_pos _ (by decide), by omega, by omega⟩
    have nn : ∀ c : Int, 0 ≤ (if c < 0 then -c else c) := fun c => by
      split <;> omega
    walk_at "S"
    refine r_lenL hS ?_
    walk_at "S"
    refine r_kIf (fun c => ?_) (fun c => ?_)
    all_goals
      walk_at "S"
    · have c' : (k : Int) < ((ns.map V.int).length : Nat) := of_decide_eq_true c
      obtain ⟨v, hv, hm, _⟩ := atI_in (l := ns.map V.int) (i := (k : Int)) (by omega) c'
      obtain ⟨z, _, rfl⟩ := List.mem_map.mp hm
      refine r_ixL hS hv ?_
      walk_at "S"
      refine r_I ⟨by decide, by decide, by decide⟩ ?_
      walk_at "S"
      refine r_kIf (fun c => ?_) (fun c => ?_)
      all_goals
        walk_at "S"
        refine r_disp fun p H1 np k1 e1 => ?_
        walk_at "S"
        refine r_I (by decide) ?_
        walk_at "S"
        refine r_I (.inl (by decide)) ?_
        walk_at "S"
      · exact rest z _ (nn z) p H1 np k1 e1
      · exact rest z _ (by decide) p H1 np k1 e1
    · refine r_I ⟨by decide, by decide, by decide⟩ ?_
      walk_at "S"
      refine r_kIf (fun c => ?_) (fun c => ?_)
      all_goals
        walk_at "S"
        refine r_disp fun p H1 np k1 e1 => ?_
        walk_at "S"
        refine r_I (by decide) ?_
        walk_at "S"
        refine r_I (.inl (by decide)) ?_
        walk_at "S"
      · exact rest 0 _ (nn 0) p H1 np k1 e1
      · exact rest 0 _ (by decide) p H1 np k1 e1
/-- _law_of(bag, some), some a list: one of its items -/
def sp__law_of (K : PySem.W.Frag) : Sp := fun vs H Q _ => ∃ (p a : Addr) (n : Nat) (xs : List V), vs = [.ref p, .ref a] ∧ BagAt H p (n + 1) ∧ SqL K H a xs ∧ 0 < xs.length ∧ xs.length ≤ 1000000 ∧
  ∀ (v : V) H', v ∈ xs → Kp [p] H H' → BagAt H' p n → Q v H'
theorem sql_bag {H H' : Hp} {p a : Addr} {xs : List V} {n : Nat} (h : SqL K H a xs) (b : BagAt H p n) (k : Kp [p] H H') : SqL K H' a xs := by
  obtain ⟨d, s, t, r, e, _⟩ := b
  exact sql_but h k e (fun _ z => nomatch z) (fun _ _ z => nomatch z)
theorem r_ofS {H : Hp} {Q : VK} {p a : Addr} {n : Nat} {ws : List Str} (hb : BagAt H p (n + 1)) (hS : SqL K H a (ws.map V.str)) (h0 : 0 < ws.length) (h1 : ws.length ≤ 1000000) (q : ∀ (w : Str) H', w ∈ ws → Kp [p] H H' → BagAt H' p n → Q (.str w) H') : sp__law_of K [.ref p, .ref a] H Q E0 :=
  ⟨p, a, n, _, rfl, hb, hS, by rw [List.length_map]; exact h0, by rw [List.length_map]; exact h1, fun v H' m k b => by
    obtain ⟨w, hw, rfl⟩ := List.mem_map.mp m
    exact q w H' hw k b⟩
theorem r_ofI {H : Hp} {Q : VK} {p a : Addr} {n : Nat} {ws : List Int} (hb : BagAt H p (n + 1)) (hS : SqL K H a (ws.map V.int)) (h0 : 0 < ws.length) (h1 : ws.length ≤ 1000000) (q : ∀ (w : Int) H', w ∈ ws → Kp [p] H H' → BagAt H' p n → Q (.int w) H') : sp__law_of K [.ref p, .ref a] H Q E0 :=
  ⟨p, a, n, _, rfl, hb, hS, by rw [List.length_map]; exact h0, by rw [List.length_map]; exact h1, fun v H' m k b => by
    obtain ⟨w, hw, rfl⟩ := List.mem_map.mp m
    exact q w H' hw k b⟩
abbrev s__law_of : Stmt := top 22
theorem sc__law_of : FnScope ["_law_bag_here", "_law_some"] ["_law_bag_here", "_law_some"] (defScope s__law_of) :=
  ⟨rfl, rfl, rfl, by decide +kernel, rfl, by decide +kernel, by decide +kernel⟩
theorem ok__law_of {f : Addr} {fd : FuncData} (F : Fun K "_law_of" "_law_of" s__law_of f fd) (T : Txt K mg C_SilentswapsError C_BadCall C_BadFunction C_BadKinds C_BadLine C_BadPlan C_BadPromise C_BadSlip C_BadValues C_HasStars C_Refused C_TooMany C_Unlike C_Untested C_NoFunction C_NoPlace C_NoRow C_Over) (U__law_take : Use P w K mg base 2 "_law_take" ["_law_bag_here", "_law_many"] (sp__law_take)) :
    FnOk P w K mg base CX0 4 f fd ["_law_bag_here", "_law_some"] (sp__law_of K) := by
  refine F.ok sc__law_of (fun vs H Q E h => ?_) (fun cdv A outer s H vs Q E hr h => ?_)
  · obtain ⟨p, a, n, xs, rfl, _⟩ := h
    rfl
  · obtain ⟨p, a, n, xs, rfl, hb, hS, h0, h1, q⟩ := h
    have hu := hu_of hr
    have hu64 := hr.units
    refine ⟨_, (pss_one (ps_ret (pe_ix (K_ixL (K := K) rfl) (pv 1) (pe_use U__law_take (hr.mono (by first | decide | omega)) (by rfl) (pa_cons (pv 0) (pa_cons (pe_callB (K_len (K := K) rfl) (by rfl) T.z_len (by decide +kernel) (pa_cons (pv 1) pa_nil)) pa_nil))) (fun _ _ => rfl)))), ?_⟩
    walk_at "S"
    refine r_lenL hS ?_
    walk_at "S"
    refine ⟨p, n, _, rfl, hb, by omega, by omega, fun r H1 r0 r1 k1 b1 => ?_⟩
    obtain ⟨v, hv, hm, _⟩ := atI_in (l := xs) r0 r1
    refine r_ixL (sql_bag hS hb k1) hv ?_
    exact q v H1 hm k1 b1

/-! ### the classes by number -/
def errNames : List Str := ["BadCall", "BadFunction", "BadKinds", "BadLine", "BadPlan", "BadPromise", "BadSlip", "BadValues", "HasStars", "Refused", "TooMany", "Unlike", "Untested", "NoFunction", "NoPlace", "NoRow", "Over"]
def bmO (S : Addr) (i : Nat) : List Value := if i < 13 then [.ref S, .type "ValueError", .type "Exception", .type "BaseException", .type "object"] else if i < 16 then [.type "LookupError", .type "Exception", .type "BaseException", .type "object"] else [.type "RuntimeError", .type "Exception", .type "BaseException", .type "object"]
def newO (i : Nat) : String := if i < 13 then "ValueError.__new__" else if i < 16 then "LookupError.__new__" else "RuntimeError.__new__"
theorem errNames_nodup : errNames.Nodup := by decide +kernel
theorem errNames_inj {i j : Nat} {n : Str} (h : errNames[i]? = some n) (h' : errNames[j]? = some n) : i = j :=
  (List.getElem?_inj (List.getElem?_eq_some_iff.mp h).1 errNames_nodup).mp (h.trans h'.symm)
theorem errNames_S : ∀ n ∈ errNames, ("SilentswapsError" : Str) ≠ n := by decide +kernel
theorem ref_type {a : Addr} {t : String} : (Value.type t == Value.ref a) = false := beq_eq_false_iff_ne.mpr fun e => nomatch e
theorem ref_type' {a : Addr} {t : String} : (Value.ref a == Value.type t) = false := beq_eq_false_iff_ne.mpr fun e => nomatch e
structure Cs (K : PySem.W.Frag) (S : Addr) (cs : List Addr) : Prop where
  ex : ∀ i C, cs[i]? = some C → ∃ nm, errNames[i]? = some nm ∧ ExL K nm C (bmO S i) (newO i)
  s : ∃ bm, ExL K "SilentswapsError" S bm "ValueError.__new__"
  ec : ∀ C ∈ cs, ExcC K C
theorem contains_one {a b : Value} {l : List Value} (h : (a == b) = false) : (b :: l).contains a = l.contains a := by
  rw [List.contains_cons, h, Bool.false_or]
theorem bm_ref {S D : Addr} (n : S ≠ D) (i : Nat) : (bmO S i).contains (.ref D) = false := by
  have e : (Value.ref D == Value.ref S) = false := by rw [ref_beq, decide_eq_false fun z => n z.symm]
  unfold bmO
  split
  · simp only [List.contains_cons, e, ref_type', List.contains_nil, Bool.or_self]
  · split <;> simp only [List.contains_cons, ref_type', List.contains_nil, Bool.or_self]
theorem Cs.kit {K : PySem.W.Frag} {S : Addr} {cs : List Addr} (Z : Cs K S cs) {i j : Nat} {C D : Addr} (hi : cs[i]? = some C) (hj : cs[j]? = some D) : PySem.W.kitOne K (.ref C) (.ref D) = some (decide ((j : Int) = (i : Int))) := by
  obtain ⟨n, en, h⟩ := Z.ex i C hi
  obtain ⟨m, em, h'⟩ := Z.ex j D hj
  obtain ⟨bm, hs⟩ := Z.s
  rw [h.kit h']
  by_cases e : i = j
  · subst e
    have e' : C = D := Option.some.inj (hi.symm.trans hj)
    subst e'
    rw [decide_eq_true rfl, List.contains_cons, beq_self_eq_true]
    rfl
  · have nd : n ≠ m := fun z => e (errNames_inj en (z ▸ em))
    have ne := h.ne h' nd
    have ns := hs.ne h' (errNames_S m (List.mem_of_getElem? em))
    have eb : (Value.ref D == Value.ref C) = false := by rw [ref_beq, decide_eq_false fun z => ne z.symm]
    rw [contains_one eb, bm_ref ns, decide_eq_false (fun z : (j : Int) = (i : Int) => e (by omega))]
theorem Cs.kitS {K : PySem.W.Frag} {S : Addr} {cs : List Addr} (Z : Cs K S cs) {i : Nat} {C : Addr} (hi : cs[i]? = some C) : PySem.W.kitOne K (.ref C) (.ref S) = some (decide (i < 13)) := by
  obtain ⟨n, en, h⟩ := Z.ex i C hi
  obtain ⟨bm, hs⟩ := Z.s
  rw [h.kit hs]
  have ns := hs.ne h (errNames_S n (List.mem_of_getElem? en))
  have eb : (Value.ref S == Value.ref C) = false := by rw [ref_beq, decide_eq_false ns]
  rw [contains_one eb]
  unfold bmO
  by_cases c : i < 13
  · rw [if_pos c, decide_eq_true c, List.contains_cons, beq_self_eq_true]
    rfl
  · rw [if_neg c, decide_eq_false c]
    split <;> simp only [List.contains_cons, ref_type', List.contains_nil, Bool.or_self]
theorem Cs.kitV {K : PySem.W.Frag} {S : Addr} {cs : List Addr} (Z : Cs K S cs) {i : Nat} {C : Addr} (hi : cs[i]? = some C) : PySem.W.kitOne K (.ref C) (.type "ValueError") = some (decide (i < 13)) := by
  obtain ⟨n, en, h⟩ := Z.ex i C hi
  rw [h.kitT (by decide +kernel), contains_one ref_type]
  unfold bmO
  by_cases c : i < 13
  · rw [if_pos c, decide_eq_true c, contains_one ref_type]
    rfl
  · rw [if_neg c, decide_eq_false c]
    split <;> rfl
theorem Cs.kitL {K : PySem.W.Frag} {S : Addr} {cs : List Addr} (Z : Cs K S cs) {i : Nat} {C : Addr} (hi : cs[i]? = some C) : PySem.W.kitOne K (.ref C) (.type "LookupError") = some (decide (13 ≤ i) && decide (i < 16)) := by
  obtain ⟨n, en, h⟩ := Z.ex i C hi
  rw [h.kitT (by decide +kernel), contains_one ref_type]
  unfold bmO
  by_cases c : i < 13
  · rw [if_pos c, decide_eq_false (show ¬ 13 ≤ i by omega), contains_one ref_type]
    rfl
  · rw [if_neg c, decide_eq_true (show 13 ≤ i by omega)]
    by_cases c' : i < 16
    · rw [if_pos c', decide_eq_true c']
      rfl
    · rw [if_neg c', decide_eq_false c']
      rfl
theorem Cs.kitR {K : PySem.W.Frag} {S : Addr} {cs : List Addr} (Z : Cs K S cs) {i : Nat} {C : Addr} (hi : cs[i]? = some C) : PySem.W.kitOne K (.ref C) (.type "RuntimeError") = some (decide (16 ≤ i)) := by
  obtain ⟨n, en, h⟩ := Z.ex i C hi
  rw [h.kitT (by decide +kernel), contains_one ref_type]
  unfold bmO
  by_cases c : i < 13
  · rw [if_pos c, decide_eq_false (show ¬ 16 ≤ i by omega), contains_one ref_type]
    rfl
  · rw [if_neg c]
    by_cases c' : i < 16
    · rw [if_pos c', decide_eq_false (show ¬ 16 ≤ i by omega)]
      rfl
    · rw [if_neg c', decide_eq_true (show 16 ≤ i by omega)]
      rfl
theorem cs_mk (T : Txt K mg C_SilentswapsError C_BadCall C_BadFunction C_BadKinds C_BadLine C_BadPlan C_BadPromise C_BadSlip C_BadValues C_HasStars C_Refused C_TooMany C_Unlike C_Untested C_NoFunction C_NoPlace C_NoRow C_Over) : Cs K C_SilentswapsError [C_BadCall, C_BadFunction, C_BadKinds, C_BadLine, C_BadPlan, C_BadPromise, C_BadSlip, C_BadValues, C_HasStars, C_Refused, C_TooMany, C_Unlike, C_Untested, C_NoFunction, C_NoPlace, C_NoRow, C_Over] := by
  refine ⟨(fun i C h => match i, h with
    | 0, h => ⟨_, rfl, Option.some.inj h ▸ T.e_BadCall⟩
    | 1, h => ⟨_, rfl, Option.some.inj h ▸ T.e_BadFunction⟩
    | 2, h => ⟨_, rfl, Option.some.inj h ▸ T.e_BadKinds⟩
    | 3, h => ⟨_, rfl, Option.some.inj h ▸ T.e_BadLine⟩
    | 4, h => ⟨_, rfl, Option.some.inj h ▸ T.e_BadPlan⟩
    | 5, h => ⟨_, rfl, Option.some.inj h ▸ T.e_BadPromise⟩
    | 6, h => ⟨_, rfl, Option.some.inj h ▸ T.e_BadSlip⟩
    | 7, h => ⟨_, rfl, Option.some.inj h ▸ T.e_BadValues⟩
    | 8, h => ⟨_, rfl, Option.some.inj h ▸ T.e_HasStars⟩
    | 9, h => ⟨_, rfl, Option.some.inj h ▸ T.e_Refused⟩
    | 10, h => ⟨_, rfl, Option.some.inj h ▸ T.e_TooMany⟩
    | 11, h => ⟨_, rfl, Option.some.inj h ▸ T.e_Unlike⟩
    | 12, h => ⟨_, rfl, Option.some.inj h ▸ T.e_Untested⟩
    | 13, h => ⟨_, rfl, Option.some.inj h ▸ T.e_NoFunction⟩
    | 14, h => ⟨_, rfl, Option.some.inj h ▸ T.e_NoPlace⟩
    | 15, h => ⟨_, rfl, Option.some.inj h ▸ T.e_NoRow⟩
    | 16, h => ⟨_, rfl, Option.some.inj h ▸ T.e_Over⟩
    | _ + 17, h => nomatch h), ⟨_, T.e_SilentswapsError⟩, fun C h => ?_⟩
  simp only [List.mem_cons, List.not_mem_nil, or_false] at h
  rcases h with rfl | rfl | rfl | rfl | rfl | rfl | rfl | rfl | rfl | rfl | rfl | rfl | rfl | rfl | rfl | rfl | rfl
  · exact T.i_BadCall
  · exact T.i_BadFunction
  · exact T.i_BadKinds
  · exact T.i_BadLine
  · exact T.i_BadPlan
  · exact T.i_BadPromise
  · exact T.i_BadSlip
  · exact T.i_BadValues
  · exact T.i_HasStars
  · exact T.i_Refused
  · exact T.i_TooMany
  · exact T.i_Unlike
  · exact T.i_Untested
  · exact T.i_NoFunction
  · exact T.i_NoPlace
  · exact T.i_NoRow
  · exact T.i_Over
/-! ### which error it is -/
def isD (i : Nat) : List PyData := (List.range 17).map fun j : Nat => .bool (decide ((j : Int) = (i : Int)))
theorem DtAll.of_bool_map {ex : List Addr} {H : Hp} (f : Nat → Bool) : ∀ l : List Nat, DtAll ex H (l.map fun j => V.bl (f j)) (l.map fun j => PyData.bool (f j))
  | [] => .nil
  | j :: l => .cons (.bl _) (DtAll.of_bool_map f l)
def sp__law_is (cs : List Addr) : Sp := fun vs H Q _ => ∃ (a C : Addr) (i : Nat) (fs : List (Str × V)), vs = [.ref a] ∧ cs[i]? = some C ∧ ExAt C H a fs ∧ ∀ x H', Kp [] H H' → Dt [] H' x (.list (isD i)) → Q x H'
abbrev s__law_is : Stmt := top 23
theorem sc__law_is : FnScope ["_law_e", "_law_found"] ["_law_e"] (defScope s__law_is) :=
  ⟨rfl, rfl, rfl, by decide +kernel, rfl, by decide +kernel, by decide +kernel⟩
theorem ok__law_is {f : Addr} {fd : FuncData} (F : Fun K "_law_is" "_law_is" s__law_is f fd) (T : Txt K mg C_SilentswapsError C_BadCall C_BadFunction C_BadKinds C_BadLine C_BadPlan C_BadPromise C_BadSlip C_BadValues C_HasStars C_Refused C_TooMany C_Unlike C_Untested C_NoFunction C_NoPlace C_NoRow C_Over) :
    FnOk P w K mg base CX0 2 f fd ["_law_e"] (sp__law_is [C_BadCall, C_BadFunction, C_BadKinds, C_BadLine, C_BadPlan, C_BadPromise, C_BadSlip, C_BadValues, C_HasStars, C_Refused, C_TooMany, C_Unlike, C_Untested, C_NoFunction, C_NoPlace, C_NoRow, C_Over]) := by
  refine F.ok sc__law_is (fun vs H Q E h => ?_) (fun cdv A outer s H vs Q E hr h => ?_)
  · obtain ⟨a, C, i, fs, rfl, _⟩ := h
    rfl
  · obtain ⟨a, C, i, fs, rfl, hi, hA, q⟩ := h
    have Z := cs_mk T
    have hec := Z.ec C (List.mem_of_getElem? hi)
    have hu := hu_of hr
    have hu64 := hr.units
    refine ⟨_, (pss_cons (ps_set (i := 1) sc__law_is.nd rfl (by first | exact Or.inl rfl | exact Or.inr rfl) (pe_lst (pa_cons (pe_callB (K_isiO (K := K) rfl) (by rfl) T.z_isinstance (by decide +kernel) (pa_cons (pv 0) (pa_cons (pe_globE T.v_BadCall (by rfl)) pa_nil))) (pa_cons (pe_callB (K_isiO (K := K) rfl) (by rfl) T.z_isinstance (by decide +kernel) (pa_cons (pv 0) (pa_cons (pe_globE T.v_BadFunction (by rfl)) pa_nil))) (pa_cons (pe_callB (K_isiO (K := K) rfl) (by rfl) T.z_isinstance (by decide +kernel) (pa_cons (pv 0) (pa_cons (pe_globE T.v_BadKinds (by rfl)) pa_nil))) (pa_cons (pe_callB (K_isiO (K := K) rfl) (by rfl) T.z_isinstance (by decide +kernel) (pa_cons (pv 0) (pa_cons (pe_globE T.v_BadLine (by rfl)) pa_nil))) pa_nil))))))
        (pss_cons (ps_set (i := 1) sc__law_is.nd rfl (by first | exact Or.inl rfl | exact Or.inr rfl) (pe_op op_cat (pv 1) (pe_lst (pa_cons (pe_callB (K_isiO (K := K) rfl) (by rfl) T.z_isinstance (by decide +kernel) (pa_cons (pv 0) (pa_cons (pe_globE T.v_BadPlan (by rfl)) pa_nil))) (pa_cons (pe_callB (K_isiO (K := K) rfl) (by rfl) T.z_isinstance (by decide +kernel) (pa_cons (pv 0) (pa_cons (pe_globE T.v_BadPromise (by rfl)) pa_nil))) (pa_cons (pe_callB (K_isiO (K := K) rfl) (by rfl) T.z_isinstance (by decide +kernel) (pa_cons (pv 0) (pa_cons (pe_globE T.v_BadSlip (by rfl)) pa_nil))) (pa_cons (pe_callB (K_isiO (K := K) rfl) (by rfl) T.z_isinstance (by decide +kernel) (pa_cons (pv 0) (pa_cons (pe_globE T.v_BadValues (by rfl)) pa_nil))) pa_nil)))))))
        (pss_cons (ps_set (i := 1) sc__law_is.nd rfl (by first | exact Or.inl rfl | exact Or.inr rfl) (pe_op op_cat (pv 1) (pe_lst (pa_cons (pe_callB (K_isiO (K := K) rfl) (by rfl) T.z_isinstance (by decide +kernel) (pa_cons (pv 0) (pa_cons (pe_globE T.v_HasStars (by rfl)) pa_nil))) (pa_cons (pe_callB (K_isiO (K := K) rfl) (by rfl) T.z_isinstance (by decide +kernel) (pa_cons (pv 0) (pa_cons (pe_globE T.v_Refused (by rfl)) pa_nil))) (pa_cons (pe_callB (K_isiO (K := K) rfl) (by rfl) T.z_isinstance (by decide +kernel) (pa_cons (pv 0) (pa_cons (pe_globE T.v_TooMany (by rfl)) pa_nil))) (pa_cons (pe_callB (K_isiO (K := K) rfl) (by rfl) T.z_isinstance (by decide +kernel) (pa_cons (pv 0) (pa_cons (pe_globE T.v_Unlike (by rfl)) pa_nil))) pa_nil)))))))
        (pss_cons (ps_set (i := 1) sc__law_is.nd rfl (by first | exact Or.inl rfl | exact Or.inr rfl) (pe_op op_cat (pv 1) (pe_lst (pa_cons (pe_callB (K_isiO (K := K) rfl) (by rfl) T.z_isinstance (by decide +kernel) (pa_cons (pv 0) (pa_cons (pe_globE T.v_Untested (by rfl)) pa_nil))) (pa_cons (pe_callB (K_isiO (K := K) rfl) (by rfl) T.z_isinstance (by decide +kernel) (pa_cons (pv 0) (pa_cons (pe_globE T.v_NoFunction (by rfl)) pa_nil))) (pa_cons (pe_callB (K_isiO (K := K) rfl) (by rfl) T.z_isinstance (by decide +kernel) (pa_cons (pv 0) (pa_cons (pe_globE T.v_NoPlace (by rfl)) pa_nil))) (pa_cons (pe_callB (K_isiO (K := K) rfl) (by rfl) T.z_isinstance (by decide +kernel) (pa_cons (pv 0) (pa_cons (pe_globE T.v_NoRow (by rfl)) pa_nil))) pa_nil)))))))
        (pss_one (ps_ret (pe_op op_cat (pv 1) (pe_lst (pa_cons (pe_callB (K_isiO (K := K) rfl) (by rfl) T.z_isinstance (by decide +kernel) (pa_cons (pv 0) (pa_cons (pe_globE T.v_Over (by rfl)) pa_nil))) pa_nil))))))))), ?_⟩
    walk_at "S"
    refine r_isiO hA hec (.own _) (Z.kit hi (j := 0) rfl) ?_
    walk_at "S"
    refine r_isiO hA hec (.own _) (Z.kit hi (j := 1) rfl) ?_
    walk_at "S"
    refine r_isiO hA hec (.own _) (Z.kit hi (j := 2) rfl) ?_
    walk_at "S"
    refine r_isiO hA hec (.own _) (Z.kit hi (j := 3) rfl) ?_
    walk_at "S"
    refine r_kLst (by show 4 ≤ sizeLine; decide) fun p1 H1 n1 k1 e1 => ?_
    walk_at "S"
    have hA1 := hA.kp k1
    have ec := e1
    have kc := k1
    refine r_isiO hA1 hec (.own _) (Z.kit hi (j := 4) rfl) ?_
    walk_at "S"
    refine r_isiO hA1 hec (.own _) (Z.kit hi (j := 5) rfl) ?_
    walk_at "S"
    refine r_isiO hA1 hec (.own _) (Z.kit hi (j := 6) rfl) ?_
    walk_at "S"
    refine r_isiO hA1 hec (.own _) (Z.kit hi (j := 7) rfl) ?_
    walk_at "S"
    refine r_kLst (by show 4 ≤ sizeLine; decide) fun p2 H2 n2 k2 e2 => ?_
    walk_at "S"
    have hA2 := hA1.kp k2
    refine r_cat (k2 _ _ ec not_nil) e2 (by show 8 ≤ sizeLine; decide) fun l2 G2 m2 j2 f2 => ?_
    clear ec
    have ec := f2
    replace kc := kc.trans (k2.trans j2)
    walk_at "S"
    replace hA2 := hA2.kp j2
    refine r_isiO hA2 hec (.own _) (Z.kit hi (j := 8) rfl) ?_
    walk_at "S"
    refine r_isiO hA2 hec (.own _) (Z.kit hi (j := 9) rfl) ?_
    walk_at "S"
    refine r_isiO hA2 hec (.own _) (Z.kit hi (j := 10) rfl) ?_
    walk_at "S"
    refine r_isiO hA2 hec (.own _) (Z.kit hi (j := 11) rfl) ?_
    walk_at "S"
    refine r_kLst (by show 4 ≤ sizeLine; decide) fun p3 H3 n3 k3 e3 => ?_
    walk_at "S"
    have hA3 := hA2.kp k3
    refine r_cat (k3 _ _ ec not_nil) e3 (by show 12 ≤ sizeLine; decide) fun l3 G3 m3 j3 f3 => ?_
    clear ec
    have ec := f3
    replace kc := kc.trans (k3.trans j3)
    walk_at "S"
    replace hA3 := hA3.kp j3
    refine r_isiO hA3 hec (.own _) (Z.kit hi (j := 12) rfl) ?_
    walk_at "S"
    refine r_isiO hA3 hec (.own _) (Z.kit hi (j := 13) rfl) ?_
    walk_at "S"
    refine r_isiO hA3 hec (.own _) (Z.kit hi (j := 14) rfl) ?_
    walk_at "S"
    refine r_isiO hA3 hec (.own _) (Z.kit hi (j := 15) rfl) ?_
    walk_at "S"
    refine r_kLst (by show 4 ≤ sizeLine; decide) fun p4 H4 n4 k4 e4 => ?_
    walk_at "S"
    have hA4 := hA3.kp k4
    refine r_cat (k4 _ _ ec not_nil) e4 (by show 16 ≤ sizeLine; decide) fun l4 G4 m4 j4 f4 => ?_
    clear ec
    have ec := f4
    replace kc := kc.trans (k4.trans j4)
    walk_at "S"
    replace hA4 := hA4.kp j4
    refine r_isiO hA4 hec (.own _) (Z.kit hi (j := 16) rfl) ?_
    walk_at "S"
    refine r_kLst (by show 1 ≤ sizeLine; decide) fun p5 H5 n5 k5 e5 => ?_
    walk_at "S"
    have hA5 := hA4.kp k5
    refine r_cat (k5 _ _ ec not_nil) e5 (by show 17 ≤ sizeLine; decide) fun l5 G5 m5 j5 f5 => ?_
    clear ec
    have ec := f5
    replace kc := kc.trans (k5.trans j5)
    replace hA5 := hA5.kp j5
    exact q _ _ kc (.lst not_nil ec (DtAll.of_bool_map (fun j : Nat => decide ((j : Int) = (i : Int))) (List.range 17)))
/-! ### its bases -/
def baseD (i : Nat) : List PyData := [.bool (decide (i < 13)), .bool (decide (i < 13)), .bool (decide (13 ≤ i) && decide (i < 16)), .bool (decide (16 ≤ i))]
def sp__law_bases (cs : List Addr) : Sp := fun vs H Q _ => ∃ (a C : Addr) (i : Nat) (fs : List (Str × V)), vs = [.ref a] ∧ cs[i]? = some C ∧ ExAt C H a fs ∧ ∀ x H', Kp [] H H' → Dt [] H' x (.list (baseD i)) → Q x H'
abbrev s__law_bases : Stmt := top 24
theorem sc__law_bases : FnScope ["_law_e"] ["_law_e"] (defScope s__law_bases) :=
  ⟨rfl, rfl, rfl, by decide +kernel, rfl, by decide +kernel, by decide +kernel⟩
theorem ok__law_bases {f : Addr} {fd : FuncData} (F : Fun K "_law_bases" "_law_bases" s__law_bases f fd) (T : Txt K mg C_SilentswapsError C_BadCall C_BadFunction C_BadKinds C_BadLine C_BadPlan C_BadPromise C_BadSlip C_BadValues C_HasStars C_Refused C_TooMany C_Unlike C_Untested C_NoFunction C_NoPlace C_NoRow C_Over) :
    FnOk P w K mg base CX0 2 f fd ["_law_e"] (sp__law_bases [C_BadCall, C_BadFunction, C_BadKinds, C_BadLine, C_BadPlan, C_BadPromise, C_BadSlip, C_BadValues, C_HasStars, C_Refused, C_TooMany, C_Unlike, C_Untested, C_NoFunction, C_NoPlace, C_NoRow, C_Over]) := by
  refine F.ok sc__law_bases (fun vs H Q E h => ?_) (fun cdv A outer s H vs Q E hr h => ?_)
  · obtain ⟨a, C, i, fs, rfl, _⟩ := h
    rfl
  · obtain ⟨a, C, i, fs, rfl, hi, hA, q⟩ := h
    have Z := cs_mk T
    have hec := Z.ec C (List.mem_of_getElem? hi)
    have hu := hu_of hr
    have hu64 := hr.units
    refine ⟨_, (pss_one (ps_ret (pe_lst (pa_cons (pe_callB (K_isiO (K := K) rfl) (by rfl) T.z_isinstance (by decide +kernel) (pa_cons (pv 0) (pa_cons (pe_globE T.v_SilentswapsError (by rfl)) pa_nil))) (pa_cons (pe_callB (K_isiO (K := K) rfl) (by rfl) T.z_isinstance (by decide +kernel) (pa_cons (pv 0) (pa_cons (pe_bltn (v := .ty "ValueError") (u := .type "ValueError") (by rfl) T.z_ValueError (by decide +kernel) rfl) pa_nil))) (pa_cons (pe_callB (K_isiO (K := K) rfl) (by rfl) T.z_isinstance (by decide +kernel) (pa_cons (pv 0) (pa_cons (pe_bltn (v := .ty "LookupError") (u := .type "LookupError") (by rfl) T.z_LookupError (by decide +kernel) rfl) pa_nil))) (pa_cons (pe_callB (K_isiO (K := K) rfl) (by rfl) T.z_isinstance (by decide +kernel) (pa_cons (pv 0) (pa_cons (pe_bltn (v := .ty "RuntimeError") (u := .type "RuntimeError") (by rfl) T.z_RuntimeError (by decide +kernel) rfl) pa_nil))) pa_nil))))))), ?_⟩
    walk_at "S"
    refine r_isiO hA hec (.own _) (Z.kitS hi) ?_
    walk_at "S"
    refine r_isiO hA hec (.ty _) (Z.kitV hi) ?_
    walk_at "S"
    refine r_isiO hA hec (.ty _) (Z.kitL hi) ?_
    walk_at "S"
    refine r_isiO hA hec (.ty _) (Z.kitR hi) ?_
    walk_at "S"
    refine r_kLst (by show 4 ≤ sizeLine; decide) fun p1 H1 n1 k1 e1 => ?_
    exact q _ _ k1 (.lst not_nil e1 (.cons (.bl _) (.cons (.bl _) (.cons (.bl _) (.cons (.bl _) .nil)))))

/-! ### a value of any kind -/
theorem ED_neg {σ : L2.St} {H : Hp} {i : Nat} {n : Int} (e : σ[i]? = some (some (.int n))) : ED (tUn (rU fun m => .int (-m)) (tVar i)) σ H (.int (-n)) := fun _ q => ⟨_, e, n, rfl, q _ H (Kp.refl _ _) (.int _)⟩
def valuesD (n : Int) : List PyData := [.int n, .int (-n), .str "", .str "a b", .none, .bool true, .tuple [], .tuple [.int 1, .str "x"], .list [.int 1, .list [.int 2]], .int 0, .tuple [.str "kind", .str "f", .str "a"], .list [.tuple [.str "a", .int 0]]]
theorem valuesD_shp (n : Int) : ∀ d ∈ valuesD n, Shp 3 d := by
  intro d hd
  unfold valuesD at hd
  simp only [List.mem_cons, List.not_mem_nil, or_false] at hd
  rcases hd with rfl | rfl | rfl | rfl | rfl | rfl | rfl | rfl | rfl | rfl | rfl | rfl
  · exact Shp.int _ _
  · exact Shp.int _ _
  · exact ⟨by decide +kernel, by decide +kernel⟩
  · exact ⟨by decide +kernel, by decide +kernel⟩
  · exact Shp.none _
  · exact Shp.bool _ _
  · exact ⟨by decide +kernel, by decide +kernel⟩
  · exact ⟨by decide +kernel, by decide +kernel⟩
  · exact ⟨by decide +kernel, by decide +kernel⟩
  · exact Shp.int _ _
  · exact ⟨by decide +kernel, by decide +kernel⟩
  · exact ⟨by decide +kernel, by decide +kernel⟩
theorem dt_of_mem {ex : List Addr} {H : Hp} {vs : List V} {ds : List PyData} {v : V} (h : DtAll ex H vs ds) (m : v ∈ vs) : ∃ d ∈ ds, Dt ex H v d := by
  obtain ⟨i, hi⟩ := List.mem_iff_getElem?.mp m
  obtain ⟨d, hd, h'⟩ := h.at hi
  exact ⟨d, List.mem_of_getElem? hd, h'⟩
def sp__law_value (K : PySem.W.Frag) : Sp := fun vs H Q _ => ∃ (p : Addr) (n : Nat), vs = [.ref p] ∧ BagAt H p (n + 2) ∧ ∀ x d H', Kp [p] H H' → BagAt H' p n → Dt [p] H' x d → Shp 3 d → Q x H'
abbrev s__law_value : Stmt := top 25
theorem sc__law_value : FnScope ["_law_bag_here", "_law_number"] ["_law_bag_here"] (defScope s__law_value) :=
  ⟨rfl, rfl, rfl, by decide +kernel, rfl, by decide +kernel, by decide +kernel⟩
theorem ok__law_value {f : Addr} {fd : FuncData} (F : Fun K "_law_value" "_law_value" s__law_value f fd) (T : Txt K mg C_SilentswapsError C_BadCall C_BadFunction C_BadKinds C_BadLine C_BadPlan C_BadPromise C_BadSlip C_BadValues C_HasStars C_Refused C_TooMany C_Unlike C_Untested C_NoFunction C_NoPlace C_NoRow C_Over) (U__law_take : Use P w K mg base 2 "_law_take" ["_law_bag_here", "_law_many"] (sp__law_take)) (U__law_of : Use P w K mg base 4 "_law_of" ["_law_bag_here", "_law_some"] (sp__law_of K)) :
    FnOk P w K mg base CX0 6 f fd ["_law_bag_here"] (sp__law_value K) := by
  refine F.ok sc__law_value (fun vs H Q E h => ?_) (fun cdv A outer s H vs Q E hr h => ?_)
  · obtain ⟨p, n, rfl, _⟩ := h
    rfl
  · obtain ⟨p, n, rfl, hb, q⟩ := h
    have hu := hu_of hr
    have hu64 := hr.units
    refine ⟨_, (pss_cons (ps_set (i := 1) sc__law_value.nd rfl (by first | exact Or.inl rfl | exact Or.inr rfl) (pe_use U__law_take (hr.mono (by first | decide | omega)) (by rfl) (pa_cons (pv 0) (pa_cons (pe_op op_pow pe_int pe_int) pa_nil))))
        (pss_one (ps_ret (pe_use U__law_of (hr.mono (by first | decide | omega)) (by rfl) (pa_cons (pv 0) (pa_cons (pe_lst (pa_cons (pv 1) (pa_cons (pe_un un_neg (pv 1)) (pa_cons pe_str (pa_cons pe_str (pa_cons pe_non (pa_cons pe_bl (pa_cons (pe_tup pa_nil) (pa_cons (pe_tup (pa_cons pe_int (pa_cons pe_str pa_nil))) (pa_cons (pe_lst (pa_cons pe_int (pa_cons (pe_lst (pa_cons pe_int pa_nil)) pa_nil))) (pa_cons pe_int (pa_cons (pe_tup (pa_cons pe_str (pa_cons pe_str (pa_cons pe_str pa_nil)))) (pa_cons (pe_lst (pa_cons (pe_tup (pa_cons pe_str (pa_cons pe_int pa_nil))) pa_nil)) pa_nil))))))))))))) pa_nil)))))), ?_⟩
    walk_at "S"
    refine r_I ⟨by decide, by decide, by decide⟩ ?_
    walk_at "S"
    refine ⟨p, n + 1, _, rfl, hb, by decide, by decide, fun r H1 _ _ k1 b1 => ?_⟩
    refine r_name ?_
    refine r_ret ?_
    refine r_use ?_
    refine r_consA ?_
    refine r_var rfl ?_
    refine r_consA ?_
    refine r_ED (d := .list (valuesD r)) ?_ fun x H2 k2 hx => ?_
    · walk_at "D"
      exact ED_neg rfl
    walk_at "S"
    obtain ⟨l, xs, rfl, _, el, hA⟩ := hx.list
    have hl : xs.length = 12 := hA.length
    have b2 := b1.kp k2 not_nil
    refine ⟨p, l, n, xs, rfl, b2, SqL.of el, by omega, by omega, fun v H3 hv k3 b3 => ?_⟩
    obtain ⟨d, hd, hv'⟩ := dt_of_mem hA hv
    obtain ⟨_, _, _, _, eb, _⟩ := b2
    have hv2 := (hv'.skip eb (fun _ z => nomatch z) (fun _ z => nomatch z)).mono k3
    exact q v d H3 ((k1.trans k2.nil).trans k3) b3 hv2 (valuesD_shp r d hd)

/-! ### an error and its field -/
def sp__law_made (cs : List Addr) : Sp := fun vs H Q _ => ∃ (i : Nat) (v u : V) (d e : PyData), vs = [.int (i : Int), v, u] ∧ i < 17 ∧ Dt [] H v d ∧ Dt [] H u e ∧ Shp 3 d ∧ Shp 3 e ∧
  ∀ (t a C : Addr) (fs : List (Str × V)) H', Kp [] H H' → cs[i]? = some C → ExAt C H' a fs → H' t = some (.tup [.ref a, v]) → Q (.ref t) H'
abbrev s__law_made : Stmt := top 26
theorem sc__law_made : FnScope ["_law_which", "_law_value_here", "_law_other", "_law_e", "_law_again"] ["_law_which", "_law_value_here", "_law_other"] (defScope s__law_made) :=
  ⟨rfl, rfl, rfl, by decide +kernel, rfl, by decide +kernel, by decide +kernel⟩
theorem ok__law_made {f : Addr} {fd : FuncData} (F : Fun K "_law_made" "_law_made" s__law_made f fd) (T : Txt K mg C_SilentswapsError C_BadCall C_BadFunction C_BadKinds C_BadLine C_BadPlan C_BadPromise C_BadSlip C_BadValues C_HasStars C_Refused C_TooMany C_Unlike C_Untested C_NoFunction C_NoPlace C_NoRow C_Over) (U_BadCall : UseV P w K mg base 1 "BadCall" C_BadCall ["self", "index"] (sp_ev ["index"] C_BadCall)) (U_BadFunction : UseV P w K mg base 1 "BadFunction" C_BadFunction ["self", "name"] (sp_ev ["name"] C_BadFunction)) (U_BadKinds : UseV P w K mg base 1 "BadKinds" C_BadKinds ["self", "at"] (sp_ev ["at"] C_BadKinds)) (U_BadLine : UseV P w K mg base 1 "BadLine" C_BadLine ["self", "at"] (sp_ev ["at"] C_BadLine)) (U_BadPlan : UseV P w K mg base 1 "BadPlan" C_BadPlan ["self", "plan"] (sp_ev ["plan"] C_BadPlan)) (U_BadPromise : UseV P w K mg base 1 "BadPromise" C_BadPromise ["self", "promise"] (sp_ev ["promise"] C_BadPromise)) (U_BadSlip : UseV P w K mg base 1 "BadSlip" C_BadSlip ["self", "what"] (sp_ev ["what"] C_BadSlip)) (U_BadValues : UseV P w K mg base 1 "BadValues" C_BadValues ["self", "at"] (sp_ev ["at"] C_BadValues)) (U_HasStars : UseV P w K mg base 1 "HasStars" C_HasStars ["self", "name"] (sp_ev ["name"] C_HasStars)) (U_Refused : UseV P w K mg base 1 "Refused" C_Refused ["self", "door"] (sp_ev ["door"] C_Refused)) (U_TooMany : UseV P w K mg base 1 "TooMany" C_TooMany ["self", "what"] (sp_ev ["what"] C_TooMany)) (U_Unlike : UseV P w K mg base 1 "Unlike" C_Unlike ["self"] (sp_ev [] C_Unlike)) (U_Untested : UseV P w K mg base 1 "Untested" C_Untested ["self", "promise"] (sp_ev ["promise"] C_Untested)) (U_NoFunction : UseV P w K mg base 1 "NoFunction" C_NoFunction ["self", "name"] (sp_ev ["name"] C_NoFunction)) (U_NoPlace : UseV P w K mg base 1 "NoPlace" C_NoPlace ["self", "what"] (sp_ev ["what"] C_NoPlace)) (U_NoRow : UseV P w K mg base 1 "NoRow" C_NoRow ["self", "name", "row"] (sp_ev ["name", "row"] C_NoRow)) (U_Over : UseV P w K mg base 1 "Over" C_Over ["self"] (sp_ev [] C_Over)) :
    FnOk P w K mg base CX0 4 f fd ["_law_which", "_law_value_here", "_law_other"] (sp__law_made [C_BadCall, C_BadFunction, C_BadKinds, C_BadLine, C_BadPlan, C_BadPromise, C_BadSlip, C_BadValues, C_HasStars, C_Refused, C_TooMany, C_Unlike, C_Untested, C_NoFunction, C_NoPlace, C_NoRow, C_Over]) := by
  refine F.ok sc__law_made (fun vs H Q E h => ?_) (fun cdv A outer s H vs Q E hr h => ?_)
  · obtain ⟨i, v, u, d, e, rfl, _⟩ := h
    rfl
  · obtain ⟨i, v, u, d, e, rfl, hi, hv, hu', sv, su, q⟩ := h
    have hu := hu_of hr
    have hu64 := hr.units
    refine ⟨_, (pss_cons (ps_if (pt_cmpR op_lt (pv 0) pe_int (nomark _))
          (pss_cons (ps_set (i := 3) sc__law_made.nd rfl (by first | exact Or.inl rfl | exact Or.inr rfl) (pe_ix (K_ixL (K := K) rfl) (pe_lst (pa_cons (pe_mkV U_BadCall (hr.mono (by first | decide | omega)) (by rfl) rfl (pa_cons (pv 1) pa_nil)) (pa_cons (pe_mkV U_BadFunction (hr.mono (by first | decide | omega)) (by rfl) rfl (pa_cons (pv 1) pa_nil)) (pa_cons (pe_mkV U_BadKinds (hr.mono (by first | decide | omega)) (by rfl) rfl (pa_cons (pv 1) pa_nil)) (pa_cons (pe_mkV U_BadLine (hr.mono (by first | decide | omega)) (by rfl) rfl (pa_cons (pv 1) pa_nil)) pa_nil))))) (pv 0) (fun _ _ => rfl)))
          (pss_one (ps_ret (pe_tup (pa_cons (pv 3) (pa_cons (pe_ix (K_ixL (K := K) rfl) (pe_lst (pa_cons (K_ofl (K := K) rfl (pe_mkVS ["index"] U_BadCall (hr.mono (by first | decide | omega)) (by rfl) rfl rfl (pk_cons (pv 1) pk_nil)) (by rfl)) (pa_cons (K_ofl (K := K) rfl (pe_mkVS ["name"] U_BadFunction (hr.mono (by first | decide | omega)) (by rfl) rfl rfl (pk_cons (pv 1) pk_nil)) (by rfl)) (pa_cons (K_ofl (K := K) rfl (pe_mkVS ["at"] U_BadKinds (hr.mono (by first | decide | omega)) (by rfl) rfl rfl (pk_cons (pv 1) pk_nil)) (by rfl)) (pa_cons (K_ofl (K := K) rfl (pe_mkVS ["at"] U_BadLine (hr.mono (by first | decide | omega)) (by rfl) rfl rfl (pk_cons (pv 1) pk_nil)) (by rfl)) pa_nil))))) (pv 0) (fun _ _ => rfl)) pa_nil))))))
          pss_nil)
        (pss_cons (ps_if (pt_cmpR op_lt (pv 0) pe_int (nomark _))
          (pss_cons (ps_set (i := 3) sc__law_made.nd rfl (by first | exact Or.inl rfl | exact Or.inr rfl) (pe_ix (K_ixL (K := K) rfl) (pe_lst (pa_cons (pe_mkV U_BadPlan (hr.mono (by first | decide | omega)) (by rfl) rfl (pa_cons (pv 1) pa_nil)) (pa_cons (pe_mkV U_BadPromise (hr.mono (by first | decide | omega)) (by rfl) rfl (pa_cons (pv 1) pa_nil)) (pa_cons (pe_mkV U_BadSlip (hr.mono (by first | decide | omega)) (by rfl) rfl (pa_cons (pv 1) pa_nil)) (pa_cons (pe_mkV U_BadValues (hr.mono (by first | decide | omega)) (by rfl) rfl (pa_cons (pv 1) pa_nil)) pa_nil))))) (pe_op op_sub (pv 0) pe_int) (fun _ _ => rfl)))
          (pss_one (ps_ret (pe_tup (pa_cons (pv 3) (pa_cons (pe_ix (K_ixL (K := K) rfl) (pe_lst (pa_cons (K_ofl (K := K) rfl (pe_mkVS ["plan"] U_BadPlan (hr.mono (by first | decide | omega)) (by rfl) rfl rfl (pk_cons (pv 1) pk_nil)) (by rfl)) (pa_cons (K_ofl (K := K) rfl (pe_mkVS ["promise"] U_BadPromise (hr.mono (by first | decide | omega)) (by rfl) rfl rfl (pk_cons (pv 1) pk_nil)) (by rfl)) (pa_cons (K_ofl (K := K) rfl (pe_mkVS ["what"] U_BadSlip (hr.mono (by first | decide | omega)) (by rfl) rfl rfl (pk_cons (pv 1) pk_nil)) (by rfl)) (pa_cons (K_ofl (K := K) rfl (pe_mkVS ["at"] U_BadValues (hr.mono (by first | decide | omega)) (by rfl) rfl rfl (pk_cons (pv 1) pk_nil)) (by rfl)) pa_nil))))) (pe_op op_sub (pv 0) pe_int) (fun _ _ => rfl)) pa_nil))))))
          pss_nil)
        (pss_cons (ps_if (pt_cmpR op_lt (pv 0) pe_int (nomark _))
          (pss_cons (ps_set (i := 3) sc__law_made.nd rfl (by first | exact Or.inl rfl | exact Or.inr rfl) (pe_ix (K_ixL (K := K) rfl) (pe_lst (pa_cons (pe_mkV U_HasStars (hr.mono (by first | decide | omega)) (by rfl) rfl (pa_cons (pv 1) pa_nil)) (pa_cons (pe_mkV U_Refused (hr.mono (by first | decide | omega)) (by rfl) rfl (pa_cons (pv 1) pa_nil)) (pa_cons (pe_mkV U_TooMany (hr.mono (by first | decide | omega)) (by rfl) rfl (pa_cons (pv 1) pa_nil)) pa_nil)))) (pe_op op_sub (pv 0) pe_int) (fun _ _ => rfl)))
          (pss_one (ps_ret (pe_tup (pa_cons (pv 3) (pa_cons (pe_ix (K_ixL (K := K) rfl) (pe_lst (pa_cons (K_ofl (K := K) rfl (pe_mkVS ["name"] U_HasStars (hr.mono (by first | decide | omega)) (by rfl) rfl rfl (pk_cons (pv 1) pk_nil)) (by rfl)) (pa_cons (K_ofl (K := K) rfl (pe_mkVS ["door"] U_Refused (hr.mono (by first | decide | omega)) (by rfl) rfl rfl (pk_cons (pv 1) pk_nil)) (by rfl)) (pa_cons (K_ofl (K := K) rfl (pe_mkVS ["what"] U_TooMany (hr.mono (by first | decide | omega)) (by rfl) rfl rfl (pk_cons (pv 1) pk_nil)) (by rfl)) pa_nil)))) (pe_op op_sub (pv 0) pe_int) (fun _ _ => rfl)) pa_nil))))))
          pss_nil)
        (pss_cons (ps_if (pt_cmpR op_eq (pv 0) pe_int (nomark _))
          (pss_one (ps_ret (pe_tup (pa_cons (pe_mkV0 U_Unlike (hr.mono (by first | decide | omega)) (by rfl) rfl) (pa_cons (pv 1) pa_nil)))))
          pss_nil)
        (pss_cons (ps_if (pt_cmpR op_lt (pv 0) pe_int (nomark _))
          (pss_cons (ps_set (i := 3) sc__law_made.nd rfl (by first | exact Or.inl rfl | exact Or.inr rfl) (pe_ix (K_ixL (K := K) rfl) (pe_lst (pa_cons (pe_mkV U_Untested (hr.mono (by first | decide | omega)) (by rfl) rfl (pa_cons (pv 1) pa_nil)) (pa_cons (pe_mkV U_NoFunction (hr.mono (by first | decide | omega)) (by rfl) rfl (pa_cons (pv 1) pa_nil)) (pa_cons (pe_mkV U_NoPlace (hr.mono (by first | decide | omega)) (by rfl) rfl (pa_cons (pv 1) pa_nil)) pa_nil)))) (pe_op op_sub (pv 0) pe_int) (fun _ _ => rfl)))
          (pss_one (ps_ret (pe_tup (pa_cons (pv 3) (pa_cons (pe_ix (K_ixL (K := K) rfl) (pe_lst (pa_cons (K_ofl (K := K) rfl (pe_mkVS ["promise"] U_Untested (hr.mono (by first | decide | omega)) (by rfl) rfl rfl (pk_cons (pv 1) pk_nil)) (by rfl)) (pa_cons (K_ofl (K := K) rfl (pe_mkVS ["name"] U_NoFunction (hr.mono (by first | decide | omega)) (by rfl) rfl rfl (pk_cons (pv 1) pk_nil)) (by rfl)) (pa_cons (K_ofl (K := K) rfl (pe_mkVS ["what"] U_NoPlace (hr.mono (by first | decide | omega)) (by rfl) rfl rfl (pk_cons (pv 1) pk_nil)) (by rfl)) pa_nil)))) (pe_op op_sub (pv 0) pe_int) (fun _ _ => rfl)) pa_nil))))))
          pss_nil)
        (pss_cons (ps_if (pt_cmpR op_eq (pv 0) pe_int (nomark _))
          (pss_cons (ps_par (i := 3) (j := 4) (by rfl) sc__law_made.nd rfl rfl (by decide) rfl rfl (pa_cons (pe_mkV U_NoRow (hr.mono (by first | decide | omega)) (by rfl) rfl (pa_cons (pv 2) (pa_cons (pv 1) pa_nil))) (pa_cons (pe_mkVR ["row", "name"] U_NoRow (hr.mono (by first | decide | omega)) (by rfl) rfl rfl (pk_cons (pv 1) (pk_cons (pv 2) pk_nil))) pa_nil)) (by rfl))
          (pss_one (ps_ret (pe_tup (pa_cons (pv 3) (pa_cons (pe_ifExp (PW.pt (pw_and (pt_cmpR (K_eqD (K := K) rfl hu64) (K_ofl (K := K) rfl (pv 3) (by rfl)) (pv 2) (nomark _)) (pw_and (pt_cmpR (K_eqD (K := K) rfl hu64) (K_ofl (K := K) rfl (pv 4) (by rfl)) (pv 2) (nomark _)) (pw_and1 (pt_cmpR (K_eqD (K := K) rfl hu64) (K_ofl (K := K) rfl (pv 4) (by rfl)) (pv 1) (nomark _)))))) (K_ofl (K := K) rfl (pv 3) (by rfl)) (pe_lst (pa_cons (pv 1) (pa_cons (pv 2) pa_nil)))) pa_nil))))))
          pss_nil)
        (pss_one (ps_ret (pe_tup (pa_cons (pe_mkV0 U_Over (hr.mono (by first | decide | omega)) (by rfl) rfl) (pa_cons (pv 1) pa_nil))))))))))), ?_⟩
    walk_at "S"
    refine r_kIfS (fun c => ?_) (fun c => ?_)
    · have hlt := of_decide_eq_true c
      walk_at "S"
      refine r_kMkE rfl rfl (by decide) fun a0 H0 n0 k0 x0 => ?_
      walk_at "S"
      refine r_kMkE rfl rfl (by decide) fun a1 H1 n1 k1 x1 => ?_
      walk_at "S"
      refine r_kMkE rfl rfl (by decide) fun a2 H2 n2 k2 x2 => ?_
      walk_at "S"
      refine r_kMkE rfl rfl (by decide) fun a3 H3 n3 k3 x3 => ?_
      walk_at "S"
      refine r_kLst (by show 4 ≤ sizeLine; decide) fun l Hl nl kl el => ?_
      walk_at "S"
      have kA : Kp [] H Hl := (((k0.trans k1).trans k2).trans k3).trans kl
      have y0 := (((x0.kp k1).kp k2).kp k3).kp kl
      have y1 := ((x1.kp k2).kp k3).kp kl
      have y2 := (x2.kp k3).kp kl
      have y3 := x3.kp kl
      have hw : i = 0 ∨ i = 1 ∨ i = 2 ∨ i = 3 := by omega
      rcases hw with rfl | rfl | rfl | rfl
      · refine r_ixL (v := .ref a0) (SqL.of el) (atI_nat (j := 0) rfl) ?_
        walk_at "S"
        refine r_kMkE rfl rfl (by decide) fun b0 G0 m0 j0 z0 => ?_
        refine r_kOfl z0 T.x_BadCall T.n_BadCall_index rfl ?_
        walk_at "S"
        refine r_kMkE rfl rfl (by decide) fun b1 G1 m1 j1 z1 => ?_
        refine r_kOfl z1 T.x_BadFunction T.n_BadFunction_name rfl ?_
        walk_at "S"
        refine r_kMkE rfl rfl (by decide) fun b2 G2 m2 j2 z2 => ?_
        refine r_kOfl z2 T.x_BadKinds T.n_BadKinds_at rfl ?_
        walk_at "S"
        refine r_kMkE rfl rfl (by decide) fun b3 G3 m3 j3 z3 => ?_
        refine r_kOfl z3 T.x_BadLine T.n_BadLine_at rfl ?_
        walk_at "S"
        refine r_kLst (by show 4 ≤ sizeLine; decide) fun l2 Hm nm km em => ?_
        walk_at "S"
        refine r_ixL (v := v) (SqL.of em) (atI_nat (j := 0) rfl) ?_
        walk_at "S"
        refine r_kTup (by show 2 ≤ sizeLine; decide) fun t Ht nt kt et => ?_
        have kz := (((((kA.trans j0).trans j1).trans j2).trans j3).trans km).trans kt
        exact q t a0 _ _ Ht kz rfl ((((((y0.kp j0).kp j1).kp j2).kp j3).kp km).kp kt) et
      · refine r_ixL (v := .ref a1) (SqL.of el) (atI_nat (j := 1) rfl) ?_
        walk_at "S"
        refine r_kMkE rfl rfl (by decide) fun b0 G0 m0 j0 z0 => ?_
        refine r_kOfl z0 T.x_BadCall T.n_BadCall_index rfl ?_
        walk_at "S"
        refine r_kMkE rfl rfl (by decide) fun b1 G1 m1 j1 z1 => ?_
        refine r_kOfl z1 T.x_BadFunction T.n_BadFunction_name rfl ?_
        walk_at "S"
        refine r_kMkE rfl rfl (by decide) fun b2 G2 m2 j2 z2 => ?_
        refine r_kOfl z2 T.x_BadKinds T.n_BadKinds_at rfl ?_
        walk_at "S"
        refine r_kMkE rfl rfl (by decide) fun b3 G3 m3 j3 z3 => ?_
        refine r_kOfl z3 T.x_BadLine T.n_BadLine_at rfl ?_
        walk_at "S"
        refine r_kLst (by show 4 ≤ sizeLine; decide) fun l2 Hm nm km em => ?_
        walk_at "S"
        refine r_ixL (v := v) (SqL.of em) (atI_nat (j := 1) rfl) ?_
        walk_at "S"
        refine r_kTup (by show 2 ≤ sizeLine; decide) fun t Ht nt kt et => ?_
        have kz := (((((kA.trans j0).trans j1).trans j2).trans j3).trans km).trans kt
        exact q t a1 _ _ Ht kz rfl ((((((y1.kp j0).kp j1).kp j2).kp j3).kp km).kp kt) et
      · refine r_ixL (v := .ref a2) (SqL.of el) (atI_nat (j := 2) rfl) ?_
        walk_at "S"
        refine r_kMkE rfl rfl (by decide) fun b0 G0 m0 j0 z0 => ?_
        refine r_kOfl z0 T.x_BadCall T.n_BadCall_index rfl ?_
        walk_at "S"
        refine r_kMkE rfl rfl (by decide) fun b1 G1 m1 j1 z1 => ?_
        refine r_kOfl z1 T.x_BadFunction T.n_BadFunction_name rfl ?_
        walk_at "S"
        refine r_kMkE rfl rfl (by decide) fun b2 G2 m2 j2 z2 => ?_
        refine r_kOfl z2 T.x_BadKinds T.n_BadKinds_at rfl ?_
        walk_at "S"
        refine r_kMkE rfl rfl (by decide) fun b3 G3 m3 j3 z3 => ?_
        refine r_kOfl z3 T.x_BadLine T.n_BadLine_at rfl ?_
        walk_at "S"
        refine r_kLst (by show 4 ≤ sizeLine; decide) fun l2 Hm nm km em => ?_
        walk_at "S"
        refine r_ixL (v := v) (SqL.of em) (atI_nat (j := 2) rfl) ?_
        walk_at "S"
        refine r_kTup (by show 2 ≤ sizeLine; decide) fun t Ht nt kt et => ?_
        have kz := (((((kA.trans j0).trans j1).trans j2).trans j3).trans km).trans kt
        exact q t a2 _ _ Ht kz rfl ((((((y2.kp j0).kp j1).kp j2).kp j3).kp km).kp kt) et
      · refine r_ixL (v := .ref a3) (SqL.of el) (atI_nat (j := 3) rfl) ?_
        walk_at "S"
        refine r_kMkE rfl rfl (by decide) fun b0 G0 m0 j0 z0 => ?_
        refine r_kOfl z0 T.x_BadCall T.n_BadCall_index rfl ?_
        walk_at "S"
        refine r_kMkE rfl rfl (by decide) fun b1 G1 m1 j1 z1 => ?_
        refine r_kOfl z1 T.x_BadFunction T.n_BadFunction_name rfl ?_
        walk_at "S"
        refine r_kMkE rfl rfl (by decide) fun b2 G2 m2 j2 z2 => ?_
        refine r_kOfl z2 T.x_BadKinds T.n_BadKinds_at rfl ?_
        walk_at "S"
        refine r_kMkE rfl rfl (by decide) fun b3 G3 m3 j3 z3 => ?_
        refine r_kOfl z3 T.x_BadLine T.n_BadLine_at rfl ?_
        walk_at "S"
        refine r_kLst (by show 4 ≤ sizeLine; decide) fun l2 Hm nm km em => ?_
        walk_at "S"
        refine r_ixL (v := v) (SqL.of em) (atI_nat (j := 3) rfl) ?_
        walk_at "S"
        refine r_kTup (by show 2 ≤ sizeLine; decide) fun t Ht nt kt et => ?_
        have kz := (((((kA.trans j0).trans j1).trans j2).trans j3).trans km).trans kt
        exact q t a3 _ _ Ht kz rfl ((((((y3.kp j0).kp j1).kp j2).kp j3).kp km).kp kt) et
    have g0 := of_decide_eq_false c
    clear c
    walk_at "S"
    refine r_kIfS (fun c => ?_) (fun c => ?_)
    · have hlt := of_decide_eq_true c
      walk_at "S"
      refine r_kMkE rfl rfl (by decide) fun a0 H0 n0 k0 x0 => ?_
      walk_at "S"
      refine r_kMkE rfl rfl (by decide) fun a1 H1 n1 k1 x1 => ?_
      walk_at "S"
      refine r_kMkE rfl rfl (by decide) fun a2 H2 n2 k2 x2 => ?_
      walk_at "S"
      refine r_kMkE rfl rfl (by decide) fun a3 H3 n3 k3 x3 => ?_
      walk_at "S"
      refine r_kLst (by show 4 ≤ sizeLine; decide) fun l Hl nl kl el => ?_
      walk_at "S"
      have kA : Kp [] H Hl := (((k0.trans k1).trans k2).trans k3).trans kl
      have y0 := (((x0.kp k1).kp k2).kp k3).kp kl
      have y1 := ((x1.kp k2).kp k3).kp kl
      have y2 := (x2.kp k3).kp kl
      have y3 := x3.kp kl
      have hw : i = 4 ∨ i = 5 ∨ i = 6 ∨ i = 7 := by omega
      rcases hw with rfl | rfl | rfl | rfl
      · refine r_ixL (v := .ref a0) (SqL.of el) (atI_nat (j := 0) rfl) ?_
        walk_at "S"
        refine r_kMkE rfl rfl (by decide) fun b0 G0 m0 j0 z0 => ?_
        refine r_kOfl z0 T.x_BadPlan T.n_BadPlan_plan rfl ?_
        walk_at "S"
        refine r_kMkE rfl rfl (by decide) fun b1 G1 m1 j1 z1 => ?_
        refine r_kOfl z1 T.x_BadPromise T.n_BadPromise_promise rfl ?_
        walk_at "S"
        refine r_kMkE rfl rfl (by decide) fun b2 G2 m2 j2 z2 => ?_
        refine r_kOfl z2 T.x_BadSlip T.n_BadSlip_what rfl ?_
        walk_at "S"
        refine r_kMkE rfl rfl (by decide) fun b3 G3 m3 j3 z3 => ?_
        refine r_kOfl z3 T.x_BadValues T.n_BadValues_at rfl ?_
        walk_at "S"
        refine r_kLst (by show 4 ≤ sizeLine; decide) fun l2 Hm nm km em => ?_
        walk_at "S"
        refine r_ixL (v := v) (SqL.of em) (atI_nat (j := 0) rfl) ?_
        walk_at "S"
        refine r_kTup (by show 2 ≤ sizeLine; decide) fun t Ht nt kt et => ?_
        have kz := (((((kA.trans j0).trans j1).trans j2).trans j3).trans km).trans kt
        exact q t a0 _ _ Ht kz rfl ((((((y0.kp j0).kp j1).kp j2).kp j3).kp km).kp kt) et
      · refine r_ixL (v := .ref a1) (SqL.of el) (atI_nat (j := 1) rfl) ?_
        walk_at "S"
        refine r_kMkE rfl rfl (by decide) fun b0 G0 m0 j0 z0 => ?_
        refine r_kOfl z0 T.x_BadPlan T.n_BadPlan_plan rfl ?_
        walk_at "S"
        refine r_kMkE rfl rfl (by decide) fun b1 G1 m1 j1 z1 => ?_
        refine r_kOfl z1 T.x_BadPromise T.n_BadPromise_promise rfl ?_
        walk_at "S"
        refine r_kMkE rfl rfl (by decide) fun b2 G2 m2 j2 z2 => ?_
        refine r_kOfl z2 T.x_BadSlip T.n_BadSlip_what rfl ?_
        walk_at "S"
        refine r_kMkE rfl rfl (by decide) fun b3 G3 m3 j3 z3 => ?_
        refine r_kOfl z3 T.x_BadValues T.n_BadValues_at rfl ?_
        walk_at "S"
        refine r_kLst (by show 4 ≤ sizeLine; decide) fun l2 Hm nm km em => ?_
        walk_at "S"
        refine r_ixL (v := v) (SqL.of em) (atI_nat (j := 1) rfl) ?_
        walk_at "S"
        refine r_kTup (by show 2 ≤ sizeLine; decide) fun t Ht nt kt et => ?_
        have kz := (((((kA.trans j0).trans j1).trans j2).trans j3).trans km).trans kt
        exact q t a1 _ _ Ht kz rfl ((((((y1.kp j0).kp j1).kp j2).kp j3).kp km).kp kt) et
      · refine r_ixL (v := .ref a2) (SqL.of el) (atI_nat (j := 2) rfl) ?_
        walk_at "S"
        refine r_kMkE rfl rfl (by decide) fun b0 G0 m0 j0 z0 => ?_
        refine r_kOfl z0 T.x_BadPlan T.n_BadPlan_plan rfl ?_
        walk_at "S"
        refine r_kMkE rfl rfl (by decide) fun b1 G1 m1 j1 z1 => ?_
        refine r_kOfl z1 T.x_BadPromise T.n_BadPromise_promise rfl ?_
        walk_at "S"
        refine r_kMkE rfl rfl (by decide) fun b2 G2 m2 j2 z2 => ?_
        refine r_kOfl z2 T.x_BadSlip T.n_BadSlip_what rfl ?_
        walk_at "S"
        refine r_kMkE rfl rfl (by decide) fun b3 G3 m3 j3 z3 => ?_
        refine r_kOfl z3 T.x_BadValues T.n_BadValues_at rfl ?_
        walk_at "S"
        refine r_kLst (by show 4 ≤ sizeLine; decide) fun l2 Hm nm km em => ?_
        walk_at "S"
        refine r_ixL (v := v) (SqL.of em) (atI_nat (j := 2) rfl) ?_
        walk_at "S"
        refine r_kTup (by show 2 ≤ sizeLine; decide) fun t Ht nt kt et => ?_
        have kz := (((((kA.trans j0).trans j1).trans j2).trans j3).trans km).trans kt
        exact q t a2 _ _ Ht kz rfl ((((((y2.kp j0).kp j1).kp j2).kp j3).kp km).kp kt) et
      · refine r_ixL (v := .ref a3) (SqL.of el) (atI_nat (j := 3) rfl) ?_
        walk_at "S"
        refine r_kMkE rfl rfl (by decide) fun b0 G0 m0 j0 z0 => ?_
        refine r_kOfl z0 T.x_BadPlan T.n_BadPlan_plan rfl ?_
        walk_at "S"
        refine r_kMkE rfl rfl (by decide) fun b1 G1 m1 j1 z1 => ?_
        refine r_kOfl z1 T.x_BadPromise T.n_BadPromise_promise rfl ?_
        walk_at "S"
        refine r_kMkE rfl rfl (by decide) fun b2 G2 m2 j2 z2 => ?_
        refine r_kOfl z2 T.x_BadSlip T.n_BadSlip_what rfl ?_
        walk_at "S"
        refine r_kMkE rfl rfl (by decide) fun b3 G3 m3 j3 z3 => ?_
        refine r_kOfl z3 T.x_BadValues T.n_BadValues_at rfl ?_
        walk_at "S"
        refine r_kLst (by show 4 ≤ sizeLine; decide) fun l2 Hm nm km em => ?_
        walk_at "S"
        refine r_ixL (v := v) (SqL.of em) (atI_nat (j := 3) rfl) ?_
        walk_at "S"
        refine r_kTup (by show 2 ≤ sizeLine; decide) fun t Ht nt kt et => ?_
        have kz := (((((kA.trans j0).trans j1).trans j2).trans j3).trans km).trans kt
        exact q t a3 _ _ Ht kz rfl ((((((y3.kp j0).kp j1).kp j2).kp j3).kp km).kp kt) et
    have g1 := of_decide_eq_false c
    clear c
    walk_at "S"
    refine r_kIfS (fun c => ?_) (fun c => ?_)
    · have hlt := of_decide_eq_true c
      walk_at "S"
      refine r_kMkE rfl rfl (by decide) fun a0 H0 n0 k0 x0 => ?_
      walk_at "S"
      refine r_kMkE rfl rfl (by decide) fun a1 H1 n1 k1 x1 => ?_
      walk_at "S"
      refine r_kMkE rfl rfl (by decide) fun a2 H2 n2 k2 x2 => ?_
      walk_at "S"
      refine r_kLst (by show 3 ≤ sizeLine; decide) fun l Hl nl kl el => ?_
      walk_at "S"
      have kA : Kp [] H Hl := ((k0.trans k1).trans k2).trans kl
      have y0 := ((x0.kp k1).kp k2).kp kl
      have y1 := (x1.kp k2).kp kl
      have y2 := x2.kp kl
      have hw : i = 8 ∨ i = 9 ∨ i = 10 := by omega
      rcases hw with rfl | rfl | rfl
      · refine r_ixL (v := .ref a0) (SqL.of el) (atI_nat (j := 0) rfl) ?_
        walk_at "S"
        refine r_kMkE rfl rfl (by decide) fun b0 G0 m0 j0 z0 => ?_
        refine r_kOfl z0 T.x_HasStars T.n_HasStars_name rfl ?_
        walk_at "S"
        refine r_kMkE rfl rfl (by decide) fun b1 G1 m1 j1 z1 => ?_
        refine r_kOfl z1 T.x_Refused T.n_Refused_door rfl ?_
        walk_at "S"
        refine r_kMkE rfl rfl (by decide) fun b2 G2 m2 j2 z2 => ?_
        refine r_kOfl z2 T.x_TooMany T.n_TooMany_what rfl ?_
        walk_at "S"
        refine r_kLst (by show 3 ≤ sizeLine; decide) fun l2 Hm nm km em => ?_
        walk_at "S"
        refine r_ixL (v := v) (SqL.of em) (atI_nat (j := 0) rfl) ?_
        walk_at "S"
        refine r_kTup (by show 2 ≤ sizeLine; decide) fun t Ht nt kt et => ?_
        have kz := ((((kA.trans j0).trans j1).trans j2).trans km).trans kt
        exact q t a0 _ _ Ht kz rfl (((((y0.kp j0).kp j1).kp j2).kp km).kp kt) et
      · refine r_ixL (v := .ref a1) (SqL.of el) (atI_nat (j := 1) rfl) ?_
        walk_at "S"
        refine r_kMkE rfl rfl (by decide) fun b0 G0 m0 j0 z0 => ?_
        refine r_kOfl z0 T.x_HasStars T.n_HasStars_name rfl ?_
        walk_at "S"
        refine r_kMkE rfl rfl (by decide) fun b1 G1 m1 j1 z1 => ?_
        refine r_kOfl z1 T.x_Refused T.n_Refused_door rfl ?_
        walk_at "S"
        refine r_kMkE rfl rfl (by decide) fun b2 G2 m2 j2 z2 => ?_
        refine r_kOfl z2 T.x_TooMany T.n_TooMany_what rfl ?_
        walk_at "S"
        refine r_kLst (by show 3 ≤ sizeLine; decide) fun l2 Hm nm km em => ?_
        walk_at "S"
        refine r_ixL (v := v) (SqL.of em) (atI_nat (j := 1) rfl) ?_
        walk_at "S"
        refine r_kTup (by show 2 ≤ sizeLine; decide) fun t Ht nt kt et => ?_
        have kz := ((((kA.trans j0).trans j1).trans j2).trans km).trans kt
        exact q t a1 _ _ Ht kz rfl (((((y1.kp j0).kp j1).kp j2).kp km).kp kt) et
      · refine r_ixL (v := .ref a2) (SqL.of el) (atI_nat (j := 2) rfl) ?_
        walk_at "S"
        refine r_kMkE rfl rfl (by decide) fun b0 G0 m0 j0 z0 => ?_
        refine r_kOfl z0 T.x_HasStars T.n_HasStars_name rfl ?_
        walk_at "S"
        refine r_kMkE rfl rfl (by decide) fun b1 G1 m1 j1 z1 => ?_
        refine r_kOfl z1 T.x_Refused T.n_Refused_door rfl ?_
        walk_at "S"
        refine r_kMkE rfl rfl (by decide) fun b2 G2 m2 j2 z2 => ?_
        refine r_kOfl z2 T.x_TooMany T.n_TooMany_what rfl ?_
        walk_at "S"
        refine r_kLst (by show 3 ≤ sizeLine; decide) fun l2 Hm nm km em => ?_
        walk_at "S"
        refine r_ixL (v := v) (SqL.of em) (atI_nat (j := 2) rfl) ?_
        walk_at "S"
        refine r_kTup (by show 2 ≤ sizeLine; decide) fun t Ht nt kt et => ?_
        have kz := ((((kA.trans j0).trans j1).trans j2).trans km).trans kt
        exact q t a2 _ _ Ht kz rfl (((((y2.kp j0).kp j1).kp j2).kp km).kp kt) et
    have g2 := of_decide_eq_false c
    clear c
    walk_at "S"
    refine r_kIfS (fun c => ?_) (fun c => ?_)
    · have hlt := of_decide_eq_true c
      obtain rfl : i = 11 := by omega
      walk_at "S"
      refine r_kMkE rfl rfl (by decide) fun a0 H0 n0 k0 x0 => ?_
      walk_at "S"
      refine r_kTup (by show 2 ≤ sizeLine; decide) fun t Ht nt kt et => ?_
      exact q t a0 _ _ Ht (k0.trans kt) rfl (x0.kp kt) et
    have g3 := of_decide_eq_false c
    clear c
    walk_at "S"
    refine r_kIfS (fun c => ?_) (fun c => ?_)
    · have hlt := of_decide_eq_true c
      walk_at "S"
      refine r_kMkE rfl rfl (by decide) fun a0 H0 n0 k0 x0 => ?_
      walk_at "S"
      refine r_kMkE rfl rfl (by decide) fun a1 H1 n1 k1 x1 => ?_
      walk_at "S"
      refine r_kMkE rfl rfl (by decide) fun a2 H2 n2 k2 x2 => ?_
      walk_at "S"
      refine r_kLst (by show 3 ≤ sizeLine; decide) fun l Hl nl kl el => ?_
      walk_at "S"
      have kA : Kp [] H Hl := ((k0.trans k1).trans k2).trans kl
      have y0 := ((x0.kp k1).kp k2).kp kl
      have y1 := (x1.kp k2).kp kl
      have y2 := x2.kp kl
      have hw : i = 12 ∨ i = 13 ∨ i = 14 := by omega
      rcases hw with rfl | rfl | rfl
      · refine r_ixL (v := .ref a0) (SqL.of el) (atI_nat (j := 0) rfl) ?_
        walk_at "S"
        refine r_kMkE rfl rfl (by decide) fun b0 G0 m0 j0 z0 => ?_
        refine r_kOfl z0 T.x_Untested T.n_Untested_promise rfl ?_
        walk_at "S"
        refine r_kMkE rfl rfl (by decide) fun b1 G1 m1 j1 z1 => ?_
        refine r_kOfl z1 T.x_NoFunction T.n_NoFunction_name rfl ?_
        walk_at "S"
        refine r_kMkE rfl rfl (by decide) fun b2 G2 m2 j2 z2 => ?_
        refine r_kOfl z2 T.x_NoPlace T.n_NoPlace_what rfl ?_
        walk_at "S"
        refine r_kLst (by show 3 ≤ sizeLine; decide) fun l2 Hm nm km em => ?_
        walk_at "S"
        refine r_ixL (v := v) (SqL.of em) (atI_nat (j := 0) rfl) ?_
        walk_at "S"
        refine r_kTup (by show 2 ≤ sizeLine; decide) fun t Ht nt kt et => ?_
        have kz := ((((kA.trans j0).trans j1).trans j2).trans km).trans kt
        exact q t a0 _ _ Ht kz rfl (((((y0.kp j0).kp j1).kp j2).kp km).kp kt) et
      · refine r_ixL (v := .ref a1) (SqL.of el) (atI_nat (j := 1) rfl) ?_
        walk_at "S"
        refine r_kMkE rfl rfl (by decide) fun b0 G0 m0 j0 z0 => ?_
        refine r_kOfl z0 T.x_Untested T.n_Untested_promise rfl ?_
        walk_at "S"
        refine r_kMkE rfl rfl (by decide) fun b1 G1 m1 j1 z1 => ?_
        refine r_kOfl z1 T.x_NoFunction T.n_NoFunction_name rfl ?_
        walk_at "S"
        refine r_kMkE rfl rfl (by decide) fun b2 G2 m2 j2 z2 => ?_
        refine r_kOfl z2 T.x_NoPlace T.n_NoPlace_what rfl ?_
        walk_at "S"
        refine r_kLst (by show 3 ≤ sizeLine; decide) fun l2 Hm nm km em => ?_
        walk_at "S"
        refine r_ixL (v := v) (SqL.of em) (atI_nat (j := 1) rfl) ?_
        walk_at "S"
        refine r_kTup (by show 2 ≤ sizeLine; decide) fun t Ht nt kt et => ?_
        have kz := ((((kA.trans j0).trans j1).trans j2).trans km).trans kt
        exact q t a1 _ _ Ht kz rfl (((((y1.kp j0).kp j1).kp j2).kp km).kp kt) et
      · refine r_ixL (v := .ref a2) (SqL.of el) (atI_nat (j := 2) rfl) ?_
        walk_at "S"
        refine r_kMkE rfl rfl (by decide) fun b0 G0 m0 j0 z0 => ?_
        refine r_kOfl z0 T.x_Untested T.n_Untested_promise rfl ?_
        walk_at "S"
        refine r_kMkE rfl rfl (by decide) fun b1 G1 m1 j1 z1 => ?_
        refine r_kOfl z1 T.x_NoFunction T.n_NoFunction_name rfl ?_
        walk_at "S"
        refine r_kMkE rfl rfl (by decide) fun b2 G2 m2 j2 z2 => ?_
        refine r_kOfl z2 T.x_NoPlace T.n_NoPlace_what rfl ?_
        walk_at "S"
        refine r_kLst (by show 3 ≤ sizeLine; decide) fun l2 Hm nm km em => ?_
        walk_at "S"
        refine r_ixL (v := v) (SqL.of em) (atI_nat (j := 2) rfl) ?_
        walk_at "S"
        refine r_kTup (by show 2 ≤ sizeLine; decide) fun t Ht nt kt et => ?_
        have kz := ((((kA.trans j0).trans j1).trans j2).trans km).trans kt
        exact q t a2 _ _ Ht kz rfl (((((y2.kp j0).kp j1).kp j2).kp km).kp kt) et
    have g4 := of_decide_eq_false c
    clear c
    walk_at "S"
    refine r_kIfS (fun c => ?_) (fun c => ?_)
    · have hlt := of_decide_eq_true c
      obtain rfl : i = 15 := by omega
      walk_at "S"
      refine r_kMkE rfl rfl (by decide) fun a0 H0 n0 k0 x0 => ?_
      walk_at "S"
      refine r_kMkE rfl rfl (by decide) fun a1 H1 n1 k1 x1 => ?_
      walk_at "S"
      refine ⟨_, _, rfl, ?_⟩
      walk_at "S"
      have x0' := x0.kp k1
      have hv1 := hv.mono (k0.trans k1)
      have hu1 := hu'.mono (k0.trans k1)
      refine r_kOfl x0' T.x_NoRow T.n_NoRow_name rfl ?_
      walk_at "S"
      refine r_eqD1 hu1 hu1 su (by decide) ?_
      walk_at "S"
      refine r_kAnd1 rfl ?_
      walk_at "S"
      refine r_kOfl x1 T.x_NoRow T.n_NoRow_name rfl ?_
      walk_at "S"
      refine r_eqD1 hu1 hu1 su (by decide) ?_
      walk_at "S"
      refine r_kAnd1 rfl ?_
      walk_at "S"
      refine r_kOfl x1 T.x_NoRow T.n_NoRow_row rfl ?_
      walk_at "S"
      refine r_eqD1 hv1 hv1 sv (by decide) ?_
      walk_at "S"
      refine r_kIf1 rfl ?_
      walk_at "S"
      refine r_kOfl x0' T.x_NoRow T.n_NoRow_row rfl ?_
      walk_at "S"
      refine r_kTup (by show 2 ≤ sizeLine; decide) fun t Ht nt kt et => ?_
      exact q t a0 _ _ Ht ((k0.trans k1).trans kt) rfl (x0'.kp kt) et
    have g5 := of_decide_eq_false c
    obtain rfl : i = 16 := by omega
    walk_at "S"
    refine r_kMkE rfl rfl (by decide) fun a0 H0 n0 k0 x0 => ?_
    walk_at "S"
    refine r_kTup (by show 2 ≤ sizeLine; decide) fun t Ht nt kt et => ?_
    exact q t a0 _ _ Ht (k0.trans kt) rfl (x0.kp kt) et

/-- the law: True -/
def sp_law (K : PySem.W.Frag) : Sp := fun vs H Q _ => ∃ (a : Addr) (ns : List Int), vs = [.ref a] ∧ SqL K H a (ns.map V.int) ∧ ns.length ≤ 63 ∧ ∀ H', Q (.bl true) H'
theorem isD_shp (i : Nat) : Shp 1 (.list (isD i)) := Shp.list (n := 0) fun d hd => by
  obtain ⟨j, _, rfl⟩ := List.mem_map.mp hd
  exact Shp.bool _ _
theorem baseD_shp (i : Nat) : Shp 1 (.list (baseD i)) := Shp.list (n := 0) fun d hd => by
  unfold baseD at hd
  simp only [List.mem_cons, List.not_mem_nil, or_false] at hd
  rcases hd with rfl | rfl | rfl | rfl <;> exact Shp.bool _ _
def base13 (i : Nat) : List PyData := if i < 13 then [.bool true, .bool true, .bool false, .bool false] else [.bool false, .bool false, .bool true, .bool false]
abbrev s_law : Stmt := top 27
theorem sc_law : FnScope ["_law_script", "_law_at", "_law_bag_here", "_law_which", "_law_value_here", "_law_other", "_law_e", "_law_field", "_law_k", "_law_base"] ["_law_script"] (defScope s_law) :=
  ⟨rfl, rfl, rfl, by decide +kernel, rfl, by decide +kernel, by decide +kernel⟩
theorem ok_law {f : Addr} {fd : FuncData} (F : Fun K "law" "law" s_law f fd) (T : Txt K mg C_SilentswapsError C_BadCall C_BadFunction C_BadKinds C_BadLine C_BadPlan C_BadPromise C_BadSlip C_BadValues C_HasStars C_Refused C_TooMany C_Unlike C_Untested C_NoFunction C_NoPlace C_NoRow C_Over) (U__law_bag : Use P w K mg base 2 "_law_bag" ["_law_script", "_law_at"] (sp__law_bag K)) (U__law_is : Use P w K mg base 2 "_law_is" ["_law_e"] (sp__law_is [C_BadCall, C_BadFunction, C_BadKinds, C_BadLine, C_BadPlan, C_BadPromise, C_BadSlip, C_BadValues, C_HasStars, C_Refused, C_TooMany, C_Unlike, C_Untested, C_NoFunction, C_NoPlace, C_NoRow, C_Over])) (U__law_bases : Use P w K mg base 2 "_law_bases" ["_law_e"] (sp__law_bases [C_BadCall, C_BadFunction, C_BadKinds, C_BadLine, C_BadPlan, C_BadPromise, C_BadSlip, C_BadValues, C_HasStars, C_Refused, C_TooMany, C_Unlike, C_Untested, C_NoFunction, C_NoPlace, C_NoRow, C_Over])) (U__law_value : Use P w K mg base 6 "_law_value" ["_law_bag_here"] (sp__law_value K)) (U__law_made : Use P w K mg base 4 "_law_made" ["_law_which", "_law_value_here", "_law_other"] (sp__law_made [C_BadCall, C_BadFunction, C_BadKinds, C_BadLine, C_BadPlan, C_BadPromise, C_BadSlip, C_BadValues, C_HasStars, C_Refused, C_TooMany, C_Unlike, C_Untested, C_NoFunction, C_NoPlace, C_NoRow, C_Over])) :
    FnOk P w K mg base CX0 8 f fd ["_law_script"] (sp_law K) := by
  refine F.ok sc_law (fun vs H Q E h => ?_) (fun cdv A outer s H vs Q E hr h => ?_)
  · obtain ⟨a, ns, rfl, _⟩ := h
    rfl
  · obtain ⟨a, ns, rfl, hS, hl, q⟩ := h
    have hu := hu_of hr
    have hu64 := hr.units
    refine ⟨_, (pss_cons (ps_for PassesOwn.never (by rfl) (pi_range1 (by rfl) T.z_range (pa_cons (pe_callB (cr_max2 rfl) (by rfl) T.z_max (by decide +kernel) (pa_cons pe_int (pa_cons (pe_callB (cr_min2 rfl) (by rfl) T.z_min (by decide +kernel) (pa_cons pe_int (pa_cons (pe_callB (K_len (K := K) rfl) (by rfl) T.z_len (by decide +kernel) (pa_cons (pv 0) pa_nil)) pa_nil))) pa_nil))) pa_nil)) (pg_name (i := 1) sc_law.nd rfl (by first | exact Or.inl rfl | exact Or.inr rfl))
          (pss_cons (ps_set (i := 2) sc_law.nd rfl (by first | exact Or.inl rfl | exact Or.inr rfl) (pe_use U__law_bag (hr.mono (by first | decide | omega)) (by rfl) (pa_cons (pv 0) (pa_cons (pv 1) pa_nil))))
          (pss_one (ps_for PassesOwn.never (by rfl) (pi_range1 (by rfl) T.z_range (pa_cons pe_int pa_nil)) (pg_name (i := 3) sc_law.nd rfl (by first | exact Or.inl rfl | exact Or.inr rfl))
            (pss_cons (ps_par (i := 4) (j := 5) (by rfl) sc_law.nd rfl rfl (by decide) rfl rfl (pa_cons (pe_use U__law_value (hr.mono (by first | decide | omega)) (by rfl) (pa_cons (pv 2) pa_nil)) (pa_cons (pe_use U__law_value (hr.mono (by first | decide | omega)) (by rfl) (pa_cons (pv 2) pa_nil)) pa_nil)) (by rfl))
            (pss_cons (ps_asg (pe_use U__law_made (hr.mono (by first | decide | omega)) (by rfl) (pa_cons (pv 3) (pa_cons (pv 4) (pa_cons (pv 5) pa_nil)))) (K_gtup (K := K) (n := 2) rfl (by rfl) (pgs_cons (pg_name (i := 6) sc_law.nd rfl (by first | exact Or.inl rfl | exact Or.inr rfl)) (pgs_cons (pg_name (i := 7) sc_law.nd rfl (by first | exact Or.inl rfl | exact Or.inr rfl)) pgs_nil))))
            (pss_cons (ps_if (pt_cutT (PW.pt (pw_or (pt_cmpR (K_neD (K := K) rfl hu64) (pv 7) (pv 4) (nomark _)) (pw_or1 (pt_cmpR op_ne (pe_callB (K_isi (K := K) rfl) (by rfl) T.z_isinstance (by decide +kernel) (pa_cons (pv 7) (pa_cons (pe_bltn (v := .ty "bool") (u := .type "bool") (by rfl) T.z_bool (by decide +kernel) rfl) pa_nil))) (pe_callB (K_isi (K := K) rfl) (by rfl) T.z_isinstance (by decide +kernel) (pa_cons (pv 4) (pa_cons (pe_bltn (v := .ty "bool") (u := .type "bool") (by rfl) T.z_bool (by decide +kernel) rfl) pa_nil))) (nomark _))))))
              (pss_one (ps_ret pe_bl))
              pss_nil)
            (pss_cons (ps_if (pt_cmpR (K_neD (K := K) rfl hu64) (pe_use U__law_is (hr.mono (by first | decide | omega)) (by rfl) (pa_cons (pv 6) pa_nil)) (pe_lc (own := [("_law_k", 8)]) (by rfl) sc_law.nd (pi_range1 (by rfl) T.z_range (pa_cons pe_int pa_nil)) (blkOk_by (own := [("_law_k", 8)]) (N := ["_law_script", "_law_at", "_law_bag_here", "_law_which", "_law_value_here", "_law_other", "_law_e", "_law_field", "_law_k", "_law_base"]) (sc := defScope s_law) (by decide +kernel)) (fun _ _ _ _ _ => (pg_name (i := 8) sc_law.nd rfl (by first | exact Or.inl rfl | exact Or.inr rfl))) (fun _ _ _ _ _ => pts_nil) (fun _ _ _ _ _ => (pe_cmpR op_eq (pv 8) (pv 3) (nomark _)))) (nomark _))
              (pss_one (ps_ret pe_bl))
              pss_nil)
            (pss_cons (ps_set (i := 9) sc_law.nd rfl (by first | exact Or.inl rfl | exact Or.inr rfl) (pe_cutE (pe_ifExp (pt_cmpR op_lt (pv 3) pe_int (nomark _)) (pe_lst (pa_cons pe_bl (pa_cons pe_bl (pa_cons pe_bl (pa_cons pe_bl pa_nil))))) (pe_lst (pa_cons pe_bl (pa_cons pe_bl (pa_cons pe_bl (pa_cons pe_bl pa_nil))))))))
            (pss_one (ps_if (pt_cmpR (K_neD (K := K) rfl hu64) (pe_use U__law_bases (hr.mono (by first | decide | omega)) (by rfl) (pa_cons (pv 6) pa_nil)) (pe_cutE (pe_ifExp (pt_cmpR op_lt (pv 3) pe_int (nomark _)) (pv 9) (pe_lst (pa_cons pe_bl (pa_cons pe_bl (pa_cons pe_bl (pa_cons pe_bl pa_nil))))))) (nomark _))
              (pss_one (ps_ret pe_bl))
              pss_nil)))))))))))
        (pss_one (ps_ret pe_bl))), ?_⟩
    walk_at "S"
    refine r_lenL hS ?_
    walk_at "S"
    have hlen : (ns.map V.int).length = ns.length := List.length_map _
    refine r_cRng1 ?_ ?_
    · rw [hlen]
      split <;> split <;> omega
    refine r_kForR (fun i σ' H' => ∃ v1 v2 v3 v4 v5 v6 v7 v8 v9, σ' = [some (.ref a), v1, v2, v3, v4, v5, v6, v7, v8, v9] ∧ Kp [] H H') ⟨none, none, none, none, none, none, none, none, none, rfl, Kp.refl _ _⟩ ?_ ?_
    · rintro i σ' H1 hi ⟨v1, v2, v3, v4, v5, v6, v7, v8, v9, rfl, k1⟩
      have hi63 : i ≤ 63 := by
        rw [hlen] at hi
        split at hi <;> split at hi <;> omega
      walk_at "S"
      refine ⟨a, ns, i, rfl, k1.sql hS, by omega, fun p H2 np k2 b2 => ?_⟩
      walk_at "S"
      refine r_cRng1 ⟨by omega, by omega⟩ ?_
      refine r_kForR (fun j σ' H' => ∃ v3 v4 v5 v6 v7 v8 v9, σ' = [some (.ref a), some (.int (i : Int)), some (.ref p), v3, v4, v5, v6, v7, v8, v9] ∧ Kp [p] H2 H' ∧ BagAt H' p (69999999000 - 4 * j)) ⟨_, _, _, _, _, _, _, rfl, Kp.refl _ _, b2.mono (by omega)⟩ ?_ ?_
      · rintro j σ' H3 hj ⟨v3, v4, v5, v6, v7, v8, v9, rfl, k3, b3⟩
        have hj : j < 17 := by omega
        walk_at "S"
        refine ⟨p, 69999999000 - 4 * j - 2, rfl, b3.mono (by omega), fun v d H4 k4 b4 hv sv => ?_⟩
        walk_at "S"
        refine ⟨p, 69999999000 - 4 * j - 4, rfl, b4.mono (by omega), fun u e H5 k5 b5 hu5 su => ?_⟩
        walk_at "S"
        refine ⟨_, _, rfl, ?_⟩
        have hv5 := (hv.mono k5).less (ex' := []) fun _ m => absurd m not_nil
        have hu5 := hu5.less (ex' := []) fun _ m => absurd m not_nil
        walk_at "S"
        refine ⟨j, v, u, d, e, rfl, hj, hv5, hu5, sv, su, fun t x C fs H6 k6 hC hx et => ?_⟩
        refine r_gtup (SqT.of et) rfl ?_
        have hv6 := hv5.mono k6
        walk_at "S"
        refine r_cutT (fun b H' => b = false ∧ Kp [] H6 H') ?_ ?_
        · walk_at "S"
          refine r_neD0 hv6 hv6 sv (by decide) ?_
          walk_at "S"
          refine r_kOr0 rfl ?_
          walk_at "S"
          refine r_isiBool hv6 ?_
          walk_at "S"
          refine r_isiBool hv6 ?_
          walk_at "S"
          refine r_neB ?_
          walk_at "S"
          exact ⟨by simp, Kp.refl _ _⟩
        rintro b H7 ⟨rfl, k7⟩
        refine r_kIfS0 rfl ?_
        walk_at "S"
        refine ⟨x, C, j, fs, rfl, hC, hx.kp k7, fun y H8 k8 hy => ?_⟩
        walk_at "S"
        refine r_cRng1 ⟨by omega, by omega⟩ ?_
        refine r_kLcR (fun D m acc H' => Kp [] H8 H' ∧ acc = (List.range m).map fun m : Nat => V.bl (decide ((m : Int) = (j : Int)))) (fun D H' nD k e => ⟨k, rfl⟩) ?_ ?_
        · rintro D m acc H9 nD hm eD ⟨k9, rfl⟩
          walk_at "S"
          refine r_kApp eD ?_ fun H10 k10 e10 => ⟨k9.step nD k10, ?_⟩
          · rw [List.length_map, List.length_range]
            have : 50 < sizeLine := by decide
            omega
          · rw [List.range_succ, List.map_append]
            rfl
        rintro D acc H9 nD eD ⟨k9, rfl⟩
        have hy9 := hy.mono k9
        have hD9 : Dt [] H9 (.ref D) (.list (isD j)) := .lst not_nil eD (DtAll.of_bool_map (fun m : Nat => decide ((m : Int) = (j : Int))) (List.range 17))
        refine r_neD0 hy9 hD9 (isD_shp j) (by decide) ?_
        walk_at "S"
        refine r_kIfS0 rfl ?_
        walk_at "S"
        have hx9 := ((hx.kp k7).kp k8).kp k9
        refine r_cutE (fun y H' => Kp [] H9 H' ∧ Dt [] H' y (.list (base13 j))) ?_ ?_
        · walk_at "S"
          refine r_kIf (fun c => ?_) (fun c => ?_)
          · have c' := of_decide_eq_true c
            refine r_ED (d := .list (base13 j)) ?_ fun y H10 k10 hy => ⟨k10, hy⟩
            have e : base13 j = [.bool true, .bool true, .bool false, .bool false] := by
              unfold base13
              rw [if_pos (by omega)]
            rw [e]
            walk_at "D"
          · have c' := of_decide_eq_false c
            refine r_ED (d := .list (base13 j)) ?_ fun y H10 k10 hy => ⟨k10, hy⟩
            have e : base13 j = [.bool false, .bool false, .bool true, .bool false] := by
              unfold base13
              rw [if_neg (by omega)]
            rw [e]
            walk_at "D"
        rintro z H10 ⟨k10, hz⟩
        walk_at "S"
        refine ⟨x, C, j, fs, rfl, hC, hx9.kp k10, fun y H11 k11 hy => ?_⟩
        refine r_cutE (fun y H' => Kp [] H11 H' ∧ Dt [] H' y (.list (baseD j))) ?_ ?_
        · walk_at "S"
          refine r_kIf (fun c => ?_) (fun c => ?_)
          · have c' := of_decide_eq_true c
            walk_at "S"
            refine ⟨Kp.refl _ _, ?_⟩
            have e : baseD j = base13 j := by
              unfold baseD base13
              by_cases q : j < 13
              · simp [q, show ¬ 13 ≤ j by omega, show ¬ 16 ≤ j by omega]
              · simp [q, show 13 ≤ j by omega, show j < 16 by omega, show ¬ 16 ≤ j by omega]
            rw [e]
            exact hz.mono k11
          · have c' := of_decide_eq_false c
            refine r_ED (d := .list (baseD j)) ?_ fun y H10 k10 hy => ⟨k10, hy⟩
            have e : baseD j = [.bool false, .bool false, .bool false, .bool true] := by
              unfold baseD
              simp [show ¬ j < 13 by omega, show ¬ j < 16 by omega, show 16 ≤ j by omega]
            rw [e]
            walk_at "D"
        rintro z' H12 ⟨k12, hz'⟩
        refine r_neD0 (hy.mono k12) hz' (baseD_shp j) (by decide) ?_
        walk_at "S"
        refine r_kIfS0 rfl ?_
        walk_at "S"
        have kk : Kp [p] H2 H12 := k3.trans (k4.trans (k5.trans ((k6.trans (k7.trans (k8.trans (k9.trans (k10.trans (k11.trans k12)))))).nil)))
        have bb : BagAt H12 p (69999999000 - 4 * j - 4) := b5.kp (k6.trans (k7.trans (k8.trans (k9.trans (k10.trans (k11.trans k12)))))) not_nil
        exact ⟨_, _, _, _, _, _, _, rfl, kk, bb.mono (by omega)⟩
      · rintro σ' H3 ⟨v3, v4, v5, v6, v7, v8, v9, rfl, k3, b3⟩
        exact ⟨_, _, _, _, _, _, _, _, _, rfl, k1.trans ((k2.nil.trans k3).drop np)⟩
    · rintro σ' H1 _
      walk_at "S"
      exact q _

end
theorem all_mk {l : PySem.W.OpenLaw} {w : World} {K : PySem.W.Frag} {h : Heap} {mg : Str → Option Value} {fa f1 f2 f3 f4 f5 f6 f7 f8 C_SilentswapsError C_BadCall C_BadFunction C_BadKinds C_BadLine C_BadPlan C_BadPromise C_BadSlip C_BadValues C_HasStars C_Refused C_TooMany C_Unlike C_Untested C_NoFunction C_NoPlace C_NoRow C_Over : Addr} (X : K.In h) (G : h.Ns mainGlobals mg) (hfa : mg "law" = some (.ref fa))
    {od1 an1 od2 an2 od3 an3 od4 an4 od5 an5 od6 an6 od7 an7 od8 an8 : Option Addr} {sl1 sl2 sl3 sl4 sl5 sl6 sl7 sl8 : Array (Option Value)} {oc1 kV1 dc1 pm1 cd1 ct1 oc2 kV2 dc2 pm2 cd2 ct2 oc3 kV3 dc3 pm3 cd3 ct3 oc4 kV4 dc4 pm4 cd4 ct4 oc5 kV5 dc5 pm5 cd5 ct5 oc6 kV6 dc6 pm6 cd6 ct6 oc7 kV7 dc7 pm7 cd7 ct7 oc8 kV8 dc8 pm8 cd8 ct8 : Value} {q_SilentswapsError : Str} {N_SilentswapsError : Addr} {bs_SilentswapsError sub_SilentswapsError : List Value} {sn_SilentswapsError : List Str} {ab_SilentswapsError : Bool} {col_SilentswapsError : Option Bool} {dd_SilentswapsError : Option Addr} {m0_SilentswapsError m1_SilentswapsError m2_SilentswapsError m3_SilentswapsError m5_SilentswapsError : Option Value} {q_BadCall fl_BadCall : Str} {N_BadCall f_BadCall cda_BadCall cc_BadCall : Addr} {bs_BadCall sub_BadCall : List Value} {sn_BadCall : List Str} {ab_BadCall : Bool} {col_BadCall : Option Bool} {dd_BadCall od_BadCall an_BadCall cld_BadCall cdd_BadCall : Option Addr} {m0_BadCall m1_BadCall m2_BadCall m3_BadCall m5_BadCall : Option Value} {oc_BadCall kV_BadCall dc_BadCall pm_BadCall ct_BadCall cl_BadCall ccl_BadCall : Value} {osl_BadCall csl_BadCall ccs_BadCall : Array (Option Value)} {vs_BadCall : Array Value} {tf_BadCall : Tok} {q_BadFunction fl_BadFunction : Str} {N_BadFunction f_BadFunction cda_BadFunction cc_BadFunction : Addr} {bs_BadFunction sub_BadFunction : List Value} {sn_BadFunction : List Str} {ab_BadFunction : Bool} {col_BadFunction : Option Bool} {dd_BadFunction od_BadFunction an_BadFunction cld_BadFunction cdd_BadFunction : Option Addr} {m0_BadFunction m1_BadFunction m2_BadFunction m3_BadFunction m5_BadFunction : Option Value} {oc_BadFunction kV_BadFunction dc_BadFunction pm_BadFunction ct_BadFunction cl_BadFunction ccl_BadFunction : Value} {osl_BadFunction csl_BadFunction ccs_BadFunction : Array (Option Value)} {vs_BadFunction : Array Value} {tf_BadFunction : Tok} {q_BadKinds fl_BadKinds : Str} {N_BadKinds f_BadKinds cda_BadKinds cc_BadKinds : Addr} {bs_BadKinds sub_BadKinds : List Value} {sn_BadKinds : List Str} {ab_BadKinds : Bool} {col_BadKinds : Option Bool} {dd_BadKinds od_BadKinds an_BadKinds cld_BadKinds cdd_BadKinds : Option Addr} {m0_BadKinds m1_BadKinds m2_BadKinds m3_BadKinds m5_BadKinds : Option Value} {oc_BadKinds kV_BadKinds dc_BadKinds pm_BadKinds ct_BadKinds cl_BadKinds ccl_BadKinds : Value} {osl_BadKinds csl_BadKinds ccs_BadKinds : Array (Option Value)} {vs_BadKinds : Array Value} {tf_BadKinds : Tok} {q_BadLine fl_BadLine : Str} {N_BadLine f_BadLine cda_BadLine cc_BadLine : Addr} {bs_BadLine sub_BadLine : List Value} {sn_BadLine : List Str} {ab_BadLine : Bool} {col_BadLine : Option Bool} {dd_BadLine od_BadLine an_BadLine cld_BadLine cdd_BadLine : Option Addr} {m0_BadLine m1_BadLine m2_BadLine m3_BadLine m5_BadLine : Option Value} {oc_BadLine kV_BadLine dc_BadLine pm_BadLine ct_BadLine cl_BadLine ccl_BadLine : Value} {osl_BadLine csl_BadLine ccs_BadLine : Array (Option Value)} {vs_BadLine : Array Value} {tf_BadLine : Tok} {q_BadPlan fl_BadPlan : Str} {N_BadPlan f_BadPlan cda_BadPlan cc_BadPlan : Addr} {bs_BadPlan sub_BadPlan : List Value} {sn_BadPlan : List Str} {ab_BadPlan : Bool} {col_BadPlan : Option Bool} {dd_BadPlan od_BadPlan an_BadPlan cld_BadPlan cdd_BadPlan : Option Addr} {m0_BadPlan m1_BadPlan m2_BadPlan m3_BadPlan m5_BadPlan : Option Value} {oc_BadPlan kV_BadPlan dc_BadPlan pm_BadPlan ct_BadPlan cl_BadPlan ccl_BadPlan : Value} {osl_BadPlan csl_BadPlan ccs_BadPlan : Array (Option Value)} {vs_BadPlan : Array Value} {tf_BadPlan : Tok} {q_BadPromise fl_BadPromise : Str} {N_BadPromise f_BadPromise cda_BadPromise cc_BadPromise : Addr} {bs_BadPromise sub_BadPromise : List Value} {sn_BadPromise : List Str} {ab_BadPromise : Bool} {col_BadPromise : Option Bool} {dd_BadPromise od_BadPromise an_BadPromise cld_BadPromise cdd_BadPromise : Option Addr} {m0_BadPromise m1_BadPromise m2_BadPromise m3_BadPromise m5_BadPromise : Option Value} {oc_BadPromise kV_BadPromise dc_BadPromise pm_BadPromise ct_BadPromise cl_BadPromise ccl_BadPromise : Value} {osl_BadPromise csl_BadPromise ccs_BadPromise : Array (Option Value)} {vs_BadPromise : Array Value} {tf_BadPromise : Tok} {q_BadSlip fl_BadSlip : Str} {N_BadSlip f_BadSlip cda_BadSlip cc_BadSlip : Addr} {bs_BadSlip sub_BadSlip : List Value} {sn_BadSlip : List Str} {ab_BadSlip : Bool} {col_BadSlip : Option Bool} {dd_BadSlip od_BadSlip an_BadSlip cld_BadSlip cdd_BadSlip : Option Addr} {m0_BadSlip m1_BadSlip m2_BadSlip m3_BadSlip m5_BadSlip : Option Value} {oc_BadSlip kV_BadSlip dc_BadSlip pm_BadSlip ct_BadSlip cl_BadSlip ccl_BadSlip : Value} {osl_BadSlip csl_BadSlip ccs_BadSlip : Array (Option Value)} {vs_BadSlip : Array Value} {tf_BadSlip : Tok} {q_BadValues fl_BadValues : Str} {N_BadValues f_BadValues cda_BadValues cc_BadValues : Addr} {bs_BadValues sub_BadValues : List Value} {sn_BadValues : List Str} {ab_BadValues : Bool} {col_BadValues : Option Bool} {dd_BadValues od_BadValues an_BadValues cld_BadValues cdd_BadValues : Option Addr} {m0_BadValues m1_BadValues m2_BadValues m3_BadValues m5_BadValues : Option Value} {oc_BadValues kV_BadValues dc_BadValues pm_BadValues ct_BadValues cl_BadValues ccl_BadValues : Value} {osl_BadValues csl_BadValues ccs_BadValues : Array (Option Value)} {vs_BadValues : Array Value} {tf_BadValues : Tok} {q_HasStars fl_HasStars : Str} {N_HasStars f_HasStars cda_HasStars cc_HasStars : Addr} {bs_HasStars sub_HasStars : List Value} {sn_HasStars : List Str} {ab_HasStars : Bool} {col_HasStars : Option Bool} {dd_HasStars od_HasStars an_HasStars cld_HasStars cdd_HasStars : Option Addr} {m0_HasStars m1_HasStars m2_HasStars m3_HasStars m5_HasStars : Option Value} {oc_HasStars kV_HasStars dc_HasStars pm_HasStars ct_HasStars cl_HasStars ccl_HasStars : Value} {osl_HasStars csl_HasStars ccs_HasStars : Array (Option Value)} {vs_HasStars : Array Value} {tf_HasStars : Tok} {q_Refused fl_Refused : Str} {N_Refused f_Refused cda_Refused cc_Refused : Addr} {bs_Refused sub_Refused : List Value} {sn_Refused : List Str} {ab_Refused : Bool} {col_Refused : Option Bool} {dd_Refused od_Refused an_Refused cld_Refused cdd_Refused : Option Addr} {m0_Refused m1_Refused m2_Refused m3_Refused m5_Refused : Option Value} {oc_Refused kV_Refused dc_Refused pm_Refused ct_Refused cl_Refused ccl_Refused : Value} {osl_Refused csl_Refused ccs_Refused : Array (Option Value)} {vs_Refused : Array Value} {tf_Refused : Tok} {q_TooMany fl_TooMany : Str} {N_TooMany f_TooMany cda_TooMany cc_TooMany : Addr} {bs_TooMany sub_TooMany : List Value} {sn_TooMany : List Str} {ab_TooMany : Bool} {col_TooMany : Option Bool} {dd_TooMany od_TooMany an_TooMany cld_TooMany cdd_TooMany : Option Addr} {m0_TooMany m1_TooMany m2_TooMany m3_TooMany m5_TooMany : Option Value} {oc_TooMany kV_TooMany dc_TooMany pm_TooMany ct_TooMany cl_TooMany ccl_TooMany : Value} {osl_TooMany csl_TooMany ccs_TooMany : Array (Option Value)} {vs_TooMany : Array Value} {tf_TooMany : Tok} {q_Unlike fl_Unlike : Str} {N_Unlike f_Unlike cda_Unlike cc_Unlike : Addr} {bs_Unlike sub_Unlike : List Value} {sn_Unlike : List Str} {ab_Unlike : Bool} {col_Unlike : Option Bool} {dd_Unlike od_Unlike an_Unlike cld_Unlike cdd_Unlike : Option Addr} {m0_Unlike m1_Unlike m2_Unlike m3_Unlike m5_Unlike : Option Value} {oc_Unlike kV_Unlike dc_Unlike pm_Unlike ct_Unlike cl_Unlike ccl_Unlike : Value} {osl_Unlike csl_Unlike ccs_Unlike : Array (Option Value)} {vs_Unlike : Array Value} {tf_Unlike : Tok} {q_Untested fl_Untested : Str} {N_Untested f_Untested cda_Untested cc_Untested : Addr} {bs_Untested sub_Untested : List Value} {sn_Untested : List Str} {ab_Untested : Bool} {col_Untested : Option Bool} {dd_Untested od_Untested an_Untested cld_Untested cdd_Untested : Option Addr} {m0_Untested m1_Untested m2_Untested m3_Untested m5_Untested : Option Value} {oc_Untested kV_Untested dc_Untested pm_Untested ct_Untested cl_Untested ccl_Untested : Value} {osl_Untested csl_Untested ccs_Untested : Array (Option Value)} {vs_Untested : Array Value} {tf_Untested : Tok} {q_NoFunction fl_NoFunction : Str} {N_NoFunction f_NoFunction cda_NoFunction cc_NoFunction : Addr} {bs_NoFunction sub_NoFunction : List Value} {sn_NoFunction : List Str} {ab_NoFunction : Bool} {col_NoFunction : Option Bool} {dd_NoFunction od_NoFunction an_NoFunction cld_NoFunction cdd_NoFunction : Option Addr} {m0_NoFunction m1_NoFunction m2_NoFunction m3_NoFunction m5_NoFunction : Option Value} {oc_NoFunction kV_NoFunction dc_NoFunction pm_NoFunction ct_NoFunction cl_NoFunction ccl_NoFunction : Value} {osl_NoFunction csl_NoFunction ccs_NoFunction : Array (Option Value)} {vs_NoFunction : Array Value} {tf_NoFunction : Tok} {q_NoPlace fl_NoPlace : Str} {N_NoPlace f_NoPlace cda_NoPlace cc_NoPlace : Addr} {bs_NoPlace sub_NoPlace : List Value} {sn_NoPlace : List Str} {ab_NoPlace : Bool} {col_NoPlace : Option Bool} {dd_NoPlace od_NoPlace an_NoPlace cld_NoPlace cdd_NoPlace : Option Addr} {m0_NoPlace m1_NoPlace m2_NoPlace m3_NoPlace m5_NoPlace : Option Value} {oc_NoPlace kV_NoPlace dc_NoPlace pm_NoPlace ct_NoPlace cl_NoPlace ccl_NoPlace : Value} {osl_NoPlace csl_NoPlace ccs_NoPlace : Array (Option Value)} {vs_NoPlace : Array Value} {tf_NoPlace : Tok} {q_NoRow fl_NoRow : Str} {N_NoRow f_NoRow cda_NoRow cc_NoRow : Addr} {bs_NoRow sub_NoRow : List Value} {sn_NoRow : List Str} {ab_NoRow : Bool} {col_NoRow : Option Bool} {dd_NoRow od_NoRow an_NoRow cld_NoRow cdd_NoRow : Option Addr} {m0_NoRow m1_NoRow m2_NoRow m3_NoRow m5_NoRow : Option Value} {oc_NoRow kV_NoRow dc_NoRow pm_NoRow ct_NoRow cl_NoRow ccl_NoRow : Value} {osl_NoRow csl_NoRow ccs_NoRow : Array (Option Value)} {vs_NoRow : Array Value} {tf_NoRow : Tok} {q_Over fl_Over : Str} {N_Over f_Over cda_Over cc_Over : Addr} {bs_Over sub_Over : List Value} {sn_Over : List Str} {ab_Over : Bool} {col_Over : Option Bool} {dd_Over od_Over an_Over cld_Over cdd_Over : Option Addr} {m0_Over m1_Over m2_Over m3_Over m5_Over : Option Value} {oc_Over kV_Over dc_Over pm_Over ct_Over cl_Over ccl_Over : Value} {osl_Over csl_Over ccs_Over : Array (Option Value)} {vs_Over : Array Value} {tf_Over : Tok}
    (aC_SilentswapsError : PySem.W.nsIn K mainGlobals "SilentswapsError" = some (some (.ref C_SilentswapsError)))
    (aC_BadCall : PySem.W.nsIn K mainGlobals "BadCall" = some (some (.ref C_BadCall)))
    (aC_BadFunction : PySem.W.nsIn K mainGlobals "BadFunction" = some (some (.ref C_BadFunction)))
    (aC_BadKinds : PySem.W.nsIn K mainGlobals "BadKinds" = some (some (.ref C_BadKinds)))
    (aC_BadLine : PySem.W.nsIn K mainGlobals "BadLine" = some (some (.ref C_BadLine)))
    (aC_BadPlan : PySem.W.nsIn K mainGlobals "BadPlan" = some (some (.ref C_BadPlan)))
    (aC_BadPromise : PySem.W.nsIn K mainGlobals "BadPromise" = some (some (.ref C_BadPromise)))
    (aC_BadSlip : PySem.W.nsIn K mainGlobals "BadSlip" = some (some (.ref C_BadSlip)))
    (aC_BadValues : PySem.W.nsIn K mainGlobals "BadValues" = some (some (.ref C_BadValues)))
    (aC_HasStars : PySem.W.nsIn K mainGlobals "HasStars" = some (some (.ref C_HasStars)))
    (aC_Refused : PySem.W.nsIn K mainGlobals "Refused" = some (some (.ref C_Refused)))
    (aC_TooMany : PySem.W.nsIn K mainGlobals "TooMany" = some (some (.ref C_TooMany)))
    (aC_Unlike : PySem.W.nsIn K mainGlobals "Unlike" = some (some (.ref C_Unlike)))
    (aC_Untested : PySem.W.nsIn K mainGlobals "Untested" = some (some (.ref C_Untested)))
    (aC_NoFunction : PySem.W.nsIn K mainGlobals "NoFunction" = some (some (.ref C_NoFunction)))
    (aC_NoPlace : PySem.W.nsIn K mainGlobals "NoPlace" = some (some (.ref C_NoPlace)))
    (aC_NoRow : PySem.W.nsIn K mainGlobals "NoRow" = some (some (.ref C_NoRow)))
    (aC_Over : PySem.W.nsIn K mainGlobals "Over" = some (some (.ref C_Over)))
    (hnC : PySem.W.specialIn K (.builtin "object.__class__") "__get__" = some (some (.builtin "getset_descriptor.__get__")))
    (htC : PySem.W.takesIn K (.builtin "object.__class__") = some true)
    (opq : PySem.W.nsIn K cStatics "thirdparty.any" = some none)
    (tops : (l.prog.main.scope.names.lookup ("super" : Str)).isSome = false)
    (xL_BadCall : K.lookup C_BadCall = some (excClassObj "BadCall" q_BadCall C_BadCall N_BadCall bs_BadCall [.ref C_SilentswapsError, .type "ValueError", .type "Exception", .type "BaseException", .type "object"] true sn_BadCall sub_BadCall ab_BadCall col_BadCall dd_BadCall m0_BadCall m1_BadCall m2_BadCall m3_BadCall m5_BadCall "ValueError.__new__"))
    (sa_BadCall : PySem.W.findIn K (.ref C_BadCall) "__setattr__" = some (some (.builtin "object.__setattr__")))
    (ga_BadCall : PySem.W.findIn K (.ref C_BadCall) "__getattribute__" = some (some (.builtin "BaseException.__getattribute__")))
    (gg_BadCall : PySem.W.findIn K (.ref C_BadCall) "__getattr__" = some none)
    (ai_BadCall : PySem.W.findIn K (.ref C_BadCall) "__init__" = some (some (.ref f_BadCall)))
    (ti_BadCall : PySem.W.typeIn K (.ref f_BadCall) = some (.type "function"))
    (li_BadCall : K.lookup f_BadCall = some ⟨oc_BadCall, od_BadCall, .func (PySem.W.ksFn "__init__" "BadCall.__init__" (defArgs s_BadCall___init__) (defBody s_BadCall___init__) (defScope s_BadCall___init__) .none kV_BadCall dc_BadCall pm_BadCall an_BadCall (.ref cda_BadCall) ct_BadCall cc_BadCall), osl_BadCall⟩)
    (ci_BadCall : PySem.W.codeIn K (.ref cda_BadCall) "BadCall.__init__" = true)
    (ce_BadCall : K.lookup cc_BadCall = some ⟨cl_BadCall, cld_BadCall, .cell (some (.ref C_BadCall)), csl_BadCall⟩)
    (cf_BadCall : K.lookup cda_BadCall = some ⟨ccl_BadCall, cdd_BadCall, .fields vs_BadCall, ccs_BadCall⟩)
    (cv_BadCall : vs_BadCall[2]? = some (.str fl_BadCall tf_BadCall))
    (cm_BadCall : (l.prog.main.file == fl_BadCall) = true)
    (kC_BadCall : PySem.W.keepIn K (.ref C_BadCall) = true)
    (eC_BadCall : PySem.W.subIn K (.ref C_BadCall) (.type "BaseException") = some true)
    (up_BadCall : PySem.W.ks_superIn K C_BadCall C_BadCall "__init__" = some (some (.builtin "ValueError.__init__")))
    (sV_BadCall : PySem.W.subIn K (.ref C_BadCall) (.type "ValueError") = some true)
    (mo_BadCall : PySem.W.mroIn K C_BadCall (.ref C_BadCall) = some true)
    (ob_BadCall : PySem.W.mroIn K C_BadCall (.type "object") = some true)
    (ha_BadCall : PySem.W.findIn K (.ref C_BadCall) "__class__" = some (some (.builtin "object.__class__")))
    (no0_BadCall : PySem.W.findIn K (.ref C_BadCall) "index" = some none)
    (xL_BadFunction : K.lookup C_BadFunction = some (excClassObj "BadFunction" q_BadFunction C_BadFunction N_BadFunction bs_BadFunction [.ref C_SilentswapsError, .type "ValueError", .type "Exception", .type "BaseException", .type "object"] true sn_BadFunction sub_BadFunction ab_BadFunction col_BadFunction dd_BadFunction m0_BadFunction m1_BadFunction m2_BadFunction m3_BadFunction m5_BadFunction "ValueError.__new__"))
    (sa_BadFunction : PySem.W.findIn K (.ref C_BadFunction) "__setattr__" = some (some (.builtin "object.__setattr__")))
    (ga_BadFunction : PySem.W.findIn K (.ref C_BadFunction) "__getattribute__" = some (some (.builtin "BaseException.__getattribute__")))
    (gg_BadFunction : PySem.W.findIn K (.ref C_BadFunction) "__getattr__" = some none)
    (ai_BadFunction : PySem.W.findIn K (.ref C_BadFunction) "__init__" = some (some (.ref f_BadFunction)))
    (ti_BadFunction : PySem.W.typeIn K (.ref f_BadFunction) = some (.type "function"))
    (li_BadFunction : K.lookup f_BadFunction = some ⟨oc_BadFunction, od_BadFunction, .func (PySem.W.ksFn "__init__" "BadFunction.__init__" (defArgs s_BadFunction___init__) (defBody s_BadFunction___init__) (defScope s_BadFunction___init__) .none kV_BadFunction dc_BadFunction pm_BadFunction an_BadFunction (.ref cda_BadFunction) ct_BadFunction cc_BadFunction), osl_BadFunction⟩)
    (ci_BadFunction : PySem.W.codeIn K (.ref cda_BadFunction) "BadFunction.__init__" = true)
    (ce_BadFunction : K.lookup cc_BadFunction = some ⟨cl_BadFunction, cld_BadFunction, .cell (some (.ref C_BadFunction)), csl_BadFunction⟩)
    (cf_BadFunction : K.lookup cda_BadFunction = some ⟨ccl_BadFunction, cdd_BadFunction, .fields vs_BadFunction, ccs_BadFunction⟩)
    (cv_BadFunction : vs_BadFunction[2]? = some (.str fl_BadFunction tf_BadFunction))
    (cm_BadFunction : (l.prog.main.file == fl_BadFunction) = true)
    (kC_BadFunction : PySem.W.keepIn K (.ref C_BadFunction) = true)
    (eC_BadFunction : PySem.W.subIn K (.ref C_BadFunction) (.type "BaseException") = some true)
    (up_BadFunction : PySem.W.ks_superIn K C_BadFunction C_BadFunction "__init__" = some (some (.builtin "ValueError.__init__")))
    (sV_BadFunction : PySem.W.subIn K (.ref C_BadFunction) (.type "ValueError") = some true)
    (mo_BadFunction : PySem.W.mroIn K C_BadFunction (.ref C_BadFunction) = some true)
    (ob_BadFunction : PySem.W.mroIn K C_BadFunction (.type "object") = some true)
    (ha_BadFunction : PySem.W.findIn K (.ref C_BadFunction) "__class__" = some (some (.builtin "object.__class__")))
    (no0_BadFunction : PySem.W.findIn K (.ref C_BadFunction) "name" = some none)
    (xL_BadKinds : K.lookup C_BadKinds = some (excClassObj "BadKinds" q_BadKinds C_BadKinds N_BadKinds bs_BadKinds [.ref C_SilentswapsError, .type "ValueError", .type "Exception", .type "BaseException", .type "object"] true sn_BadKinds sub_BadKinds ab_BadKinds col_BadKinds dd_BadKinds m0_BadKinds m1_BadKinds m2_BadKinds m3_BadKinds m5_BadKinds "ValueError.__new__"))
    (sa_BadKinds : PySem.W.findIn K (.ref C_BadKinds) "__setattr__" = some (some (.builtin "object.__setattr__")))
    (ga_BadKinds : PySem.W.findIn K (.ref C_BadKinds) "__getattribute__" = some (some (.builtin "BaseException.__getattribute__")))
    (gg_BadKinds : PySem.W.findIn K (.ref C_BadKinds) "__getattr__" = some none)
    (ai_BadKinds : PySem.W.findIn K (.ref C_BadKinds) "__init__" = some (some (.ref f_BadKinds)))
    (ti_BadKinds : PySem.W.typeIn K (.ref f_BadKinds) = some (.type "function"))
    (li_BadKinds : K.lookup f_BadKinds = some ⟨oc_BadKinds, od_BadKinds, .func (PySem.W.ksFn "__init__" "BadKinds.__init__" (defArgs s_BadKinds___init__) (defBody s_BadKinds___init__) (defScope s_BadKinds___init__) .none kV_BadKinds dc_BadKinds pm_BadKinds an_BadKinds (.ref cda_BadKinds) ct_BadKinds cc_BadKinds), osl_BadKinds⟩)
    (ci_BadKinds : PySem.W.codeIn K (.ref cda_BadKinds) "BadKinds.__init__" = true)
    (ce_BadKinds : K.lookup cc_BadKinds = some ⟨cl_BadKinds, cld_BadKinds, .cell (some (.ref C_BadKinds)), csl_BadKinds⟩)
    (cf_BadKinds : K.lookup cda_BadKinds = some ⟨ccl_BadKinds, cdd_BadKinds, .fields vs_BadKinds, ccs_BadKinds⟩)
    (cv_BadKinds : vs_BadKinds[2]? = some (.str fl_BadKinds tf_BadKinds))
    (cm_BadKinds : (l.prog.main.file == fl_BadKinds) = true)
    (kC_BadKinds : PySem.W.keepIn K (.ref C_BadKinds) = true)
    (eC_BadKinds : PySem.W.subIn K (.ref C_BadKinds) (.type "BaseException") = some true)
    (up_BadKinds : PySem.W.ks_superIn K C_BadKinds C_BadKinds "__init__" = some (some (.builtin "ValueError.__init__")))
    (sV_BadKinds : PySem.W.subIn K (.ref C_BadKinds) (.type "ValueError") = some true)
    (mo_BadKinds : PySem.W.mroIn K C_BadKinds (.ref C_BadKinds) = some true)
    (ob_BadKinds : PySem.W.mroIn K C_BadKinds (.type "object") = some true)
    (ha_BadKinds : PySem.W.findIn K (.ref C_BadKinds) "__class__" = some (some (.builtin "object.__class__")))
    (no0_BadKinds : PySem.W.findIn K (.ref C_BadKinds) "at" = some none)
    (xL_BadLine : K.lookup C_BadLine = some (excClassObj "BadLine" q_BadLine C_BadLine N_BadLine bs_BadLine [.ref C_SilentswapsError, .type "ValueError", .type "Exception", .type "BaseException", .type "object"] true sn_BadLine sub_BadLine ab_BadLine col_BadLine dd_BadLine m0_BadLine m1_BadLine m2_BadLine m3_BadLine m5_BadLine "ValueError.__new__"))
    (sa_BadLine : PySem.W.findIn K (.ref C_BadLine) "__setattr__" = some (some (.builtin "object.__setattr__")))
    (ga_BadLine : PySem.W.findIn K (.ref C_BadLine) "__getattribute__" = some (some (.builtin "BaseException.__getattribute__")))
    (gg_BadLine : PySem.W.findIn K (.ref C_BadLine) "__getattr__" = some none)
    (ai_BadLine : PySem.W.findIn K (.ref C_BadLine) "__init__" = some (some (.ref f_BadLine)))
    (ti_BadLine : PySem.W.typeIn K (.ref f_BadLine) = some (.type "function"))
    (li_BadLine : K.lookup f_BadLine = some ⟨oc_BadLine, od_BadLine, .func (PySem.W.ksFn "__init__" "BadLine.__init__" (defArgs s_BadLine___init__) (defBody s_BadLine___init__) (defScope s_BadLine___init__) .none kV_BadLine dc_BadLine pm_BadLine an_BadLine (.ref cda_BadLine) ct_BadLine cc_BadLine), osl_BadLine⟩)
    (ci_BadLine : PySem.W.codeIn K (.ref cda_BadLine) "BadLine.__init__" = true)
    (ce_BadLine : K.lookup cc_BadLine = some ⟨cl_BadLine, cld_BadLine, .cell (some (.ref C_BadLine)), csl_BadLine⟩)
    (cf_BadLine : K.lookup cda_BadLine = some ⟨ccl_BadLine, cdd_BadLine, .fields vs_BadLine, ccs_BadLine⟩)
    (cv_BadLine : vs_BadLine[2]? = some (.str fl_BadLine tf_BadLine))
    (cm_BadLine : (l.prog.main.file == fl_BadLine) = true)
    (kC_BadLine : PySem.W.keepIn K (.ref C_BadLine) = true)
    (eC_BadLine : PySem.W.subIn K (.ref C_BadLine) (.type "BaseException") = some true)
    (up_BadLine : PySem.W.ks_superIn K C_BadLine C_BadLine "__init__" = some (some (.builtin "ValueError.__init__")))
    (sV_BadLine : PySem.W.subIn K (.ref C_BadLine) (.type "ValueError") = some true)
    (mo_BadLine : PySem.W.mroIn K C_BadLine (.ref C_BadLine) = some true)
    (ob_BadLine : PySem.W.mroIn K C_BadLine (.type "object") = some true)
    (ha_BadLine : PySem.W.findIn K (.ref C_BadLine) "__class__" = some (some (.builtin "object.__class__")))
    (no0_BadLine : PySem.W.findIn K (.ref C_BadLine) "at" = some none)
    (xL_BadPlan : K.lookup C_BadPlan = some (excClassObj "BadPlan" q_BadPlan C_BadPlan N_BadPlan bs_BadPlan [.ref C_SilentswapsError, .type "ValueError", .type "Exception", .type "BaseException", .type "object"] true sn_BadPlan sub_BadPlan ab_BadPlan col_BadPlan dd_BadPlan m0_BadPlan m1_BadPlan m2_BadPlan m3_BadPlan m5_BadPlan "ValueError.__new__"))
    (sa_BadPlan : PySem.W.findIn K (.ref C_BadPlan) "__setattr__" = some (some (.builtin "object.__setattr__")))
    (ga_BadPlan : PySem.W.findIn K (.ref C_BadPlan) "__getattribute__" = some (some (.builtin "BaseException.__getattribute__")))
    (gg_BadPlan : PySem.W.findIn K (.ref C_BadPlan) "__getattr__" = some none)
    (ai_BadPlan : PySem.W.findIn K (.ref C_BadPlan) "__init__" = some (some (.ref f_BadPlan)))
    (ti_BadPlan : PySem.W.typeIn K (.ref f_BadPlan) = some (.type "function"))
    (li_BadPlan : K.lookup f_BadPlan = some ⟨oc_BadPlan, od_BadPlan, .func (PySem.W.ksFn "__init__" "BadPlan.__init__" (defArgs s_BadPlan___init__) (defBody s_BadPlan___init__) (defScope s_BadPlan___init__) .none kV_BadPlan dc_BadPlan pm_BadPlan an_BadPlan (.ref cda_BadPlan) ct_BadPlan cc_BadPlan), osl_BadPlan⟩)
    (ci_BadPlan : PySem.W.codeIn K (.ref cda_BadPlan) "BadPlan.__init__" = true)
    (ce_BadPlan : K.lookup cc_BadPlan = some ⟨cl_BadPlan, cld_BadPlan, .cell (some (.ref C_BadPlan)), csl_BadPlan⟩)
    (cf_BadPlan : K.lookup cda_BadPlan = some ⟨ccl_BadPlan, cdd_BadPlan, .fields vs_BadPlan, ccs_BadPlan⟩)
    (cv_BadPlan : vs_BadPlan[2]? = some (.str fl_BadPlan tf_BadPlan))
    (cm_BadPlan : (l.prog.main.file == fl_BadPlan) = true)
    (kC_BadPlan : PySem.W.keepIn K (.ref C_BadPlan) = true)
    (eC_BadPlan : PySem.W.subIn K (.ref C_BadPlan) (.type "BaseException") = some true)
    (up_BadPlan : PySem.W.ks_superIn K C_BadPlan C_BadPlan "__init__" = some (some (.builtin "ValueError.__init__")))
    (sV_BadPlan : PySem.W.subIn K (.ref C_BadPlan) (.type "ValueError") = some true)
    (mo_BadPlan : PySem.W.mroIn K C_BadPlan (.ref C_BadPlan) = some true)
    (ob_BadPlan : PySem.W.mroIn K C_BadPlan (.type "object") = some true)
    (ha_BadPlan : PySem.W.findIn K (.ref C_BadPlan) "__class__" = some (some (.builtin "object.__class__")))
    (no0_BadPlan : PySem.W.findIn K (.ref C_BadPlan) "plan" = some none)
    (xL_BadPromise : K.lookup C_BadPromise = some (excClassObj "BadPromise" q_BadPromise C_BadPromise N_BadPromise bs_BadPromise [.ref C_SilentswapsError, .type "ValueError", .type "Exception", .type "BaseException", .type "object"] true sn_BadPromise sub_BadPromise ab_BadPromise col_BadPromise dd_BadPromise m0_BadPromise m1_BadPromise m2_BadPromise m3_BadPromise m5_BadPromise "ValueError.__new__"))
    (sa_BadPromise : PySem.W.findIn K (.ref C_BadPromise) "__setattr__" = some (some (.builtin "object.__setattr__")))
    (ga_BadPromise : PySem.W.findIn K (.ref C_BadPromise) "__getattribute__" = some (some (.builtin "BaseException.__getattribute__")))
    (gg_BadPromise : PySem.W.findIn K (.ref C_BadPromise) "__getattr__" = some none)
    (ai_BadPromise : PySem.W.findIn K (.ref C_BadPromise) "__init__" = some (some (.ref f_BadPromise)))
    (ti_BadPromise : PySem.W.typeIn K (.ref f_BadPromise) = some (.type "function"))
    (li_BadPromise : K.lookup f_BadPromise = some ⟨oc_BadPromise, od_BadPromise, .func (PySem.W.ksFn "__init__" "BadPromise.__init__" (defArgs s_BadPromise___init__) (defBody s_BadPromise___init__) (defScope s_BadPromise___init__) .none kV_BadPromise dc_BadPromise pm_BadPromise an_BadPromise (.ref cda_BadPromise) ct_BadPromise cc_BadPromise), osl_BadPromise⟩)
    (ci_BadPromise : PySem.W.codeIn K (.ref cda_BadPromise) "BadPromise.__init__" = true)
    (ce_BadPromise : K.lookup cc_BadPromise = some ⟨cl_BadPromise, cld_BadPromise, .cell (some (.ref C_BadPromise)), csl_BadPromise⟩)
    (cf_BadPromise : K.lookup cda_BadPromise = some ⟨ccl_BadPromise, cdd_BadPromise, .fields vs_BadPromise, ccs_BadPromise⟩)
    (cv_BadPromise : vs_BadPromise[2]? = some (.str fl_BadPromise tf_BadPromise))
    (cm_BadPromise : (l.prog.main.file == fl_BadPromise) = true)
    (kC_BadPromise : PySem.W.keepIn K (.ref C_BadPromise) = true)
    (eC_BadPromise : PySem.W.subIn K (.ref C_BadPromise) (.type "BaseException") = some true)
    (up_BadPromise : PySem.W.ks_superIn K C_BadPromise C_BadPromise "__init__" = some (some (.builtin "ValueError.__init__")))
    (sV_BadPromise : PySem.W.subIn K (.ref C_BadPromise) (.type "ValueError") = some true)
    (mo_BadPromise : PySem.W.mroIn K C_BadPromise (.ref C_BadPromise) = some true)
    (ob_BadPromise : PySem.W.mroIn K C_BadPromise (.type "object") = some true)
    (ha_BadPromise : PySem.W.findIn K (.ref C_BadPromise) "__class__" = some (some (.builtin "object.__class__")))
    (no0_BadPromise : PySem.W.findIn K (.ref C_BadPromise) "promise" = some none)
    (xL_BadSlip : K.lookup C_BadSlip = some (excClassObj "BadSlip" q_BadSlip C_BadSlip N_BadSlip bs_BadSlip [.ref C_SilentswapsError, .type "ValueError", .type "Exception", .type "BaseException", .type "object"] true sn_BadSlip sub_BadSlip ab_BadSlip col_BadSlip dd_BadSlip m0_BadSlip m1_BadSlip m2_BadSlip m3_BadSlip m5_BadSlip "ValueError.__new__"))
    (sa_BadSlip : PySem.W.findIn K (.ref C_BadSlip) "__setattr__" = some (some (.builtin "object.__setattr__")))
    (ga_BadSlip : PySem.W.findIn K (.ref C_BadSlip) "__getattribute__" = some (some (.builtin "BaseException.__getattribute__")))
    (gg_BadSlip : PySem.W.findIn K (.ref C_BadSlip) "__getattr__" = some none)
    (ai_BadSlip : PySem.W.findIn K (.ref C_BadSlip) "__init__" = some (some (.ref f_BadSlip)))
    (ti_BadSlip : PySem.W.typeIn K (.ref f_BadSlip) = some (.type "function"))
    (li_BadSlip : K.lookup f_BadSlip = some ⟨oc_BadSlip, od_BadSlip, .func (PySem.W.ksFn "__init__" "BadSlip.__init__" (defArgs s_BadSlip___init__) (defBody s_BadSlip___init__) (defScope s_BadSlip___init__) .none kV_BadSlip dc_BadSlip pm_BadSlip an_BadSlip (.ref cda_BadSlip) ct_BadSlip cc_BadSlip), osl_BadSlip⟩)
    (ci_BadSlip : PySem.W.codeIn K (.ref cda_BadSlip) "BadSlip.__init__" = true)
    (ce_BadSlip : K.lookup cc_BadSlip = some ⟨cl_BadSlip, cld_BadSlip, .cell (some (.ref C_BadSlip)), csl_BadSlip⟩)
    (cf_BadSlip : K.lookup cda_BadSlip = some ⟨ccl_BadSlip, cdd_BadSlip, .fields vs_BadSlip, ccs_BadSlip⟩)
    (cv_BadSlip : vs_BadSlip[2]? = some (.str fl_BadSlip tf_BadSlip))
    (cm_BadSlip : (l.prog.main.file == fl_BadSlip) = true)
    (kC_BadSlip : PySem.W.keepIn K (.ref C_BadSlip) = true)
    (eC_BadSlip : PySem.W.subIn K (.ref C_BadSlip) (.type "BaseException") = some true)
    (up_BadSlip : PySem.W.ks_superIn K C_BadSlip C_BadSlip "__init__" = some (some (.builtin "ValueError.__init__")))
    (sV_BadSlip : PySem.W.subIn K (.ref C_BadSlip) (.type "ValueError") = some true)
    (mo_BadSlip : PySem.W.mroIn K C_BadSlip (.ref C_BadSlip) = some true)
    (ob_BadSlip : PySem.W.mroIn K C_BadSlip (.type "object") = some true)
    (ha_BadSlip : PySem.W.findIn K (.ref C_BadSlip) "__class__" = some (some (.builtin "object.__class__")))
    (no0_BadSlip : PySem.W.findIn K (.ref C_BadSlip) "what" = some none)
    (xL_BadValues : K.lookup C_BadValues = some (excClassObj "BadValues" q_BadValues C_BadValues N_BadValues bs_BadValues [.ref C_SilentswapsError, .type "ValueError", .type "Exception", .type "BaseException", .type "object"] true sn_BadValues sub_BadValues ab_BadValues col_BadValues dd_BadValues m0_BadValues m1_BadValues m2_BadValues m3_BadValues m5_BadValues "ValueError.__new__"))
    (sa_BadValues : PySem.W.findIn K (.ref C_BadValues) "__setattr__" = some (some (.builtin "object.__setattr__")))
    (ga_BadValues : PySem.W.findIn K (.ref C_BadValues) "__getattribute__" = some (some (.builtin "BaseException.__getattribute__")))
    (gg_BadValues : PySem.W.findIn K (.ref C_BadValues) "__getattr__" = some none)
    (ai_BadValues : PySem.W.findIn K (.ref C_BadValues) "__init__" = some (some (.ref f_BadValues)))
    (ti_BadValues : PySem.W.typeIn K (.ref f_BadValues) = some (.type "function"))
    (li_BadValues : K.lookup f_BadValues = some ⟨oc_BadValues, od_BadValues, .func (PySem.W.ksFn "__init__" "BadValues.__init__" (defArgs s_BadValues___init__) (defBody s_BadValues___init__) (defScope s_BadValues___init__) .none kV_BadValues dc_BadValues pm_BadValues an_BadValues (.ref cda_BadValues) ct_BadValues cc_BadValues), osl_BadValues⟩)
    (ci_BadValues : PySem.W.codeIn K (.ref cda_BadValues) "BadValues.__init__" = true)
    (ce_BadValues : K.lookup cc_BadValues = some ⟨cl_BadValues, cld_BadValues, .cell (some (.ref C_BadValues)), csl_BadValues⟩)
    (cf_BadValues : K.lookup cda_BadValues = some ⟨ccl_BadValues, cdd_BadValues, .fields vs_BadValues, ccs_BadValues⟩)
    (cv_BadValues : vs_BadValues[2]? = some (.str fl_BadValues tf_BadValues))
    (cm_BadValues : (l.prog.main.file == fl_BadValues) = true)
    (kC_BadValues : PySem.W.keepIn K (.ref C_BadValues) = true)
    (eC_BadValues : PySem.W.subIn K (.ref C_BadValues) (.type "BaseException") = some true)
    (up_BadValues : PySem.W.ks_superIn K C_BadValues C_BadValues "__init__" = some (some (.builtin "ValueError.__init__")))
    (sV_BadValues : PySem.W.subIn K (.ref C_BadValues) (.type "ValueError") = some true)
    (mo_BadValues : PySem.W.mroIn K C_BadValues (.ref C_BadValues) = some true)
    (ob_BadValues : PySem.W.mroIn K C_BadValues (.type "object") = some true)
    (ha_BadValues : PySem.W.findIn K (.ref C_BadValues) "__class__" = some (some (.builtin "object.__class__")))
    (no0_BadValues : PySem.W.findIn K (.ref C_BadValues) "at" = some none)
    (xL_HasStars : K.lookup C_HasStars = some (excClassObj "HasStars" q_HasStars C_HasStars N_HasStars bs_HasStars [.ref C_SilentswapsError, .type "ValueError", .type "Exception", .type "BaseException", .type "object"] true sn_HasStars sub_HasStars ab_HasStars col_HasStars dd_HasStars m0_HasStars m1_HasStars m2_HasStars m3_HasStars m5_HasStars "ValueError.__new__"))
    (sa_HasStars : PySem.W.findIn K (.ref C_HasStars) "__setattr__" = some (some (.builtin "object.__setattr__")))
    (ga_HasStars : PySem.W.findIn K (.ref C_HasStars) "__getattribute__" = some (some (.builtin "BaseException.__getattribute__")))
    (gg_HasStars : PySem.W.findIn K (.ref C_HasStars) "__getattr__" = some none)
    (ai_HasStars : PySem.W.findIn K (.ref C_HasStars) "__init__" = some (some (.ref f_HasStars)))
    (ti_HasStars : PySem.W.typeIn K (.ref f_HasStars) = some (.type "function"))
    (li_HasStars : K.lookup f_HasStars = some ⟨oc_HasStars, od_HasStars, .func (PySem.W.ksFn "__init__" "HasStars.__init__" (defArgs s_HasStars___init__) (defBody s_HasStars___init__) (defScope s_HasStars___init__) .none kV_HasStars dc_HasStars pm_HasStars an_HasStars (.ref cda_HasStars) ct_HasStars cc_HasStars), osl_HasStars⟩)
    (ci_HasStars : PySem.W.codeIn K (.ref cda_HasStars) "HasStars.__init__" = true)
    (ce_HasStars : K.lookup cc_HasStars = some ⟨cl_HasStars, cld_HasStars, .cell (some (.ref C_HasStars)), csl_HasStars⟩)
    (cf_HasStars : K.lookup cda_HasStars = some ⟨ccl_HasStars, cdd_HasStars, .fields vs_HasStars, ccs_HasStars⟩)
    (cv_HasStars : vs_HasStars[2]? = some (.str fl_HasStars tf_HasStars))
    (cm_HasStars : (l.prog.main.file == fl_HasStars) = true)
    (kC_HasStars : PySem.W.keepIn K (.ref C_HasStars) = true)
    (eC_HasStars : PySem.W.subIn K (.ref C_HasStars) (.type "BaseException") = some true)
    (up_HasStars : PySem.W.ks_superIn K C_HasStars C_HasStars "__init__" = some (some (.builtin "ValueError.__init__")))
    (sV_HasStars : PySem.W.subIn K (.ref C_HasStars) (.type "ValueError") = some true)
    (mo_HasStars : PySem.W.mroIn K C_HasStars (.ref C_HasStars) = some true)
    (ob_HasStars : PySem.W.mroIn K C_HasStars (.type "object") = some true)
    (ha_HasStars : PySem.W.findIn K (.ref C_HasStars) "__class__" = some (some (.builtin "object.__class__")))
    (no0_HasStars : PySem.W.findIn K (.ref C_HasStars) "name" = some none)
    (xL_Refused : K.lookup C_Refused = some (excClassObj "Refused" q_Refused C_Refused N_Refused bs_Refused [.ref C_SilentswapsError, .type "ValueError", .type "Exception", .type "BaseException", .type "object"] true sn_Refused sub_Refused ab_Refused col_Refused dd_Refused m0_Refused m1_Refused m2_Refused m3_Refused m5_Refused "ValueError.__new__"))
    (sa_Refused : PySem.W.findIn K (.ref C_Refused) "__setattr__" = some (some (.builtin "object.__setattr__")))
    (ga_Refused : PySem.W.findIn K (.ref C_Refused) "__getattribute__" = some (some (.builtin "BaseException.__getattribute__")))
    (gg_Refused : PySem.W.findIn K (.ref C_Refused) "__getattr__" = some none)
    (ai_Refused : PySem.W.findIn K (.ref C_Refused) "__init__" = some (some (.ref f_Refused)))
    (ti_Refused : PySem.W.typeIn K (.ref f_Refused) = some (.type "function"))
    (li_Refused : K.lookup f_Refused = some ⟨oc_Refused, od_Refused, .func (PySem.W.ksFn "__init__" "Refused.__init__" (defArgs s_Refused___init__) (defBody s_Refused___init__) (defScope s_Refused___init__) .none kV_Refused dc_Refused pm_Refused an_Refused (.ref cda_Refused) ct_Refused cc_Refused), osl_Refused⟩)
    (ci_Refused : PySem.W.codeIn K (.ref cda_Refused) "Refused.__init__" = true)
    (ce_Refused : K.lookup cc_Refused = some ⟨cl_Refused, cld_Refused, .cell (some (.ref C_Refused)), csl_Refused⟩)
    (cf_Refused : K.lookup cda_Refused = some ⟨ccl_Refused, cdd_Refused, .fields vs_Refused, ccs_Refused⟩)
    (cv_Refused : vs_Refused[2]? = some (.str fl_Refused tf_Refused))
    (cm_Refused : (l.prog.main.file == fl_Refused) = true)
    (kC_Refused : PySem.W.keepIn K (.ref C_Refused) = true)
    (eC_Refused : PySem.W.subIn K (.ref C_Refused) (.type "BaseException") = some true)
    (up_Refused : PySem.W.ks_superIn K C_Refused C_Refused "__init__" = some (some (.builtin "ValueError.__init__")))
    (sV_Refused : PySem.W.subIn K (.ref C_Refused) (.type "ValueError") = some true)
    (mo_Refused : PySem.W.mroIn K C_Refused (.ref C_Refused) = some true)
    (ob_Refused : PySem.W.mroIn K C_Refused (.type "object") = some true)
    (ha_Refused : PySem.W.findIn K (.ref C_Refused) "__class__" = some (some (.builtin "object.__class__")))
    (no0_Refused : PySem.W.findIn K (.ref C_Refused) "door" = some none)
    (xL_TooMany : K.lookup C_TooMany = some (excClassObj "TooMany" q_TooMany C_TooMany N_TooMany bs_TooMany [.ref C_SilentswapsError, .type "ValueError", .type "Exception", .type "BaseException", .type "object"] true sn_TooMany sub_TooMany ab_TooMany col_TooMany dd_TooMany m0_TooMany m1_TooMany m2_TooMany m3_TooMany m5_TooMany "ValueError.__new__"))
    (sa_TooMany : PySem.W.findIn K (.ref C_TooMany) "__setattr__" = some (some (.builtin "object.__setattr__")))
    (ga_TooMany : PySem.W.findIn K (.ref C_TooMany) "__getattribute__" = some (some (.builtin "BaseException.__getattribute__")))
    (gg_TooMany : PySem.W.findIn K (.ref C_TooMany) "__getattr__" = some none)
    (ai_TooMany : PySem.W.findIn K (.ref C_TooMany) "__init__" = some (some (.ref f_TooMany)))
    (ti_TooMany : PySem.W.typeIn K (.ref f_TooMany) = some (.type "function"))
    (li_TooMany : K.lookup f_TooMany = some ⟨oc_TooMany, od_TooMany, .func (PySem.W.ksFn "__init__" "TooMany.__init__" (defArgs s_TooMany___init__) (defBody s_TooMany___init__) (defScope s_TooMany___init__) .none kV_TooMany dc_TooMany pm_TooMany an_TooMany (.ref cda_TooMany) ct_TooMany cc_TooMany), osl_TooMany⟩)
    (ci_TooMany : PySem.W.codeIn K (.ref cda_TooMany) "TooMany.__init__" = true)
    (ce_TooMany : K.lookup cc_TooMany = some ⟨cl_TooMany, cld_TooMany, .cell (some (.ref C_TooMany)), csl_TooMany⟩)
    (cf_TooMany : K.lookup cda_TooMany = some ⟨ccl_TooMany, cdd_TooMany, .fields vs_TooMany, ccs_TooMany⟩)
    (cv_TooMany : vs_TooMany[2]? = some (.str fl_TooMany tf_TooMany))
    (cm_TooMany : (l.prog.main.file == fl_TooMany) = true)
    (kC_TooMany : PySem.W.keepIn K (.ref C_TooMany) = true)
    (eC_TooMany : PySem.W.subIn K (.ref C_TooMany) (.type "BaseException") = some true)
    (up_TooMany : PySem.W.ks_superIn K C_TooMany C_TooMany "__init__" = some (some (.builtin "ValueError.__init__")))
    (sV_TooMany : PySem.W.subIn K (.ref C_TooMany) (.type "ValueError") = some true)
    (mo_TooMany : PySem.W.mroIn K C_TooMany (.ref C_TooMany) = some true)
    (ob_TooMany : PySem.W.mroIn K C_TooMany (.type "object") = some true)
    (ha_TooMany : PySem.W.findIn K (.ref C_TooMany) "__class__" = some (some (.builtin "object.__class__")))
    (no0_TooMany : PySem.W.findIn K (.ref C_TooMany) "what" = some none)
    (xL_Unlike : K.lookup C_Unlike = some (excClassObj "Unlike" q_Unlike C_Unlike N_Unlike bs_Unlike [.ref C_SilentswapsError, .type "ValueError", .type "Exception", .type "BaseException", .type "object"] true sn_Unlike sub_Unlike ab_Unlike col_Unlike dd_Unlike m0_Unlike m1_Unlike m2_Unlike m3_Unlike m5_Unlike "ValueError.__new__"))
    (sa_Unlike : PySem.W.findIn K (.ref C_Unlike) "__setattr__" = some (some (.builtin "object.__setattr__")))
    (ga_Unlike : PySem.W.findIn K (.ref C_Unlike) "__getattribute__" = some (some (.builtin "BaseException.__getattribute__")))
    (gg_Unlike : PySem.W.findIn K (.ref C_Unlike) "__getattr__" = some none)
    (ai_Unlike : PySem.W.findIn K (.ref C_Unlike) "__init__" = some (some (.ref f_Unlike)))
    (ti_Unlike : PySem.W.typeIn K (.ref f_Unlike) = some (.type "function"))
    (li_Unlike : K.lookup f_Unlike = some ⟨oc_Unlike, od_Unlike, .func (PySem.W.ksFn "__init__" "Unlike.__init__" (defArgs s_Unlike___init__) (defBody s_Unlike___init__) (defScope s_Unlike___init__) .none kV_Unlike dc_Unlike pm_Unlike an_Unlike (.ref cda_Unlike) ct_Unlike cc_Unlike), osl_Unlike⟩)
    (ci_Unlike : PySem.W.codeIn K (.ref cda_Unlike) "Unlike.__init__" = true)
    (ce_Unlike : K.lookup cc_Unlike = some ⟨cl_Unlike, cld_Unlike, .cell (some (.ref C_Unlike)), csl_Unlike⟩)
    (cf_Unlike : K.lookup cda_Unlike = some ⟨ccl_Unlike, cdd_Unlike, .fields vs_Unlike, ccs_Unlike⟩)
    (cv_Unlike : vs_Unlike[2]? = some (.str fl_Unlike tf_Unlike))
    (cm_Unlike : (l.prog.main.file == fl_Unlike) = true)
    (kC_Unlike : PySem.W.keepIn K (.ref C_Unlike) = true)
    (eC_Unlike : PySem.W.subIn K (.ref C_Unlike) (.type "BaseException") = some true)
    (up_Unlike : PySem.W.ks_superIn K C_Unlike C_Unlike "__init__" = some (some (.builtin "ValueError.__init__")))
    (sV_Unlike : PySem.W.subIn K (.ref C_Unlike) (.type "ValueError") = some true)
    (mo_Unlike : PySem.W.mroIn K C_Unlike (.ref C_Unlike) = some true)
    (ob_Unlike : PySem.W.mroIn K C_Unlike (.type "object") = some true)
    (ha_Unlike : PySem.W.findIn K (.ref C_Unlike) "__class__" = some (some (.builtin "object.__class__")))
    (xL_Untested : K.lookup C_Untested = some (excClassObj "Untested" q_Untested C_Untested N_Untested bs_Untested [.ref C_SilentswapsError, .type "ValueError", .type "Exception", .type "BaseException", .type "object"] true sn_Untested sub_Untested ab_Untested col_Untested dd_Untested m0_Untested m1_Untested m2_Untested m3_Untested m5_Untested "ValueError.__new__"))
    (sa_Untested : PySem.W.findIn K (.ref C_Untested) "__setattr__" = some (some (.builtin "object.__setattr__")))
    (ga_Untested : PySem.W.findIn K (.ref C_Untested) "__getattribute__" = some (some (.builtin "BaseException.__getattribute__")))
    (gg_Untested : PySem.W.findIn K (.ref C_Untested) "__getattr__" = some none)
    (ai_Untested : PySem.W.findIn K (.ref C_Untested) "__init__" = some (some (.ref f_Untested)))
    (ti_Untested : PySem.W.typeIn K (.ref f_Untested) = some (.type "function"))
    (li_Untested : K.lookup f_Untested = some ⟨oc_Untested, od_Untested, .func (PySem.W.ksFn "__init__" "Untested.__init__" (defArgs s_Untested___init__) (defBody s_Untested___init__) (defScope s_Untested___init__) .none kV_Untested dc_Untested pm_Untested an_Untested (.ref cda_Untested) ct_Untested cc_Untested), osl_Untested⟩)
    (ci_Untested : PySem.W.codeIn K (.ref cda_Untested) "Untested.__init__" = true)
    (ce_Untested : K.lookup cc_Untested = some ⟨cl_Untested, cld_Untested, .cell (some (.ref C_Untested)), csl_Untested⟩)
    (cf_Untested : K.lookup cda_Untested = some ⟨ccl_Untested, cdd_Untested, .fields vs_Untested, ccs_Untested⟩)
    (cv_Untested : vs_Untested[2]? = some (.str fl_Untested tf_Untested))
    (cm_Untested : (l.prog.main.file == fl_Untested) = true)
    (kC_Untested : PySem.W.keepIn K (.ref C_Untested) = true)
    (eC_Untested : PySem.W.subIn K (.ref C_Untested) (.type "BaseException") = some true)
    (up_Untested : PySem.W.ks_superIn K C_Untested C_Untested "__init__" = some (some (.builtin "ValueError.__init__")))
    (sV_Untested : PySem.W.subIn K (.ref C_Untested) (.type "ValueError") = some true)
    (mo_Untested : PySem.W.mroIn K C_Untested (.ref C_Untested) = some true)
    (ob_Untested : PySem.W.mroIn K C_Untested (.type "object") = some true)
    (ha_Untested : PySem.W.findIn K (.ref C_Untested) "__class__" = some (some (.builtin "object.__class__")))
    (no0_Untested : PySem.W.findIn K (.ref C_Untested) "promise" = some none)
    (xL_NoFunction : K.lookup C_NoFunction = some (excClassObj "NoFunction" q_NoFunction C_NoFunction N_NoFunction bs_NoFunction [.type "LookupError", .type "Exception", .type "BaseException", .type "object"] true sn_NoFunction sub_NoFunction ab_NoFunction col_NoFunction dd_NoFunction m0_NoFunction m1_NoFunction m2_NoFunction m3_NoFunction m5_NoFunction "LookupError.__new__"))
    (sa_NoFunction : PySem.W.findIn K (.ref C_NoFunction) "__setattr__" = some (some (.builtin "object.__setattr__")))
    (ga_NoFunction : PySem.W.findIn K (.ref C_NoFunction) "__getattribute__" = some (some (.builtin "BaseException.__getattribute__")))
    (gg_NoFunction : PySem.W.findIn K (.ref C_NoFunction) "__getattr__" = some none)
    (ai_NoFunction : PySem.W.findIn K (.ref C_NoFunction) "__init__" = some (some (.ref f_NoFunction)))
    (ti_NoFunction : PySem.W.typeIn K (.ref f_NoFunction) = some (.type "function"))
    (li_NoFunction : K.lookup f_NoFunction = some ⟨oc_NoFunction, od_NoFunction, .func (PySem.W.ksFn "__init__" "NoFunction.__init__" (defArgs s_NoFunction___init__) (defBody s_NoFunction___init__) (defScope s_NoFunction___init__) .none kV_NoFunction dc_NoFunction pm_NoFunction an_NoFunction (.ref cda_NoFunction) ct_NoFunction cc_NoFunction), osl_NoFunction⟩)
    (ci_NoFunction : PySem.W.codeIn K (.ref cda_NoFunction) "NoFunction.__init__" = true)
    (ce_NoFunction : K.lookup cc_NoFunction = some ⟨cl_NoFunction, cld_NoFunction, .cell (some (.ref C_NoFunction)), csl_NoFunction⟩)
    (cf_NoFunction : K.lookup cda_NoFunction = some ⟨ccl_NoFunction, cdd_NoFunction, .fields vs_NoFunction, ccs_NoFunction⟩)
    (cv_NoFunction : vs_NoFunction[2]? = some (.str fl_NoFunction tf_NoFunction))
    (cm_NoFunction : (l.prog.main.file == fl_NoFunction) = true)
    (kC_NoFunction : PySem.W.keepIn K (.ref C_NoFunction) = true)
    (eC_NoFunction : PySem.W.subIn K (.ref C_NoFunction) (.type "BaseException") = some true)
    (up_NoFunction : PySem.W.ks_superIn K C_NoFunction C_NoFunction "__init__" = some (some (.builtin "LookupError.__init__")))
    (sV_NoFunction : PySem.W.subIn K (.ref C_NoFunction) (.type "LookupError") = some true)
    (mo_NoFunction : PySem.W.mroIn K C_NoFunction (.ref C_NoFunction) = some true)
    (ob_NoFunction : PySem.W.mroIn K C_NoFunction (.type "object") = some true)
    (ha_NoFunction : PySem.W.findIn K (.ref C_NoFunction) "__class__" = some (some (.builtin "object.__class__")))
    (no0_NoFunction : PySem.W.findIn K (.ref C_NoFunction) "name" = some none)
    (xL_NoPlace : K.lookup C_NoPlace = some (excClassObj "NoPlace" q_NoPlace C_NoPlace N_NoPlace bs_NoPlace [.type "LookupError", .type "Exception", .type "BaseException", .type "object"] true sn_NoPlace sub_NoPlace ab_NoPlace col_NoPlace dd_NoPlace m0_NoPlace m1_NoPlace m2_NoPlace m3_NoPlace m5_NoPlace "LookupError.__new__"))
    (sa_NoPlace : PySem.W.findIn K (.ref C_NoPlace) "__setattr__" = some (some (.builtin "object.__setattr__")))
    (ga_NoPlace : PySem.W.findIn K (.ref C_NoPlace) "__getattribute__" = some (some (.builtin "BaseException.__getattribute__")))
    (gg_NoPlace : PySem.W.findIn K (.ref C_NoPlace) "__getattr__" = some none)
    (ai_NoPlace : PySem.W.findIn K (.ref C_NoPlace) "__init__" = some (some (.ref f_NoPlace)))
    (ti_NoPlace : PySem.W.typeIn K (.ref f_NoPlace) = some (.type "function"))
    (li_NoPlace : K.lookup f_NoPlace = some ⟨oc_NoPlace, od_NoPlace, .func (PySem.W.ksFn "__init__" "NoPlace.__init__" (defArgs s_NoPlace___init__) (defBody s_NoPlace___init__) (defScope s_NoPlace___init__) .none kV_NoPlace dc_NoPlace pm_NoPlace an_NoPlace (.ref cda_NoPlace) ct_NoPlace cc_NoPlace), osl_NoPlace⟩)
    (ci_NoPlace : PySem.W.codeIn K (.ref cda_NoPlace) "NoPlace.__init__" = true)
    (ce_NoPlace : K.lookup cc_NoPlace = some ⟨cl_NoPlace, cld_NoPlace, .cell (some (.ref C_NoPlace)), csl_NoPlace⟩)
    (cf_NoPlace : K.lookup cda_NoPlace = some ⟨ccl_NoPlace, cdd_NoPlace, .fields vs_NoPlace, ccs_NoPlace⟩)
    (cv_NoPlace : vs_NoPlace[2]? = some (.str fl_NoPlace tf_NoPlace))
    (cm_NoPlace : (l.prog.main.file == fl_NoPlace) = true)
    (kC_NoPlace : PySem.W.keepIn K (.ref C_NoPlace) = true)
    (eC_NoPlace : PySem.W.subIn K (.ref C_NoPlace) (.type "BaseException") = some true)
    (up_NoPlace : PySem.W.ks_superIn K C_NoPlace C_NoPlace "__init__" = some (some (.builtin "LookupError.__init__")))
    (sV_NoPlace : PySem.W.subIn K (.ref C_NoPlace) (.type "LookupError") = some true)
    (mo_NoPlace : PySem.W.mroIn K C_NoPlace (.ref C_NoPlace) = some true)
    (ob_NoPlace : PySem.W.mroIn K C_NoPlace (.type "object") = some true)
    (ha_NoPlace : PySem.W.findIn K (.ref C_NoPlace) "__class__" = some (some (.builtin "object.__class__")))
    (no0_NoPlace : PySem.W.findIn K (.ref C_NoPlace) "what" = some none)
    (xL_NoRow : K.lookup C_NoRow = some (excClassObj "NoRow" q_NoRow C_NoRow N_NoRow bs_NoRow [.type "LookupError", .type "Exception", .type "BaseException", .type "object"] true sn_NoRow sub_NoRow ab_NoRow col_NoRow dd_NoRow m0_NoRow m1_NoRow m2_NoRow m3_NoRow m5_NoRow "LookupError.__new__"))
    (sa_NoRow : PySem.W.findIn K (.ref C_NoRow) "__setattr__" = some (some (.builtin "object.__setattr__")))
    (ga_NoRow : PySem.W.findIn K (.ref C_NoRow) "__getattribute__" = some (some (.builtin "BaseException.__getattribute__")))
    (gg_NoRow : PySem.W.findIn K (.ref C_NoRow) "__getattr__" = some none)
    (ai_NoRow : PySem.W.findIn K (.ref C_NoRow) "__init__" = some (some (.ref f_NoRow)))
    (ti_NoRow : PySem.W.typeIn K (.ref f_NoRow) = some (.type "function"))
    (li_NoRow : K.lookup f_NoRow = some ⟨oc_NoRow, od_NoRow, .func (PySem.W.ksFn "__init__" "NoRow.__init__" (defArgs s_NoRow___init__) (defBody s_NoRow___init__) (defScope s_NoRow___init__) .none kV_NoRow dc_NoRow pm_NoRow an_NoRow (.ref cda_NoRow) ct_NoRow cc_NoRow), osl_NoRow⟩)
    (ci_NoRow : PySem.W.codeIn K (.ref cda_NoRow) "NoRow.__init__" = true)
    (ce_NoRow : K.lookup cc_NoRow = some ⟨cl_NoRow, cld_NoRow, .cell (some (.ref C_NoRow)), csl_NoRow⟩)
    (cf_NoRow : K.lookup cda_NoRow = some ⟨ccl_NoRow, cdd_NoRow, .fields vs_NoRow, ccs_NoRow⟩)
    (cv_NoRow : vs_NoRow[2]? = some (.str fl_NoRow tf_NoRow))
    (cm_NoRow : (l.prog.main.file == fl_NoRow) = true)
    (kC_NoRow : PySem.W.keepIn K (.ref C_NoRow) = true)
    (eC_NoRow : PySem.W.subIn K (.ref C_NoRow) (.type "BaseException") = some true)
    (up_NoRow : PySem.W.ks_superIn K C_NoRow C_NoRow "__init__" = some (some (.builtin "LookupError.__init__")))
    (sV_NoRow : PySem.W.subIn K (.ref C_NoRow) (.type "LookupError") = some true)
    (mo_NoRow : PySem.W.mroIn K C_NoRow (.ref C_NoRow) = some true)
    (ob_NoRow : PySem.W.mroIn K C_NoRow (.type "object") = some true)
    (ha_NoRow : PySem.W.findIn K (.ref C_NoRow) "__class__" = some (some (.builtin "object.__class__")))
    (no0_NoRow : PySem.W.findIn K (.ref C_NoRow) "name" = some none)
    (no1_NoRow : PySem.W.findIn K (.ref C_NoRow) "row" = some none)
    (xL_Over : K.lookup C_Over = some (excClassObj "Over" q_Over C_Over N_Over bs_Over [.type "RuntimeError", .type "Exception", .type "BaseException", .type "object"] true sn_Over sub_Over ab_Over col_Over dd_Over m0_Over m1_Over m2_Over m3_Over m5_Over "RuntimeError.__new__"))
    (sa_Over : PySem.W.findIn K (.ref C_Over) "__setattr__" = some (some (.builtin "object.__setattr__")))
    (ga_Over : PySem.W.findIn K (.ref C_Over) "__getattribute__" = some (some (.builtin "BaseException.__getattribute__")))
    (gg_Over : PySem.W.findIn K (.ref C_Over) "__getattr__" = some none)
    (ai_Over : PySem.W.findIn K (.ref C_Over) "__init__" = some (some (.ref f_Over)))
    (ti_Over : PySem.W.typeIn K (.ref f_Over) = some (.type "function"))
    (li_Over : K.lookup f_Over = some ⟨oc_Over, od_Over, .func (PySem.W.ksFn "__init__" "Over.__init__" (defArgs s_Over___init__) (defBody s_Over___init__) (defScope s_Over___init__) .none kV_Over dc_Over pm_Over an_Over (.ref cda_Over) ct_Over cc_Over), osl_Over⟩)
    (ci_Over : PySem.W.codeIn K (.ref cda_Over) "Over.__init__" = true)
    (ce_Over : K.lookup cc_Over = some ⟨cl_Over, cld_Over, .cell (some (.ref C_Over)), csl_Over⟩)
    (cf_Over : K.lookup cda_Over = some ⟨ccl_Over, cdd_Over, .fields vs_Over, ccs_Over⟩)
    (cv_Over : vs_Over[2]? = some (.str fl_Over tf_Over))
    (cm_Over : (l.prog.main.file == fl_Over) = true)
    (kC_Over : PySem.W.keepIn K (.ref C_Over) = true)
    (eC_Over : PySem.W.subIn K (.ref C_Over) (.type "BaseException") = some true)
    (up_Over : PySem.W.ks_superIn K C_Over C_Over "__init__" = some (some (.builtin "RuntimeError.__init__")))
    (sV_Over : PySem.W.subIn K (.ref C_Over) (.type "RuntimeError") = some true)
    (mo_Over : PySem.W.mroIn K C_Over (.ref C_Over) = some true)
    (ob_Over : PySem.W.mroIn K C_Over (.type "object") = some true)
    (ha_Over : PySem.W.findIn K (.ref C_Over) "__class__" = some (some (.builtin "object.__class__")))
    (xL_SilentswapsError : K.lookup C_SilentswapsError = some (excClassObj "SilentswapsError" q_SilentswapsError C_SilentswapsError N_SilentswapsError bs_SilentswapsError [.type "ValueError", .type "Exception", .type "BaseException", .type "object"] true sn_SilentswapsError sub_SilentswapsError ab_SilentswapsError col_SilentswapsError dd_SilentswapsError m0_SilentswapsError m1_SilentswapsError m2_SilentswapsError m3_SilentswapsError m5_SilentswapsError "ValueError.__new__"))
    (a1 : PySem.W.nsIn K mainGlobals "_law_bag" = some (some (.ref f1))) (l1 : K.lookup f1 = some ⟨oc1, od1, .func (PySem.W.fnOf "_law_bag" "_law_bag" (defArgs s__law_bag) (defBody s__law_bag) (defScope s__law_bag) .none kV1 dc1 pm1 an1 cd1 ct1), sl1⟩) (c1 : PySem.W.codeIn K cd1 "_law_bag" = true) (k1 : PySem.W.keepIn K (.ref f1) = true)
    (a2 : PySem.W.nsIn K mainGlobals "_law_take" = some (some (.ref f2))) (l2 : K.lookup f2 = some ⟨oc2, od2, .func (PySem.W.fnOf "_law_take" "_law_take" (defArgs s__law_take) (defBody s__law_take) (defScope s__law_take) .none kV2 dc2 pm2 an2 cd2 ct2), sl2⟩) (c2 : PySem.W.codeIn K cd2 "_law_take" = true) (k2 : PySem.W.keepIn K (.ref f2) = true)
    (a3 : PySem.W.nsIn K mainGlobals "_law_is" = some (some (.ref f3))) (l3 : K.lookup f3 = some ⟨oc3, od3, .func (PySem.W.fnOf "_law_is" "_law_is" (defArgs s__law_is) (defBody s__law_is) (defScope s__law_is) .none kV3 dc3 pm3 an3 cd3 ct3), sl3⟩) (c3 : PySem.W.codeIn K cd3 "_law_is" = true) (k3 : PySem.W.keepIn K (.ref f3) = true)
    (a4 : PySem.W.nsIn K mainGlobals "_law_bases" = some (some (.ref f4))) (l4 : K.lookup f4 = some ⟨oc4, od4, .func (PySem.W.fnOf "_law_bases" "_law_bases" (defArgs s__law_bases) (defBody s__law_bases) (defScope s__law_bases) .none kV4 dc4 pm4 an4 cd4 ct4), sl4⟩) (c4 : PySem.W.codeIn K cd4 "_law_bases" = true) (k4 : PySem.W.keepIn K (.ref f4) = true)
    (a5 : PySem.W.nsIn K mainGlobals "_law_of" = some (some (.ref f5))) (l5 : K.lookup f5 = some ⟨oc5, od5, .func (PySem.W.fnOf "_law_of" "_law_of" (defArgs s__law_of) (defBody s__law_of) (defScope s__law_of) .none kV5 dc5 pm5 an5 cd5 ct5), sl5⟩) (c5 : PySem.W.codeIn K cd5 "_law_of" = true) (k5 : PySem.W.keepIn K (.ref f5) = true)
    (a6 : PySem.W.nsIn K mainGlobals "_law_made" = some (some (.ref f6))) (l6 : K.lookup f6 = some ⟨oc6, od6, .func (PySem.W.fnOf "_law_made" "_law_made" (defArgs s__law_made) (defBody s__law_made) (defScope s__law_made) .none kV6 dc6 pm6 an6 cd6 ct6), sl6⟩) (c6 : PySem.W.codeIn K cd6 "_law_made" = true) (k6 : PySem.W.keepIn K (.ref f6) = true)
    (a7 : PySem.W.nsIn K mainGlobals "_law_value" = some (some (.ref f7))) (l7 : K.lookup f7 = some ⟨oc7, od7, .func (PySem.W.fnOf "_law_value" "_law_value" (defArgs s__law_value) (defBody s__law_value) (defScope s__law_value) .none kV7 dc7 pm7 an7 cd7 ct7), sl7⟩) (c7 : PySem.W.codeIn K cd7 "_law_value" = true) (k7 : PySem.W.keepIn K (.ref f7) = true)
    (a8 : PySem.W.nsIn K mainGlobals "law" = some (some (.ref f8))) (l8 : K.lookup f8 = some ⟨oc8, od8, .func (PySem.W.fnOf "law" "law" (defArgs s_law) (defBody s_law) (defScope s_law) .none kV8 dc8 pm8 an8 cd8 ct8), sl8⟩) (c8 : PySem.W.codeIn K cd8 "law" = true) (k8 : PySem.W.keepIn K (.ref f8) = true)
    (z_ValueError : PySem.W.nsIn K mainGlobals "ValueError" = some none) (z_LookupError : PySem.W.nsIn K mainGlobals "LookupError" = some none) (z_RuntimeError : PySem.W.nsIn K mainGlobals "RuntimeError" = some none) (z_range : PySem.W.nsIn K mainGlobals "range" = some none) (z_abs : PySem.W.nsIn K mainGlobals "abs" = some none) (z_int : PySem.W.nsIn K mainGlobals "int" = some none) (z_isinstance : PySem.W.nsIn K mainGlobals "isinstance" = some none) (z_max : PySem.W.nsIn K mainGlobals "max" = some none) (z_len : PySem.W.nsIn K mainGlobals "len" = some none) (z_min : PySem.W.nsIn K mainGlobals "min" = some none) (z_super : PySem.W.nsIn K mainGlobals "super" = some none) (z_bool : PySem.W.nsIn K mainGlobals "bool" = some none) :
    ∃ fd : FuncData, (∀ (s : Shared) (v : Value), BindsTo s fd ⟨[v], []⟩ [("_law_script", v)]) ∧ ∀ base : Heap, K.In base → base.Ns mainGlobals mg → FnOk l.prog w K mg base CX0 8 fa fd ["_law_script"] (sp_law K) := by
  have e := hfa.symm.trans (PySem.W.mg_of X G a8)
  cases e
  have T : Txt K mg C_SilentswapsError C_BadCall C_BadFunction C_BadKinds C_BadLine C_BadPlan C_BadPromise C_BadSlip C_BadValues C_HasStars C_Refused C_TooMany C_Unlike C_Untested C_NoFunction C_NoPlace C_NoRow C_Over := ⟨PySem.W.mg_none_of X G z_ValueError, PySem.W.mg_none_of X G z_LookupError, PySem.W.mg_none_of X G z_RuntimeError, PySem.W.mg_none_of X G z_range, PySem.W.mg_none_of X G z_abs, PySem.W.mg_none_of X G z_int, PySem.W.mg_none_of X G z_isinstance, PySem.W.mg_none_of X G z_max, PySem.W.mg_none_of X G z_len, PySem.W.mg_none_of X G z_min, PySem.W.mg_none_of X G z_super, PySem.W.mg_none_of X G z_bool, ⟨_, PySem.W.mg_of X G aC_SilentswapsError, rfl⟩, ⟨_, PySem.W.mg_of X G aC_BadCall, rfl⟩, ⟨_, PySem.W.mg_of X G aC_BadFunction, rfl⟩, ⟨_, PySem.W.mg_of X G aC_BadKinds, rfl⟩, ⟨_, PySem.W.mg_of X G aC_BadLine, rfl⟩, ⟨_, PySem.W.mg_of X G aC_BadPlan, rfl⟩, ⟨_, PySem.W.mg_of X G aC_BadPromise, rfl⟩, ⟨_, PySem.W.mg_of X G aC_BadSlip, rfl⟩, ⟨_, PySem.W.mg_of X G aC_BadValues, rfl⟩, ⟨_, PySem.W.mg_of X G aC_HasStars, rfl⟩, ⟨_, PySem.W.mg_of X G aC_Refused, rfl⟩, ⟨_, PySem.W.mg_of X G aC_TooMany, rfl⟩, ⟨_, PySem.W.mg_of X G aC_Unlike, rfl⟩, ⟨_, PySem.W.mg_of X G aC_Untested, rfl⟩, ⟨_, PySem.W.mg_of X G aC_NoFunction, rfl⟩, ⟨_, PySem.W.mg_of X G aC_NoPlace, rfl⟩, ⟨_, PySem.W.mg_of X G aC_NoRow, rfl⟩, ⟨_, PySem.W.mg_of X G aC_Over, rfl⟩, ⟨⟨_, _, _, _, _, _, _, _, _, _, _, _, _, xL_BadCall⟩⟩, ⟨ga_BadCall, gg_BadCall, eC_BadCall, (⟨⟨_, _, _, _, _, _, _, _, _, _, _, _, _, xL_BadCall⟩⟩ : ExL K "BadCall" C_BadCall [.ref C_SilentswapsError, .type "ValueError", .type "Exception", .type "BaseException", .type "object"] "ValueError.__new__").hd, ha_BadCall, hnC, htC, ob_BadCall⟩, ⟨ga_BadCall, gg_BadCall, eC_BadCall, (⟨⟨_, _, _, _, _, _, _, _, _, _, _, _, _, xL_BadCall⟩⟩ : ExL K "BadCall" C_BadCall [.ref C_SilentswapsError, .type "ValueError", .type "Exception", .type "BaseException", .type "object"] "ValueError.__new__").hd⟩, no0_BadCall, ⟨⟨_, _, _, _, _, _, _, _, _, _, _, _, _, xL_BadFunction⟩⟩, ⟨ga_BadFunction, gg_BadFunction, eC_BadFunction, (⟨⟨_, _, _, _, _, _, _, _, _, _, _, _, _, xL_BadFunction⟩⟩ : ExL K "BadFunction" C_BadFunction [.ref C_SilentswapsError, .type "ValueError", .type "Exception", .type "BaseException", .type "object"] "ValueError.__new__").hd, ha_BadFunction, hnC, htC, ob_BadFunction⟩, ⟨ga_BadFunction, gg_BadFunction, eC_BadFunction, (⟨⟨_, _, _, _, _, _, _, _, _, _, _, _, _, xL_BadFunction⟩⟩ : ExL K "BadFunction" C_BadFunction [.ref C_SilentswapsError, .type "ValueError", .type "Exception", .type "BaseException", .type "object"] "ValueError.__new__").hd⟩, no0_BadFunction, ⟨⟨_, _, _, _, _, _, _, _, _, _, _, _, _, xL_BadKinds⟩⟩, ⟨ga_BadKinds, gg_BadKinds, eC_BadKinds, (⟨⟨_, _, _, _, _, _, _, _, _, _, _, _, _, xL_BadKinds⟩⟩ : ExL K "BadKinds" C_BadKinds [.ref C_SilentswapsError, .type "ValueError", .type "Exception", .type "BaseException", .type "object"] "ValueError.__new__").hd, ha_BadKinds, hnC, htC, ob_BadKinds⟩, ⟨ga_BadKinds, gg_BadKinds, eC_BadKinds, (⟨⟨_, _, _, _, _, _, _, _, _, _, _, _, _, xL_BadKinds⟩⟩ : ExL K "BadKinds" C_BadKinds [.ref C_SilentswapsError, .type "ValueError", .type "Exception", .type "BaseException", .type "object"] "ValueError.__new__").hd⟩, no0_BadKinds, ⟨⟨_, _, _, _, _, _, _, _, _, _, _, _, _, xL_BadLine⟩⟩, ⟨ga_BadLine, gg_BadLine, eC_BadLine, (⟨⟨_, _, _, _, _, _, _, _, _, _, _, _, _, xL_BadLine⟩⟩ : ExL K "BadLine" C_BadLine [.ref C_SilentswapsError, .type "ValueError", .type "Exception", .type "BaseException", .type "object"] "ValueError.__new__").hd, ha_BadLine, hnC, htC, ob_BadLine⟩, ⟨ga_BadLine, gg_BadLine, eC_BadLine, (⟨⟨_, _, _, _, _, _, _, _, _, _, _, _, _, xL_BadLine⟩⟩ : ExL K "BadLine" C_BadLine [.ref C_SilentswapsError, .type "ValueError", .type "Exception", .type "BaseException", .type "object"] "ValueError.__new__").hd⟩, no0_BadLine, ⟨⟨_, _, _, _, _, _, _, _, _, _, _, _, _, xL_BadPlan⟩⟩, ⟨ga_BadPlan, gg_BadPlan, eC_BadPlan, (⟨⟨_, _, _, _, _, _, _, _, _, _, _, _, _, xL_BadPlan⟩⟩ : ExL K "BadPlan" C_BadPlan [.ref C_SilentswapsError, .type "ValueError", .type "Exception", .type "BaseException", .type "object"] "ValueError.__new__").hd, ha_BadPlan, hnC, htC, ob_BadPlan⟩, ⟨ga_BadPlan, gg_BadPlan, eC_BadPlan, (⟨⟨_, _, _, _, _, _, _, _, _, _, _, _, _, xL_BadPlan⟩⟩ : ExL K "BadPlan" C_BadPlan [.ref C_SilentswapsError, .type "ValueError", .type "Exception", .type "BaseException", .type "object"] "ValueError.__new__").hd⟩, no0_BadPlan, ⟨⟨_, _, _, _, _, _, _, _, _, _, _, _, _, xL_BadPromise⟩⟩, ⟨ga_BadPromise, gg_BadPromise, eC_BadPromise, (⟨⟨_, _, _, _, _, _, _, _, _, _, _, _, _, xL_BadPromise⟩⟩ : ExL K "BadPromise" C_BadPromise [.ref C_SilentswapsError, .type "ValueError", .type "Exception", .type "BaseException", .type "object"] "ValueError.__new__").hd, ha_BadPromise, hnC, htC, ob_BadPromise⟩, ⟨ga_BadPromise, gg_BadPromise, eC_BadPromise, (⟨⟨_, _, _, _, _, _, _, _, _, _, _, _, _, xL_BadPromise⟩⟩ : ExL K "BadPromise" C_BadPromise [.ref C_SilentswapsError, .type "ValueError", .type "Exception", .type "BaseException", .type "object"] "ValueError.__new__").hd⟩, no0_BadPromise, ⟨⟨_, _, _, _, _, _, _, _, _, _, _, _, _, xL_BadSlip⟩⟩, ⟨ga_BadSlip, gg_BadSlip, eC_BadSlip, (⟨⟨_, _, _, _, _, _, _, _, _, _, _, _, _, xL_BadSlip⟩⟩ : ExL K "BadSlip" C_BadSlip [.ref C_SilentswapsError, .type "ValueError", .type "Exception", .type "BaseException", .type "object"] "ValueError.__new__").hd, ha_BadSlip, hnC, htC, ob_BadSlip⟩, ⟨ga_BadSlip, gg_BadSlip, eC_BadSlip, (⟨⟨_, _, _, _, _, _, _, _, _, _, _, _, _, xL_BadSlip⟩⟩ : ExL K "BadSlip" C_BadSlip [.ref C_SilentswapsError, .type "ValueError", .type "Exception", .type "BaseException", .type "object"] "ValueError.__new__").hd⟩, no0_BadSlip, ⟨⟨_, _, _, _, _, _, _, _, _, _, _, _, _, xL_BadValues⟩⟩, ⟨ga_BadValues, gg_BadValues, eC_BadValues, (⟨⟨_, _, _, _, _, _, _, _, _, _, _, _, _, xL_BadValues⟩⟩ : ExL K "BadValues" C_BadValues [.ref C_SilentswapsError, .type "ValueError", .type "Exception", .type "BaseException", .type "object"] "ValueError.__new__").hd, ha_BadValues, hnC, htC, ob_BadValues⟩, ⟨ga_BadValues, gg_BadValues, eC_BadValues, (⟨⟨_, _, _, _, _, _, _, _, _, _, _, _, _, xL_BadValues⟩⟩ : ExL K "BadValues" C_BadValues [.ref C_SilentswapsError, .type "ValueError", .type "Exception", .type "BaseException", .type "object"] "ValueError.__new__").hd⟩, no0_BadValues, ⟨⟨_, _, _, _, _, _, _, _, _, _, _, _, _, xL_HasStars⟩⟩, ⟨ga_HasStars, gg_HasStars, eC_HasStars, (⟨⟨_, _, _, _, _, _, _, _, _, _, _, _, _, xL_HasStars⟩⟩ : ExL K "HasStars" C_HasStars [.ref C_SilentswapsError, .type "ValueError", .type "Exception", .type "BaseException", .type "object"] "ValueError.__new__").hd, ha_HasStars, hnC, htC, ob_HasStars⟩, ⟨ga_HasStars, gg_HasStars, eC_HasStars, (⟨⟨_, _, _, _, _, _, _, _, _, _, _, _, _, xL_HasStars⟩⟩ : ExL K "HasStars" C_HasStars [.ref C_SilentswapsError, .type "ValueError", .type "Exception", .type "BaseException", .type "object"] "ValueError.__new__").hd⟩, no0_HasStars, ⟨⟨_, _, _, _, _, _, _, _, _, _, _, _, _, xL_Refused⟩⟩, ⟨ga_Refused, gg_Refused, eC_Refused, (⟨⟨_, _, _, _, _, _, _, _, _, _, _, _, _, xL_Refused⟩⟩ : ExL K "Refused" C_Refused [.ref C_SilentswapsError, .type "ValueError", .type "Exception", .type "BaseException", .type "object"] "ValueError.__new__").hd, ha_Refused, hnC, htC, ob_Refused⟩, ⟨ga_Refused, gg_Refused, eC_Refused, (⟨⟨_, _, _, _, _, _, _, _, _, _, _, _, _, xL_Refused⟩⟩ : ExL K "Refused" C_Refused [.ref C_SilentswapsError, .type "ValueError", .type "Exception", .type "BaseException", .type "object"] "ValueError.__new__").hd⟩, no0_Refused, ⟨⟨_, _, _, _, _, _, _, _, _, _, _, _, _, xL_TooMany⟩⟩, ⟨ga_TooMany, gg_TooMany, eC_TooMany, (⟨⟨_, _, _, _, _, _, _, _, _, _, _, _, _, xL_TooMany⟩⟩ : ExL K "TooMany" C_TooMany [.ref C_SilentswapsError, .type "ValueError", .type "Exception", .type "BaseException", .type "object"] "ValueError.__new__").hd, ha_TooMany, hnC, htC, ob_TooMany⟩, ⟨ga_TooMany, gg_TooMany, eC_TooMany, (⟨⟨_, _, _, _, _, _, _, _, _, _, _, _, _, xL_TooMany⟩⟩ : ExL K "TooMany" C_TooMany [.ref C_SilentswapsError, .type "ValueError", .type "Exception", .type "BaseException", .type "object"] "ValueError.__new__").hd⟩, no0_TooMany, ⟨⟨_, _, _, _, _, _, _, _, _, _, _, _, _, xL_Unlike⟩⟩, ⟨ga_Unlike, gg_Unlike, eC_Unlike, (⟨⟨_, _, _, _, _, _, _, _, _, _, _, _, _, xL_Unlike⟩⟩ : ExL K "Unlike" C_Unlike [.ref C_SilentswapsError, .type "ValueError", .type "Exception", .type "BaseException", .type "object"] "ValueError.__new__").hd, ha_Unlike, hnC, htC, ob_Unlike⟩, ⟨ga_Unlike, gg_Unlike, eC_Unlike, (⟨⟨_, _, _, _, _, _, _, _, _, _, _, _, _, xL_Unlike⟩⟩ : ExL K "Unlike" C_Unlike [.ref C_SilentswapsError, .type "ValueError", .type "Exception", .type "BaseException", .type "object"] "ValueError.__new__").hd⟩, ⟨⟨_, _, _, _, _, _, _, _, _, _, _, _, _, xL_Untested⟩⟩, ⟨ga_Untested, gg_Untested, eC_Untested, (⟨⟨_, _, _, _, _, _, _, _, _, _, _, _, _, xL_Untested⟩⟩ : ExL K "Untested" C_Untested [.ref C_SilentswapsError, .type "ValueError", .type "Exception", .type "BaseException", .type "object"] "ValueError.__new__").hd, ha_Untested, hnC, htC, ob_Untested⟩, ⟨ga_Untested, gg_Untested, eC_Untested, (⟨⟨_, _, _, _, _, _, _, _, _, _, _, _, _, xL_Untested⟩⟩ : ExL K "Untested" C_Untested [.ref C_SilentswapsError, .type "ValueError", .type "Exception", .type "BaseException", .type "object"] "ValueError.__new__").hd⟩, no0_Untested, ⟨⟨_, _, _, _, _, _, _, _, _, _, _, _, _, xL_NoFunction⟩⟩, ⟨ga_NoFunction, gg_NoFunction, eC_NoFunction, (⟨⟨_, _, _, _, _, _, _, _, _, _, _, _, _, xL_NoFunction⟩⟩ : ExL K "NoFunction" C_NoFunction [.type "LookupError", .type "Exception", .type "BaseException", .type "object"] "LookupError.__new__").hd, ha_NoFunction, hnC, htC, ob_NoFunction⟩, ⟨ga_NoFunction, gg_NoFunction, eC_NoFunction, (⟨⟨_, _, _, _, _, _, _, _, _, _, _, _, _, xL_NoFunction⟩⟩ : ExL K "NoFunction" C_NoFunction [.type "LookupError", .type "Exception", .type "BaseException", .type "object"] "LookupError.__new__").hd⟩, no0_NoFunction, ⟨⟨_, _, _, _, _, _, _, _, _, _, _, _, _, xL_NoPlace⟩⟩, ⟨ga_NoPlace, gg_NoPlace, eC_NoPlace, (⟨⟨_, _, _, _, _, _, _, _, _, _, _, _, _, xL_NoPlace⟩⟩ : ExL K "NoPlace" C_NoPlace [.type "LookupError", .type "Exception", .type "BaseException", .type "object"] "LookupError.__new__").hd, ha_NoPlace, hnC, htC, ob_NoPlace⟩, ⟨ga_NoPlace, gg_NoPlace, eC_NoPlace, (⟨⟨_, _, _, _, _, _, _, _, _, _, _, _, _, xL_NoPlace⟩⟩ : ExL K "NoPlace" C_NoPlace [.type "LookupError", .type "Exception", .type "BaseException", .type "object"] "LookupError.__new__").hd⟩, no0_NoPlace, ⟨⟨_, _, _, _, _, _, _, _, _, _, _, _, _, xL_NoRow⟩⟩, ⟨ga_NoRow, gg_NoRow, eC_NoRow, (⟨⟨_, _, _, _, _, _, _, _, _, _, _, _, _, xL_NoRow⟩⟩ : ExL K "NoRow" C_NoRow [.type "LookupError", .type "Exception", .type "BaseException", .type "object"] "LookupError.__new__").hd, ha_NoRow, hnC, htC, ob_NoRow⟩, ⟨ga_NoRow, gg_NoRow, eC_NoRow, (⟨⟨_, _, _, _, _, _, _, _, _, _, _, _, _, xL_NoRow⟩⟩ : ExL K "NoRow" C_NoRow [.type "LookupError", .type "Exception", .type "BaseException", .type "object"] "LookupError.__new__").hd⟩, no0_NoRow, no1_NoRow, ⟨⟨_, _, _, _, _, _, _, _, _, _, _, _, _, xL_Over⟩⟩, ⟨ga_Over, gg_Over, eC_Over, (⟨⟨_, _, _, _, _, _, _, _, _, _, _, _, _, xL_Over⟩⟩ : ExL K "Over" C_Over [.type "RuntimeError", .type "Exception", .type "BaseException", .type "object"] "RuntimeError.__new__").hd, ha_Over, hnC, htC, ob_Over⟩, ⟨ga_Over, gg_Over, eC_Over, (⟨⟨_, _, _, _, _, _, _, _, _, _, _, _, _, xL_Over⟩⟩ : ExL K "Over" C_Over [.type "RuntimeError", .type "Exception", .type "BaseException", .type "object"] "RuntimeError.__new__").hd⟩, ⟨⟨_, _, _, _, _, _, _, _, _, _, _, _, _, xL_SilentswapsError⟩⟩⟩
  have F1 := fun_mk (st := s__law_bag) l1 c1 k1
  have b1 := F1.binds (ps := ["_law_script", "_law_at"]) fun _ _ _ _ _ _ us hl => match us, hl with | [_, _], _ => rfl
  have F2 := fun_mk (st := s__law_take) l2 c2 k2
  have b2 := F2.binds (ps := ["_law_bag_here", "_law_many"]) fun _ _ _ _ _ _ us hl => match us, hl with | [_, _], _ => rfl
  have F3 := fun_mk (st := s__law_is) l3 c3 k3
  have b3 := F3.binds (ps := ["_law_e"]) fun _ _ _ _ _ _ us hl => match us, hl with | [_], _ => rfl
  have F4 := fun_mk (st := s__law_bases) l4 c4 k4
  have b4 := F4.binds (ps := ["_law_e"]) fun _ _ _ _ _ _ us hl => match us, hl with | [_], _ => rfl
  have F5 := fun_mk (st := s__law_of) l5 c5 k5
  have b5 := F5.binds (ps := ["_law_bag_here", "_law_some"]) fun _ _ _ _ _ _ us hl => match us, hl with | [_, _], _ => rfl
  have F6 := fun_mk (st := s__law_made) l6 c6 k6
  have b6 := F6.binds (ps := ["_law_which", "_law_value_here", "_law_other"]) fun _ _ _ _ _ _ us hl => match us, hl with | [_, _, _], _ => rfl
  have F7 := fun_mk (st := s__law_value) l7 c7 k7
  have b7 := F7.binds (ps := ["_law_bag_here"]) fun _ _ _ _ _ _ us hl => match us, hl with | [_], _ => rfl
  have F8 := fun_mk (st := s_law) l8 c8 k8
  refine ⟨PySem.W.fnOf "law" "law" (defArgs s_law) (defBody s_law) (defScope s_law) .none kV8 dc8 pm8 an8 cd8 ct8, fun s v => .of_eq rfl, fun base _ _ => ?_⟩
  have E_BadCall : OexB K C_BadCall "ValueError.__new__" [.type "ValueError", .type "Exception", .type "BaseException", .type "object"] := ⟨⟨_, _, _, _, _, _, _, _, _, _, _, _, _, _, _, xL_BadCall, rfl⟩, sa_BadCall, eC_BadCall, T.e_BadCall.ty, kC_BadCall⟩
  have S_BadCall : SFunB l.prog K mg "BadCall.__init__" s_BadCall___init__ C_BadCall f_BadCall (PySem.W.ksFn "__init__" "BadCall.__init__" (defArgs s_BadCall___init__) (defBody s_BadCall___init__) (defScope s_BadCall___init__) .none kV_BadCall dc_BadCall pm_BadCall an_BadCall (.ref cda_BadCall) ct_BadCall cc_BadCall) "ValueError" "ValueError.__new__" "ValueError.__init__" [.type "ValueError", .type "Exception", .type "BaseException", .type "object"] :=
    ⟨⟨_, _, _, _, _, _, _, _, _, _, _, _, _, rfl, li_BadCall, ci_BadCall, ce_BadCall, ⟨E_BadCall, up_BadCall, sV_BadCall, mo_BadCall, opq, T.z_super, ⟨_, _, _, _, _, _, cf_BadCall, cv_BadCall, cm_BadCall⟩, tops⟩⟩⟩
  have U_BadCall : UseV l.prog w K mg base 1 "BadCall" C_BadCall ["self", "index"] (sp_ev ["index"] C_BadCall) :=
    ⟨⟨_, _, _, _, f_BadCall, _, base_VE, E_BadCall, ai_BadCall, ti_BadCall, ok_BadCall___init__ S_BadCall no0_BadCall, (fun s us hl => match us, hl with | [_, _], _ => .of_eq rfl), (fun s us ws h1 h2 => match us, ws, h1, h2 with | [_], [_], _, _ => .of_eq rfl), fun s us ws h1 h2 => match us, ws, h1, h2 with | [_], [_], _, _ => .of_eq rfl⟩, PySem.W.mg_of X G aC_BadCall, T.i_BadCall⟩
  have E_BadFunction : OexB K C_BadFunction "ValueError.__new__" [.type "ValueError", .type "Exception", .type "BaseException", .type "object"] := ⟨⟨_, _, _, _, _, _, _, _, _, _, _, _, _, _, _, xL_BadFunction, rfl⟩, sa_BadFunction, eC_BadFunction, T.e_BadFunction.ty, kC_BadFunction⟩
  have S_BadFunction : SFunB l.prog K mg "BadFunction.__init__" s_BadFunction___init__ C_BadFunction f_BadFunction (PySem.W.ksFn "__init__" "BadFunction.__init__" (defArgs s_BadFunction___init__) (defBody s_BadFunction___init__) (defScope s_BadFunction___init__) .none kV_BadFunction dc_BadFunction pm_BadFunction an_BadFunction (.ref cda_BadFunction) ct_BadFunction cc_BadFunction) "ValueError" "ValueError.__new__" "ValueError.__init__" [.type "ValueError", .type "Exception", .type "BaseException", .type "object"] :=
    ⟨⟨_, _, _, _, _, _, _, _, _, _, _, _, _, rfl, li_BadFunction, ci_BadFunction, ce_BadFunction, ⟨E_BadFunction, up_BadFunction, sV_BadFunction, mo_BadFunction, opq, T.z_super, ⟨_, _, _, _, _, _, cf_BadFunction, cv_BadFunction, cm_BadFunction⟩, tops⟩⟩⟩
  have U_BadFunction : UseV l.prog w K mg base 1 "BadFunction" C_BadFunction ["self", "name"] (sp_ev ["name"] C_BadFunction) :=
    ⟨⟨_, _, _, _, f_BadFunction, _, base_VE, E_BadFunction, ai_BadFunction, ti_BadFunction, ok_BadFunction___init__ S_BadFunction no0_BadFunction, (fun s us hl => match us, hl with | [_, _], _ => .of_eq rfl), (fun s us ws h1 h2 => match us, ws, h1, h2 with | [_], [_], _, _ => .of_eq rfl), fun s us ws h1 h2 => match us, ws, h1, h2 with | [_], [_], _, _ => .of_eq rfl⟩, PySem.W.mg_of X G aC_BadFunction, T.i_BadFunction⟩
  have E_BadKinds : OexB K C_BadKinds "ValueError.__new__" [.type "ValueError", .type "Exception", .type "BaseException", .type "object"] := ⟨⟨_, _, _, _, _, _, _, _, _, _, _, _, _, _, _, xL_BadKinds, rfl⟩, sa_BadKinds, eC_BadKinds, T.e_BadKinds.ty, kC_BadKinds⟩
  have S_BadKinds : SFunB l.prog K mg "BadKinds.__init__" s_BadKinds___init__ C_BadKinds f_BadKinds (PySem.W.ksFn "__init__" "BadKinds.__init__" (defArgs s_BadKinds___init__) (defBody s_BadKinds___init__) (defScope s_BadKinds___init__) .none kV_BadKinds dc_BadKinds pm_BadKinds an_BadKinds (.ref cda_BadKinds) ct_BadKinds cc_BadKinds) "ValueError" "ValueError.__new__" "ValueError.__init__" [.type "ValueError", .type "Exception", .type "BaseException", .type "object"] :=
    ⟨⟨_, _, _, _, _, _, _, _, _, _, _, _, _, rfl, li_BadKinds, ci_BadKinds, ce_BadKinds, ⟨E_BadKinds, up_BadKinds, sV_BadKinds, mo_BadKinds, opq, T.z_super, ⟨_, _, _, _, _, _, cf_BadKinds, cv_BadKinds, cm_BadKinds⟩, tops⟩⟩⟩
  have U_BadKinds : UseV l.prog w K mg base 1 "BadKinds" C_BadKinds ["self", "at"] (sp_ev ["at"] C_BadKinds) :=
    ⟨⟨_, _, _, _, f_BadKinds, _, base_VE, E_BadKinds, ai_BadKinds, ti_BadKinds, ok_BadKinds___init__ S_BadKinds no0_BadKinds, (fun s us hl => match us, hl with | [_, _], _ => .of_eq rfl), (fun s us ws h1 h2 => match us, ws, h1, h2 with | [_], [_], _, _ => .of_eq rfl), fun s us ws h1 h2 => match us, ws, h1, h2 with | [_], [_], _, _ => .of_eq rfl⟩, PySem.W.mg_of X G aC_BadKinds, T.i_BadKinds⟩
  have E_BadLine : OexB K C_BadLine "ValueError.__new__" [.type "ValueError", .type "Exception", .type "BaseException", .type "object"] := ⟨⟨_, _, _, _, _, _, _, _, _, _, _, _, _, _, _, xL_BadLine, rfl⟩, sa_BadLine, eC_BadLine, T.e_BadLine.ty, kC_BadLine⟩
  have S_BadLine : SFunB l.prog K mg "BadLine.__init__" s_BadLine___init__ C_BadLine f_BadLine (PySem.W.ksFn "__init__" "BadLine.__init__" (defArgs s_BadLine___init__) (defBody s_BadLine___init__) (defScope s_BadLine___init__) .none kV_BadLine dc_BadLine pm_BadLine an_BadLine (.ref cda_BadLine) ct_BadLine cc_BadLine) "ValueError" "ValueError.__new__" "ValueError.__init__" [.type "ValueError", .type "Exception", .type "BaseException", .type "object"] :=
    ⟨⟨_, _, _, _, _, _, _, _, _, _, _, _, _, rfl, li_BadLine, ci_BadLine, ce_BadLine, ⟨E_BadLine, up_BadLine, sV_BadLine, mo_BadLine, opq, T.z_super, ⟨_, _, _, _, _, _, cf_BadLine, cv_BadLine, cm_BadLine⟩, tops⟩⟩⟩
  have U_BadLine : UseV l.prog w K mg base 1 "BadLine" C_BadLine ["self", "at"] (sp_ev ["at"] C_BadLine) :=
    ⟨⟨_, _, _, _, f_BadLine, _, base_VE, E_BadLine, ai_BadLine, ti_BadLine, ok_BadLine___init__ S_BadLine no0_BadLine, (fun s us hl => match us, hl with | [_, _], _ => .of_eq rfl), (fun s us ws h1 h2 => match us, ws, h1, h2 with | [_], [_], _, _ => .of_eq rfl), fun s us ws h1 h2 => match us, ws, h1, h2 with | [_], [_], _, _ => .of_eq rfl⟩, PySem.W.mg_of X G aC_BadLine, T.i_BadLine⟩
  have E_BadPlan : OexB K C_BadPlan "ValueError.__new__" [.type "ValueError", .type "Exception", .type "BaseException", .type "object"] := ⟨⟨_, _, _, _, _, _, _, _, _, _, _, _, _, _, _, xL_BadPlan, rfl⟩, sa_BadPlan, eC_BadPlan, T.e_BadPlan.ty, kC_BadPlan⟩
  have S_BadPlan : SFunB l.prog K mg "BadPlan.__init__" s_BadPlan___init__ C_BadPlan f_BadPlan (PySem.W.ksFn "__init__" "BadPlan.__init__" (defArgs s_BadPlan___init__) (defBody s_BadPlan___init__) (defScope s_BadPlan___init__) .none kV_BadPlan dc_BadPlan pm_BadPlan an_BadPlan (.ref cda_BadPlan) ct_BadPlan cc_BadPlan) "ValueError" "ValueError.__new__" "ValueError.__init__" [.type "ValueError", .type "Exception", .type "BaseException", .type "object"] :=
    ⟨⟨_, _, _, _, _, _, _, _, _, _, _, _, _, rfl, li_BadPlan, ci_BadPlan, ce_BadPlan, ⟨E_BadPlan, up_BadPlan, sV_BadPlan, mo_BadPlan, opq, T.z_super, ⟨_, _, _, _, _, _, cf_BadPlan, cv_BadPlan, cm_BadPlan⟩, tops⟩⟩⟩
  have U_BadPlan : UseV l.prog w K mg base 1 "BadPlan" C_BadPlan ["self", "plan"] (sp_ev ["plan"] C_BadPlan) :=
    ⟨⟨_, _, _, _, f_BadPlan, _, base_VE, E_BadPlan, ai_BadPlan, ti_BadPlan, ok_BadPlan___init__ S_BadPlan no0_BadPlan, (fun s us hl => match us, hl with | [_, _], _ => .of_eq rfl), (fun s us ws h1 h2 => match us, ws, h1, h2 with | [_], [_], _, _ => .of_eq rfl), fun s us ws h1 h2 => match us, ws, h1, h2 with | [_], [_], _, _ => .of_eq rfl⟩, PySem.W.mg_of X G aC_BadPlan, T.i_BadPlan⟩
  have E_BadPromise : OexB K C_BadPromise "ValueError.__new__" [.type "ValueError", .type "Exception", .type "BaseException", .type "object"] := ⟨⟨_, _, _, _, _, _, _, _, _, _, _, _, _, _, _, xL_BadPromise, rfl⟩, sa_BadPromise, eC_BadPromise, T.e_BadPromise.ty, kC_BadPromise⟩
  have S_BadPromise : SFunB l.prog K mg "BadPromise.__init__" s_BadPromise___init__ C_BadPromise f_BadPromise (PySem.W.ksFn "__init__" "BadPromise.__init__" (defArgs s_BadPromise___init__) (defBody s_BadPromise___init__) (defScope s_BadPromise___init__) .none kV_BadPromise dc_BadPromise pm_BadPromise an_BadPromise (.ref cda_BadPromise) ct_BadPromise cc_BadPromise) "ValueError" "ValueError.__new__" "ValueError.__init__" [.type "ValueError", .type "Exception", .type "BaseException", .type "object"] :=
    ⟨⟨_, _, _, _, _, _, _, _, _, _, _, _, _, rfl, li_BadPromise, ci_BadPromise, ce_BadPromise, ⟨E_BadPromise, up_BadPromise, sV_BadPromise, mo_BadPromise, opq, T.z_super, ⟨_, _, _, _, _, _, cf_BadPromise, cv_BadPromise, cm_BadPromise⟩, tops⟩⟩⟩
  have U_BadPromise : UseV l.prog w K mg base 1 "BadPromise" C_BadPromise ["self", "promise"] (sp_ev ["promise"] C_BadPromise) :=
    ⟨⟨_, _, _, _, f_BadPromise, _, base_VE, E_BadPromise, ai_BadPromise, ti_BadPromise, ok_BadPromise___init__ S_BadPromise no0_BadPromise, (fun s us hl => match us, hl with | [_, _], _ => .of_eq rfl), (fun s us ws h1 h2 => match us, ws, h1, h2 with | [_], [_], _, _ => .of_eq rfl), fun s us ws h1 h2 => match us, ws, h1, h2 with | [_], [_], _, _ => .of_eq rfl⟩, PySem.W.mg_of X G aC_BadPromise, T.i_BadPromise⟩
  have E_BadSlip : OexB K C_BadSlip "ValueError.__new__" [.type "ValueError", .type "Exception", .type "BaseException", .type "object"] := ⟨⟨_, _, _, _, _, _, _, _, _, _, _, _, _, _, _, xL_BadSlip, rfl⟩, sa_BadSlip, eC_BadSlip, T.e_BadSlip.ty, kC_BadSlip⟩
  have S_BadSlip : SFunB l.prog K mg "BadSlip.__init__" s_BadSlip___init__ C_BadSlip f_BadSlip (PySem.W.ksFn "__init__" "BadSlip.__init__" (defArgs s_BadSlip___init__) (defBody s_BadSlip___init__) (defScope s_BadSlip___init__) .none kV_BadSlip dc_BadSlip pm_BadSlip an_BadSlip (.ref cda_BadSlip) ct_BadSlip cc_BadSlip) "ValueError" "ValueError.__new__" "ValueError.__init__" [.type "ValueError", .type "Exception", .type "BaseException", .type "object"] :=
    ⟨⟨_, _, _, _, _, _, _, _, _, _, _, _, _, rfl, li_BadSlip, ci_BadSlip, ce_BadSlip, ⟨E_BadSlip, up_BadSlip, sV_BadSlip, mo_BadSlip, opq, T.z_super, ⟨_, _, _, _, _, _, cf_BadSlip, cv_BadSlip, cm_BadSlip⟩, tops⟩⟩⟩
  have U_BadSlip : UseV l.prog w K mg base 1 "BadSlip" C_BadSlip ["self", "what"] (sp_ev ["what"] C_BadSlip) :=
    ⟨⟨_, _, _, _, f_BadSlip, _, base_VE, E_BadSlip, ai_BadSlip, ti_BadSlip, ok_BadSlip___init__ S_BadSlip no0_BadSlip, (fun s us hl => match us, hl with | [_, _], _ => .of_eq rfl), (fun s us ws h1 h2 => match us, ws, h1, h2 with | [_], [_], _, _ => .of_eq rfl), fun s us ws h1 h2 => match us, ws, h1, h2 with | [_], [_], _, _ => .of_eq rfl⟩, PySem.W.mg_of X G aC_BadSlip, T.i_BadSlip⟩
  have E_BadValues : OexB K C_BadValues "ValueError.__new__" [.type "ValueError", .type "Exception", .type "BaseException", .type "object"] := ⟨⟨_, _, _, _, _, _, _, _, _, _, _, _, _, _, _, xL_BadValues, rfl⟩, sa_BadValues, eC_BadValues, T.e_BadValues.ty, kC_BadValues⟩
  have S_BadValues : SFunB l.prog K mg "BadValues.__init__" s_BadValues___init__ C_BadValues f_BadValues (PySem.W.ksFn "__init__" "BadValues.__init__" (defArgs s_BadValues___init__) (defBody s_BadValues___init__) (defScope s_BadValues___init__) .none kV_BadValues dc_BadValues pm_BadValues an_BadValues (.ref cda_BadValues) ct_BadValues cc_BadValues) "ValueError" "ValueError.__new__" "ValueError.__init__" [.type "ValueError", .type "Exception", .type "BaseException", .type "object"] :=
    ⟨⟨_, _, _, _, _, _, _, _, _, _, _, _, _, rfl, li_BadValues, ci_BadValues, ce_BadValues, ⟨E_BadValues, up_BadValues, sV_BadValues, mo_BadValues, opq, T.z_super, ⟨_, _, _, _, _, _, cf_BadValues, cv_BadValues, cm_BadValues⟩, tops⟩⟩⟩
  have U_BadValues : UseV l.prog w K mg base 1 "BadValues" C_BadValues ["self", "at"] (sp_ev ["at"] C_BadValues) :=
    ⟨⟨_, _, _, _, f_BadValues, _, base_VE, E_BadValues, ai_BadValues, ti_BadValues, ok_BadValues___init__ S_BadValues no0_BadValues, (fun s us hl => match us, hl with | [_, _], _ => .of_eq rfl), (fun s us ws h1 h2 => match us, ws, h1, h2 with | [_], [_], _, _ => .of_eq rfl), fun s us ws h1 h2 => match us, ws, h1, h2 with | [_], [_], _, _ => .of_eq rfl⟩, PySem.W.mg_of X G aC_BadValues, T.i_BadValues⟩
  have E_HasStars : OexB K C_HasStars "ValueError.__new__" [.type "ValueError", .type "Exception", .type "BaseException", .type "object"] := ⟨⟨_, _, _, _, _, _, _, _, _, _, _, _, _, _, _, xL_HasStars, rfl⟩, sa_HasStars, eC_HasStars, T.e_HasStars.ty, kC_HasStars⟩
  have S_HasStars : SFunB l.prog K mg "HasStars.__init__" s_HasStars___init__ C_HasStars f_HasStars (PySem.W.ksFn "__init__" "HasStars.__init__" (defArgs s_HasStars___init__) (defBody s_HasStars___init__) (defScope s_HasStars___init__) .none kV_HasStars dc_HasStars pm_HasStars an_HasStars (.ref cda_HasStars) ct_HasStars cc_HasStars) "ValueError" "ValueError.__new__" "ValueError.__init__" [.type "ValueError", .type "Exception", .type "BaseException", .type "object"] :=
    ⟨⟨_, _, _, _, _, _, _, _, _, _, _, _, _, rfl, li_HasStars, ci_HasStars, ce_HasStars, ⟨E_HasStars, up_HasStars, sV_HasStars, mo_HasStars, opq, T.z_super, ⟨_, _, _, _, _, _, cf_HasStars, cv_HasStars, cm_HasStars⟩, tops⟩⟩⟩
  have U_HasStars : UseV l.prog w K mg base 1 "HasStars" C_HasStars ["self", "name"] (sp_ev ["name"] C_HasStars) :=
    ⟨⟨_, _, _, _, f_HasStars, _, base_VE, E_HasStars, ai_HasStars, ti_HasStars, ok_HasStars___init__ S_HasStars no0_HasStars, (fun s us hl => match us, hl with | [_, _], _ => .of_eq rfl), (fun s us ws h1 h2 => match us, ws, h1, h2 with | [_], [_], _, _ => .of_eq rfl), fun s us ws h1 h2 => match us, ws, h1, h2 with | [_], [_], _, _ => .of_eq rfl⟩, PySem.W.mg_of X G aC_HasStars, T.i_HasStars⟩
  have E_Refused : OexB K C_Refused "ValueError.__new__" [.type "ValueError", .type "Exception", .type "BaseException", .type "object"] := ⟨⟨_, _, _, _, _, _, _, _, _, _, _, _, _, _, _, xL_Refused, rfl⟩, sa_Refused, eC_Refused, T.e_Refused.ty, kC_Refused⟩
  have S_Refused : SFunB l.prog K mg "Refused.__init__" s_Refused___init__ C_Refused f_Refused (PySem.W.ksFn "__init__" "Refused.__init__" (defArgs s_Refused___init__) (defBody s_Refused___init__) (defScope s_Refused___init__) .none kV_Refused dc_Refused pm_Refused an_Refused (.ref cda_Refused) ct_Refused cc_Refused) "ValueError" "ValueError.__new__" "ValueError.__init__" [.type "ValueError", .type "Exception", .type "BaseException", .type "object"] :=
    ⟨⟨_, _, _, _, _, _, _, _, _, _, _, _, _, rfl, li_Refused, ci_Refused, ce_Refused, ⟨E_Refused, up_Refused, sV_Refused, mo_Refused, opq, T.z_super, ⟨_, _, _, _, _, _, cf_Refused, cv_Refused, cm_Refused⟩, tops⟩⟩⟩
  have U_Refused : UseV l.prog w K mg base 1 "Refused" C_Refused ["self", "door"] (sp_ev ["door"] C_Refused) :=
    ⟨⟨_, _, _, _, f_Refused, _, base_VE, E_Refused, ai_Refused, ti_Refused, ok_Refused___init__ S_Refused no0_Refused, (fun s us hl => match us, hl with | [_, _], _ => .of_eq rfl), (fun s us ws h1 h2 => match us, ws, h1, h2 with | [_], [_], _, _ => .of_eq rfl), fun s us ws h1 h2 => match us, ws, h1, h2 with | [_], [_], _, _ => .of_eq rfl⟩, PySem.W.mg_of X G aC_Refused, T.i_Refused⟩
  have E_TooMany : OexB K C_TooMany "ValueError.__new__" [.type "ValueError", .type "Exception", .type "BaseException", .type "object"] := ⟨⟨_, _, _, _, _, _, _, _, _, _, _, _, _, _, _, xL_TooMany, rfl⟩, sa_TooMany, eC_TooMany, T.e_TooMany.ty, kC_TooMany⟩
  have S_TooMany : SFunB l.prog K mg "TooMany.__init__" s_TooMany___init__ C_TooMany f_TooMany (PySem.W.ksFn "__init__" "TooMany.__init__" (defArgs s_TooMany___init__) (defBody s_TooMany___init__) (defScope s_TooMany___init__) .none kV_TooMany dc_TooMany pm_TooMany an_TooMany (.ref cda_TooMany) ct_TooMany cc_TooMany) "ValueError" "ValueError.__new__" "ValueError.__init__" [.type "ValueError", .type "Exception", .type "BaseException", .type "object"] :=
    ⟨⟨_, _, _, _, _, _, _, _, _, _, _, _, _, rfl, li_TooMany, ci_TooMany, ce_TooMany, ⟨E_TooMany, up_TooMany, sV_TooMany, mo_TooMany, opq, T.z_super, ⟨_, _, _, _, _, _, cf_TooMany, cv_TooMany, cm_TooMany⟩, tops⟩⟩⟩
  have U_TooMany : UseV l.prog w K mg base 1 "TooMany" C_TooMany ["self", "what"] (sp_ev ["what"] C_TooMany) :=
    ⟨⟨_, _, _, _, f_TooMany, _, base_VE, E_TooMany, ai_TooMany, ti_TooMany, ok_TooMany___init__ S_TooMany no0_TooMany, (fun s us hl => match us, hl with | [_, _], _ => .of_eq rfl), (fun s us ws h1 h2 => match us, ws, h1, h2 with | [_], [_], _, _ => .of_eq rfl), fun s us ws h1 h2 => match us, ws, h1, h2 with | [_], [_], _, _ => .of_eq rfl⟩, PySem.W.mg_of X G aC_TooMany, T.i_TooMany⟩
  have E_Unlike : OexB K C_Unlike "ValueError.__new__" [.type "ValueError", .type "Exception", .type "BaseException", .type "object"] := ⟨⟨_, _, _, _, _, _, _, _, _, _, _, _, _, _, _, xL_Unlike, rfl⟩, sa_Unlike, eC_Unlike, T.e_Unlike.ty, kC_Unlike⟩
  have S_Unlike : SFunB l.prog K mg "Unlike.__init__" s_Unlike___init__ C_Unlike f_Unlike (PySem.W.ksFn "__init__" "Unlike.__init__" (defArgs s_Unlike___init__) (defBody s_Unlike___init__) (defScope s_Unlike___init__) .none kV_Unlike dc_Unlike pm_Unlike an_Unlike (.ref cda_Unlike) ct_Unlike cc_Unlike) "ValueError" "ValueError.__new__" "ValueError.__init__" [.type "ValueError", .type "Exception", .type "BaseException", .type "object"] :=
    ⟨⟨_, _, _, _, _, _, _, _, _, _, _, _, _, rfl, li_Unlike, ci_Unlike, ce_Unlike, ⟨E_Unlike, up_Unlike, sV_Unlike, mo_Unlike, opq, T.z_super, ⟨_, _, _, _, _, _, cf_Unlike, cv_Unlike, cm_Unlike⟩, tops⟩⟩⟩
  have U_Unlike : UseV l.prog w K mg base 1 "Unlike" C_Unlike ["self"] (sp_ev [] C_Unlike) :=
    ⟨⟨_, _, _, _, f_Unlike, _, base_VE, E_Unlike, ai_Unlike, ti_Unlike, ok_Unlike___init__ S_Unlike, (fun s us hl => match us, hl with | [_], _ => .of_eq rfl), (fun s us ws h1 h2 => match us, ws, h1, h2 with | [_], [], _, _ => .of_eq rfl), fun s us ws h1 h2 => match us, ws, h1, h2 with | [_], [], _, _ => .of_eq rfl⟩, PySem.W.mg_of X G aC_Unlike, T.i_Unlike⟩
  have E_Untested : OexB K C_Untested "ValueError.__new__" [.type "ValueError", .type "Exception", .type "BaseException", .type "object"] := ⟨⟨_, _, _, _, _, _, _, _, _, _, _, _, _, _, _, xL_Untested, rfl⟩, sa_Untested, eC_Untested, T.e_Untested.ty, kC_Untested⟩
  have S_Untested : SFunB l.prog K mg "Untested.__init__" s_Untested___init__ C_Untested f_Untested (PySem.W.ksFn "__init__" "Untested.__init__" (defArgs s_Untested___init__) (defBody s_Untested___init__) (defScope s_Untested___init__) .none kV_Untested dc_Untested pm_Untested an_Untested (.ref cda_Untested) ct_Untested cc_Untested) "ValueError" "ValueError.__new__" "ValueError.__init__" [.type "ValueError", .type "Exception", .type "BaseException", .type "object"] :=
    ⟨⟨_, _, _, _, _, _, _, _, _, _, _, _, _, rfl, li_Untested, ci_Untested, ce_Untested, ⟨E_Untested, up_Untested, sV_Untested, mo_Untested, opq, T.z_super, ⟨_, _, _, _, _, _, cf_Untested, cv_Untested, cm_Untested⟩, tops⟩⟩⟩
  have U_Untested : UseV l.prog w K mg base 1 "Untested" C_Untested ["self", "promise"] (sp_ev ["promise"] C_Untested) :=
    ⟨⟨_, _, _, _, f_Untested, _, base_VE, E_Untested, ai_Untested, ti_Untested, ok_Untested___init__ S_Untested no0_Untested, (fun s us hl => match us, hl with | [_, _], _ => .of_eq rfl), (fun s us ws h1 h2 => match us, ws, h1, h2 with | [_], [_], _, _ => .of_eq rfl), fun s us ws h1 h2 => match us, ws, h1, h2 with | [_], [_], _, _ => .of_eq rfl⟩, PySem.W.mg_of X G aC_Untested, T.i_Untested⟩
  have E_NoFunction : OexB K C_NoFunction "LookupError.__new__" [.type "LookupError", .type "Exception", .type "BaseException", .type "object"] := ⟨⟨_, _, _, _, _, _, _, _, _, _, _, _, _, _, _, xL_NoFunction, rfl⟩, sa_NoFunction, eC_NoFunction, T.e_NoFunction.ty, kC_NoFunction⟩
  have S_NoFunction : SFunB l.prog K mg "NoFunction.__init__" s_NoFunction___init__ C_NoFunction f_NoFunction (PySem.W.ksFn "__init__" "NoFunction.__init__" (defArgs s_NoFunction___init__) (defBody s_NoFunction___init__) (defScope s_NoFunction___init__) .none kV_NoFunction dc_NoFunction pm_NoFunction an_NoFunction (.ref cda_NoFunction) ct_NoFunction cc_NoFunction) "LookupError" "LookupError.__new__" "LookupError.__init__" [.type "LookupError", .type "Exception", .type "BaseException", .type "object"] :=
    ⟨⟨_, _, _, _, _, _, _, _, _, _, _, _, _, rfl, li_NoFunction, ci_NoFunction, ce_NoFunction, ⟨E_NoFunction, up_NoFunction, sV_NoFunction, mo_NoFunction, opq, T.z_super, ⟨_, _, _, _, _, _, cf_NoFunction, cv_NoFunction, cm_NoFunction⟩, tops⟩⟩⟩
  have U_NoFunction : UseV l.prog w K mg base 1 "NoFunction" C_NoFunction ["self", "name"] (sp_ev ["name"] C_NoFunction) :=
    ⟨⟨_, _, _, _, f_NoFunction, _, base_LE, E_NoFunction, ai_NoFunction, ti_NoFunction, ok_NoFunction___init__ S_NoFunction no0_NoFunction, (fun s us hl => match us, hl with | [_, _], _ => .of_eq rfl), (fun s us ws h1 h2 => match us, ws, h1, h2 with | [_], [_], _, _ => .of_eq rfl), fun s us ws h1 h2 => match us, ws, h1, h2 with | [_], [_], _, _ => .of_eq rfl⟩, PySem.W.mg_of X G aC_NoFunction, T.i_NoFunction⟩
  have E_NoPlace : OexB K C_NoPlace "LookupError.__new__" [.type "LookupError", .type "Exception", .type "BaseException", .type "object"] := ⟨⟨_, _, _, _, _, _, _, _, _, _, _, _, _, _, _, xL_NoPlace, rfl⟩, sa_NoPlace, eC_NoPlace, T.e_NoPlace.ty, kC_NoPlace⟩
  have S_NoPlace : SFunB l.prog K mg "NoPlace.__init__" s_NoPlace___init__ C_NoPlace f_NoPlace (PySem.W.ksFn "__init__" "NoPlace.__init__" (defArgs s_NoPlace___init__) (defBody s_NoPlace___init__) (defScope s_NoPlace___init__) .none kV_NoPlace dc_NoPlace pm_NoPlace an_NoPlace (.ref cda_NoPlace) ct_NoPlace cc_NoPlace) "LookupError" "LookupError.__new__" "LookupError.__init__" [.type "LookupError", .type "Exception", .type "BaseException", .type "object"] :=
    ⟨⟨_, _, _, _, _, _, _, _, _, _, _, _, _, rfl, li_NoPlace, ci_NoPlace, ce_NoPlace, ⟨E_NoPlace, up_NoPlace, sV_NoPlace, mo_NoPlace, opq, T.z_super, ⟨_, _, _, _, _, _, cf_NoPlace, cv_NoPlace, cm_NoPlace⟩, tops⟩⟩⟩
  have U_NoPlace : UseV l.prog w K mg base 1 "NoPlace" C_NoPlace ["self", "what"] (sp_ev ["what"] C_NoPlace) :=
    ⟨⟨_, _, _, _, f_NoPlace, _, base_LE, E_NoPlace, ai_NoPlace, ti_NoPlace, ok_NoPlace___init__ S_NoPlace no0_NoPlace, (fun s us hl => match us, hl with | [_, _], _ => .of_eq rfl), (fun s us ws h1 h2 => match us, ws, h1, h2 with | [_], [_], _, _ => .of_eq rfl), fun s us ws h1 h2 => match us, ws, h1, h2 with | [_], [_], _, _ => .of_eq rfl⟩, PySem.W.mg_of X G aC_NoPlace, T.i_NoPlace⟩
  have E_NoRow : OexB K C_NoRow "LookupError.__new__" [.type "LookupError", .type "Exception", .type "BaseException", .type "object"] := ⟨⟨_, _, _, _, _, _, _, _, _, _, _, _, _, _, _, xL_NoRow, rfl⟩, sa_NoRow, eC_NoRow, T.e_NoRow.ty, kC_NoRow⟩
  have S_NoRow : SFunB l.prog K mg "NoRow.__init__" s_NoRow___init__ C_NoRow f_NoRow (PySem.W.ksFn "__init__" "NoRow.__init__" (defArgs s_NoRow___init__) (defBody s_NoRow___init__) (defScope s_NoRow___init__) .none kV_NoRow dc_NoRow pm_NoRow an_NoRow (.ref cda_NoRow) ct_NoRow cc_NoRow) "LookupError" "LookupError.__new__" "LookupError.__init__" [.type "LookupError", .type "Exception", .type "BaseException", .type "object"] :=
    ⟨⟨_, _, _, _, _, _, _, _, _, _, _, _, _, rfl, li_NoRow, ci_NoRow, ce_NoRow, ⟨E_NoRow, up_NoRow, sV_NoRow, mo_NoRow, opq, T.z_super, ⟨_, _, _, _, _, _, cf_NoRow, cv_NoRow, cm_NoRow⟩, tops⟩⟩⟩
  have U_NoRow : UseV l.prog w K mg base 1 "NoRow" C_NoRow ["self", "name", "row"] (sp_ev ["name", "row"] C_NoRow) :=
    ⟨⟨_, _, _, _, f_NoRow, _, base_LE, E_NoRow, ai_NoRow, ti_NoRow, ok_NoRow___init__ S_NoRow no0_NoRow no1_NoRow, (fun s us hl => match us, hl with | [_, _, _], _ => .of_eq rfl), (fun s us ws h1 h2 => match us, ws, h1, h2 with | [_], [_, _], _, _ => .of_eq rfl), fun s us ws h1 h2 => match us, ws, h1, h2 with | [_], [_, _], _, _ => .of_eq rfl⟩, PySem.W.mg_of X G aC_NoRow, T.i_NoRow⟩
  have E_Over : OexB K C_Over "RuntimeError.__new__" [.type "RuntimeError", .type "Exception", .type "BaseException", .type "object"] := ⟨⟨_, _, _, _, _, _, _, _, _, _, _, _, _, _, _, xL_Over, rfl⟩, sa_Over, eC_Over, T.e_Over.ty, kC_Over⟩
  have S_Over : SFunB l.prog K mg "Over.__init__" s_Over___init__ C_Over f_Over (PySem.W.ksFn "__init__" "Over.__init__" (defArgs s_Over___init__) (defBody s_Over___init__) (defScope s_Over___init__) .none kV_Over dc_Over pm_Over an_Over (.ref cda_Over) ct_Over cc_Over) "RuntimeError" "RuntimeError.__new__" "RuntimeError.__init__" [.type "RuntimeError", .type "Exception", .type "BaseException", .type "object"] :=
    ⟨⟨_, _, _, _, _, _, _, _, _, _, _, _, _, rfl, li_Over, ci_Over, ce_Over, ⟨E_Over, up_Over, sV_Over, mo_Over, opq, T.z_super, ⟨_, _, _, _, _, _, cf_Over, cv_Over, cm_Over⟩, tops⟩⟩⟩
  have U_Over : UseV l.prog w K mg base 1 "Over" C_Over ["self"] (sp_ev [] C_Over) :=
    ⟨⟨_, _, _, _, f_Over, _, base_RE, E_Over, ai_Over, ti_Over, ok_Over___init__ S_Over, (fun s us hl => match us, hl with | [_], _ => .of_eq rfl), (fun s us ws h1 h2 => match us, ws, h1, h2 with | [_], [], _, _ => .of_eq rfl), fun s us ws h1 h2 => match us, ws, h1, h2 with | [_], [], _, _ => .of_eq rfl⟩, PySem.W.mg_of X G aC_Over, T.i_Over⟩
  have U__law_bag : Use l.prog w K mg base 2 "_law_bag" ["_law_script", "_law_at"] (sp__law_bag K) := ⟨_, _, ok__law_bag F1 T, PySem.W.mg_of X G a1, k1, b1⟩
  have U__law_take : Use l.prog w K mg base 2 "_law_take" ["_law_bag_here", "_law_many"] (sp__law_take) := ⟨_, _, ok__law_take F2 T, PySem.W.mg_of X G a2, k2, b2⟩
  have U__law_is : Use l.prog w K mg base 2 "_law_is" ["_law_e"] (sp__law_is [C_BadCall, C_BadFunction, C_BadKinds, C_BadLine, C_BadPlan, C_BadPromise, C_BadSlip, C_BadValues, C_HasStars, C_Refused, C_TooMany, C_Unlike, C_Untested, C_NoFunction, C_NoPlace, C_NoRow, C_Over]) := ⟨_, _, ok__law_is F3 T, PySem.W.mg_of X G a3, k3, b3⟩
  have U__law_bases : Use l.prog w K mg base 2 "_law_bases" ["_law_e"] (sp__law_bases [C_BadCall, C_BadFunction, C_BadKinds, C_BadLine, C_BadPlan, C_BadPromise, C_BadSlip, C_BadValues, C_HasStars, C_Refused, C_TooMany, C_Unlike, C_Untested, C_NoFunction, C_NoPlace, C_NoRow, C_Over]) := ⟨_, _, ok__law_bases F4 T, PySem.W.mg_of X G a4, k4, b4⟩
  have U__law_of : Use l.prog w K mg base 4 "_law_of" ["_law_bag_here", "_law_some"] (sp__law_of K) := ⟨_, _, ok__law_of F5 T U__law_take, PySem.W.mg_of X G a5, k5, b5⟩
  have U__law_made : Use l.prog w K mg base 4 "_law_made" ["_law_which", "_law_value_here", "_law_other"] (sp__law_made [C_BadCall, C_BadFunction, C_BadKinds, C_BadLine, C_BadPlan, C_BadPromise, C_BadSlip, C_BadValues, C_HasStars, C_Refused, C_TooMany, C_Unlike, C_Untested, C_NoFunction, C_NoPlace, C_NoRow, C_Over]) := ⟨_, _, ok__law_made F6 T U_BadCall U_BadFunction U_BadKinds U_BadLine U_BadPlan U_BadPromise U_BadSlip U_BadValues U_HasStars U_Refused U_TooMany U_Unlike U_Untested U_NoFunction U_NoPlace U_NoRow U_Over, PySem.W.mg_of X G a6, k6, b6⟩
  have U__law_value : Use l.prog w K mg base 6 "_law_value" ["_law_bag_here"] (sp__law_value K) := ⟨_, _, ok__law_value F7 T U__law_take U__law_of, PySem.W.mg_of X G a7, k7, b7⟩
  exact ok_law F8 T U__law_bag U__law_is U__law_bases U__law_value U__law_made
theorem walk {l : PySem.W.OpenLaw} {q : Program} {loose : List Str} {XP : (Str → Option Value) → Heap → Prop} {YP : World → Heap → Prop} {d : DefRec} {K : Params → PySem.W.Frag} (hn : l.most = some 63) (hdf : d.params.defaults = [])
    (hY : ∀ (w : World) (h : Heap), YP w h → (K w.params).In h)
    (F : ∀ (w : World) (mg : Str → Option Value) (fa : Addr) (h : Heap), (K w.params).In h → h.Ns mainGlobals mg → mg d.name = some (.ref fa) →
      ∃ fd : FuncData, (∀ (s : Shared) (u : Value), BindsTo s fd ⟨[u], []⟩ [("_law_script", u)]) ∧ ∀ base : Heap, (K w.params).In base → base.Ns mainGlobals mg → FnOk l.prog w (K w.params) mg base CX0 8 fa fd ["_law_script"] (sp_law (K w.params))) :
    PySem.W.WalkO q loose XP YP l.row.toRowW d [] (fun f vs => PySem.call f vs) :=
  L2.walk_of (n := 63) (k := 8) (x := "_law_script") (CX := fun _ => CX0) (sp := fun w => sp_law (K w.params)) hn (by decide) hdf ⟨rfl, by decide, by decide⟩ hY F (fun _ _ a ns hl _ hS => ⟨a, ns, rfl, hS, hl, fun _ => rfl⟩) fun _ _ _ _ _ z => z
end My
open PySem PySem.W PyProof.Rows
set_option maxRecDepth 100000 in
set_option maxHeartbeats 0 in
theorem PySem.Challenge.cw_silentswaps_k21_errors_made_holds : PySem.Challenge.rw_silentswaps_k21_errors_made.Holds := by
  w_on; o_law; k_head; (case hw => w_witness2)
  k_fill
  refine My.walk (l := PySem.Challenge.rw_silentswaps_k21_errors_made) rfl rfl (fun w h Y => PySem.W.kIn_of Y) ?F
  case F =>
    intro w mg fa h KX G hmg
    refine' My.all_mk KX G hmg ?aC_SilentswapsError ?aC_BadCall ?aC_BadFunction ?aC_BadKinds ?aC_BadLine ?aC_BadPlan ?aC_BadPromise ?aC_BadSlip ?aC_BadValues ?aC_HasStars ?aC_Refused ?aC_TooMany ?aC_Unlike ?aC_Untested ?aC_NoFunction ?aC_NoPlace ?aC_NoRow ?aC_Over ?hnC ?htC ?opq ?tops ?xL_BadCall ?sa_BadCall ?ga_BadCall ?gg_BadCall ?ai_BadCall ?ti_BadCall ?li_BadCall ?ci_BadCall ?ce_BadCall ?cf_BadCall ?cv_BadCall ?cm_BadCall ?kC_BadCall ?eC_BadCall ?up_BadCall ?sV_BadCall ?mo_BadCall ?ob_BadCall ?ha_BadCall ?no0_BadCall ?xL_BadFunction ?sa_BadFunction ?ga_BadFunction ?gg_BadFunction ?ai_BadFunction ?ti_BadFunction ?li_BadFunction ?ci_BadFunction ?ce_BadFunction ?cf_BadFunction ?cv_BadFunction ?cm_BadFunction ?kC_BadFunction ?eC_BadFunction ?up_BadFunction ?sV_BadFunction ?mo_BadFunction ?ob_BadFunction ?ha_BadFunction ?no0_BadFunction ?xL_BadKinds ?sa_BadKinds ?ga_BadKinds ?gg_BadKinds ?ai_BadKinds ?ti_BadKinds ?li_BadKinds ?ci_BadKinds ?ce_BadKinds ?cf_BadKinds ?cv_BadKinds ?cm_BadKinds ?kC_BadKinds ?eC_BadKinds ?up_BadKinds ?sV_BadKinds ?mo_BadKinds ?ob_BadKinds ?ha_BadKinds ?no0_BadKinds ?xL_BadLine ?sa_BadLine ?ga_BadLine ?gg_BadLine ?ai_BadLine ?ti_BadLine ?li_BadLine ?ci_BadLine ?ce_BadLine ?cf_BadLine ?cv_BadLine ?cm_BadLine ?kC_BadLine ?eC_BadLine ?up_BadLine ?sV_BadLine ?mo_BadLine ?ob_BadLine ?ha_BadLine ?no0_BadLine ?xL_BadPlan ?sa_BadPlan ?ga_BadPlan ?gg_BadPlan ?ai_BadPlan ?ti_BadPlan ?li_BadPlan ?ci_BadPlan ?ce_BadPlan ?cf_BadPlan ?cv_BadPlan ?cm_BadPlan ?kC_BadPlan ?eC_BadPlan ?up_BadPlan ?sV_BadPlan ?mo_BadPlan ?ob_BadPlan ?ha_BadPlan ?no0_BadPlan ?xL_BadPromise ?sa_BadPromise ?ga_BadPromise ?gg_BadPromise ?ai_BadPromise ?ti_BadPromise ?li_BadPromise ?ci_BadPromise ?ce_BadPromise ?cf_BadPromise ?cv_BadPromise ?cm_BadPromise ?kC_BadPromise ?eC_BadPromise ?up_BadPromise ?sV_BadPromise ?mo_BadPromise ?ob_BadPromise ?ha_BadPromise ?no0_BadPromise ?xL_BadSlip ?sa_BadSlip ?ga_BadSlip ?gg_BadSlip ?ai_BadSlip ?ti_BadSlip ?li_BadSlip ?ci_BadSlip ?ce_BadSlip ?cf_BadSlip ?cv_BadSlip ?cm_BadSlip ?kC_BadSlip ?eC_BadSlip ?up_BadSlip ?sV_BadSlip ?mo_BadSlip ?ob_BadSlip ?ha_BadSlip ?no0_BadSlip ?xL_BadValues ?sa_BadValues ?ga_BadValues ?gg_BadValues ?ai_BadValues ?ti_BadValues ?li_BadValues ?ci_BadValues ?ce_BadValues ?cf_BadValues ?cv_BadValues ?cm_BadValues ?kC_BadValues ?eC_BadValues ?up_BadValues ?sV_BadValues ?mo_BadValues ?ob_BadValues ?ha_BadValues ?no0_BadValues ?xL_HasStars ?sa_HasStars ?ga_HasStars ?gg_HasStars ?ai_HasStars ?ti_HasStars ?li_HasStars ?ci_HasStars ?ce_HasStars ?cf_HasStars ?cv_HasStars ?cm_HasStars ?kC_HasStars ?eC_HasStars ?up_HasStars ?sV_HasStars ?mo_HasStars ?ob_HasStars ?ha_HasStars ?no0_HasStars ?xL_Refused ?sa_Refused ?ga_Refused ?gg_Refused ?ai_Refused ?ti_Refused ?li_Refused ?ci_Refused ?ce_Refused ?cf_Refused ?cv_Refused ?cm_Refused ?kC_Refused ?eC_Refused ?up_Refused ?sV_Refused ?mo_Refused ?ob_Refused ?ha_Refused ?no0_Refused ?xL_TooMany ?sa_TooMany ?ga_TooMany ?gg_TooMany ?ai_TooMany ?ti_TooMany ?li_TooMany ?ci_TooMany ?ce_TooMany ?cf_TooMany ?cv_TooMany ?cm_TooMany ?kC_TooMany ?eC_TooMany ?up_TooMany ?sV_TooMany ?mo_TooMany ?ob_TooMany ?ha_TooMany ?no0_TooMany ?xL_Unlike ?sa_Unlike ?ga_Unlike ?gg_Unlike ?ai_Unlike ?ti_Unlike ?li_Unlike ?ci_Unlike ?ce_Unlike ?cf_Unlike ?cv_Unlike ?cm_Unlike ?kC_Unlike ?eC_Unlike ?up_Unlike ?sV_Unlike ?mo_Unlike ?ob_Unlike ?ha_Unlike ?xL_Untested ?sa_Untested ?ga_Untested ?gg_Untested ?ai_Untested ?ti_Untested ?li_Untested ?ci_Untested ?ce_Untested ?cf_Untested ?cv_Untested ?cm_Untested ?kC_Untested ?eC_Untested ?up_Untested ?sV_Untested ?mo_Untested ?ob_Untested ?ha_Untested ?no0_Untested ?xL_NoFunction ?sa_NoFunction ?ga_NoFunction ?gg_NoFunction ?ai_NoFunction ?ti_NoFunction ?li_NoFunction ?ci_NoFunction ?ce_NoFunction ?cf_NoFunction ?cv_NoFunction ?cm_NoFunction ?kC_NoFunction ?eC_NoFunction ?up_NoFunction ?sV_NoFunction ?mo_NoFunction ?ob_NoFunction ?ha_NoFunction ?no0_NoFunction ?xL_NoPlace ?sa_NoPlace ?ga_NoPlace ?gg_NoPlace ?ai_NoPlace ?ti_NoPlace ?li_NoPlace ?ci_NoPlace ?ce_NoPlace ?cf_NoPlace ?cv_NoPlace ?cm_NoPlace ?kC_NoPlace ?eC_NoPlace ?up_NoPlace ?sV_NoPlace ?mo_NoPlace ?ob_NoPlace ?ha_NoPlace ?no0_NoPlace ?xL_NoRow ?sa_NoRow ?ga_NoRow ?gg_NoRow ?ai_NoRow ?ti_NoRow ?li_NoRow ?ci_NoRow ?ce_NoRow ?cf_NoRow ?cv_NoRow ?cm_NoRow ?kC_NoRow ?eC_NoRow ?up_NoRow ?sV_NoRow ?mo_NoRow ?ob_NoRow ?ha_NoRow ?no0_NoRow ?no1_NoRow ?xL_Over ?sa_Over ?ga_Over ?gg_Over ?ai_Over ?ti_Over ?li_Over ?ci_Over ?ce_Over ?cf_Over ?cv_Over ?cm_Over ?kC_Over ?eC_Over ?up_Over ?sV_Over ?mo_Over ?ob_Over ?ha_Over ?xL_SilentswapsError ?a1 ?l1 ?c1 ?k1 ?a2 ?l2 ?c2 ?k2 ?a3 ?l3 ?c3 ?k3 ?a4 ?l4 ?c4 ?k4 ?a5 ?l5 ?c5 ?k5 ?a6 ?l6 ?c6 ?k6 ?a7 ?l7 ?c7 ?k7 ?a8 ?l8 ?c8 ?k8 ?z_ValueError ?z_LookupError ?z_RuntimeError ?z_range ?z_abs ?z_int ?z_isinstance ?z_max ?z_len ?z_min ?z_super ?z_bool
    (case aC_SilentswapsError => k_is)
    (case aC_BadCall => k_is)
    (case aC_BadFunction => k_is)
    (case aC_BadKinds => k_is)
    (case aC_BadLine => k_is)
    (case aC_BadPlan => k_is)
    (case aC_BadPromise => k_is)
    (case aC_BadSlip => k_is)
    (case aC_BadValues => k_is)
    (case aC_HasStars => k_is)
    (case aC_Refused => k_is)
    (case aC_TooMany => k_is)
    (case aC_Unlike => k_is)
    (case aC_Untested => k_is)
    (case aC_NoFunction => k_is)
    (case aC_NoPlace => k_is)
    (case aC_NoRow => k_is)
    (case aC_Over => k_is)
    (case hnC => k_is)
    (case htC => k_is)
    (case opq => k_is)
    (case tops => first | rfl | decide +kernel)
    (case xL_BadCall => k_is)
    (case sa_BadCall => k_is)
    (case ga_BadCall => k_is)
    (case gg_BadCall => k_is)
    (case ai_BadCall => k_is)
    (case ti_BadCall => k_is)
    (case li_BadCall => k_is)
    (case ci_BadCall => k_is)
    (case ce_BadCall => k_is)
    (case cf_BadCall => k_is)
    (case cv_BadCall => first | rfl | decide +kernel)
    (case cm_BadCall => first | rfl | decide +kernel)
    (case kC_BadCall => k_is)
    (case eC_BadCall => k_is)
    (case up_BadCall => first | k_is | rfl)
    (case sV_BadCall => k_is)
    (case mo_BadCall => first | k_is | rfl)
    (case ob_BadCall => first | k_is | rfl)
    (case ha_BadCall => k_is)
    (case no0_BadCall => k_is)
    (case xL_BadFunction => k_is)
    (case sa_BadFunction => k_is)
    (case ga_BadFunction => k_is)
    (case gg_BadFunction => k_is)
    (case ai_BadFunction => k_is)
    (case ti_BadFunction => k_is)
    (case li_BadFunction => k_is)
    (case ci_BadFunction => k_is)
    (case ce_BadFunction => k_is)
    (case cf_BadFunction => k_is)
    (case cv_BadFunction => first | rfl | decide +kernel)
    (case cm_BadFunction => first | rfl | decide +kernel)
    (case kC_BadFunction => k_is)
    (case eC_BadFunction => k_is)
    (case up_BadFunction => first | k_is | rfl)
    (case sV_BadFunction => k_is)
    (case mo_BadFunction => first | k_is | rfl)
    (case ob_BadFunction => first | k_is | rfl)
    (case ha_BadFunction => k_is)
    (case no0_BadFunction => k_is)
    (case xL_BadKinds => k_is)
    (case sa_BadKinds => k_is)
    (case ga_BadKinds => k_is)
    (case gg_BadKinds => k_is)
    (case ai_BadKinds => k_is)
    (case ti_BadKinds => k_is)
    (case li_BadKinds => k_is)
    (case ci_BadKinds => k_is)
    (case ce_BadKinds => k_is)
    (case cf_BadKinds => k_is)
    (case cv_BadKinds => first | rfl | decide +kernel)
    (case cm_BadKinds => first | rfl | decide +kernel)
    (case kC_BadKinds => k_is)
    (case eC_BadKinds => k_is)
    (case up_BadKinds => first | k_is | rfl)
    (case sV_BadKinds => k_is)
    (case mo_BadKinds => first | k_is | rfl)
    (case ob_BadKinds => first | k_is | rfl)
    (case ha_BadKinds => k_is)
    (case no0_BadKinds => k_is)
    (case xL_BadLine => k_is)
    (case sa_BadLine => k_is)
    (case ga_BadLine => k_is)
    (case gg_BadLine => k_is)
    (case ai_BadLine => k_is)
    (case ti_BadLine => k_is)
    (case li_BadLine => k_is)
    (case ci_BadLine => k_is)
    (case ce_BadLine => k_is)
    (case cf_BadLine => k_is)
    (case cv_BadLine => first | rfl | decide +kernel)
    (case cm_BadLine => first | rfl | decide +kernel)
    (case kC_BadLine => k_is)
    (case eC_BadLine => k_is)
    (case up_BadLine => first | k_is | rfl)
    (case sV_BadLine => k_is)
    (case mo_BadLine => first | k_is | rfl)
    (case ob_BadLine => first | k_is | rfl)
    (case ha_BadLine => k_is)
    (case no0_BadLine => k_is)
    (case xL_BadPlan => k_is)
    (case sa_BadPlan => k_is)
    (case ga_BadPlan => k_is)
    (case gg_BadPlan => k_is)
    (case ai_BadPlan => k_is)
    (case ti_BadPlan => k_is)
    (case li_BadPlan => k_is)
    (case ci_BadPlan => k_is)
    (case ce_BadPlan => k_is)
    (case cf_BadPlan => k_is)
    (case cv_BadPlan => first | rfl | decide +kernel)
    (case cm_BadPlan => first | rfl | decide +kernel)
    (case kC_BadPlan => k_is)
    (case eC_BadPlan => k_is)
    (case up_BadPlan => first | k_is | rfl)
    (case sV_BadPlan => k_is)
    (case mo_BadPlan => first | k_is | rfl)
    (case ob_BadPlan => first | k_is | rfl)
    (case ha_BadPlan => k_is)
    (case no0_BadPlan => k_is)
    (case xL_BadPromise => k_is)
    (case sa_BadPromise => k_is)
    (case ga_BadPromise => k_is)
    (case gg_BadPromise => k_is)
    (case ai_BadPromise => k_is)
    (case ti_BadPromise => k_is)
    (case li_BadPromise => k_is)
    (case ci_BadPromise => k_is)
    (case ce_BadPromise => k_is)
    (case cf_BadPromise => k_is)
    (case cv_BadPromise => first | rfl | decide +kernel)
    (case cm_BadPromise => first | rfl | decide +kernel)
    (case kC_BadPromise => k_is)
    (case eC_BadPromise => k_is)
    (case up_BadPromise => first | k_is | rfl)
    (case sV_BadPromise => k_is)
    (case mo_BadPromise => first | k_is | rfl)
    (case ob_BadPromise => first | k_is | rfl)
    (case ha_BadPromise => k_is)
    (case no0_BadPromise => k_is)
    (case xL_BadSlip => k_is)
    (case sa_BadSlip => k_is)
    (case ga_BadSlip => k_is)
    (case gg_BadSlip => k_is)
    (case ai_BadSlip => k_is)
    (case ti_BadSlip => k_is)
    (case li_BadSlip => k_is)
    (case ci_BadSlip => k_is)
    (case ce_BadSlip => k_is)
    (case cf_BadSlip => k_is)
    (case cv_BadSlip => first | rfl | decide +kernel)
    (case cm_BadSlip => first | rfl | decide +kernel)
    (case kC_BadSlip => k_is)
    (case eC_BadSlip => k_is)
    (case up_BadSlip => first | k_is | rfl)
    (case sV_BadSlip => k_is)
    (case mo_BadSlip => first | k_is | rfl)
    (case ob_BadSlip => first | k_is | rfl)
    (case ha_BadSlip => k_is)
    (case no0_BadSlip => k_is)
    (case xL_BadValues => k_is)
    (case sa_BadValues => k_is)
    (case ga_BadValues => k_is)
    (case gg_BadValues => k_is)
    (case ai_BadValues => k_is)
    (case ti_BadValues => k_is)
    (case li_BadValues => k_is)
    (case ci_BadValues => k_is)
    (case ce_BadValues => k_is)
    (case cf_BadValues => k_is)
    (case cv_BadValues => first | rfl | decide +kernel)
    (case cm_BadValues => first | rfl | decide +kernel)
    (case kC_BadValues => k_is)
    (case eC_BadValues => k_is)
    (case up_BadValues => first | k_is | rfl)
    (case sV_BadValues => k_is)
    (case mo_BadValues => first | k_is | rfl)
    (case ob_BadValues => first | k_is | rfl)
    (case ha_BadValues => k_is)
    (case no0_BadValues => k_is)
    (case xL_HasStars => k_is)
    (case sa_HasStars => k_is)
    (case ga_HasStars => k_is)
    (case gg_HasStars => k_is)
    (case ai_HasStars => k_is)
    (case ti_HasStars => k_is)
    (case li_HasStars => k_is)
    (case ci_HasStars => k_is)
    (case ce_HasStars => k_is)
    (case cf_HasStars => k_is)
    (case cv_HasStars => first | rfl | decide +kernel)
    (case cm_HasStars => first | rfl | decide +kernel)
    (case kC_HasStars => k_is)
    (case eC_HasStars => k_is)
    (case up_HasStars => first | k_is | rfl)
    (case sV_HasStars => k_is)
    (case mo_HasStars => first | k_is | rfl)
    (case ob_HasStars => first | k_is | rfl)
    (case ha_HasStars => k_is)
    (case no0_HasStars => k_is)
    (case xL_Refused => k_is)
    (case sa_Refused => k_is)
    (case ga_Refused => k_is)
    (case gg_Refused => k_is)
    (case ai_Refused => k_is)
    (case ti_Refused => k_is)
    (case li_Refused => k_is)
    (case ci_Refused => k_is)
    (case ce_Refused => k_is)
    (case cf_Refused => k_is)
    (case cv_Refused => first | rfl | decide +kernel)
    (case cm_Refused => first | rfl | decide +kernel)
    (case kC_Refused => k_is)
    (case eC_Refused => k_is)
    (case up_Refused => first | k_is | rfl)
    (case sV_Refused => k_is)
    (case mo_Refused => first | k_is | rfl)
    (case ob_Refused => first | k_is | rfl)
    (case ha_Refused => k_is)
    (case no0_Refused => k_is)
    (case xL_TooMany => k_is)
    (case sa_TooMany => k_is)
    (case ga_TooMany => k_is)
    (case gg_TooMany => k_is)
    (case ai_TooMany => k_is)
    (case ti_TooMany => k_is)
    (case li_TooMany => k_is)
    (case ci_TooMany => k_is)
    (case ce_TooMany => k_is)
    (case cf_TooMany => k_is)
    (case cv_TooMany => first | rfl | decide +kernel)
    (case cm_TooMany => first | rfl | decide +kernel)
    (case kC_TooMany => k_is)
    (case eC_TooMany => k_is)
    (case up_TooMany => first | k_is | rfl)
    (case sV_TooMany => k_is)
    (case mo_TooMany => first | k_is | rfl)
    (case ob_TooMany => first | k_is | rfl)
    (case ha_TooMany => k_is)
    (case no0_TooMany => k_is)
    (case xL_Unlike => k_is)
    (case sa_Unlike => k_is)
    (case ga_Unlike => k_is)
    (case gg_Unlike => k_is)
    (case ai_Unlike => k_is)
    (case ti_Unlike => k_is)
    (case li_Unlike => k_is)
    (case ci_Unlike => k_is)
    (case ce_Unlike => k_is)
    (case cf_Unlike => k_is)
    (case cv_Unlike => first | rfl | decide +kernel)
    (case cm_Unlike => first | rfl | decide +kernel)
    (case kC_Unlike => k_is)
    (case eC_Unlike => k_is)
    (case up_Unlike => first | k_is | rfl)
    (case sV_Unlike => k_is)
    (case mo_Unlike => first | k_is | rfl)
    (case ob_Unlike => first | k_is | rfl)
    (case ha_Unlike => k_is)
    (case xL_Untested => k_is)
    (case sa_Untested => k_is)
    (case ga_Untested => k_is)
    (case gg_Untested => k_is)
    (case ai_Untested => k_is)
    (case ti_Untested => k_is)
    (case li_Untested => k_is)
    (case ci_Untested => k_is)
    (case ce_Untested => k_is)
    (case cf_Untested => k_is)
    (case cv_Untested => first | rfl | decide +kernel)
    (case cm_Untested => first | rfl | decide +kernel)
    (case kC_Untested => k_is)
    (case eC_Untested => k_is)
    (case up_Untested => first | k_is | rfl)
    (case sV_Untested => k_is)
    (case mo_Untested => first | k_is | rfl)
    (case ob_Untested => first | k_is | rfl)
    (case ha_Untested => k_is)
    (case no0_Untested => k_is)
    (case xL_NoFunction => k_is)
    (case sa_NoFunction => k_is)
    (case ga_NoFunction => k_is)
    (case gg_NoFunction => k_is)
    (case ai_NoFunction => k_is)
    (case ti_NoFunction => k_is)
    (case li_NoFunction => k_is)
    (case ci_NoFunction => k_is)
    (case ce_NoFunction => k_is)
    (case cf_NoFunction => k_is)
    (case cv_NoFunction => first | rfl | decide +kernel)
    (case cm_NoFunction => first | rfl | decide +kernel)
    (case kC_NoFunction => k_is)
    (case eC_NoFunction => k_is)
    (case up_NoFunction => first | k_is | rfl)
    (case sV_NoFunction => k_is)
    (case mo_NoFunction => first | k_is | rfl)
    (case ob_NoFunction => first | k_is | rfl)
    (case ha_NoFunction => k_is)
    (case no0_NoFunction => k_is)
    (case xL_NoPlace => k_is)
    (case sa_NoPlace => k_is)
    (case ga_NoPlace => k_is)
    (case gg_NoPlace => k_is)
    (case ai_NoPlace => k_is)
    (case ti_NoPlace => k_is)
    (case li_NoPlace => k_is)
    (case ci_NoPlace => k_is)
    (case ce_NoPlace => k_is)
    (case cf_NoPlace => k_is)
    (case cv_NoPlace => first | rfl | decide +kernel)
    (case cm_NoPlace => first | rfl | decide +kernel)
    (case kC_NoPlace => k_is)
    (case eC_NoPlace => k_is)
    (case up_NoPlace => first | k_is | rfl)
    (case sV_NoPlace => k_is)
    (case mo_NoPlace => first | k_is | rfl)
    (case ob_NoPlace => first | k_is | rfl)
    (case ha_NoPlace => k_is)
    (case no0_NoPlace => k_is)
    (case xL_NoRow => k_is)
    (case sa_NoRow => k_is)
    (case ga_NoRow => k_is)
    (case gg_NoRow => k_is)
    (case ai_NoRow => k_is)
    (case ti_NoRow => k_is)
    (case li_NoRow => k_is)
    (case ci_NoRow => k_is)
    (case ce_NoRow => k_is)
    (case cf_NoRow => k_is)
    (case cv_NoRow => first | rfl | decide +kernel)
    (case cm_NoRow => first | rfl | decide +kernel)
    (case kC_NoRow => k_is)
    (case eC_NoRow => k_is)
    (case up_NoRow => first | k_is | rfl)
    (case sV_NoRow => k_is)
    (case mo_NoRow => first | k_is | rfl)
    (case ob_NoRow => first | k_is | rfl)
    (case ha_NoRow => k_is)
    (case no0_NoRow => k_is)
    (case no1_NoRow => k_is)
    (case xL_Over => k_is)
    (case sa_Over => k_is)
    (case ga_Over => k_is)
    (case gg_Over => k_is)
    (case ai_Over => k_is)
    (case ti_Over => k_is)
    (case li_Over => k_is)
    (case ci_Over => k_is)
    (case ce_Over => k_is)
    (case cf_Over => k_is)
    (case cv_Over => first | rfl | decide +kernel)
    (case cm_Over => first | rfl | decide +kernel)
    (case kC_Over => k_is)
    (case eC_Over => k_is)
    (case up_Over => first | k_is | rfl)
    (case sV_Over => k_is)
    (case mo_Over => first | k_is | rfl)
    (case ob_Over => first | k_is | rfl)
    (case ha_Over => k_is)
    (case xL_SilentswapsError => k_is)
    (case a1 => k_is)
    (case l1 => k_is)
    (case c1 => k_is)
    (case k1 => k_is)
    (case a2 => k_is)
    (case l2 => k_is)
    (case c2 => k_is)
    (case k2 => k_is)
    (case a3 => k_is)
    (case l3 => k_is)
    (case c3 => k_is)
    (case k3 => k_is)
    (case a4 => k_is)
    (case l4 => k_is)
    (case c4 => k_is)
    (case k4 => k_is)
    (case a5 => k_is)
    (case l5 => k_is)
    (case c5 => k_is)
    (case k5 => k_is)
    (case a6 => k_is)
    (case l6 => k_is)
    (case c6 => k_is)
    (case k6 => k_is)
    (case a7 => k_is)
    (case l7 => k_is)
    (case c7 => k_is)
    (case k7 => k_is)
    (case a8 => k_is)
    (case l8 => k_is)
    (case c8 => k_is)
    (case k8 => k_is)
    (case z_ValueError => k_is)
    (case z_LookupError => k_is)
    (case z_RuntimeError => k_is)
    (case z_range => k_is)
    (case z_abs => k_is)
    (case z_int => k_is)
    (case z_isinstance => k_is)
    (case z_max => k_is)
    (case z_len => k_is)
    (case z_min => k_is)
    (case z_super => k_is)
    (case z_bool => k_is)
#print axioms PySem.Challenge.cw_silentswaps_k21_errors_made_holds
