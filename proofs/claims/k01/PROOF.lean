import PyProof.Rows.All
import Wide.All
import OpenK.AllK
import Wide.FinOn
import KE.KExcSuper
import KE.KExcIs
import KE.GoesEnum
import HandS.ForMost
import HandS.Wide
import HandS.IsInst
import HandS.DictComp
import HandS.SortInts
import HandS.TupAny
import HandS.Conv
import HandS.Strs
import HandS.Walk
import HandS.More
import HandS.Star
import HandS.Codes
import HandS.ExcInit
import HandS.Nested
import HandS.ExcField
import HandS.ExcOwn
import HandS.ExcIs
import HandS.WordsExc
import HandS.OwnIter
import HandS.IterNext
import PyProof.InstNe
import PySem.Challenge.RW_silentswaps_k01_kinds_made
set_option Elab.async false
set_option maxRecDepth 100000

set_option maxHeartbeats 4000000
/-! Rd: what the proofs of this repo share. Frames (Kp), data in the heap (Dt), defs as callers use them (Use), readings as rules from back to front (r_..), the tactic rows walk_at "s" (one step), walk_at "S" (many). -/
namespace Rd
open PySem PySem.Spec L2

/-! ### frames -/
def Kp (ex : List Addr) (H H' : Hp) : Prop := ∀ b o, H b = some o → b ∉ ex → H' b = some o
theorem Kp.refl (ex : List Addr) (H : Hp) : Kp ex H H := fun _ _ e _ => e
theorem Kp.trans {ex : List Addr} {H H1 H2 : Hp} (a : Kp ex H H1) (b : Kp ex H1 H2) : Kp ex H H2 := fun c o e n => b c o (a c o e n) n
theorem Kp.mono {ex ex' : List Addr} {H H' : Hp} (a : Kp ex H H') (s : ∀ b ∈ ex, b ∈ ex') : Kp ex' H H' := fun c o e n => a c o e fun m => n (s c m)
theorem Kp.nil {ex : List Addr} {H H' : Hp} (a : Kp [] H H') : Kp ex H H' := a.mono fun _ m => nomatch m
theorem Kp.drop {l : Addr} {ex : List Addr} {H H' : Hp} (a : Kp (l :: ex) H H') (n : H l = none) : Kp ex H H' := fun c o e m => by
  refine a c o e fun z => ?_
  rcases List.mem_cons.mp z with q | q
  · subst q
    rw [n] at e
    cases e
  · exact m q
theorem Kp.free {ex : List Addr} {H H' : Hp} {q : Addr} (a : Kp ex H H') (n : H' q = none) (m : q ∉ ex) : H q = none := by
  cases e : H q with
  | none => rfl
  | some o =>
    rw [a q o e m] at n
    cases n
theorem Kp.new {ex : List Addr} {H : Hp} {p : Addr} {o : HO} (n : H p = none) : Kp ex H (upd H p o) := fun b u e _ => by
  rw [upd_ne (ne_of_none e n)]
  exact e
theorem Kp.put {ex : List Addr} {H : Hp} {p : Addr} {o : HO} (m : p ∈ ex) : Kp ex H (upd H p o) := fun b u e n => by
  rw [upd_ne fun (z : b = p) => n (z ▸ m)]
  exact e
theorem Kp.get {ex : List Addr} {H H' : Hp} {b : Addr} {o : HO} (a : Kp ex H H') (e : H b = some o) (n : b ∉ ex) : H' b = some o := a b o e n
theorem Kp.sql {K : PySem.W.Frag} {H H' : Hp} {a : Addr} {xs : List V} (k : Kp [] H H') (h : SqL K H a xs) : SqL K H' a xs :=
  Same.seq (fun b o e => k b o e (by simp)) h
theorem not_nil {b : Addr} : b ∉ ([] : List Addr) := fun m => nomatch m
theorem not_one {b p : Addr} (h : b ≠ p) : b ∉ [p] := fun m => h (List.mem_singleton.mp m)
theorem not_two {b p q : Addr} (h : b ≠ p) (h' : b ≠ q) : b ∉ [p, q] := fun m => by
  rcases List.mem_cons.mp m with e | e
  · exact h e
  · exact h' (List.mem_singleton.mp e)
theorem ne_none {H : Hp} {a b : Addr} {o : HO} (h : H a = some o) (h' : H b = none) : b ≠ a := fun e => ne_of_none h h' e.symm

/-! ### data -/
mutual
inductive Dt (ex : List Addr) (H : Hp) : V → PyData → Prop
  | non : Dt ex H .non .none
  | bl (b : Bool) : Dt ex H (.bl b) (.bool b)
  | int (i : Int) : Dt ex H (.int i) (.int i)
  | str (x : Str) : Dt ex H (.str x) (.str x)
  | lst {a : Addr} {xs : List V} {ds : List PyData} : a ∉ ex → H a = some (.lst xs) → DtAll ex H xs ds → Dt ex H (.ref a) (.list ds)
  | tup {a : Addr} {xs : List V} {ds : List PyData} : a ∉ ex → H a = some (.tup xs) → DtAll ex H xs ds → Dt ex H (.ref a) (.tuple ds)
inductive DtAll (ex : List Addr) (H : Hp) : List V → List PyData → Prop
  | nil : DtAll ex H [] []
  | cons {v : V} {vs : List V} {d : PyData} {ds : List PyData} : Dt ex H v d → DtAll ex H vs ds → DtAll ex H (v :: vs) (d :: ds)
end
mutual
theorem Dt.mono' {ex ex' : List Addr} {H H' : Hp} (k : Kp ex H H') (s : ∀ b ∈ ex', b ∈ ex) : ∀ (d : PyData) (v : V), Dt ex H v d → Dt ex' H' v d
  | .none, _, h => by cases h; exact .non
  | .bool b, _, h => by cases h; exact .bl b
  | .int i, _, h => by cases h; exact .int i
  | .str x, _, h => by cases h; exact .str x
  | .list ds, _, h => by
    cases h with
    | lst n e al => exact .lst (fun m => n (s _ m)) (k _ _ e n) (DtAll.mono' k s ds _ al)
  | .tuple ds, _, h => by
    cases h with
    | tup n e al => exact .tup (fun m => n (s _ m)) (k _ _ e n) (DtAll.mono' k s ds _ al)
  | .dict _, _, h => by cases h
theorem DtAll.mono' {ex ex' : List Addr} {H H' : Hp} (k : Kp ex H H') (s : ∀ b ∈ ex', b ∈ ex) : ∀ (ds : List PyData) (vs : List V), DtAll ex H vs ds → DtAll ex' H' vs ds
  | [], _, h => by cases h; exact .nil
  | d :: ds, _, h => by
    cases h with
    | cons h1 h2 => exact .cons (Dt.mono' k s d _ h1) (DtAll.mono' k s ds _ h2)
end
theorem Dt.mono {ex : List Addr} {H H' : Hp} {v : V} {d : PyData} (h : Dt ex H v d) (k : Kp ex H H') : Dt ex H' v d := Dt.mono' k (fun _ m => m) d v h
theorem DtAll.mono {ex : List Addr} {H H' : Hp} {vs : List V} {ds : List PyData} (h : DtAll ex H vs ds) (k : Kp ex H H') : DtAll ex H' vs ds := DtAll.mono' k (fun _ m => m) ds vs h
theorem Dt.less {ex ex' : List Addr} {H : Hp} {v : V} {d : PyData} (h : Dt ex H v d) (s : ∀ b ∈ ex', b ∈ ex) : Dt ex' H v d := Dt.mono' (Kp.refl ex H) s d v h
theorem DtAll.less {ex ex' : List Addr} {H : Hp} {vs : List V} {ds : List PyData} (h : DtAll ex H vs ds) (s : ∀ b ∈ ex', b ∈ ex) : DtAll ex' H vs ds := DtAll.mono' (Kp.refl ex H) s ds vs h
mutual
theorem Dt.more' {ex : List Addr} {H : Hp} {l : Addr} (n : H l = none) : ∀ (d : PyData) (v : V), Dt ex H v d → Dt (l :: ex) H v d
  | .none, _, h => by cases h; exact .non
  | .bool b, _, h => by cases h; exact .bl b
  | .int i, _, h => by cases h; exact .int i
  | .str x, _, h => by cases h; exact .str x
  | .list ds, _, h => by
    cases h with
    | lst m e al => exact .lst (fun z => (List.mem_cons.mp z).elim (ne_of_none e n) m) e (DtAll.more' n ds _ al)
  | .tuple ds, _, h => by
    cases h with
    | tup m e al => exact .tup (fun z => (List.mem_cons.mp z).elim (ne_of_none e n) m) e (DtAll.more' n ds _ al)
  | .dict _, _, h => by cases h
theorem DtAll.more' {ex : List Addr} {H : Hp} {l : Addr} (n : H l = none) : ∀ (ds : List PyData) (vs : List V), DtAll ex H vs ds → DtAll (l :: ex) H vs ds
  | [], _, h => by cases h; exact .nil
  | d :: ds, _, h => by
    cases h with
    | cons h1 h2 => exact .cons (Dt.more' n d _ h1) (DtAll.more' n ds _ h2)
end
/-- an address that is new to the heap is none of the data's -/
theorem Dt.more {ex : List Addr} {H : Hp} {v : V} {d : PyData} {l : Addr} (h : Dt ex H v d) (n : H l = none) : Dt (l :: ex) H v d := Dt.more' n d v h
theorem DtAll.more {ex : List Addr} {H : Hp} {vs : List V} {ds : List PyData} {l : Addr} (h : DtAll ex H vs ds) (n : H l = none) : DtAll (l :: ex) H vs ds := DtAll.more' n ds vs h
mutual
theorem Dt.dp' {K : PySem.W.Frag} {ex : List Addr} {H : Hp} : ∀ (d : PyData) (v : V), Dt ex H v d → Dp K H v d
  | .none, _, h => by cases h; exact .non
  | .bool b, _, h => by cases h; exact .bl b
  | .int i, _, h => by cases h; exact .int i
  | .str x, _, h => by cases h; exact .str x
  | .list ds, _, h => by
    cases h with
    | lst n e al => exact .lst (SqL.of e) (DtAll.dp' ds _ al)
  | .tuple ds, _, h => by
    cases h with
    | tup n e al => exact .tup (SqT.of e) (DtAll.dp' ds _ al)
  | .dict _, _, h => by cases h
theorem DtAll.dp' {K : PySem.W.Frag} {ex : List Addr} {H : Hp} : ∀ (ds : List PyData) (vs : List V), DtAll ex H vs ds → DpAll K H vs ds
  | [], _, h => by cases h; exact .nil
  | d :: ds, _, h => by
    cases h with
    | cons h1 h2 => exact .cons (Dt.dp' d _ h1) (DtAll.dp' ds _ h2)
end
theorem Dt.dp {K : PySem.W.Frag} {ex : List Addr} {H : Hp} {v : V} {d : PyData} (h : Dt ex H v d) : Dp K H v d := Dt.dp' d v h
theorem Dt.list {ex : List Addr} {H : Hp} {v : V} {ds : List PyData} (h : Dt ex H v (.list ds)) : ∃ a xs, v = .ref a ∧ a ∉ ex ∧ H a = some (.lst xs) ∧ DtAll ex H xs ds := by
  cases h with
  | lst n e al => exact ⟨_, _, rfl, n, e, al⟩
theorem Dt.tuple {ex : List Addr} {H : Hp} {v : V} {ds : List PyData} (h : Dt ex H v (.tuple ds)) : ∃ a xs, v = .ref a ∧ a ∉ ex ∧ H a = some (.tup xs) ∧ DtAll ex H xs ds := by
  cases h with
  | tup n e al => exact ⟨_, _, rfl, n, e, al⟩
theorem DtAll.length {ex : List Addr} {H : Hp} : ∀ {vs : List V} {ds : List PyData}, DtAll ex H vs ds → vs.length = ds.length
  | [], _, h => by cases h; rfl
  | _ :: _, _, h => by
    cases h with
    | cons _ h2 => exact congrArg (· + 1) (DtAll.length h2)
theorem DtAll.at {ex : List Addr} {H : Hp} : ∀ {vs : List V} {ds : List PyData} {i : Nat} {v : V}, DtAll ex H vs ds → vs[i]? = some v → ∃ d, ds[i]? = some d ∧ Dt ex H v d
  | [], _, i, v, h, e => by simp at e
  | _ :: _, _, 0, v, h, e => by
    cases h with
    | cons h1 _ =>
      cases e
      exact ⟨_, rfl, h1⟩
  | _ :: _, _, i + 1, v, h, e => by
    cases h with
    | cons _ h2 => exact DtAll.at (i := i) h2 e
theorem DtAll.append {ex : List Addr} {H : Hp} : ∀ {vs ws : List V} {ds es : List PyData}, DtAll ex H vs ds → DtAll ex H ws es → DtAll ex H (vs ++ ws) (ds ++ es)
  | [], _, _, _, h, g => by cases h; exact g
  | _ :: _, _, _, _, h, g => by
    cases h with
    | cons h1 h2 => exact .cons h1 (DtAll.append h2 g)
theorem DtAll.snoc {ex : List Addr} {H : Hp} {vs : List V} {ds : List PyData} {v : V} {d : PyData} (h : DtAll ex H vs ds) (g : Dt ex H v d) : DtAll ex H (vs ++ [v]) (ds ++ [d]) := h.append (.cons g .nil)
theorem DtAll.strs {ex : List Addr} {H : Hp} : ∀ {vs : List V} {ws : List Str}, DtAll ex H vs (ws.map PyData.str) → vs = ws.map V.str
  | [], [], _ => rfl
  | [], _ :: _, h => by cases h
  | _ :: _, [], h => by cases h
  | v :: vs, w :: ws, h => by
    cases h with
    | cons h1 h2 =>
      cases h1
      rw [DtAll.strs h2]
      rfl
theorem DtAll.of_strs {ex : List Addr} {H : Hp} : ∀ (ws : List Str), DtAll ex H (ws.map V.str) (ws.map PyData.str)
  | [] => .nil
  | w :: ws => .cons (.str w) (DtAll.of_strs ws)
theorem DtAll.ints {ex : List Addr} {H : Hp} : ∀ {vs : List V} {ns : List Int}, DtAll ex H vs (ns.map PyData.int) → vs = ns.map V.int
  | [], [], _ => rfl
  | [], _ :: _, h => by cases h
  | _ :: _, [], h => by cases h
  | v :: vs, w :: ws, h => by
    cases h with
    | cons h1 h2 =>
      cases h1
      rw [DtAll.ints h2]
      rfl
theorem DtAll.of_ints {ex : List Addr} {H : Hp} : ∀ (ns : List Int), DtAll ex H (ns.map V.int) (ns.map PyData.int)
  | [] => .nil
  | n :: ns => .cons (.int n) (DtAll.of_ints ns)
/-- a pair of a text and a number -/
theorem Dt.pair {ex : List Addr} {H : Hp} {v : V} {x : Str} {n : Int} (h : Dt ex H v (.tuple [.str x, .int n])) : ∃ a, v = .ref a ∧ a ∉ ex ∧ H a = some (.tup [.str x, .int n]) := by
  obtain ⟨a, xs, rfl, m, e, al⟩ := h.tuple
  cases al with
  | cons h1 h2 =>
    cases h2 with
    | cons h3 h4 =>
      cases h4
      cases h1
      cases h3
      exact ⟨a, rfl, m, e⟩

/-! ### a def as its callers use it -/
def Use (P : Program) (w : World) (K : PySem.W.Frag) (mg : Str → Option Value) (base : Heap) (n : Nat) (x : Str) (ps : List Str) (sp : Sp) : Prop :=
  ∃ f fd, FnOk P w K mg base CX0 n f fd ps sp ∧ mg x = some (.ref f) ∧ PySem.W.keepIn K (.ref f) = true ∧ Binds K fd ps []
def tUse (sp : Sp) (t : TA) : TE := fun σ H Q => t σ H fun vs H1 => sp vs H1 Q E0
theorem tUse_eq (sp : Sp) (t : TA) : tCall sp [] E0 t = tUse sp t := by
  funext σ H Q
  show (t σ H fun vs H1 => sp (vs ++ []) H1 Q E0) = (t σ H fun vs H1 => sp vs H1 Q E0)
  simp only [List.append_nil]
theorem pe_use {X : Cx} {n : Nat} {x : Str} {ps : List Str} {sp : Sp} {e : Expr} {es : List Expr} {t : TA} {p pos : Pos} (U : Use X.prog X.w X.K X.mg X.base n x ps sp) (hr : Room n X.A) (hg : Gl X x) (ha : PA X (e :: es) t)
    (hdb : (x == ("__debug__" : Str)) = false := by decide) (he : starEach (e :: es) X.env = (false, eval e X.env) :: starEach es X.env := by rfl) (hpl : (backTo pos (starEach es X.env)).any (·.1) = false := by rfl) :
    PE X (.Call (.Name x p) (e :: es) [] pos) (tUse sp t) := by
  obtain ⟨f, fd, F, hm, hk, hb⟩ := U
  rw [← tUse_eq]
  exact pe_call F hr hg hm hk hb .nil pass0 ha hdb he hpl
theorem pe_use0 {X : Cx} {n : Nat} {x : Str} {ps : List Str} {sp : Sp} {p pos : Pos} (U : Use X.prog X.w X.K X.mg X.base n x ps sp) (hr : Room n X.A) (hg : Gl X x)
    (hdb : (x == ("__debug__" : Str)) = false := by decide) : PE X (.Call (.Name x p) [] [] pos) (tUse sp tNil) := by
  obtain ⟨f, fd, F, hm, hk, hb⟩ := U
  rw [← tUse_eq]
  exact pe_call0 F hr hg hm hk hb .nil pass0 hdb
/-- not A as a value, A a test of any kind -/
theorem pe_notP {X : Cx} {a : Expr} {t : TE} {pos : Pos} (h : PE X a t) : PE X (.UnaryOp .Not a pos) (tNotV t) := pe_not h

/-! ### readings, from back to front -/
section
variable {σ : St} {H : Hp} {Q : VK} {QB : Bool → Hp → Prop} {QA : List V → Hp → Prop} {v x y : V} {i : Nat} {ta tb tc te tv td ty : TE} {t u c : TT} {tr : TA} {r : R2} {g : TG} {gs : TGs}
  {nx bk ct : St → Hp → Prop} {rt : VK} {t1 t2 : TS} {K : PySem.W.Frag} {b : Bool}
theorem r_var (h : σ[i]? = some (some v)) (q : Q v H) : tVar i σ H Q := ⟨v, h, q⟩
theorem r_c (q : Q v H) : tC v σ H Q := q
theorem r_op (q : ta σ H fun x H1 => tb σ H1 fun y H2 => r x y H2 Q) : tOp r ta tb σ H Q := q
theorem r_un {f : V → Hp → VK → Prop} (q : ta σ H fun x H1 => f x H1 Q) : tUn f ta σ H Q := q
def kB (QB : Bool → Hp → Prop) : VK := fun x H => ∃ k, x = .bl k ∧ QB k H
theorem r_kB (q : QB b H) : kB QB (.bl b) H := ⟨b, rfl, q⟩
theorem r_test (q : te σ H (kB QB)) : tTest te σ H QB := q
theorem r_tB (q : te σ H (kB QB)) : tB te σ H QB := q
def kAnd (u : TT) (σ : St) (QB : Bool → Hp → Prop) : Bool → Hp → Prop := fun c H => if c = true then u σ H QB else QB false H
def kOr (u : TT) (σ : St) (QB : Bool → Hp → Prop) : Bool → Hp → Prop := fun c H => if c = true then QB true H else u σ H QB
theorem r_and (q : t σ H (kAnd u σ QB)) : tAnd t u σ H QB := q
theorem r_or (q : t σ H (kOr u σ QB)) : tOr t u σ H QB := q
theorem r_not (q : t σ H fun c H1 => QB (!c) H1) : tNot t σ H QB := q
theorem r_kAnd (h1 : b = true → u σ H QB) (h2 : b = false → QB false H) : kAnd u σ QB b H := by
  unfold kAnd
  cases b
  · exact h2 rfl
  · exact h1 rfl
theorem r_kOr (h1 : b = true → QB true H) (h2 : b = false → u σ H QB) : kOr u σ QB b H := by
  unfold kOr
  cases b
  · exact h2 rfl
  · exact h1 rfl
theorem r_kAnd1 (h : b = true) (q : u σ H QB) : kAnd u σ QB b H := by
  subst h
  exact q
theorem r_kAnd0 (h : b = false) (q : QB false H) : kAnd u σ QB b H := by
  subst h
  exact q
theorem r_kOr1 (h : b = true) (q : QB true H) : kOr u σ QB b H := by
  subst h
  exact q
theorem r_kOr0 (h : b = false) (q : u σ H QB) : kOr u σ QB b H := by
  subst h
  exact q
def kAndV (tb : TE) (σ : St) (Q : VK) : VK := fun x H1 => ∃ c, x = .bl c ∧ if c = true then tb σ H1 Q else Q (.bl false) H1
def kOrV (tb : TE) (σ : St) (Q : VK) : VK := fun x H1 => ∃ c, x = .bl c ∧ if c = true then Q (.bl true) H1 else tb σ H1 Q
theorem r_andV (q : ta σ H (kAndV tb σ Q)) : tAndV ta tb σ H Q := q
theorem r_orV (q : ta σ H (kOrV tb σ Q)) : tOrV ta tb σ H Q := q
theorem r_kAndV (h1 : b = true → tb σ H Q) (h2 : b = false → Q (.bl false) H) : kAndV tb σ Q (.bl b) H := by
  refine ⟨b, rfl, ?_⟩
  cases b
  · exact h2 rfl
  · exact h1 rfl
theorem r_kOrV (h1 : b = true → Q (.bl true) H) (h2 : b = false → tb σ H Q) : kOrV tb σ Q (.bl b) H := by
  refine ⟨b, rfl, ?_⟩
  cases b
  · exact h2 rfl
  · exact h1 rfl
def kNotV (Q : VK) : VK := fun x H1 => ∃ c, x = .bl c ∧ Q (.bl (!c)) H1
theorem r_notV (q : ta σ H (kNotV Q)) : tNotV ta σ H Q := q
theorem r_kNotV (q : Q (.bl (!b)) H) : kNotV Q (.bl b) H := ⟨b, rfl, q⟩
def kIf (ta tb : TE) (σ : St) (Q : VK) : Bool → Hp → Prop := fun c H => if c = true then ta σ H Q else tb σ H Q
theorem r_if (q : t σ H (kIf ta tb σ Q)) : tIf t ta tb σ H Q := q
theorem r_kIf (h1 : b = true → ta σ H Q) (h2 : b = false → tb σ H Q) : kIf ta tb σ Q b H := by
  unfold kIf
  cases b
  · exact h2 rfl
  · exact h1 rfl
theorem r_kIf1 (h : b = true) (q : ta σ H Q) : kIf ta tb σ Q b H := by
  subst h
  exact q
theorem r_kIf0 (h : b = false) (q : tb σ H Q) : kIf ta tb σ Q b H := by
  subst h
  exact q
theorem r_nilA (q : QA [] H) : tNil σ H QA := q
theorem r_consA (q : ta σ H fun x H1 => tr σ H1 fun xs H2 => QA (x :: xs) H2) : tCons ta tr σ H QA := q
theorem r_use {sp : Sp} (q : tr σ H fun vs H1 => sp vs H1 Q E0) : tUse sp tr σ H Q := q
theorem r_cb {f : List V → Hp → VK → Prop} (q : tr σ H fun vs H1 => f vs H1 Q) : tCB f tr σ H Q := q
/-! operators on numbers -/
theorem r_I0 {f : Int → Int → V} {m n : Int} (q : Q (f m n) H) : rI0 f (.int m) (.int n) H Q := ⟨m, n, rfl, rfl, q⟩
theorem r_I {C : Int → Int → Prop} {f : Int → Int → V} {m n : Int} (h : C m n) (q : Q (f m n) H) : rI C f (.int m) (.int n) H Q := ⟨m, n, rfl, rfl, h, q⟩
theorem r_U {f : Int → V} {m : Int} (q : Q (f m) H) : rU f (.int m) H Q := ⟨m, rfl, q⟩
theorem r_eq (h : scal x y = true) (q : Q (.bl (decide (x = y))) H) : rEq x y H Q := ⟨h, q⟩
theorem r_ne (h : scal x y = true) (q : Q (.bl (!decide (x = y))) H) : rNe x y H Q := ⟨h, q⟩
theorem r_eqI {m n : Int} (q : Q (.bl (decide (m = n))) H) : rEq (.int m) (.int n) H Q := by
  refine ⟨rfl, ?_⟩
  have e : decide (V.int m = V.int n) = decide (m = n) := by
    by_cases h : m = n
    · subst h
      simp
    · rw [decide_eq_false h, decide_eq_false fun z => h (V.int.inj z)]
  rw [e]
  exact q
theorem r_neI {m n : Int} (q : Q (.bl (!decide (m = n))) H) : rNe (.int m) (.int n) H Q := by
  refine ⟨rfl, ?_⟩
  have e : decide (V.int m = V.int n) = decide (m = n) := by
    by_cases h : m = n
    · subst h
      simp
    · rw [decide_eq_false h, decide_eq_false fun z => h (V.int.inj z)]
  rw [e]
  exact q
/-! statements -/
theorem r_seq (q : t1 ⟨t2 ⟨nx, rt, bk, ct⟩, rt, bk, ct⟩ σ H) : tSeq t1 t2 ⟨nx, rt, bk, ct⟩ σ H := q
theorem r_next (q : nx σ H) : tNext ⟨nx, rt, bk, ct⟩ σ H := q
theorem r_brk (q : bk σ H) : tBreak ⟨nx, rt, bk, ct⟩ σ H := q
theorem r_cont (q : ct σ H) : tCont ⟨nx, rt, bk, ct⟩ σ H := q
theorem r_asg (q : te σ H fun x H1 => g x σ H1 nx) : tAsg te g ⟨nx, rt, bk, ct⟩ σ H := q
theorem r_drop (q : te σ H fun _ H1 => nx σ H1) : tDrop te ⟨nx, rt, bk, ct⟩ σ H := q
theorem r_ret (q : te σ H rt) : tRet te ⟨nx, rt, bk, ct⟩ σ H := q
theorem r_retN (q : rt .non H) : tRetN ⟨nx, rt, bk, ct⟩ σ H := q
def kIfS (t1 t2 : TS) (D : Ends) (σ : St) : Bool → Hp → Prop := fun b H => if b = true then t1 D σ H else t2 D σ H
theorem r_ifS (q : c σ H (kIfS t1 t2 ⟨nx, rt, bk, ct⟩ σ)) : tIfS c t1 t2 ⟨nx, rt, bk, ct⟩ σ H := q
theorem r_kIfS {D : Ends} (h1 : b = true → t1 D σ H) (h2 : b = false → t2 D σ H) : kIfS t1 t2 D σ b H := by
  unfold kIfS
  cases b
  · exact h2 rfl
  · exact h1 rfl
theorem r_kIfS1 {D : Ends} (h : b = true) (q : t1 D σ H) : kIfS t1 t2 D σ b H := by
  subst h
  exact q
theorem r_kIfS0 {D : Ends} (h : b = false) (q : t2 D σ H) : kIfS t1 t2 D σ b H := by
  subst h
  exact q
theorem r_name {QS : St → Hp → Prop} (q : QS (σ.set i (some v)) H) : gName i v σ H QS := q
theorem r_par {j : Nat} (q : tr σ H fun vs H1 => ∃ v w, vs = [v, w] ∧ nx ((σ.set i (some v)).set j (some w)) H1) : tPar i j tr ⟨nx, rt, bk, ct⟩ σ H := q
/-! displays, dicts -/
def kLst (Q : VK) : List V → Hp → Prop := fun xs H1 => xs.length ≤ sizeLine ∧ ∀ p, H1 p = none → Q (.ref p) (upd H1 p (.lst xs))
def kTup (Q : VK) : List V → Hp → Prop := fun xs H1 => xs.length ≤ sizeLine ∧ ∀ p, H1 p = none → Q (.ref p) (upd H1 p (.tup xs))
theorem r_lst (q : tr σ H (kLst Q)) : tLst tr σ H Q := q
theorem r_tup (q : tr σ H (kTup Q)) : tTup tr σ H Q := q
theorem r_kLst {xs : List V} (h : xs.length ≤ sizeLine) (q : ∀ p H', H p = none → Kp [] H H' → H' p = some (.lst xs) → Q (.ref p) H') : kLst Q xs H :=
  ⟨h, fun p n => q p _ n (Kp.new n) upd_same⟩
theorem r_kTup {xs : List V} (h : xs.length ≤ sizeLine) (q : ∀ p H', H p = none → Kp [] H H' → H' p = some (.tup xs) → Q (.ref p) H') : kTup Q xs H :=
  ⟨h, fun p n => q p _ n (Kp.new n) upd_same⟩
def kDG (Q : VK) : V → V → Hp → Prop := fun x y H2 => ∃ a v, x = .ref a ∧ DGet H2 a y (some v) ∧ Q v H2
theorem r_dget (q : td σ H fun x H1 => ty σ H1 fun y H2 => kDG Q x y H2) : tDGet td ty σ H Q := q
theorem r_kDGs {a : Addr} {kvs : List (Key × V)} {z : Str} (e : H a = some (.dK kvs)) (h : valV kvs (Sum.inr z) = some v) (q : Q v H) : kDG Q (.ref a) (.str z) H :=
  ⟨a, v, rfl, .inl ⟨kvs, Sum.inr z, .inl e, rfl, h.symm⟩, q⟩
theorem r_kDGi {a : Addr} {kvs : List (Key × V)} {z : Int} (e : H a = some (.dK kvs)) (h : valV kvs (Sum.inl z) = some v) (q : Q v H) : kDG Q (.ref a) (.int z) H :=
  ⟨a, v, rfl, .inl ⟨kvs, Sum.inl z, .inl e, rfl, h.symm⟩, q⟩
def kDP (nx : St → Hp → Prop) (σ : St) : V → V → V → Hp → Prop := fun v x y H3 => ∃ a H4, x = .ref a ∧ DPut H3 a y v H4 ∧ nx σ H4
theorem r_dput (q : tv σ H fun v H1 => td σ H1 fun x H2 => ty σ H2 fun y H3 => kDP nx σ v x y H3) : sDPut td ty tv ⟨nx, rt, bk, ct⟩ σ H := q
theorem r_kDPs {a : Addr} {kvs : List (Key × V)} {z : Str} (e : H a = some (.dK kvs)) (h : kvs.length < sizeLine) (q : nx σ (upd H a (.dK (putK kvs (Sum.inr z) v)))) : kDP nx σ v (.ref a) (.str z) H :=
  ⟨a, _, rfl, .inl ⟨kvs, Sum.inr z, e, rfl, h, rfl⟩, q⟩
end

section
variable {σ : St} {H : Hp} {Q : VK} {QA : List V → Hp → Prop} {v x y : V} {K : PySem.W.Frag} {xs : List V} {p : Addr}
/-! built-ins -/
abbrev R1 := List V → Hp → VK → Prop
def cInt : R1 := fun xs H Q => (∃ i, xs = [.int i] ∧ Q (.int i) H) ∨ ∃ k, xs = [.bl k] ∧ Q (.int (if k then 1 else 0)) H
def cAbs : R1 := fun xs H Q => ∃ i, xs = [.int i] ∧ Q (.int (if i < 0 then -i else i)) H
def cMax2 : R1 := fun xs H Q => ∃ i j, xs = [.int i, .int j] ∧ Q (.int (if j > i then j else i)) H
def cMin2 : R1 := fun xs H Q => ∃ i j, xs = [.int i, .int j] ∧ Q (.int (if j < i then j else i)) H
def cStrI : R1 := fun xs H Q => ∃ i, xs = [.int i] ∧ i.natAbs.log2 < 1920 ∧ Q (.str (toString i)) H
def cLen (K : PySem.W.Frag) : R1 := fun xs H Q => ∃ p ys, xs = [.ref p] ∧ (SqL K H p ys ∨ SqT K H p ys) ∧ Q (.int (ys.length : Nat)) H
def cLenS : R1 := fun xs H Q => ∃ z, xs = [.str z] ∧ z.length ≤ sizeLine ∧ Q (.int (z.length : Nat)) H
def cList (K : PySem.W.Frag) : R1 := fun xs H Q => ∃ p ys, xs = [.ref p] ∧ (SqL K H p ys ∨ SqT K H p ys) ∧ ∀ l, H l = none → Q (.ref l) (upd H l (.lst ys))
def cTuple (K : PySem.W.Frag) : R1 := fun xs H Q => ∃ p ys, xs = [.ref p] ∧ ((SqL K H p ys ∧ ∀ l, H l = none → Q (.ref l) (upd H l (.tup ys))) ∨ (SqT K H p ys ∧ Q (.ref p) H))
section
variable {X : Cx}
theorem cr_int : CallR X (.type "int") cInt := call_int1
theorem cr_abs : CallR X (.builtin "abs") cAbs := call_abs
theorem cr_max2 (hc : X.calm = true) : CallR X (.builtin "max") cMax2 := call_max2 hc
theorem cr_min2 (hc : X.calm = true) : CallR X (.builtin "min") cMin2 := call_min2 hc
theorem cr_strI : CallR X (.type "str") cStrI := call_str_int
theorem cr_len : CallR X (.builtin "len") (cLen X.K) := call_len_seq
theorem cr_lenS : CallR X (.builtin "len") cLenS := call_len_str
theorem cr_list : CallR X (.type "list") (cList X.K) := call_list_of
theorem cr_tuple : CallR X (.type "tuple") (cTuple X.K) := call_tuple_of
end
theorem r_int {n : Int} (q : Q (.int n) H) : cInt [.int n] H Q := .inl ⟨n, rfl, q⟩
theorem r_abs {n : Int} (q : Q (.int (if n < 0 then -n else n)) H) : cAbs [.int n] H Q := ⟨n, rfl, q⟩
theorem r_max2 {m n : Int} (q : Q (.int (if n > m then n else m)) H) : cMax2 [.int m, .int n] H Q := ⟨m, n, rfl, q⟩
theorem r_min2 {m n : Int} (q : Q (.int (if n < m then n else m)) H) : cMin2 [.int m, .int n] H Q := ⟨m, n, rfl, q⟩
theorem r_strI {n : Int} (h : n.natAbs.log2 < 1920) (q : Q (.str (toString n)) H) : cStrI [.int n] H Q := ⟨n, rfl, h, q⟩
theorem r_lenL (h : SqL K H p xs) (q : Q (.int (xs.length : Nat)) H) : cLen K [.ref p] H Q := ⟨p, xs, rfl, .inl h, q⟩
theorem r_lenT (h : SqT K H p xs) (q : Q (.int (xs.length : Nat)) H) : cLen K [.ref p] H Q := ⟨p, xs, rfl, .inr h, q⟩
theorem r_lenS {z : Str} (h : z.length ≤ sizeLine) (q : Q (.int (z.length : Nat)) H) : cLenS [.str z] H Q := ⟨z, rfl, h, q⟩
theorem r_listL (h : SqL K H p xs) (q : ∀ l H', H l = none → Kp [] H H' → H' l = some (.lst xs) → Q (.ref l) H') : cList K [.ref p] H Q := ⟨p, xs, rfl, .inl h, fun l n => q l _ n (Kp.new n) upd_same⟩
theorem r_listT (h : SqT K H p xs) (q : ∀ l H', H l = none → Kp [] H H' → H' l = some (.lst xs) → Q (.ref l) H') : cList K [.ref p] H Q := ⟨p, xs, rfl, .inr h, fun l n => q l _ n (Kp.new n) upd_same⟩
theorem r_tupleL (h : SqL K H p xs) (q : ∀ l H', H l = none → Kp [] H H' → H' l = some (.tup xs) → Q (.ref l) H') : cTuple K [.ref p] H Q := ⟨p, xs, rfl, .inl ⟨h, fun l n => q l _ n (Kp.new n) upd_same⟩⟩
theorem r_tupleT (h : SqT K H p xs) (q : Q (.ref p) H) : cTuple K [.ref p] H Q := ⟨p, xs, rfl, .inr ⟨h, q⟩⟩
theorem r_ixL {i : Int} (h : SqL K H p xs) (e : atI xs i = some v) (q : Q v H) : rIxL K (.ref p) (.int i) H Q := ⟨p, xs, i, v, rfl, rfl, h, e, q⟩
theorem r_ixT {i : Int} (h : SqT K H p xs) (e : atI xs i = some v) (q : Q v H) : rIxT K (.ref p) (.int i) H Q := ⟨p, xs, i, v, rfl, rfl, h, e, q⟩
theorem r_ixS {z : Str} {i : Int} {c : Nat} (h : z.length ≤ sizeLine) (e : atI z.cps.toList i = some c) (q : Q (.str ⟨#[c]⟩) H) : rIxS (.str z) (.int i) H Q := ⟨z, i, c, rfl, rfl, h, e, q⟩
/-- an item at a number that lies within -/
theorem atI_in {α : Type} {l : List α} {i : Int} (h0 : 0 ≤ i) (h1 : i < (l.length : Int)) : ∃ v, atI l i = some v ∧ v ∈ l ∧ l[i.toNat]? = some v := by
  have hk : i.toNat < l.length := by omega
  have e : l[i.toNat]? = some l[i.toNat] := List.getElem?_eq_getElem hk
  have ei : i = ((i.toNat : Nat) : Int) := by omega
  have q : atI l ((i.toNat : Nat) : Int) = some l[i.toNat] := atI_nat e
  rw [← ei] at q
  exact ⟨l[i.toNat], q, List.getElem_mem hk, e⟩
/-! a display of a dict -/
def kDisp (Q : VK) (p : Addr) : List (V × V) → Hp → Prop := fun ps H2 => H2 p = some (.dK []) ∧ ∃ kvs : List (Key × V), ps = kvs.map (fun kv => (kV kv.1, kv.2)) ∧ kvs.length ≤ 15 ∧ Q (.ref p) (upd H2 p (.dK (mergeK [] kvs)))
theorem r_disp {trs : List (TE × TE)} (q : ∀ p H1, H p = none → Kp [] H H1 → H1 p = some (.dK []) → tPairs trs σ H1 (kDisp Q p)) : tDisp trs σ H Q := fun p n => q p _ n (Kp.new n) upd_same
theorem r_pnil {R : List (V × V) → Hp → Prop} (q : R [] H) : tPairs [] σ H R := q
theorem r_pcons {R : List (V × V) → Hp → Prop} {tk tv : TE} {r : List (TE × TE)} (q : tk σ H fun x H1 => tv σ H1 fun y H2 => tPairs r σ H2 fun ps H3 => R ((x, y) :: ps) H3) : tPairs ((tk, tv) :: r) σ H R := q
theorem r_kDisp {p : Addr} {kvs : List (Key × V)} (e : H p = some (.dK [])) (h : kvs.length ≤ 15) (q : ∀ H', Kp [p] H H' → H' p = some (.dK (mergeK [] kvs)) → Q (.ref p) H') : kDisp Q p (kvs.map fun kv => (kV kv.1, kv.2)) H :=
  ⟨e, kvs, rfl, h, q _ (Kp.put (by simp)) upd_same⟩
end

theorem sql_kp {K : PySem.W.Frag} {ex : List Addr} {H H' : Hp} {a : Addr} {xs : List V} (h : SqL K H a xs) (k : Kp ex H H') (m : a ∉ ex) : SqL K H' a xs := by
  rcases h with (h | ⟨o, h⟩) | h
  · exact .inl (.inl (k _ _ h m))
  · exact .inl (.inr ⟨o, k _ _ h m⟩)
  · exact .inr h
/-- a list stays where only the object o at p changes, which is no list -/
theorem sql_but {K : PySem.W.Frag} {H H' : Hp} {a p : Addr} {xs : List V} {o : HO} (h : SqL K H a xs) (k : Kp [p] H H') (e : H p = some o) (d : ∀ ys, o ≠ .lst ys) (d' : ∀ ob u, o ≠ .frz ob u) : SqL K H' a xs := by
  rcases h with (h | ⟨ob, h⟩) | h
  · exact .inl (.inl (k _ _ h (not_one (ne_of h e fun z => d _ z.symm))))
  · exact .inl (.inr ⟨ob, k _ _ h (not_one (ne_of h e fun z => d' _ _ z.symm))⟩)
  · exact .inr h
theorem sqt_kp {K : PySem.W.Frag} {ex : List Addr} {H H' : Hp} {a : Addr} {xs : List V} (h : SqT K H a xs) (k : Kp ex H H') (m : a ∉ ex) : SqT K H' a xs := by
  rcases h with (h | ⟨o, h⟩) | h
  · exact .inl (.inl (k _ _ h m))
  · exact .inl (.inr ⟨o, k _ _ h m⟩)
  · exact .inr h
section
variable {σ : St} {H : Hp} {Q : VK} {QA : List V → Hp → Prop} {v x y : V} {K : PySem.W.Frag} {xs : List V} {p : Addr} {te tk tv : TE} {tr : TA} {g : TG} {tb : TS} {tt : TT} {wi : TI} {nx bk ct : St → Hp → Prop} {rt : VK}
  {J : It} {n : Nat} {G : Hp → Prop} {Y : Nat → Hp → V → Hp → Prop} {vs : List Nat}
/-! what is walked -/
def cRng1 (R : It → Hp → Prop) : List V → Hp → Prop := fun ws H1 => ∃ j : Int, ws = [.int j] ∧ -(2 ^ 62) ≤ j ∧ j < 2 ^ 62 ∧ R (Itr 0 j.toNat) H1
def cRng2 (R : It → Hp → Prop) : List V → Hp → Prop := fun ws H1 => ∃ i j : Int, ws = [.int i, .int j] ∧ (-(2 ^ 62) ≤ i ∧ i < 2 ^ 62 ∧ -(2 ^ 62) ≤ j ∧ j < 2 ^ 62) ∧ R (Itr i (j - i).toNat) H1
def cWL (K : PySem.W.Frag) (R : It → Hp → Prop) : V → Hp → Prop := fun x H1 => ∃ a, x = .ref a ∧ (∃ xs, SqL K H1 a xs) ∧ R (Itl K a) H1
def cWT (K : PySem.W.Frag) (R : It → Hp → Prop) : V → Hp → Prop := fun x H1 => ∃ a, x = .ref a ∧ (∃ xs, SqT K H1 a xs) ∧ R (Itt K a) H1
def cWS (R : It → Hp → Prop) : V → Hp → Prop := fun v H1 => ∃ x, v = .str x ∧ R (Its x) H1
def cEnum (K : PySem.W.Frag) (R : It → Hp → Prop) : List V → Hp → Prop := fun ws H1 => ∃ a xs, ws = [.ref a] ∧ SqL K H1 a xs ∧ R (Ite K a) H1
def cZip (K : PySem.W.Frag) (R : It → Hp → Prop) : List V → Hp → Prop := fun ws H1 => ∃ a b xs ys, ws = [.ref a, .ref b] ∧ SqL K H1 a xs ∧ SqL K H1 b ys ∧ R (Itz K a b) H1
variable {R : It → Hp → Prop}
theorem r_rng1 (q : tr σ H (cRng1 R)) : iRng1 tr σ H R := q
theorem r_rng2 (q : tr σ H (cRng2 R)) : iRng2 tr σ H R := q
theorem r_wl (q : te σ H (cWL K R)) : iList K te σ H R := q
theorem r_wt (q : te σ H (cWT K R)) : iTup K te σ H R := q
theorem r_ws (q : te σ H (cWS R)) : iStr te σ H R := q
theorem r_enum (q : tr σ H (cEnum K R)) : iEnum K tr σ H R := q
theorem r_zip (q : tr σ H (cZip K R)) : iZip K tr σ H R := q
theorem r_cRng1 {j : Int} (h : -(2 ^ 62) ≤ j ∧ j < 2 ^ 62) (q : R (Itr 0 j.toNat) H) : cRng1 R [.int j] H := ⟨j, rfl, h.1, h.2, q⟩
theorem r_cRng2 {i j : Int} (h : -(2 ^ 62) ≤ i ∧ i < 2 ^ 62 ∧ -(2 ^ 62) ≤ j ∧ j < 2 ^ 62) (q : R (Itr i (j - i).toNat) H) : cRng2 R [.int i, .int j] H := ⟨i, j, rfl, h, q⟩
theorem r_cWL (h : SqL K H p xs) (q : R (Itl K p) H) : cWL K R (.ref p) H := ⟨p, rfl, ⟨xs, h⟩, q⟩
theorem r_cWT (h : SqT K H p xs) (q : R (Itt K p) H) : cWT K R (.ref p) H := ⟨p, rfl, ⟨xs, h⟩, q⟩
theorem r_cWS {z : Str} (q : R (Its z) H) : cWS R (.str z) H := ⟨z, rfl, q⟩
theorem r_cEnum (h : SqL K H p xs) (q : R (Ite K p) H) : cEnum K R [.ref p] H := ⟨p, xs, rfl, h, q⟩
theorem r_cZip {p' : Addr} {ys : List V} (h : SqL K H p xs) (h' : SqL K H p' ys) (q : R (Itz K p p') H) : cZip K R [.ref p, .ref p'] H := ⟨p, p', xs, ys, rfl, h, h', q⟩
/-! for -/
def kFor (g : TG) (tb : TS) (D : Ends) (σ : St) : It → Hp → Prop := fun J H1 => ∃ W : Nat → Nat → St → Hp → Prop, (∃ m, W 0 m σ H1) ∧ ∀ i m σ H, W i m σ H →
  (J.stop i H ∧ D.nx σ H) ∨ (J.go i H ∧ ∃ N : St → Hp → Prop, (∀ σ' H', N σ' H' → ∃ m', m' < m ∧ W (i + 1) m' σ' H') ∧ ∀ x H', J.yld i H x H' → g x σ H' fun σ2 H2 => tb { D with nx := N, ct := N, bk := D.nx } σ2 H2)
theorem r_for (q : wi σ H (kFor g tb ⟨nx, rt, bk, ct⟩ σ)) : tFor wi g tb ⟨nx, rt, bk, ct⟩ σ H := q
theorem r_kFor (w : Walk J n G Y) (Pv : Nat → St → Hp → Prop) (h0 : Pv 0 σ H) (hG : ∀ i σ H, i ≤ n → Pv i σ H → G H)
    (hs : ∀ i x σ H H', i < n → Pv i σ H → Y i H x H' → g x σ H' fun σ2 H2 => tb ⟨Pv (i + 1), rt, nx, Pv (i + 1)⟩ σ2 H2) (hd : ∀ σ H, Pv n σ H → nx σ H) : kFor g tb ⟨nx, rt, bk, ct⟩ σ J H :=
  for_it w (D := ⟨nx, rt, bk, ct⟩) Pv h0 hG hs hd
theorem r_kForR {m : Nat} (Pv : Nat → St → Hp → Prop) (h0 : Pv 0 σ H)
    (hs : ∀ (i : Nat) σ H, i < m → Pv i σ H → g (.int (i : Int)) σ H fun σ2 H2 => tb ⟨Pv (i + 1), rt, nx, Pv (i + 1)⟩ σ2 H2) (hd : ∀ σ H, Pv m σ H → nx σ H) : kFor g tb ⟨nx, rt, bk, ct⟩ σ (Itr 0 m) H := by
  refine r_kFor walk_range Pv h0 (fun _ _ _ _ _ => trivial) (fun i x σ H H' hi hp y => ?_) hd
  obtain ⟨rfl, rfl⟩ := y
  have e : V.int ((0 : Int) + (i : Int)) = V.int (i : Int) := congrArg V.int (by omega)
  show g (V.int ((0 : Int) + (i : Int))) σ _ _
  rw [e]
  exact hs i σ _ hi hp
theorem r_kForL (Pv : Nat → St → Hp → Prop) (h0 : Pv 0 σ H) (hl : ∀ i σ H, i ≤ xs.length → Pv i σ H → SqL K H p xs)
    (hs : ∀ (i : Nat) x σ H, xs[i]? = some x → Pv i σ H → g x σ H fun σ2 H2 => tb ⟨Pv (i + 1), rt, nx, Pv (i + 1)⟩ σ2 H2) (hd : ∀ σ H, Pv xs.length σ H → nx σ H) : kFor g tb ⟨nx, rt, bk, ct⟩ σ (Itl K p) H := by
  refine r_kFor walk_list Pv h0 hl (fun i x σ H H' hi hp y => ?_) hd
  obtain ⟨rfl, e⟩ := y
  exact hs i x σ _ e hp
theorem r_kForT (Pv : Nat → St → Hp → Prop) (h0 : Pv 0 σ H) (hl : ∀ i σ H, i ≤ xs.length → Pv i σ H → SqT K H p xs)
    (hs : ∀ (i : Nat) x σ H, xs[i]? = some x → Pv i σ H → g x σ H fun σ2 H2 => tb ⟨Pv (i + 1), rt, nx, Pv (i + 1)⟩ σ2 H2) (hd : ∀ σ H, Pv xs.length σ H → nx σ H) : kFor g tb ⟨nx, rt, bk, ct⟩ σ (Itt K p) H := by
  refine r_kFor walk_tup Pv h0 hl (fun i x σ H H' hi hp y => ?_) hd
  obtain ⟨rfl, e⟩ := y
  exact hs i x σ _ e hp
/-! [e for ..]: Pv by the new list's place, the turn, what is made so far, the heap -/
def kN (Pv : List V → Hp → Prop) (D : Addr) : Hp → Prop := fun H' => ∃ acc, H' D = some (.lst acc) ∧ Pv acc H'
def kApp (D : Addr) (N : Hp → Prop) : VK := fun y H4 => ∃ acc, H4 D = some (.lst acc) ∧ acc.length < sizeLine ∧ N (upd H4 D (.lst (acc ++ [y])))
def kKeep (te : TE) (σ : St) (D : Addr) (N : Hp → Prop) : Bool → Hp → Prop := fun b H3 => if b = true then te σ H3 (kApp D N) else N H3
def kTurn (tt : TT) (te : TE) (σ0 : St) (vs : List Nat) (D : Addr) (N : Hp → Prop) : St → Hp → Prop := fun σ2 H2 => wipe σ2 vs = σ0 ∧ tt σ2 H2 (kKeep te σ2 D N)
def kLc (g : TG) (tt : TT) (te : TE) (vs : List Nat) (σ : St) (Q : VK) : It → Hp → Prop := fun J H1 => ∀ D, H1 D = none → ∃ W : Nat → Nat → Hp → Prop, (∃ m, W 0 m (upd H1 D (.lst []))) ∧ ∀ i m H, W i m H →
  (J.stop i H ∧ Q (.ref D) H) ∨ (J.go i H ∧ ∃ Nx : Hp → Prop, (∀ H', Nx H' → ∃ m', m' < m ∧ W (i + 1) m' H') ∧ ∀ x H', J.yld i H x H' → g x (wipe σ vs) H' fun σ2 H2 => wipe σ2 vs = wipe σ vs ∧ tt σ2 H2 fun b H3 =>
    if b = true then te σ2 H3 fun y H4 => ∃ acc, H4 D = some (.lst acc) ∧ acc.length < sizeLine ∧ Nx (upd H4 D (.lst (acc ++ [y]))) else Nx H3)
theorem r_lc (q : wi σ H (kLc g tt te vs σ Q)) : tLc wi g tt te vs σ H Q := q
theorem r_kTurn {σ0 : St} {D : Addr} {N : Hp → Prop} (h : wipe σ vs = σ0) (q : tt σ H (kKeep te σ D N)) : kTurn tt te σ0 vs D N σ H := ⟨h, q⟩
theorem r_yes {QB : Bool → Hp → Prop} (q : QB true H) : tYes σ H QB := q
theorem r_kKeep1 {D : Addr} {N : Hp → Prop} {b : Bool} (h : b = true) (q : te σ H (kApp D N)) : kKeep te σ D N b H := by
  subst h
  exact q
theorem r_kKeep0 {D : Addr} {acc : List V} {Pv : List V → Hp → Prop} {b : Bool} (h : b = false) (e : H D = some (.lst acc)) (q : Pv acc H) : kKeep te σ D (kN Pv D) b H := by
  subst h
  exact ⟨acc, e, q⟩
theorem r_kKeep {D : Addr} {N : Hp → Prop} {b : Bool} (h1 : b = true → te σ H (kApp D N)) (h0 : b = false → N H) : kKeep te σ D N b H := by
  cases b
  · exact h0 rfl
  · exact h1 rfl
theorem r_kApp {D : Addr} {acc : List V} {Pv : List V → Hp → Prop} (e : H D = some (.lst acc)) (h : acc.length < sizeLine) (q : ∀ H5, Kp [D] H H5 → H5 D = some (.lst (acc ++ [y])) → Pv (acc ++ [y]) H5) : kApp D (kN Pv D) y H :=
  ⟨acc, e, h, acc ++ [y], upd_same, q _ (Kp.put (by simp)) upd_same⟩
theorem r_kLc (w : Walk J n G Y) (Pv : Addr → Nat → List V → Hp → Prop) (h0 : ∀ D H', H D = none → Kp [] H H' → H' D = some (.lst []) → Pv D 0 [] H') (hG : ∀ D i acc H', i ≤ n → Pv D i acc H' → G H')
    (hs : ∀ D i acc x H' H'', H D = none → i < n → H' D = some (.lst acc) → Pv D i acc H' → Y i H' x H'' → g x (wipe σ vs) H'' (kTurn tt te (wipe σ vs) vs D (kN (Pv D (i + 1)) D)))
    (hd : ∀ D acc H', H D = none → H' D = some (.lst acc) → Pv D n acc H' → Q (.ref D) H') : kLc g tt te vs σ Q J H := by
  intro D hD
  exact lc_it w (fun i => kN (Pv D i) D) ⟨[], upd_same, h0 D _ hD (Kp.new hD) upd_same⟩ (fun i H' hi ⟨acc, _, p⟩ => hG D i acc H' hi p) (fun i x H' H'' hi ⟨acc, e, p⟩ y => hs D i acc x H' H'' hD hi e p y) (fun H' ⟨acc, e, p⟩ => hd D acc H' hD e p)
theorem r_kLcL (Pv : Addr → Nat → List V → Hp → Prop) (h0 : ∀ D H', H D = none → Kp [] H H' → H' D = some (.lst []) → Pv D 0 [] H') (hG : ∀ D i acc H', i ≤ xs.length → Pv D i acc H' → SqL K H' p xs)
    (hs : ∀ D (i : Nat) acc x H', H D = none → xs[i]? = some x → H' D = some (.lst acc) → Pv D i acc H' → g x (wipe σ vs) H' (kTurn tt te (wipe σ vs) vs D (kN (Pv D (i + 1)) D)))
    (hd : ∀ D acc H', H D = none → H' D = some (.lst acc) → Pv D xs.length acc H' → Q (.ref D) H') : kLc g tt te vs σ Q (Itl K p) H := by
  refine r_kLc walk_list Pv h0 hG (fun D i acc x H' H'' hD hi e hp y => ?_) hd
  obtain ⟨rfl, e'⟩ := y
  exact hs D i acc x _ hD e' e hp
theorem r_kLcT (Pv : Addr → Nat → List V → Hp → Prop) (h0 : ∀ D H', H D = none → Kp [] H H' → H' D = some (.lst []) → Pv D 0 [] H') (hG : ∀ D i acc H', i ≤ xs.length → Pv D i acc H' → SqT K H' p xs)
    (hs : ∀ D (i : Nat) acc x H', H D = none → xs[i]? = some x → H' D = some (.lst acc) → Pv D i acc H' → g x (wipe σ vs) H' (kTurn tt te (wipe σ vs) vs D (kN (Pv D (i + 1)) D)))
    (hd : ∀ D acc H', H D = none → H' D = some (.lst acc) → Pv D xs.length acc H' → Q (.ref D) H') : kLc g tt te vs σ Q (Itt K p) H := by
  refine r_kLc walk_tup Pv h0 hG (fun D i acc x H' H'' hD hi e hp y => ?_) hd
  obtain ⟨rfl, e'⟩ := y
  exact hs D i acc x _ hD e' e hp
theorem r_kLcR {m : Nat} (Pv : Addr → Nat → List V → Hp → Prop) (h0 : ∀ D H', H D = none → Kp [] H H' → H' D = some (.lst []) → Pv D 0 [] H')
    (hs : ∀ D (i : Nat) acc H', H D = none → i < m → H' D = some (.lst acc) → Pv D i acc H' → g (.int (i : Int)) (wipe σ vs) H' (kTurn tt te (wipe σ vs) vs D (kN (Pv D (i + 1)) D)))
    (hd : ∀ D acc H', H D = none → H' D = some (.lst acc) → Pv D m acc H' → Q (.ref D) H') : kLc g tt te vs σ Q (Itr 0 m) H := by
  refine r_kLc walk_range Pv h0 (fun _ _ _ _ _ _ => trivial) (fun D i acc x H' H'' hD hi e hp y => ?_) hd
  obtain ⟨rfl, rfl⟩ := y
  have e : V.int ((0 : Int) + (i : Int)) = V.int (i : Int) := congrArg V.int (by omega)
  show g (V.int ((0 : Int) + (i : Int))) (wipe σ vs) _ _
  rw [e]
  exact hs D i acc _ hD hi (by assumption) hp
theorem r_kLcS {z : Str} (Pv : Addr → Nat → List V → Hp → Prop) (h0 : ∀ D H', H D = none → Kp [] H H' → H' D = some (.lst []) → Pv D 0 [] H')
    (hs : ∀ D (i : Nat) acc c H', H D = none → z.cps.toList[i]? = some c → H' D = some (.lst acc) → Pv D i acc H' → g (.str ⟨#[c]⟩) (wipe σ vs) H' (kTurn tt te (wipe σ vs) vs D (kN (Pv D (i + 1)) D)))
    (hd : ∀ D acc H', H D = none → H' D = some (.lst acc) → Pv D z.cps.toList.length acc H' → Q (.ref D) H') : kLc g tt te vs σ Q (Its z) H := by
  refine r_kLc walk_str Pv h0 (fun _ _ _ _ _ _ => trivial) (fun D i acc x H' H'' hD hi e hp y => ?_) (fun D acc H' a b c => hd D acc H' a b (by simpa using c))
  obtain ⟨rfl, c, e', rfl⟩ := y
  exact hs D i acc c _ hD (by simpa using e') e hp
/-! {k: v for ..} -/
def kND (Pv : List (Key × V) → Hp → Prop) (D : Addr) : Hp → Prop := fun H' => ∃ kvs, H' D = some (.dK kvs) ∧ Pv kvs H'
def kPut (D : Addr) (N : Hp → Prop) (y : V) : VK := fun z H5 => ∃ kvs k, y = kV k ∧ H5 D = some (.dK kvs) ∧ kvs.length < sizeLine ∧ N (upd H5 D (.dK (putK kvs k z)))
def kKeepD (tk tv : TE) (σ : St) (D : Addr) (N : Hp → Prop) : Bool → Hp → Prop := fun b H3 => if b = true then tk σ H3 (fun y H4 => tv σ H4 (kPut D N y)) else N H3
def kTurnD (tt : TT) (tk tv : TE) (σ0 : St) (vs : List Nat) (D : Addr) (N : Hp → Prop) : St → Hp → Prop := fun σ2 H2 => wipe σ2 vs = σ0 ∧ tt σ2 H2 (kKeepD tk tv σ2 D N)
def kDc (g : TG) (tt : TT) (tk tv : TE) (vs : List Nat) (σ : St) (Q : VK) : It → Hp → Prop := fun J H1 => ∀ D, H1 D = none → ∃ W : Nat → Nat → Hp → Prop, (∃ m, W 0 m (upd H1 D (.dK []))) ∧ ∀ i m H, W i m H →
  (J.stop i H ∧ Q (.ref D) H) ∨ (J.go i H ∧ ∃ Nx : Hp → Prop, (∀ H', Nx H' → ∃ m', m' < m ∧ W (i + 1) m' H') ∧ ∀ x H', J.yld i H x H' → g x (wipe σ vs) H' fun σ2 H2 => wipe σ2 vs = wipe σ vs ∧ tt σ2 H2 fun b H3 =>
    if b = true then tk σ2 H3 fun y H4 => tv σ2 H4 fun z H5 => ∃ kvs k, y = kV k ∧ H5 D = some (.dK kvs) ∧ kvs.length < sizeLine ∧ Nx (upd H5 D (.dK (putK kvs k z))) else Nx H3)
theorem r_dc (q : wi σ H (kDc g tt tk tv vs σ Q)) : tDc wi g tt tk tv vs σ H Q := q
theorem r_kTurnD {σ0 : St} {D : Addr} {N : Hp → Prop} (h : wipe σ vs = σ0) (q : tt σ H (kKeepD tk tv σ D N)) : kTurnD tt tk tv σ0 vs D N σ H := ⟨h, q⟩
theorem r_kKeepD1 {D : Addr} {N : Hp → Prop} {b : Bool} (h : b = true) (q : tk σ H (fun y H4 => tv σ H4 (kPut D N y))) : kKeepD tk tv σ D N b H := by
  subst h
  exact q
theorem r_kPut {D : Addr} {kvs : List (Key × V)} {k : Key} {Pv : List (Key × V) → Hp → Prop} (ey : x = kV k) (e : H D = some (.dK kvs)) (h : kvs.length < sizeLine) (q : ∀ H5, Kp [D] H H5 → H5 D = some (.dK (putK kvs k y)) → Pv (putK kvs k y) H5) : kPut D (kND Pv D) x y H :=
  ⟨kvs, k, ey, e, h, _, upd_same, q _ (Kp.put (by simp)) upd_same⟩
theorem r_kDc (w : Walk J n G Y) (Pv : Addr → Nat → List (Key × V) → Hp → Prop) (h0 : ∀ D H', H D = none → Kp [] H H' → H' D = some (.dK []) → Pv D 0 [] H') (hG : ∀ D i acc H', i ≤ n → Pv D i acc H' → G H')
    (hs : ∀ D i acc x H' H'', H D = none → i < n → H' D = some (.dK acc) → Pv D i acc H' → Y i H' x H'' → g x (wipe σ vs) H'' (kTurnD tt tk tv (wipe σ vs) vs D (kND (Pv D (i + 1)) D)))
    (hd : ∀ D acc H', H D = none → H' D = some (.dK acc) → Pv D n acc H' → Q (.ref D) H') : kDc g tt tk tv vs σ Q J H := by
  intro D hD
  refine ⟨fun i m H' => m = n - i ∧ i ≤ n ∧ kND (Pv D i) D H', ⟨n, by simp, Nat.zero_le _, [], upd_same, h0 D _ hD (Kp.new hD) upd_same⟩, ?_⟩
  rintro i m H' ⟨rfl, hi, acc, e, p⟩
  have q := hG D i acc H' hi p
  by_cases hlt : i < n
  · exact .inr ⟨w.goes i H' hlt q, kND (Pv D (i + 1)) D, fun H2 p' => ⟨n - (i + 1), by omega, rfl, hlt, p'⟩, fun x H2 y => hs D i acc x H' H2 hD hlt e p (w.yields i H' x H2 hlt q y)⟩
  · have e' : i = n := by omega
    subst e'
    exact .inl ⟨w.stops H' q, hd D acc H' hD e p⟩
/-! targets that are tuples -/
theorem r_gtup {K : PySem.W.Frag} {m : Nat} {t : TGs} {QS : St → Hp → Prop} {a : Addr} (h : SqT K H a xs) (hl : xs.length = m) (q : t xs σ H QS) : gTup K m t (.ref a) σ H QS := ⟨a, xs, rfl, h, hl, q⟩
theorem r_gnil {QS : St → Hp → Prop} (q : QS σ H) : gNil [] σ H QS := ⟨rfl, q⟩
theorem r_gcons {t : TG} {u : TGs} {QS : St → Hp → Prop} (q : t x σ H fun σ' H' => u xs σ' H' QS) : gCons t u (x :: xs) σ H QS := ⟨x, xs, rfl, q⟩
/-! methods of lists -/
def kBM (K : PySem.W.Frag) (T : String) (r : V → List V → Hp → VK → Prop) (tr : TA) (σ : St) (Q : VK) : VK := fun x H1 => tyV K T x H1 ∧ tr σ H1 fun xs H2 => r x xs H2 Q
theorem r_bm {T : String} {r : V → List V → Hp → VK → Prop} (q : te σ H (kBM K T r tr σ Q)) : tBM K T r te tr σ H Q := q
theorem r_kBMl {r : V → List V → Hp → VK → Prop} (h : SqL K H p xs) (q : tr σ H fun ys H2 => r (.ref p) ys H2 Q) : kBM K "list" r tr σ Q (.ref p) H := ⟨.inl ⟨rfl, _, h⟩, q⟩
def kBM0 (K : PySem.W.Frag) (T : String) (r : V → List V → Hp → VK → Prop) (Q : VK) : VK := fun x H1 => tyV K T x H1 ∧ r x [] H1 Q
theorem r_bm0 {T : String} {r : V → List V → Hp → VK → Prop} (q : te σ H (kBM0 K T r Q)) : tBM0 K T r te σ H Q := q
theorem r_kBM0l {r : V → List V → Hp → VK → Prop} (h : SqL K H p xs) (q : r (.ref p) [] H Q) : kBM0 K "list" r Q (.ref p) H := ⟨.inl ⟨rfl, _, h⟩, q⟩
theorem r_append (e : H p = some (.lst xs)) (h : xs.length < sizeLine) (q : ∀ H', Kp [p] H H' → H' p = some (.lst (xs ++ [x])) → Q .non H') : rAppend (.ref p) [x] H Q := ⟨p, xs, x, rfl, rfl, e, h, q _ (Kp.put (by simp)) upd_same⟩
/-! texts -/
def rAddT : R2 := fun x y H Q => ∃ i j, x = .str i ∧ y = .str j ∧ i.length + j.length ≤ sizeLine ∧ Q (.str (i ++ j)) H
theorem op_addT {X : Cx} : OpR X (binaryOp .Add) rAddT := op_add_str
theorem r_addT {a b : Str} (h : a.length + b.length ≤ sizeLine) (q : Q (.str (a ++ b)) H) : rAddT (.str a) (.str b) H Q := ⟨a, b, rfl, rfl, h, q⟩
theorem r_eqS {a b : Str} (q : Q (.bl (decide (a = b))) H) : rEq (.str a) (.str b) H Q := by
  refine ⟨rfl, ?_⟩
  have e : decide (V.str a = V.str b) = decide (a = b) := by
    by_cases h : a = b
    · subst h
      simp
    · rw [decide_eq_false h, decide_eq_false fun z => h (V.str.inj z)]
  rw [e]
  exact q
theorem r_neS {a b : Str} (q : Q (.bl (!decide (a = b))) H) : rNe (.str a) (.str b) H Q := by
  refine ⟨rfl, ?_⟩
  have e : decide (V.str a = V.str b) = decide (a = b) := by
    by_cases h : a = b
    · subst h
      simp
    · rw [decide_eq_false h, decide_eq_false fun z => h (V.str.inj z)]
  rw [e]
  exact q
/-! in, not in, of texts in a list -/
theorem eqV_str (a b : Str) : eqV (.str a) (.str b) = decide (a = b) := by
  show (a == b) = decide (a = b)
  by_cases h : a = b
  · subst h
    simp
  · rw [decide_eq_false h]
    exact beq_eq_false_iff_ne.mpr h
theorem inV_strs (x : Str) : ∀ ws : List Str, inV (.str x) (ws.map V.str) = decide (x ∈ ws)
  | [] => by simp [inV]
  | w :: ws => by
    have ih := inV_strs x ws
    unfold inV at ih
    unfold inV
    rw [List.map_cons, List.any_cons, ih, eqV_str]
    by_cases h : x = w
    · subst h
      simp
    · have h' : ¬ w = x := fun e => h e.symm
      simp [h, h']
theorem flat_strs (ws : List Str) : (ws.map V.str).all flatV = true := by
  rw [List.all_eq_true]
  intro v hv
  obtain ⟨w, _, rfl⟩ := List.mem_map.mp hv
  rfl
theorem r_inL {z : Str} {ws : List Str} (h : SqL K H p (ws.map V.str)) (q : Q (.bl (decide (z ∈ ws))) H) : rIn K false (.str z) (.ref p) H Q := by
  refine ⟨p, _, rfl, .inl h, rfl, flat_strs ws, ?_⟩
  show Q (.bl (inV (.str z) (ws.map V.str))) H
  rw [inV_strs]
  exact q
theorem r_notInL {z : Str} {ws : List Str} (h : SqL K H p (ws.map V.str)) (q : Q (.bl (!decide (z ∈ ws))) H) : rIn K true (.str z) (.ref p) H Q := by
  refine ⟨p, _, rfl, .inl h, rfl, flat_strs ws, ?_⟩
  show Q (.bl (!inV (.str z) (ws.map V.str))) H
  rw [inV_strs]
  exact q
end

/-! the layer's rules with K named: within a comprehension's block it could not be found otherwise -/
section
variable {X : Cx} {K : PySem.W.Frag} (hK : X.K = K)
include hK
theorem K_in : OpR X (compareOp .In) (rIn K false) := by
  subst hK
  exact op_in_seq
theorem K_notIn : OpR X (compareOp .NotIn) (rIn K true) := by
  subst hK
  exact op_notIn_seq
theorem K_eqD (hu : X.A.units + 64 < cLine) : OpR X (compareOp .Eq) (rEqD K) := by
  subst hK
  exact op_eqD hu
theorem K_neD (hu : X.A.units + 64 < cLine) : OpR X (compareOp .NotEq) (rNeD K) := by
  subst hK
  exact op_neD hu
theorem K_len : CallR X (.builtin "len") (cLen K) := by
  subst hK
  exact cr_len
theorem K_list : CallR X (.type "list") (cList K) := by
  subst hK
  exact cr_list
theorem K_tuple : CallR X (.type "tuple") (cTuple K) := by
  subst hK
  exact cr_tuple
theorem K_ixL : IxR X (rIxL K) := by
  subst hK
  exact ix_list
theorem K_ixT : IxR X (rIxT K) := by
  subst hK
  exact ix_tup
theorem K_sum (hc : X.calm = true) : CallR X (.builtin "sum") (rSum K) := by
  subst hK
  exact cr_sum hc
theorem K_max (hc : X.calm = true) : CallR X (.builtin "max") (rMax K) := by
  subst hK
  exact cr_max hc
theorem K_min (hc : X.calm = true) : CallR X (.builtin "min") (rMin K) := by
  subst hK
  exact cr_min hc
theorem K_any (hc : X.calm = true) : CallR X (.builtin "any") (rAny K) := by
  subst hK
  exact cr_any hc
theorem K_all (hc : X.calm = true) : CallR X (.builtin "all") (rAll K) := by
  subst hK
  exact cr_all hc
theorem K_sortedI : CallR X (.builtin "sorted") (rSortedI K) := by
  subst hK
  exact cr_sortedI
theorem K_sortedS : CallR X (.builtin "sorted") (rSortedS K) := by
  subst hK
  exact cr_sortedS
theorem K_isi : CallR X (.builtin "isinstance") (rIsi K) := by
  subst hK
  exact call_isi
theorem K_isiT : CallR X (.builtin "isinstance") (rIsiT K) := by
  subst hK
  exact call_isiT
theorem K_slL : SlR X (rSlL K) := by
  subst hK
  exact sl_list
theorem K_slT : SlR X (rSlT K) := by
  subst hK
  exact sl_tup
theorem K_catT : OpR X (binaryOp .Add) (rCatA K) := by
  subst hK
  exact op_catA
theorem K_index : MtR X "list.index" (rIndex K) := by
  subst hK
  exact mt_index
theorem K_pil {tg l : Expr} {tl : TE} (hl : PE X l tl) : PI X tg l (iList K tl) := by
  subst hK
  exact pi_list hl
theorem K_pit {tg l : Expr} {tl : TE} (hl : PE X l tl) : PI X tg l (iTup K tl) := by
  subst hK
  exact pi_tup hl
theorem K_enum {e : Expr} {ta : TA} {p pos tpos : Pos} {elts : List Expr} {kk : Nat} (hg : Gl X "enumerate") (hm : X.mg "enumerate" = none) (ha : PA X [e] ta) (hs : starEach [e] X.env = [(false, eval e X.env)] := by rfl) :
    PI X (.Tuple elts kk tpos) (.Call (.Name "enumerate" p) [e] [] pos) (iEnum K ta) := by
  subst hK
  exact pi_enum hg hm ha hs
theorem K_zip {e e2 : Expr} {ta : TA} {p pos tpos : Pos} {elts : List Expr} {kk : Nat} (hg : Gl X "zip") (hm : X.mg "zip" = none) (ha : PA X [e, e2] ta) (hs : starEach [e, e2] X.env = (false, eval e X.env) :: starEach [e2] X.env := by rfl) (hpl : (backTo pos (starEach [e2] X.env)).any (·.1) = false := by rfl) :
    PI X (.Tuple elts kk tpos) (.Call (.Name "zip" p) [e, e2] [] pos) (iZip K ta) := by
  subst hK
  exact pi_zip hg hm ha hs hpl
theorem K_bm {o e : Expr} {es : List Expr} {T : String} {name : Str} {id : String} {r : V → List V → Hp → VK → Prop} {to : TE} {t : TA} {apos cpos : Pos} (pa : PlainAttrs T) (slot : Slot T name id) (hty : typeOf (.builtin id) = pure (.type "method_descriptor")) (hm : MtR X id r) (ho : PE X o to) (ha : PA X (e :: es) t) (hbase : attributeBase o name X.env (eval o X.env) = eval o X.env := by rfl) (hfew : ((backTo cpos (starEach (e :: es) X.env)).all (fun x => !x.1) && (backToKw cpos (keywordEach [] X.env)).all (fun x => x.1.isSome) && decide ((e :: es).length + ([] : List Keyword).length + (if ([] : List Keyword).isEmpty then 0 else 1) < 30)) = true := by rfl) (hline : (apos.endLine == cpos.line) = true := by rfl) (hs : starEach (e :: es) X.env = (false, eval e X.env) :: starEach es X.env := by rfl) (hplain : (backTo cpos (starEach es X.env)).any (·.1) = false := by rfl) : PE X (.Call (.Attribute o name apos) (e :: es) [] cpos) (tBM K T r to t) := by
  subst hK
  exact pe_bm pa slot hty hm ho ha hbase hfew hline hs hplain
theorem K_bm0 {o : Expr} {T : String} {name : Str} {id : String} {r : V → List V → Hp → VK → Prop} {to : TE} {apos cpos : Pos} (pa : PlainAttrs T) (slot : Slot T name id) (hty : typeOf (.builtin id) = pure (.type "method_descriptor")) (hm : MtR X id r) (ho : PE X o to) (hbase : attributeBase o name X.env (eval o X.env) = eval o X.env := by rfl) (hline : (apos.endLine == cpos.line) = true := by rfl) : PE X (.Call (.Attribute o name apos) [] [] cpos) (tBM0 K T r to) := by
  subst hK
  exact pe_bm0 pa slot hty hm ho hbase hline
theorem K_gtup {es : List Expr} {k : Nat} {t : TGs} {n : Nat} {pos : Pos} (hc : X.calm = true) (h : PGs X es t) (hn : (assignEach es X.env).length = n := by rfl) (hst : (assignEach es X.env).findIdx? (·.1) = none := by rfl) : PG X (.Tuple es k pos) (gTup K n t) := by
  subst hK
  exact pg_tup hc h hn hst
theorem K_fld {e : Expr} {f : Str} {pos : Pos} {ta : TE} (he : PE X e ta) (hb : attributeBase e f X.env (eval e X.env) = eval e X.env) : PE X (.Attribute e f pos) (tFld K ta f) := by
  subst hK
  exact pe_fld he hb
theorem K_join {o e : Expr} {to te : TE} {apos pos : Pos} (ho : PE X o to) (he : PE X e te) (hs : starEach [e] X.env = [(false, eval e X.env)] := by rfl) (hbase : attributeBase o "join" X.env (eval o X.env) = eval o X.env := by rfl) (hline : (apos.endLine == pos.line) = true := by rfl) : PE X (.Call (.Attribute o "join" apos) [e] [] pos) (tM1 (fun x xs H Q => ∃ a p, ∃ ys : List Str, x = .str a ∧ xs = [.ref p] ∧ (SqL K H p (ys.map V.str) ∨ SqT K H p (ys.map V.str)) ∧ (ys.map (·.length)).sum + ys.length * a.length ≤ 16777216 ∧ Q (.str (Txt.join a ys)) H) to te) := by
  subst hK
  exact pe_join ho he hs hbase hline
end

/-! cuts: what stands behind is read once -/
section
variable {X : Cx}
def tCutS (t u : TS) : TS := fun D σ H => ∃ M : St → Hp → Prop, t { D with nx := M } σ H ∧ ∀ σ' H', M σ' H' → u D σ' H'
theorem pss_cutS {st : Stmt} {more : List Stmt} {t u : TS} (a : PS X st t) (b : PSs X more u) : PSs X (st :: more) (tCutS t u) := by
  constructor
  intro pins s σ H D I ⟨M, hm, hu⟩
  refine wpAny_execs_cons (thn (a.run pins s σ H { D with nx := M } I hm) fun f s1 w => ?_)
  match f, w with
  | .next, ⟨σ', H', I', w'⟩ => exact b.run pins s1 σ' H' D I' (hu σ' H' w')
  | .ret _, w => exact w
  | .brk, w => exact w
  | .cont, w => exact w
theorem r_cutS {t u : TS} {nx bk ct : St → Hp → Prop} {rt : VK} {σ : St} {H : Hp} (M : St → Hp → Prop) (h : t ⟨M, rt, bk, ct⟩ σ H) (q : ∀ σ' H', M σ' H' → u ⟨nx, rt, bk, ct⟩ σ' H') : tCutS t u ⟨nx, rt, bk, ct⟩ σ H := ⟨M, h, q⟩
def tCutT (t : TT) : TT := fun σ H Q => ∃ M : Bool → Hp → Prop, t σ H M ∧ ∀ b H', M b H' → Q b H'
theorem pt_cutT {e : Expr} {t : TT} (a : PT X e t) : PT X e (tCutT t) := by
  constructor
  intro pins s σ H Q I ⟨M, hm, hq⟩
  exact wpAny_mono (a.run pins s σ H M I hm) (fun b s' ⟨H', I', w⟩ => ⟨H', I', hq b H' w⟩) fun _ _ z => z
theorem r_cutT {t : TT} {σ : St} {H : Hp} {QB : Bool → Hp → Prop} (M : Bool → Hp → Prop) (h : t σ H M) (q : ∀ b H', M b H' → QB b H') : tCutT t σ H QB := ⟨M, h, q⟩
def tCutE (t : TE) : TE := fun σ H Q => ∃ M : VK, t σ H M ∧ ∀ x H', M x H' → Q x H'
theorem pe_cutE {e : Expr} {t : TE} (a : PE X e t) : PE X e (tCutE t) := by
  constructor
  intro pins s σ H Q I ⟨M, hm, hq⟩
  exact wpAny_mono (a.run pins s σ H M I hm) (fun u s' ⟨v, H', I', r, w⟩ => ⟨v, H', I', r, hq v H' w⟩) fun _ _ z => z
theorem r_cutE {t : TE} {σ : St} {H : Hp} {Q : VK} (M : VK) (h : t σ H M) (q : ∀ x H', M x H' → Q x H') : tCutE t σ H Q := ⟨M, h, q⟩
end

/-! lists by turns -/
theorem take_more {α : Type} : ∀ {l : List α} {i : Nat} {x : α}, l[i]? = some x → l.take (i + 1) = l.take i ++ [x]
  | [], i, x, h => by simp at h
  | a :: l, 0, x, h => by
    cases h
    rfl
  | a :: l, i + 1, x, h => by
    have ih := take_more (l := l) (i := i) (x := x) h
    rw [List.take_succ_cons, ih]
    rfl
theorem take_map {α β : Type} {l : List α} {i : Nat} {x : α} (f : α → β) (h : l[i]? = some x) : (l.take (i + 1)).map f = (l.take i).map f ++ [f x] := by
  rw [take_more h, List.map_append]
  rfl
theorem take_filter {α : Type} {l : List α} {i : Nat} {x : α} (f : α → Bool) (h : l[i]? = some x) : (l.take (i + 1)).filter f = (l.take i).filter f ++ (if f x = true then [x] else []) := by
  rw [take_more h, List.filter_append]
  cases e : f x <;> simp [e]
theorem map_at {α β : Type} {l : List α} {i : Nat} {y : β} {f : α → β} (h : (l.map f)[i]? = some y) : ∃ x, l[i]? = some x ∧ y = f x := by
  rw [List.getElem?_map] at h
  cases e : l[i]? with
  | none =>
    rw [e] at h
    cases h
  | some x =>
    rw [e] at h
    exact ⟨x, rfl, (Option.some.inj h).symm⟩
theorem lt_at {α : Type} {l : List α} {i : Nat} {x : α} (h : l[i]? = some x) : i < l.length := (List.getElem?_eq_some_iff.mp h).1
theorem mem_at {α : Type} {l : List α} {i : Nat} {x : α} (h : l[i]? = some x) : x ∈ l := List.mem_of_getElem? h
/-- a word's heap behind a new list at D has grown by a change of D -/
theorem Kp.step {D : Addr} {ex : List Addr} {H H1 H2 : Hp} (a : Kp ex H H1) (n : H D = none) (b : Kp [D] H1 H2) : Kp ex H H2 :=
  Kp.drop (l := D) ((a.mono fun _ m => List.mem_cons_of_mem _ m).trans (b.mono fun x m => by rw [List.mem_singleton.mp m]; exact List.mem_cons_self)) n

/-! a walk over a list or a tuple -/
def iSeq (K : PySem.W.Frag) (tl : TE) : TI := fun σ H R => tl σ H fun x H1 => ∃ a, x = .ref a ∧ (((∃ xs, SqL K H1 a xs) ∧ R (Itl K a) H1) ∨ ((∃ xs, SqT K H1 a xs) ∧ R (Itt K a) H1))
theorem K_pis {X : Cx} {K : PySem.W.Frag} (hK : X.K = K) {tg l : Expr} {tl : TE} (hl : PE X l tl) : PI X tg l (iSeq K tl) := by
  subst hK
  constructor
  intro pins s σ H R I h
  refine thn (hl.run pins s σ H _ I h) fun v s1 w => ?_
  obtain ⟨_, H1, I1, rv, a, rfl, w⟩ := w
  cases rv
  have fresh : ∀ b ∈ [s1.heap.objs.size], FpOk X pins H1 b := fun b m => (List.mem_singleton.mp m) ▸ I1.fpOk (Nat.le_refl _) (I1.hok.fresh (Nat.le_refl _))
  rcases w with ⟨⟨xs, hs⟩, w⟩ | ⟨⟨xs, hs⟩, w⟩
  · obtain ⟨_, _, pl, _⟩ := I1.list hs
    exact wpAny_pyIter_list pl.isList ⟨_, [s1.heap.objs.size], _, _, H1, rfl, I1.kept (t' := s1.toks) fun _ _ => Heap.get?_push_of_some _, turn_list a _, ⟨_, Heap.get?_push_size _ rfl, rfl, rfl⟩, fresh, w⟩
  · obtain ⟨_, _, pl, _⟩ := I1.tuple hs
    exact wpAny_pyIter_tuple pl ⟨_, [s1.heap.objs.size], _, _, H1, rfl, I1.kept (t' := s1.toks) fun _ _ => Heap.get?_push_of_some _, turn_tuple a _, ⟨_, Heap.get?_push_size _ rfl, rfl, rfl⟩, fresh, w⟩
def cWQ (K : PySem.W.Frag) (R : It → Hp → Prop) : V → Hp → Prop := fun x H1 => ∃ a, x = .ref a ∧ (((∃ xs, SqL K H1 a xs) ∧ R (Itl K a) H1) ∨ ((∃ xs, SqT K H1 a xs) ∧ R (Itt K a) H1))
section
variable {σ : St} {H : Hp} {Q : VK} {K : PySem.W.Frag} {te : TE} {R : It → Hp → Prop} {p : Addr} {xs : List V} {x : V}
theorem r_wq (q : te σ H (cWQ K R)) : iSeq K te σ H R := q
theorem r_cWQl (h : SqL K H p xs) (q : R (Itl K p) H) : cWQ K R (.ref p) H := ⟨p, rfl, .inl ⟨⟨xs, h⟩, q⟩⟩
theorem r_cWQt (h : SqT K H p xs) (q : R (Itt K p) H) : cWQ K R (.ref p) H := ⟨p, rfl, .inr ⟨⟨xs, h⟩, q⟩⟩
/-- a list or a tuple -/
def Sq (K : PySem.W.Frag) (H : Hp) (p : Addr) (xs : List V) : Prop := SqL K H p xs ∨ SqT K H p xs
theorem Sq.kp {ex : List Addr} {H' : Hp} (h : Sq K H p xs) (k : Kp ex H H') (m : p ∉ ex) : Sq K H' p xs := h.elim (fun z => .inl (sql_kp z k m)) fun z => .inr (sqt_kp z k m)
theorem r_lenQ (h : Sq K H p xs) (q : Q (.int (xs.length : Nat)) H) : cLen K [.ref p] H Q := ⟨p, xs, rfl, h, q⟩
theorem r_listQ (h : Sq K H p xs) (q : ∀ l H', H l = none → Kp [] H H' → H' l = some (.lst xs) → Q (.ref l) H') : cList K [.ref p] H Q := ⟨p, xs, rfl, h, fun l n => q l _ n (Kp.new n) upd_same⟩
/-! isinstance -/
theorem r_isiTy {T n : String} {b : Bool} (h : TyX K H x (.type T)) (e : kitB T n = some b) (q : Q (.bl b) H) : rIsi K [x, .ty n] H Q := ⟨x, .ty n, _, _, b, rfl, .ty n, h, kit_ty e, q⟩
/-! [e for ..] over a list or a tuple -/
theorem r_kLcQ {g : TG} {tt : TT} {vs : List Nat} (Pv : Addr → Nat → List V → Hp → Prop) (hq : Sq K H p xs) (h0 : ∀ D H', H D = none → Kp [] H H' → H' D = some (.lst []) → Pv D 0 [] H') (hG : ∀ D i acc H', i ≤ xs.length → Pv D i acc H' → Kp [] H H')
    (hs : ∀ D (i : Nat) acc x H', H D = none → xs[i]? = some x → H' D = some (.lst acc) → Pv D i acc H' → g x (wipe σ vs) H' (kTurn tt te (wipe σ vs) vs D (kN (Pv D (i + 1)) D)))
    (hd : ∀ D acc H', H D = none → H' D = some (.lst acc) → Pv D xs.length acc H' → Q (.ref D) H') : cWQ K (kLc g tt te vs σ Q) (.ref p) H := by
  rcases hq with h | h
  · exact r_cWQl h (r_kLcL Pv h0 (fun D i acc H' hi p => sql_kp h (hG D i acc H' hi p) not_nil) hs hd)
  · exact r_cWQt h (r_kLcT Pv h0 (fun D i acc H' hi p => sqt_kp h (hG D i acc H' hi p) not_nil) hs hd)
end

/-! list.index of a number -/
theorem eqV_int (a b : Int) : eqV (.int a) (.int b) = (a == b) := rfl
theorem flat_ints (ns : List Int) : (ns.map V.int).all flatV = true := by
  rw [List.all_eq_true]
  intro v hv
  obtain ⟨w, _, rfl⟩ := List.mem_map.mp hv
  rfl
theorem lt_idx {n : Int} : ∀ {l : List Int} {m : Nat} {z : Int}, m < l.idxOf n → l[m]? = some z → z ≠ n
  | [], m, z, _, e => by simp at e
  | x :: l, m, z, h, e => by
    rw [List.idxOf_cons] at h
    by_cases c : x = n
    · subst c
      simp at h
    · have c' : (x == n) = false := beq_eq_false_iff_ne.mpr c
      rw [c'] at h
      cases m with
      | zero =>
        cases e
        exact c
      | succ m =>
        exact lt_idx (l := l) (m := m) (Nat.lt_of_succ_lt_succ h) e
theorem r_indexI {K : PySem.W.Frag} {H : Hp} {Q : VK} {p : Addr} {ns : List Int} {n : Int} (h : SqL K H p (ns.map V.int)) (m : n ∈ ns) (q : Q (.int (ns.idxOf n : Nat)) H) : rIndex K (.ref p) [.int n] H Q := by
  have hi := List.idxOf_lt_length_of_mem m
  have e : ns[ns.idxOf n]? = some n := by rw [List.getElem?_eq_getElem hi, List.getElem_idxOf]
  refine ⟨p, _, .int n, ns.idxOf n, .int n, rfl, rfl, h, rfl, flat_ints ns, ?_, beq_self_eq_true n, fun j z' hj hz => ?_, q⟩
  · rw [List.getElem?_map, e]
    rfl
  · obtain ⟨z, hz', rfl⟩ := map_at hz
    exact beq_eq_false_iff_ne.mpr (lt_idx hj hz')
/-! == of data -/
def Shp (n : Nat) (d : PyData) : Prop := d.canLay0 = true ∧ d.depth ≤ n
theorem Shp.ok {n : Nat} {d : PyData} (h : Shp n d) (hn : n ≤ 64) : SeqAt.shaped d = true := Bool.and_eq_true_iff.mpr ⟨h.1, decide_eq_true (Nat.le_trans h.2 hn)⟩
theorem Shp.all {n : Nat} : ∀ {l : List PyData}, (∀ d ∈ l, Shp n d) → PyData.canLayAll0 l = true ∧ PyData.depthAll l ≤ n
  | [], _ => ⟨rfl, Nat.zero_le _⟩
  | d :: l, h => by
    have h1 := h d List.mem_cons_self
    have h2 := Shp.all (l := l) fun x hx => h x (List.mem_cons_of_mem _ hx)
    exact ⟨Bool.and_eq_true_iff.mpr ⟨h1.1, h2.1⟩, Nat.max_le.mpr ⟨h1.2, h2.2⟩⟩
theorem Shp.list {n : Nat} {l : List PyData} (h : ∀ d ∈ l, Shp n d) : Shp (n + 1) (.list l) := ⟨(Shp.all h).1, Nat.succ_le_succ (Shp.all h).2⟩
theorem Shp.tuple {n : Nat} {l : List PyData} (h : ∀ d ∈ l, Shp n d) : Shp (n + 1) (.tuple l) := ⟨(Shp.all h).1, Nat.succ_le_succ (Shp.all h).2⟩
theorem Shp.int (i : Int) (n : Nat) : Shp n (.int i) := ⟨rfl, Nat.zero_le _⟩
theorem Shp.bool (b : Bool) (n : Nat) : Shp n (.bool b) := ⟨rfl, Nat.zero_le _⟩
theorem Shp.none (n : Nat) : Shp n .none := ⟨rfl, Nat.zero_le _⟩
theorem Shp.str {x : Str} (h : PyData.strOk x = true) (n : Nat) : Shp n (.str x) := ⟨h, Nat.zero_le _⟩
theorem strOk_of {x : Str} {m : Nat} (h : ∀ c ∈ x.cps.toList, c ≤ m) (hm : m < 0x110000) : PyData.strOk x = true := by
  unfold PyData.strOk
  rw [← Array.all_toList, List.all_eq_true]
  intro c hc
  have := h c hc
  exact decide_eq_true (by omega)
section
variable {H : Hp} {Q : VK} {K : PySem.W.Frag} {x y : V} {d e : PyData} {ex ex' : List Addr} {n : Nat}
theorem r_eqD (hx : Dt ex H x d) (hy : Dt ex' H y e) (sx : Shp n d) (sy : Shp n e) (hn : n ≤ 64) (q : Q (.bl (PyData.eqv d e)) H) : rEqD K x y H Q := ⟨d, e, hx.dp, hy.dp, sx.ok hn, sy.ok hn, q⟩
theorem r_neD (hx : Dt ex H x d) (hy : Dt ex' H y e) (sx : Shp n d) (sy : Shp n e) (hn : n ≤ 64) (q : Q (.bl (!PyData.eqv d e)) H) : rNeD K x y H Q := ⟨d, e, hx.dp, hy.dp, sx.ok hn, sy.ok hn, q⟩
theorem r_eqD1 (hx : Dt ex H x d) (hy : Dt ex' H y d) (sx : Shp n d) (hn : n ≤ 64) (q : Q (.bl true) H) : rEqD K x y H Q := by
  refine r_eqD hx hy sx sx hn ?_
  rw [SeqAt.eqv_refl d sx.1]
  exact q
theorem r_neD0 (hx : Dt ex H x d) (hy : Dt ex' H y d) (sx : Shp n d) (hn : n ≤ 64) (q : Q (.bl false) H) : rNeD K x y H Q := by
  refine r_neD hx hy sx sx hn ?_
  rw [SeqAt.eqv_refl d sx.1]
  exact q
end
end Rd

set_option maxHeartbeats 4000000
/-! Ob: objects of own classes (fields, methods, making), their `in`, len, ==; isinstance of data; text in text; walks over a list or a tuple. -/
namespace Rd
open PySem PySem.Spec L2 StX

def UseM (P : Program) (w : World) (K : PySem.W.Frag) (mg : Str → Option Value) (base : Heap) (n : Nat) (C : Addr) (m : Str) (sp : Sp) : Prop := ∃ f, FnR P w K mg base CX0 n f sp ∧ Meth K C m f
def UseC (P : Program) (w : World) (K : PySem.W.Frag) (mg : Str → Option Value) (base : Heap) (n : Nat) (x : Str) (C : Addr) (sp : Sp) : Prop := ∃ f, FnR P w K mg base CX0 n f sp ∧ Mk K C f ∧ mg x = some (.ref C)
theorem fnr {P : Program} {w : World} {K : PySem.W.Frag} {mg : Str → Option Value} {base : Heap} {n : Nat} {f : Addr} {fd : FuncData} {ps : List Str} {sp : Sp} (F : FnOk P w K mg base CX0 n f fd ps sp) (b : Binds K fd ps []) : FnR P w K mg base CX0 n f sp :=
  (F.raw b .nil).imp fun vs H Q E h => by
    rw [List.append_nil]
    exact h

section
variable {σ : St} {H : Hp} {Q : VK} {QB : Bool → Hp → Prop} {v x y : V} {ta tb tc tv : TE} {tr : TA} {K : PySem.W.Frag} {C a dx : Addr} {fs : List (Str × V)} {f m : Str} {nx bk ct : St → Hp → Prop} {rt : VK} {sp : Sp} {r r' : R2} {b : Bool}
/-! fields -/
def kFld (K : PySem.W.Frag) (f : Str) (Q : VK) : VK := fun x H1 => ∃ a C dx fs v, x = .ref a ∧ H1 a = some (.ins C dx fs) ∧ Cls K C ∧ NoAttr K C f ∧ fs.lookup f = some v ∧ Q v H1
theorem r_fld (q : ta σ H (kFld K f Q)) : tFld K ta f σ H Q := q
theorem r_kFld (e : H a = some (.ins C dx fs)) (c : Cls K C) (n : NoAttr K C f) (l : fs.lookup f = some v) (q : Q v H) : kFld K f Q (.ref a) H := ⟨a, C, dx, fs, v, rfl, e, c, n, l, q⟩
def kSF (K : PySem.W.Frag) (f : Str) (y : V) (nx : St → Hp → Prop) (σ : St) : VK := fun x H2 => ∃ a C dx fs, x = .ref a ∧ H2 a = some (.ins C dx fs) ∧ Cls K C ∧ NoAttr K C f ∧ fs.length < 1000 ∧ nx σ (upd H2 a (.ins C dx (putF f y fs)))
theorem r_sfld (q : tv σ H fun y H1 => ta σ H1 (kSF K f y nx σ)) : sFld K ta tv f ⟨nx, rt, bk, ct⟩ σ H := q
theorem r_kSF (e : H a = some (.ins C dx fs)) (c : Cls K C) (n : NoAttr K C f) (l : fs.length < 1000) (q : ∀ H', Kp [a] H H' → H' a = some (.ins C dx (putF f y fs)) → nx σ H') : kSF K f y nx σ (.ref a) H :=
  ⟨a, C, dx, fs, rfl, e, c, n, l, q _ (Kp.put (by simp)) upd_same⟩
/-! methods, making -/
def kMeth (C : Addr) (m : Str) (sp : Sp) (t : TA) (σ : St) (Q : VK) : VK := fun x H1 => ∃ a dx fs, x = .ref a ∧ H1 a = some (.ins C dx fs) ∧ fs.lookup m = none ∧ t σ H1 fun vs H2 => sp (x :: vs) H2 Q E0
theorem r_methR (q : ta σ H (kMeth C m sp tr σ Q)) : tMethR C m sp E0 ta tr σ H Q := q
theorem r_kMeth (e : H a = some (.ins C dx fs)) (l : fs.lookup m = none) (q : tr σ H fun vs H2 => sp (.ref a :: vs) H2 Q E0) : kMeth C m sp tr σ Q (.ref a) H := ⟨a, dx, fs, rfl, e, l, q⟩
def kMade (x : Addr) (Q : VK) : VK := fun v H2 => v = .non ∧ Q (.ref x) H2
theorem r_kMade {p : Addr} (q : Q (.ref p) H) : kMade p Q .non H := ⟨rfl, q⟩
def kMake (C : Addr) (sp : Sp) (Q : VK) : List V → Hp → Prop := fun vs H1 => ∀ x dx, H1 x = none → H1 dx = none → dx ≠ x → sp (.ref x :: vs) (upd (upd H1 dx (.own x)) x (.ins C dx [])) (kMade x Q) E0
theorem r_makeR (q : tr σ H (kMake C sp Q)) : tMakeR C sp E0 tr σ H Q := q
theorem r_kMake {vs : List V} (q : ∀ a dx H', H a = none → Kp [] H H' → H' a = some (.ins C dx []) → sp (.ref a :: vs) H' (kMade a Q) E0) : kMake C sp Q vs H := fun a dx n n' d =>
  q a dx _ n ((Kp.new n').trans (Kp.new (by rw [upd_ne d.symm]; exact n))) upd_same
/-! a op b op c -/
def kCh (r' : R2) (y : V) (tc : TE) (σ : St) (Q : VK) : VK := fun z H3 => ∃ k, z = .bl k ∧ (if k = true then tc σ H3 fun w' H4 => r' y w' H4 Q else Q (.bl false) H3)
theorem r_chain (q : ta σ H fun x H1 => tb σ H1 fun y H2 => r x y H2 (kCh r' y tc σ Q)) : tChain r r' ta tb tc σ H Q := q
theorem r_kCh (h1 : b = true → tc σ H fun w' H4 => r' y w' H4 Q) (h2 : b = false → Q (.bl false) H) : kCh r' y tc σ Q (.bl b) H := by
  refine ⟨b, rfl, ?_⟩
  cases b
  · exact h2 rfl
  · exact h1 rfl
/-! text in text -/
def rInS : R2 := fun x y H Q => ∃ i j, x = .str i ∧ y = .str j ∧ Q (.bl (!(Builtin.Str.occurrences j i 0 j.length 1).isEmpty)) H
def rNinS : R2 := fun x y H Q => ∃ i j, x = .str i ∧ y = .str j ∧ Q (.bl (!(!(Builtin.Str.occurrences j i 0 j.length 1).isEmpty))) H
theorem op_inS {X : Cx} : OpR X (compareOp .In) rInS := op_in_str
theorem op_ninS {X : Cx} : OpR X (compareOp .NotIn) rNinS := op_notin_str
theorem r_inC {c : Nat} {z : Str} (q : Q (.bl (decide (c ∈ z.cps.toList))) H) : rInS (.str ⟨#[c]⟩) (.str z) H Q := by
  refine ⟨_, _, rfl, rfl, ?_⟩
  have e := StrLaws.found_one z c
  rw [show (!(Builtin.Str.occurrences z ⟨#[c]⟩ 0 z.length 1).isEmpty) = decide (c ∈ z.cps.toList) from e]
  exact q
theorem r_ninC {c : Nat} {z : Str} (q : Q (.bl (!decide (c ∈ z.cps.toList))) H) : rNinS (.str ⟨#[c]⟩) (.str z) H Q := by
  refine ⟨_, _, rfl, rfl, ?_⟩
  have e := StrLaws.found_one z c
  rw [show (!(Builtin.Str.occurrences z ⟨#[c]⟩ 0 z.length 1).isEmpty) = decide (c ∈ z.cps.toList) from e]
  exact q
/-! in a tuple of texts; all of truth values -/
theorem r_inT {z : Str} {ws : List Str} {p : Addr} (h : SqT K H p (ws.map V.str)) (q : Q (.bl (decide (z ∈ ws))) H) : rIn K false (.str z) (.ref p) H Q := by
  refine ⟨p, _, rfl, .inr h, rfl, flat_strs ws, ?_⟩
  show Q (.bl (inV (.str z) (ws.map V.str))) H
  rw [inV_strs]
  exact q
theorem r_ninT {z : Str} {ws : List Str} {p : Addr} (h : SqT K H p (ws.map V.str)) (q : Q (.bl (!decide (z ∈ ws))) H) : rIn K true (.str z) (.ref p) H Q := by
  refine ⟨p, _, rfl, .inr h, rfl, flat_strs ws, ?_⟩
  show Q (.bl (!inV (.str z) (ws.map V.str))) H
  rw [inV_strs]
  exact q
theorem r_all {bs : List Bool} {p : Addr} (h : SqL K H p (bs.map V.bl)) (q : Q (.bl (bs.all id)) H) : rAll K [.ref p] H Q := ⟨p, bs, rfl, h, q⟩
theorem r_any {bs : List Bool} {p : Addr} (h : SqL K H p (bs.map V.bl)) (q : Q (.bl (bs.any id)) H) : rAny K [.ref p] H Q := ⟨p, bs, rfl, h, q⟩
/-! two tuples, one behind the other -/
theorem r_catT {a b : Addr} {xs ys : List V} (ha : SqT K H a xs) (hb : SqT K H b ys) (hz : xs.length + ys.length ≤ sizeLine) (hy : ys ≠ []) (hx : xs = [] → Q (.ref b) H) (q : xs ≠ [] → ∀ p H', H p = none → Kp [] H H' → H' p = some (.tup (xs ++ ys)) → Q (.ref p) H') : rCatA K (.ref a) (.ref b) H Q :=
  ⟨a, b, xs, ys, rfl, rfl, ha, hb, hz, hx, fun _ e => absurd e hy, fun hx _ p n => q hx p _ n (Kp.new n) upd_same⟩
/-- the sum of two tuples, the second one not empty: some tuple -/
theorem r_catT' {a b : Addr} {xs ys : List V} (ha : SqT K H a xs) (hb : H b = some (.tup ys)) (hz : xs.length + ys.length ≤ sizeLine) (hy : ys ≠ []) (q : ∀ p H', Kp [] H H' → H' p = some (.tup (xs ++ ys)) → (p = b ∨ H p = none) → Q (.ref p) H') : rCatA K (.ref a) (.ref b) H Q := by
  refine r_catT ha (SqT.of hb) hz hy (fun e => ?_) fun _ p H' n k e => q p H' k e (.inr n)
  subst e
  exact q b H (Kp.refl _ _) hb (.inl rfl)
end

/-! `in`, len by own defs -/
def kOwnB (neg : Bool) (Q : VK) : VK := fun z H' => ∃ b, z = .bl b ∧ Q (.bl (b != neg)) H'
def rInOwn (C : Addr) (sp : Sp) (neg : Bool) : R2 := fun x y H Q => ∃ a dx fs, y = .ref a ∧ H a = some (.ins C dx fs) ∧ sp [.ref a, x] H (kOwnB neg Q) E0
def kOwnI (Q : VK) : VK := fun z H' => ∃ n : Int, z = .int n ∧ 0 ≤ n ∧ n < 2 ^ 63 ∧ Q (.int n) H'
def cLenOwn (C : Addr) (sp : Sp) : R1 := fun xs H Q => ∃ a dx fs, xs = [.ref a] ∧ H a = some (.ins C dx fs) ∧ sp [.ref a] H (kOwnI Q) E0
/-- x == y, both of the class at C -/
def rEqOwn (C : Addr) (sp : Sp) : R2 := fun x y H Q => ∃ a dx fs b dy gs, x = .ref a ∧ y = .ref b ∧ H a = some (.ins C dx fs) ∧ H b = some (.ins C dy gs) ∧ sp [.ref a, .ref b] H (fun z H' => ∃ c, z = .bl c ∧ Q (.bl c) H') E0
section
variable {X : Cx} {n : Nat} {C f : Addr} {sp : Sp}
theorem op_inOwn (hm : Meth X.K C "__contains__" f) (F : FnR X.prog X.w X.K X.mg X.base CX0 n f sp) (hr : Room n X.A) : OpR X (compareOp .In) (rInOwn C sp false) := by
  intro pins s σ H x y v u Q I rx ry h
  obtain ⟨a, dx, fs, rfl, ea, q⟩ := h
  cases (show u = Value.ref a from ry)
  obtain ⟨mA, O, _⟩ := ins_get I.hok ea
  obtain ⟨od, J, _⟩ := O.look
  obtain ⟨m, hF⟩ := I.fr
  refine PySem.W.in_K hF I.ok.mod.kin J hm.at_ hm.fn (wpAny_mono (wpAny_call (run_fnR (us := [.ref a, v]) (vs := [.ref a, x]) F hr pass0 I (.cons rfl (.cons rx .nil)) q)) (fun r s' z => ?_) fun _ _ x => x)
  obtain ⟨z', H', I', rz, b, rfl, qz⟩ := z
  cases (show r = Value.bool b from rz)
  refine wpAny_truthy_bool ⟨.bl b, H', I', rfl, ?_⟩
  have e : (b != false) = b := by cases b <;> rfl
  rw [e] at qz
  exact qz
theorem op_ninOwn (hm : Meth X.K C "__contains__" f) (F : FnR X.prog X.w X.K X.mg X.base CX0 n f sp) (hr : Room n X.A) : OpR X (compareOp .NotIn) (rInOwn C sp true) := by
  intro pins s σ H x y v u Q I rx ry h
  obtain ⟨a, dx, fs, rfl, ea, q⟩ := h
  cases (show u = Value.ref a from ry)
  obtain ⟨mA, O, _⟩ := ins_get I.hok ea
  obtain ⟨od, J, _⟩ := O.look
  obtain ⟨m, hF⟩ := I.fr
  refine PySem.W.notIn_K hF I.ok.mod.kin J hm.at_ hm.fn (wpAny_mono (wpAny_call (run_fnR (us := [.ref a, v]) (vs := [.ref a, x]) F hr pass0 I (.cons rfl (.cons rx .nil)) q)) (fun r s' z => ?_) fun _ _ x => x)
  obtain ⟨z', H', I', rz, b, rfl, qz⟩ := z
  cases (show r = Value.bool b from rz)
  refine wpAny_truthy_bool ⟨.bl (!b), H', I', rfl, ?_⟩
  have e : (b != true) = !b := by cases b <;> rfl
  rw [e] at qz
  exact qz
theorem cr_lenOwn (hm : Meth X.K C "__len__" f) (F : FnR X.prog X.w X.K X.mg X.base CX0 n f sp) (hr : Room (n + 1) X.A) : CallR X (.builtin "len") (cLenOwn C sp) := by
  intro pins s σ H xs us Q I r h
  obtain ⟨a, dx, fs, rfl, ea, q⟩ := h
  obtain ⟨u, rfl, ru⟩ := r.one
  cases (show u = Value.ref a from ru)
  obtain ⟨mA, O, _⟩ := ins_get I.hok ea
  obtain ⟨od, J, _⟩ := O.look
  obtain ⟨m, hF⟩ := I.fr
  refine PySem.W.len_K hF I.ok.mod.kin J hm.at_ hm.fn (wpAny_call (codeAny_mono (F X.A.in1 X.stack s H [.ref a] [.ref a] _ E0 hr.in1 I.env0.in1 (.cons rfl .nil) q) fun r s' z => ?_))
  cases r with
  | error e => exact False.elim z
  | ok fl =>
    cases fl with
    | ret u =>
      obtain ⟨z', H', I', rz, k, rfl, k0, k1, qz⟩ := I.after z
      obtain ⟨t, e⟩ := (show ∃ t, u = Value.int k t from rz)
      cases e
      exact ⟨⟨k0, k1⟩, .int k, H', I'.tok _, ⟨_, rfl⟩, qz⟩
    | next => exact False.elim z
    | brk => exact False.elim z
    | cont => exact False.elim z
theorem op_eqOwn (hm : Meth X.K C "__eq__" f) (F : FnR X.prog X.w X.K X.mg X.base CX0 n f sp) (hr : Room n X.A) : OpR X (compareOp .Eq) (rEqOwn C sp) := by
  intro pins s σ H x y v u Q I rx ry h
  obtain ⟨a, dx, fs, b, dy, gs, rfl, rfl, ea, eb, q⟩ := h
  cases (show v = Value.ref a from rx)
  cases (show u = Value.ref b from ry)
  obtain ⟨mA, O, _⟩ := ins_get I.hok ea
  obtain ⟨od, J, _⟩ := O.look
  obtain ⟨mB, O', _⟩ := ins_get I.hok eb
  obtain ⟨od', J', _⟩ := O'.look
  obtain ⟨m, hF⟩ := I.fr
  have nf : PySem.W.notFirst X.K C (.ref C) = true := by
    unfold PySem.W.notFirst
    simp
  refine PySem.W.cmp_K (op := .Eq) (tb := .ref C) hr.units0 hF I.ok.mod.kin J J'.type nf hm.at_ hm.fn ?_
  refine wpAny_mono (wpAny_call (run_fnR (us := [.ref a, .ref b]) (vs := [.ref a, .ref b]) F hr pass0 I (.cons rfl (.cons rfl .nil)) q)) (fun r s' z => ?_) fun _ _ x => x
  obtain ⟨z', H', I', rz, c, rfl, qz⟩ := z
  cases (show r = Value.bool c from rz)
  exact ⟨.bl c, H', I', rfl, qz⟩
end
section
variable {H : Hp} {Q : VK} {C a dx : Addr} {fs : List (Str × V)} {sp : Sp} {x : V} {neg b : Bool}
theorem r_inOwn (e : H a = some (.ins C dx fs)) (q : sp [.ref a, x] H (kOwnB neg Q) E0) : rInOwn C sp neg x (.ref a) H Q := ⟨a, dx, fs, rfl, e, q⟩
theorem r_kOwnB (q : Q (.bl (b != neg)) H) : kOwnB neg Q (.bl b) H := ⟨b, rfl, q⟩
end

/-! data of any kind: its type -/
def tyD : PyData → String
  | .none => "NoneType"
  | .bool _ => "bool"
  | .int _ => "int"
  | .str _ => "str"
  | .list _ => "list"
  | .tuple _ => "tuple"
  | .dict _ => "dict"
theorem Dt.tyx {K : PySem.W.Frag} {ex : List Addr} {H : Hp} {v : V} {d : PyData} (h : Dt ex H v d) : TyX K H v (.type (tyD d)) := by
  cases h with
  | non => exact .base .non
  | bl b => exact .base (.bl b)
  | int i => exact .base (.int i)
  | str x => exact .base (.str x)
  | lst _ e _ => exact .base (.lst e)
  | tup _ e _ => exact .base (.tup e)
def isStr : PyData → Bool
  | .str _ => true
  | _ => false
def isTup : PyData → Bool
  | .tuple _ => true
  | _ => false
def isLst : PyData → Bool
  | .list _ => true
  | _ => false
def isInt : PyData → Bool
  | .int _ => true
  | .bool _ => true
  | _ => false
def isBool : PyData → Bool
  | .bool _ => true
  | _ => false
theorem kit_D {n : String} {f : PyData → Bool} {d : PyData} (b0 b1 b2 b3 b4 b5 b6 : Bool) (h0 : kitB "NoneType" n = some b0) (h1 : kitB "bool" n = some b1) (h2 : kitB "int" n = some b2) (h3 : kitB "str" n = some b3) (h4 : kitB "list" n = some b4) (h5 : kitB "tuple" n = some b5) (h6 : kitB "dict" n = some b6)
    (e0 : f .none = b0) (e1 : ∀ b, f (.bool b) = b1) (e2 : ∀ b, f (.int b) = b2) (e3 : ∀ b, f (.str b) = b3) (e4 : ∀ b, f (.list b) = b4) (e5 : ∀ b, f (.tuple b) = b5) (e6 : ∀ b, f (.dict b) = b6) : kitB (tyD d) n = some (f d) := by
  cases d with
  | none => rw [e0]; exact h0
  | bool b => rw [e1]; exact h1
  | int b => rw [e2]; exact h2
  | str b => rw [e3]; exact h3
  | list b => rw [e4]; exact h4
  | tuple b => rw [e5]; exact h5
  | dict b => rw [e6]; exact h6
theorem kit_str (d : PyData) : kitB (tyD d) "str" = some (isStr d) :=
  kit_D false false false true false false false (by decide +kernel) (by decide +kernel) (by decide +kernel) (by decide +kernel) (by decide +kernel) (by decide +kernel) (by decide +kernel) rfl (fun _ => rfl) (fun _ => rfl) (fun _ => rfl) (fun _ => rfl) (fun _ => rfl) (fun _ => rfl)
theorem kit_tup (d : PyData) : kitB (tyD d) "tuple" = some (isTup d) :=
  kit_D false false false false false true false (by decide +kernel) (by decide +kernel) (by decide +kernel) (by decide +kernel) (by decide +kernel) (by decide +kernel) (by decide +kernel) rfl (fun _ => rfl) (fun _ => rfl) (fun _ => rfl) (fun _ => rfl) (fun _ => rfl) (fun _ => rfl)
theorem kit_lst (d : PyData) : kitB (tyD d) "list" = some (isLst d) :=
  kit_D false false false false true false false (by decide +kernel) (by decide +kernel) (by decide +kernel) (by decide +kernel) (by decide +kernel) (by decide +kernel) (by decide +kernel) rfl (fun _ => rfl) (fun _ => rfl) (fun _ => rfl) (fun _ => rfl) (fun _ => rfl) (fun _ => rfl)
theorem kit_int (d : PyData) : kitB (tyD d) "int" = some (isInt d) :=
  kit_D false true true false false false false (by decide +kernel) (by decide +kernel) (by decide +kernel) (by decide +kernel) (by decide +kernel) (by decide +kernel) (by decide +kernel) rfl (fun _ => rfl) (fun _ => rfl) (fun _ => rfl) (fun _ => rfl) (fun _ => rfl) (fun _ => rfl)
theorem kit_bool (d : PyData) : kitB (tyD d) "bool" = some (isBool d) :=
  kit_D false true false false false false false (by decide +kernel) (by decide +kernel) (by decide +kernel) (by decide +kernel) (by decide +kernel) (by decide +kernel) (by decide +kernel) rfl (fun _ => rfl) (fun _ => rfl) (fun _ => rfl) (fun _ => rfl) (fun _ => rfl) (fun _ => rfl)
section
variable {K : PySem.W.Frag} {ex : List Addr} {H : Hp} {Q : VK} {x : V} {d : PyData} {tp : Addr}
theorem r_isiStr (h : Dt ex H x d) (q : Q (.bl (isStr d)) H) : rIsi K [x, .ty "str"] H Q := r_isiTy h.tyx (kit_str d) q
theorem r_isiTup (h : Dt ex H x d) (q : Q (.bl (isTup d)) H) : rIsi K [x, .ty "tuple"] H Q := r_isiTy h.tyx (kit_tup d) q
theorem r_isiLst (h : Dt ex H x d) (q : Q (.bl (isLst d)) H) : rIsi K [x, .ty "list"] H Q := r_isiTy h.tyx (kit_lst d) q
theorem r_isiInt (h : Dt ex H x d) (q : Q (.bl (isInt d)) H) : rIsi K [x, .ty "int"] H Q := r_isiTy h.tyx (kit_int d) q
theorem r_isiBool (h : Dt ex H x d) (q : Q (.bl (isBool d)) H) : rIsi K [x, .ty "bool"] H Q := r_isiTy h.tyx (kit_bool d) q
theorem r_isiLT (h : Dt ex H x d) (e : H tp = some (.tup [.ty "list", .ty "tuple"])) (q : Q (.bl (isLst d || isTup d)) H) : rIsiT K [x, .ref tp] H Q := by
  refine ⟨x, tp, _, _, _, _, rfl, e, .cons (.ty "list") (.cons (.ty "tuple") .nil), h.tyx, ?_, q⟩
  refine kitAny_cons (kit_ty (kit_lst d)) (fun c => ?_) fun c => by rw [c]; rfl
  rw [c]
  refine kitAny_cons (kit_ty (kit_tup d)) (fun c => ?_) fun c => by rw [c]; rfl
  rw [c]
  rfl
end
mutual
theorem Dt.skip' {ex : List Addr} {H : Hp} {a : Addr} {o : HO} (e : H a = some o) (n1 : ∀ xs, o ≠ .lst xs) (n2 : ∀ xs, o ≠ .tup xs) : ∀ (d : PyData) (v : V), Dt ex H v d → Dt (a :: ex) H v d
  | .none, _, h => by cases h; exact .non
  | .bool b, _, h => by cases h; exact .bl b
  | .int i, _, h => by cases h; exact .int i
  | .str x, _, h => by cases h; exact .str x
  | .list ds, _, h => by
    cases h with
    | lst m e' al => exact .lst (fun z => (List.mem_cons.mp z).elim (fun q => n1 _ (Option.some.inj ((q ▸ e).symm.trans e'))) m) e' (DtAll.skip' e n1 n2 ds _ al)
  | .tuple ds, _, h => by
    cases h with
    | tup m e' al => exact .tup (fun z => (List.mem_cons.mp z).elim (fun q => n2 _ (Option.some.inj ((q ▸ e).symm.trans e'))) m) e' (DtAll.skip' e n1 n2 ds _ al)
  | .dict _, _, h => by cases h
theorem DtAll.skip' {ex : List Addr} {H : Hp} {a : Addr} {o : HO} (e : H a = some o) (n1 : ∀ xs, o ≠ .lst xs) (n2 : ∀ xs, o ≠ .tup xs) : ∀ (ds : List PyData) (vs : List V), DtAll ex H vs ds → DtAll (a :: ex) H vs ds
  | [], _, h => by cases h; exact .nil
  | d :: ds, _, h => by
    cases h with
    | cons h1 h2 => exact .cons (Dt.skip' e n1 n2 d _ h1) (DtAll.skip' e n1 n2 ds _ h2)
end
/-- nothing of the data lies where an object of another kind stands -/
theorem Dt.skip {ex : List Addr} {H : Hp} {a : Addr} {o : HO} {v : V} {d : PyData} (h : Dt ex H v d) (e : H a = some o) (n1 : ∀ xs, o ≠ .lst xs) (n2 : ∀ xs, o ≠ .tup xs) : Dt (a :: ex) H v d := Dt.skip' e n1 n2 d v h
theorem DtAll.skip {ex : List Addr} {H : Hp} {a : Addr} {o : HO} {vs : List V} {ds : List PyData} (h : DtAll ex H vs ds) (e : H a = some o) (n1 : ∀ xs, o ≠ .lst xs) (n2 : ∀ xs, o ≠ .tup xs) : DtAll (a :: ex) H vs ds := DtAll.skip' e n1 n2 ds vs h

theorem pe_globE {X : Cx} {x : Str} {v : V} {pos : Pos} (h : ∃ u, X.mg x = some u ∧ RelV v u) (hg : Gl X x) (hd : (x == ("__debug__" : Str)) = false := by decide) : PE X (.Name x pos) (tC v) := by
  obtain ⟨u, hm, r⟩ := h
  exact pe_glob hg hm r hd
/-! for over a list or a tuple -/
section
variable {σ : St} {H : Hp} {K : PySem.W.Frag} {xs : List V} {p : Addr} {g : TG} {tb : TS} {nx bk ct : St → Hp → Prop} {rt : VK}
theorem r_kForQ (Pv : Nat → St → Hp → Prop) (hq : Sq K H p xs) (h0 : Pv 0 σ H) (hl : ∀ i σ H', i ≤ xs.length → Pv i σ H' → ∃ ex, p ∉ ex ∧ Kp ex H H')
    (hs : ∀ (i : Nat) x σ H, xs[i]? = some x → Pv i σ H → g x σ H fun σ2 H2 => tb ⟨Pv (i + 1), rt, nx, Pv (i + 1)⟩ σ2 H2) (hd : ∀ σ H, Pv xs.length σ H → nx σ H) : cWQ K (kFor g tb ⟨nx, rt, bk, ct⟩ σ) (.ref p) H := by
  rcases hq with h | h
  · exact r_cWQl h (r_kForL Pv h0 (fun i σ H' hi q => let ⟨_, m, k⟩ := hl i σ H' hi q; sql_kp h k m) hs hd)
  · exact r_cWQt h (r_kForT Pv h0 (fun i σ H' hi q => let ⟨_, m, k⟩ := hl i σ H' hi q; sqt_kp h k m) hs hd)
end
/-! displays of data -/
def ED (te : TE) (σ : St) (H : Hp) (d : PyData) : Prop := ∀ Q : VK, (∀ x H', Kp [] H H' → Dt [] H' x d → Q x H') → te σ H Q
def AD (tr : TA) (σ : St) (H : Hp) (ds : List PyData) : Prop := ∀ QA : List V → Hp → Prop, (∀ xs H', Kp [] H H' → DtAll [] H' xs ds → QA xs H') → tr σ H QA
section
variable {σ : St} {H : Hp} {Q : VK} {d : PyData} {ds : List PyData} {te : TE} {tr : TA} {v : V} {i : Nat}
theorem r_ED (h : ED te σ H d) (q : ∀ x H', Kp [] H H' → Dt [] H' x d → Q x H') : te σ H Q := h Q q
theorem ED_c (h : Dt [] H v d) : ED (tC v) σ H d := fun _ q => q v H (Kp.refl _ _) h
theorem ED_var (e : σ[i]? = some (some v)) (h : Dt [] H v d) : ED (tVar i) σ H d := fun _ q => ⟨v, e, q v H (Kp.refl _ _) h⟩
theorem AD_nil : AD tNil σ H [] := fun _ q => q [] H (Kp.refl _ _) .nil
theorem AD_cons (h : ED te σ H d) (hr : ∀ H1, Kp [] H H1 → AD tr σ H1 ds) : AD (tCons te tr) σ H (d :: ds) := fun _ q =>
  h _ fun x H1 k1 h1 => hr H1 k1 _ fun xs H2 k2 h2 => q (x :: xs) H2 (k1.trans k2) (.cons (h1.mono k2) h2)
theorem ED_tup (h : AD tr σ H ds) (hl : ds.length ≤ sizeLine) : ED (tTup tr) σ H (.tuple ds) := fun _ q =>
  h _ fun xs H1 k1 h1 => ⟨h1.length ▸ hl, fun p n => q (.ref p) _ (k1.trans (Kp.new n)) (.tup not_nil upd_same (h1.mono (Kp.new n)))⟩
theorem ED_lst (h : AD tr σ H ds) (hl : ds.length ≤ sizeLine) : ED (tLst tr) σ H (.list ds) := fun _ q =>
  h _ fun xs H1 k1 h1 => ⟨h1.length ▸ hl, fun p n => q (.ref p) _ (k1.trans (Kp.new n)) (.lst not_nil upd_same (h1.mono (Kp.new n)))⟩
theorem r_neB {a b : Bool} (q : Q (.bl (!decide (a = b))) H) : rNe (.bl a) (.bl b) H Q := by
  refine ⟨rfl, ?_⟩
  have e : decide (V.bl a = V.bl b) = decide (a = b) := by cases a <;> cases b <;> rfl
  rw [e]
  exact q
theorem r_eqB {a b : Bool} (q : Q (.bl (decide (a = b))) H) : rEq (.bl a) (.bl b) H Q := by
  refine ⟨rfl, ?_⟩
  have e : decide (V.bl a = V.bl b) = decide (a = b) := by cases a <;> cases b <;> rfl
  rw [e]
  exact q
theorem idx_in {i : Int} {n : Nat} (h0 : 0 ≤ i) (h1 : i < n) : seqIndex? i n = some i.toNat := by
  unfold seqIndex?
  have e : ¬ i < 0 := by omega
  simp [e, h0, h1]
theorem r_popAt {l : Addr} {xs : List V} {i : Int} {y : V} (e : H l = some (.lst xs)) (h0 : 0 ≤ i) (h1 : i < (xs.length : Int)) (h2 : xs.length < 2 ^ 62) (hy : xs[i.toNat]? = some y) (q : ∀ H', Kp [l] H H' → H' l = some (.lst (xs.eraseIdx i.toNat)) → Q y H') : rPopAt (.ref l) [.int i] H Q :=
  ⟨l, xs, i, i.toNat, y, rfl, rfl, e, by omega, by omega, idx_in h0 h1, hy, q _ (Kp.put (by simp)) upd_same⟩
theorem r_cat {l b : Addr} {xs zs : List V} (e : H l = some (.lst xs)) (e' : H b = some (.lst zs)) (hz : xs.length + zs.length ≤ sizeLine) (q : ∀ p H', H p = none → Kp [] H H' → H' p = some (.lst (xs ++ zs)) → Q (.ref p) H') : rCat (.ref l) (.ref b) H Q :=
  ⟨l, b, xs, zs, rfl, rfl, e, e', hz, fun p n => q p _ n (Kp.new n) upd_same⟩
end
end Rd

set_option maxHeartbeats 4000000
/-! EnT: enumerate(tuple); for over enumerate of a list or a tuple. -/
namespace PySem
theorem enum_new1 {v : Value} {o : Obj} {Hh : Heap → Prop} (B : Begins v o Hh) : Meets (Builtin.«enumerate.__new__» ⟨[.type "enumerate", v], []⟩) (fun _ R s => Hh s.heap ∧
    R (.ok (.ret (.ref (s.heap.push o).objs.size))) { s with heap := (s.heap.push o).push { cls := .type "enumerate", data := .fields #[.none, .bool false, .ref s.heap.objs.size, rawInt 0, .none, .none] } }) :=
  .of_wp fun prog w A R s hB => by
    obtain ⟨hp, g, d, tk, os⟩ := s
    obtain ⟨h1, hB⟩ := hB
    have esub := sub_enumerate
    have start : ∀ {A' : Around} {E : Value → Shared → Prop} {Q : Value → Shared → Prop}, Q (.ref hp.objs.size) ⟨hp.push o, g, d, tk, os⟩ → wpAny (model prog w) A' (pyIter v) Q E ⟨hp, g, d, tk, os⟩ := fun z => B.iter prog w _ _ ⟨hp, g, d, tk, os⟩ _ h1 z
    wp_walk using start
    refine wpAny_stack_any fun st => wpAny_pure ?_
    split
    · rename_i c _ _ _ _ _
      cases (c == Value.type "enumerate") <;> (wp_walk using start; exact ⟨_, rfl, hB⟩)
    · wp_walk using start
      exact ⟨_, rfl, hB⟩
section
variable {prog : Program} {w : World} {A : Around} {E : Value → Shared → Prop} {s : Shared}
theorem enum_starts {v : Value} {o : Obj} {Hh : Heap → Prop} {Q : Value → Shared → Prop} (B : Begins v o Hh) (h1 : Hh s.heap)
    (q : ∀ h', IsEnum h' (s.heap.objs.size + 1) s.heap.objs.size 0 .none → h'.get? s.heap.objs.size = some o → (∀ b u, s.heap.get? b = some u → h'.get? b = some u) → Q (.ref (s.heap.objs.size + 1)) { s with heap := h' }) :
    wpAny (model prog w) A (call (.type "enumerate") [v]) Q E s := by
  refine callType_new F.called_enumerate (by decide) (F.typeCall_enumerate_1 _) (F.newCall_enumerate_1 _) (fun obj => F.args_object_init_2 obj _) F.entry_enumerate_new (enum_new1 B) ⟨h1, ?_⟩
  have hz : (s.heap.push o).objs.size = s.heap.objs.size + 1 := Heap.size_push _ _
  have he := Heap.get?_push_size (s.heap.push o) (o := { cls := .type "enumerate", data := .fields #[.none, .bool false, .ref s.heap.objs.size, rawInt 0, .none, .none] }) rfl
  show _ ∧ _
  rw [hz] at he ⊢
  exact ⟨⟨_, he, rfl⟩, q _ he (Heap.get?_push_of_some _ (Heap.get?_push_size _ B.free)) fun b u x => Heap.get?_push_of_some _ (Heap.get?_push_of_some _ x)⟩
end
end PySem
namespace Rd
open PySem PySem.Spec PyProof.Rows L2
/-- the tuple at a, each item in a new pair with its place -/
def Iet (K : PySem.W.Frag) (a : Addr) : It :=
  ⟨fun i H => ∃ (xs : List V) (x : V), SqT K H a xs ∧ xs[i]? = some x, fun i H v H' => ∃ T x, v = .ref T ∧ H T = none ∧ H' = upd H T (.tup [.int (i : Nat), x]) ∧ ∀ xs, SqT K H a xs → xs[i]? = some x, fun i H => ∃ xs : List V, SqT K H a xs ∧ xs.length ≤ i⟩
theorem turn_et {P : Program} {w : World} {K : PySem.W.Frag} {elts : List Expr} {kk : Nat} {tpos : Pos} (a e it : Addr) (ha : a ≠ it) (hae : e ≠ a) :
    Turn P w K (.Tuple elts kk tpos) (Iet K a) [e, it] e (fun i h => (∃ old, IsEnum h e it ((i : Nat) : Int) old) ∧ h.IsTupleIter it a i ∧ e ≠ it) := by
  have two : ∀ {b : Addr}, b ∈ [e, it] → b = e ∨ b = it := fun {b} hb => by simpa using hb
  refine ⟨by simp, fun i h st b hb => ?_, fun i h h' st k => ?_, ?_, ?_, fun A i s Q E st q => ?_⟩
  · obtain ⟨⟨old, he⟩, ⟨o, ho, hc, hd⟩, _⟩ := st
    rcases two hb with rfl | rfl
    · exact ⟨_, he, fun v z => nomatch z⟩
    · exact ⟨o, ho, fun v z => by rw [hd] at z; cases z⟩
  · obtain ⟨⟨old, he⟩, hi, hne⟩ := st
    exact ⟨⟨old, k e (by simp) _ he⟩, hi.at fun o z => k it (by simp) o z, hne⟩
  · intro X hP hw hK hc i pins s σ H E I hf st hg
    subst hP hw hK
    obtain ⟨⟨old, he⟩, hit, hne⟩ := st
    obtain ⟨xs, x, hq, hx⟩ := hg
    obtain ⟨its, rv, p, _⟩ := I.tuple hq
    obtain ⟨u, hu, ru⟩ := rv.get hx
    have big : e < s.heap.objs.size ∧ it < s.heap.objs.size := ⟨Heap.lt_size he, by obtain ⟨_, z, _⟩ := hit; exact Heap.lt_size z⟩
    have hi : i < its.toArray.size := by
      have := (List.getElem?_eq_some_iff.mp hu).1
      simpa using this
    refine wpAny_pyNext_enum_itemC (Draws.tuple (A := X.A.in1) (I.ok.hd hc) it a ha its.toArray) he ⟨hit, p⟩ hi hne (by simp [hne, hae]) fun y h1 tk hy ho hst hT hsz hk => ?_
    have ey : y = u := by
      have hy : its.toArray[i]? = some y := hy
      rw [List.getElem?_toArray, hu] at hy
      exact (Option.some.inj hy).symm
    subst ey
    refine ⟨_, rfl, wpAny_letOwnedTupleGo_enum (s := { s with heap := h1, toks := tk + 1 }) ho fun h2 he2 sb => ?_⟩
    have hT2 := (sb.2 _ (Nat.ne_of_gt big.1)).trans hT
    have new : ObjOk X.prog X.w (upd H s.heap.objs.size (.tup [.int (i : Nat), x])) h2 s.heap.objs.size (.tup [.int (i : Nat), x]) := ⟨by show 2 ≤ sizeLine; decide, [.int i tk, y], .cons ⟨_, rfl⟩ (.cons ru .nil), ⟨_, hT2, rfl, _, rfl⟩⟩
    have I1 : Inv X pins σ (upd H s.heap.objs.size (.tup [.int (i : Nat), x])) { s with heap := h2, toks := tk + 1 } :=
      I.turnedNew (ch := [e, it]) (fun b ob hb z => (sb.2 b (fun w => hb (by simp [w]))).trans (hk b ob (fun w => hb (by simp [w])) (fun w => hb (by simp [w])) z)) hf (Nat.le_refl _) new
    refine ⟨.ref s.heap.objs.size, _, I1, rfl, ⟨_, x, rfl, I.hok.fresh (Nat.le_refl _), rfl, fun ys hy => ?_⟩, ⟨⟨y, ?_⟩, hst.1.at fun o z => (sb.2 it (Ne.symm hne)).trans z, hne⟩, fun b hb => ?_⟩
    · rw [I.tuple_inj hy hq]
      exact hx
    · have e1 : ((i + 1 : Nat) : Int) = (i : Int) + 1 := by omega
      rw [e1]
      exact he2
    · have hb' : b < s.heap.objs.size := (two hb).elim (fun z => z ▸ big.1) fun z => z ▸ big.2
      rw [upd_ne (Nat.ne_of_lt hb')]
      exact (hf b hb).1
  · intro X hP hw hK hc i pins s σ H E I hf st hg
    subst hP hw hK
    obtain ⟨⟨old, he⟩, hit, hne⟩ := st
    obtain ⟨xs, hq, hx⟩ := hg
    obtain ⟨its, rv, p, _⟩ := I.tuple hq
    have hl := rv.length
    have D : Draws X.prog X.w X.A.in1 it [it, a] i (fun _ _ => True) (fun j h => j = i ∧ h.IsTupleIter it a i ∧ h.IsTuple a its.toArray) :=
      ⟨fun _ _ st => let ⟨o, ho, _⟩ := st.2.1; ⟨o, ho⟩, fun _ _ _ st hk => ⟨st.1, st.2.1.at fun o z => hk it (by simp) o z, st.2.2.at fun o z => hk a (by simp) o z⟩, fun j _ _ _ hj st _ => absurd st.1 (Nat.ne_of_lt hj),
        fun s Q E st hE => wpAny_nextOf_tuple_end (A := X.A.in1) (I.ok.hd hc) st.2.1 st.2.2 (by simp; omega) hE⟩
    obtain ⟨f0, f1, f2, f3, f4, f5⟩ := hf it (by simp)
    exact wpAny_pyNext_enum_endD D he ⟨rfl, hit, p⟩ fun h' eb => ⟨rfl, I.turned (t' := s.toks) (fun b o hb z => eb b o hb z) f0 f1 f3 f4 f5⟩
  · obtain ⟨⟨_, he⟩, _⟩ := st
    exact wpAny_pyIter_enum he q
def iEnumQ (K : PySem.W.Frag) (ta : TA) : TI := fun σ H R => ta σ H fun vs H1 => ∃ a, vs = [.ref a] ∧ (((∃ xs, SqL K H1 a xs) ∧ R (Ite K a) H1) ∨ ((∃ xs, SqT K H1 a xs) ∧ R (Iet K a) H1))
theorem K_enumQ {X : Cx} {K : PySem.W.Frag} (hK : X.K = K) {e : Expr} {ta : TA} {p pos tpos : Pos} {elts : List Expr} {kk : Nat} (hg : Gl X "enumerate") (hm : X.mg "enumerate" = none) (ha : PA X [e] ta) (hs : starEach [e] X.env = [(false, eval e X.env)] := by rfl) :
    PI X (.Tuple elts kk tpos) (.Call (.Name "enumerate" p) [e] [] pos) (iEnumQ K ta) := by
  subst hK
  constructor
  intro pins s σ H R I h
  refine Call_ (ld_blt I hg hm boot_enumerate (PyProof.Rows.callWith_type1 (thn (ha.run pos pins s σ H _ I h) fun us s1 ⟨vs, H1, I1, r1, q1⟩ => ?_) hs rfl))
  obtain ⟨a, rfl, q1⟩ := q1
  obtain ⟨u, rfl, ru⟩ := r1.one
  cases (show u = Value.ref a from ru)
  have fresh : ∀ b ∈ [s1.heap.objs.size + 1, s1.heap.objs.size], FpOk X pins H1 b := fun b m => by
    have le : s1.heap.objs.size ≤ b := by
      rcases List.mem_cons.mp m with z | z
      · omega
      · rw [List.mem_singleton.mp z]
        exact Nat.le_refl _
    exact I1.fpOk le (I1.hok.fresh le)
  rcases q1 with ⟨⟨xs, hq⟩, q⟩ | ⟨⟨xs, hq⟩, q⟩
  · obtain ⟨its, rv, pl, _⟩ := I1.list hq
    exact call_enumerate_list pl.isList fun h' he hit _ hk => wpAny_pyIter_enum he ⟨_, _, _, _, H1, rfl, I1.kept (t' := s1.toks) hk, turn_enum a _ _, ⟨⟨.none, he⟩, hit, Nat.succ_ne_self _⟩, fresh, q⟩
  · obtain ⟨its, rv, pl, _⟩ := I1.tuple hq
    have la : a < s1.heap.objs.size := by
      obtain ⟨o, ho, _⟩ := pl
      exact Heap.lt_size ho
    exact enum_starts (begins_tuple a its.toArray) pl fun h' he ho hk => wpAny_pyIter_enum he ⟨_, _, _, _, H1, rfl, I1.kept (t' := s1.toks) hk, turn_et a _ _ (Nat.ne_of_lt la) (Nat.ne_of_gt (Nat.lt_succ_of_lt la)), ⟨⟨.none, he⟩, ⟨_, ho, rfl, rfl⟩, Nat.succ_ne_self _⟩, fresh, q⟩
def cEnumQ (K : PySem.W.Frag) (R : It → Hp → Prop) : List V → Hp → Prop := fun vs H1 => ∃ a, vs = [.ref a] ∧ (((∃ xs, SqL K H1 a xs) ∧ R (Ite K a) H1) ∨ ((∃ xs, SqT K H1 a xs) ∧ R (Iet K a) H1))
section
variable {σ : L2.St} {H : Hp} {K : PySem.W.Frag} {tr : TA} {R : It → Hp → Prop} {xs : List V} {p a : Addr} {g : TG} {tb : TS} {nx bk ct : L2.St → Hp → Prop} {rt : VK}
theorem r_enumQ (q : tr σ H (cEnumQ K R)) : iEnumQ K tr σ H R := q
theorem walk_et : Walk (Iet K a) xs.length (fun H => SqT K H a xs) (YPair (fun i => some (.int (i : Nat))) (fun i => xs[i]?)) := by
  refine ⟨fun i _ hi q => ⟨xs, xs[i], q, List.getElem?_eq_getElem hi⟩, fun _ q => ⟨xs, q, Nat.le_refl _⟩, fun i H v H' _ q ⟨T, x, h1, h2, h3, h4⟩ => ⟨T, .int (i : Nat), x, h1, h2, h3, rfl, h4 xs q⟩⟩
theorem r_kForE (Pv : Nat → L2.St → Hp → Prop) (hq : Sq K H p xs) (h0 : Pv 0 σ H) (hl : ∀ i σ H', i ≤ xs.length → Pv i σ H' → ∃ ex, p ∉ ex ∧ Kp ex H H')
    (hs : ∀ (i : Nat) x t σ H H', xs[i]? = some x → Pv i σ H → H t = none → Kp [] H H' → H' t = some (.tup [.int (i : Int), x]) → g (.ref t) σ H' fun σ2 H2 => tb ⟨Pv (i + 1), rt, nx, Pv (i + 1)⟩ σ2 H2) (hd : ∀ σ H, Pv xs.length σ H → nx σ H) :
    cEnumQ K (kFor g tb ⟨nx, rt, bk, ct⟩ σ) [.ref p] H := by
  have step : ∀ (i : Nat) x σ H H', i < xs.length → Pv i σ H → YPair (fun i => some (.int (i : Nat))) (fun i => xs[i]?) i H x H' → g x σ H' fun σ2 H2 => tb ⟨Pv (i + 1), rt, nx, Pv (i + 1)⟩ σ2 H2 := by
    rintro i x σ H H' hi hp ⟨t, u, v, rfl, nt, rfl, hu, hx⟩
    cases hu
    exact hs i v t σ H _ hx hp nt (Kp.new nt) upd_same
  rcases hq with h | h
  · exact ⟨p, rfl, .inl ⟨⟨xs, h⟩, r_kFor walk_enum Pv h0 (fun i σ H' hi q => let ⟨_, m, k⟩ := hl i σ H' hi q; sql_kp h k m) step hd⟩⟩
  · exact ⟨p, rfl, .inr ⟨⟨xs, h⟩, r_kFor walk_et Pv h0 (fun i σ H' hi q => let ⟨_, m, k⟩ := hl i σ H' hi q; sqt_kp h k m) step hd⟩⟩
end
end Rd

set_option maxHeartbeats 4000000
/-! New: data laid since a heap. -/
namespace Rd
open PySem PySem.Spec L2
/-- what is allocated -/
def Has (H : Hp) (b : Addr) : Prop := ∃ o, H b = some o
/-- x is the data d in H', laid since H (scalars, or new objects only) -/
def New (H H' : Hp) (x : V) (d : PyData) : Prop := ∀ ex, (∀ b ∈ ex, Has H b) → Dt ex H' x d
def NewAll (H H' : Hp) (xs : List V) (ds : List PyData) : Prop := ∀ ex, (∀ b ∈ ex, Has H b) → DtAll ex H' xs ds
theorem Has.kp {H H' : Hp} {b : Addr} (h : Has H b) (k : Kp [] H H') : Has H' b := let ⟨o, e⟩ := h; ⟨o, k _ _ e not_nil⟩
theorem New.mono {H H' H'' : Hp} {x : V} {d : PyData} (h : New H H' x d) (k : Kp [] H' H'') : New H H'' x d := fun ex e => (h ex e).mono k.nil
theorem NewAll.mono {H H' H'' : Hp} {x : List V} {d : List PyData} (h : NewAll H H' x d) (k : Kp [] H' H'') : NewAll H H'' x d := fun ex e => (h ex e).mono k.nil
theorem New.mono1 {H H' H'' : Hp} {x : V} {d : PyData} {p : Addr} (h : New H H' x d) (hp : Has H p) (k : Kp [p] H' H'') : New H H'' x d := fun ex e =>
  ((h (p :: ex) fun b m => (List.mem_cons.mp m).elim (fun z => z ▸ hp) (e b)).mono (k.mono fun b m => List.mem_cons.mpr (.inl (List.mem_singleton.mp m)))).less fun _ m => List.mem_cons_of_mem _ m
theorem NewAll.mono1 {H H' H'' : Hp} {x : List V} {d : List PyData} {p : Addr} (h : NewAll H H' x d) (hp : Has H p) (k : Kp [p] H' H'') : NewAll H H'' x d := fun ex e =>
  ((h (p :: ex) fun b m => (List.mem_cons.mp m).elim (fun z => z ▸ hp) (e b)).mono (k.mono fun b m => List.mem_cons.mpr (.inl (List.mem_singleton.mp m)))).less fun _ m => List.mem_cons_of_mem _ m
theorem New.back {H H1 H' : Hp} {x : V} {d : PyData} (h : New H1 H' x d) (a : ∀ b, Has H b → Has H1 b) : New H H' x d := fun ex e => h ex fun b m => a b (e b m)
theorem NewAll.back {H H1 H' : Hp} {x : List V} {d : List PyData} (h : NewAll H1 H' x d) (a : ∀ b, Has H b → Has H1 b) : NewAll H H' x d := fun ex e => h ex fun b m => a b (e b m)
theorem New.dt {H H' : Hp} {x : V} {d : PyData} (h : New H H' x d) : Dt [] H' x d := h [] fun _ m => nomatch m
theorem NewAll.dt {H H' : Hp} {x : List V} {d : List PyData} (h : NewAll H H' x d) : DtAll [] H' x d := h [] fun _ m => nomatch m
theorem DtAll.mem {ex : List Addr} {H : Hp} : ∀ {vs : List V} {ds : List PyData} {i : Nat} {v : V}, DtAll ex H vs ds → vs[i]? = some v → ∃ d, ds[i]? = some d := fun h e => let ⟨d, hd, _⟩ := h.at e; ⟨d, hd⟩
theorem NewAll.mem {H H' : Hp} {xs : List V} {ds : List PyData} {v : V} (h : NewAll H H' xs ds) (m : v ∈ xs) : ∃ d ∈ ds, New H H' v d := by
  obtain ⟨i, e⟩ := List.mem_iff_getElem?.mp m
  obtain ⟨d, hd, _⟩ := h.dt.at e
  refine ⟨d, List.mem_of_getElem? hd, fun ex he => ?_⟩
  obtain ⟨d', hd', q⟩ := (h ex he).at e
  rw [hd] at hd'
  cases hd'
  exact q
theorem NewAll.cons {H H' : Hp} {v : V} {vs : List V} {d : PyData} {ds : List PyData} (h : New H H' v d) (t : NewAll H H' vs ds) : NewAll H H' (v :: vs) (d :: ds) := fun ex e => .cons (h ex e) (t ex e)
theorem New.tup {H H1 H' : Hp} {p : Addr} {xs : List V} {ds : List PyData} (h : NewAll H H' xs ds) (n : H1 p = none) (a : ∀ b, Has H b → Has H1 b) (e : H' p = some (.tup xs)) : New H H' (.ref p) (.tuple ds) := fun ex he =>
  .tup (fun m => by
    obtain ⟨o, ho⟩ := a p (he p m)
    rw [n] at ho
    cases ho) e (h ex he)
theorem New.lst {H H1 H' : Hp} {p : Addr} {xs : List V} {ds : List PyData} (h : NewAll H H' xs ds) (n : H1 p = none) (a : ∀ b, Has H b → Has H1 b) (e : H' p = some (.lst xs)) : New H H' (.ref p) (.list ds) := fun ex he =>
  .lst (fun m => by
    obtain ⟨o, ho⟩ := a p (he p m)
    rw [n] at ho
    cases ho) e (h ex he)
/-! displays of new data -/
def EN (te : TE) (σ : St) (H : Hp) (d : PyData) : Prop := ∀ Q : VK, (∀ x H', Kp [] H H' → New H H' x d → Q x H') → te σ H Q
def AN (tr : TA) (σ : St) (H : Hp) (ds : List PyData) : Prop := ∀ QA : List V → Hp → Prop, (∀ xs H', Kp [] H H' → NewAll H H' xs ds → QA xs H') → tr σ H QA
section
variable {σ : St} {H : Hp} {Q : VK} {QA : List V → Hp → Prop} {d : PyData} {ds : List PyData} {te : TE} {tr : TA} {v : V} {i : Nat}
theorem r_EN (h : EN te σ H d) (q : ∀ x H', Kp [] H H' → New H H' x d → Q x H') : te σ H Q := h Q q
theorem r_AN (h : AN tr σ H ds) (q : ∀ xs H', Kp [] H H' → NewAll H H' xs ds → QA xs H') : tr σ H QA := h QA q
theorem EN_c (h : ∀ ex, Dt ex H v d) : EN (tC v) σ H d := fun _ q => q v H (Kp.refl _ _) fun ex _ => h ex
theorem EN_var (e : σ[i]? = some (some v)) (h : ∀ ex, Dt ex H v d) : EN (tVar i) σ H d := fun _ q => ⟨v, e, q v H (Kp.refl _ _) fun ex _ => h ex⟩
theorem AN_nil : AN tNil σ H [] := fun _ q => q [] H (Kp.refl _ _) fun _ _ => .nil
theorem AN_cons (h : EN te σ H d) (hr : ∀ H1, Kp [] H H1 → AN tr σ H1 ds) : AN (tCons te tr) σ H (d :: ds) := fun _ q =>
  h _ fun x H1 k1 h1 => hr H1 k1 _ fun xs H2 k2 h2 => q (x :: xs) H2 (k1.trans k2) (.cons (h1.mono k2) (h2.back fun _ a => a.kp k1))
theorem EN_tup (h : AN tr σ H ds) (hl : ds.length ≤ sizeLine) : EN (tTup tr) σ H (.tuple ds) := fun _ q =>
  h _ fun xs H1 k1 h1 => ⟨h1.dt.length ▸ hl, fun p n => q (.ref p) _ (k1.trans (Kp.new n)) (New.tup (h1.mono (Kp.new n)) n (fun _ a => a.kp k1) upd_same)⟩
theorem EN_lst (h : AN tr σ H ds) (hl : ds.length ≤ sizeLine) : EN (tLst tr) σ H (.list ds) := fun _ q =>
  h _ fun xs H1 k1 h1 => ⟨h1.dt.length ▸ hl, fun p n => q (.ref p) _ (k1.trans (Kp.new n)) (New.lst (h1.mono (Kp.new n)) n (fun _ a => a.kp k1) upd_same)⟩
end
/-! is None -/
def rIsNo : R2 := fun x y H Q => y = .non ∧ Q (.bl (decide (x = .non))) H
def rNotNo : R2 := fun x y H Q => y = .non ∧ Q (.bl (!decide (x = .non))) H
theorem op_isNo {X : Cx} : OpR X (compareOp .Is) rIsNo := op_isN
theorem op_notNo {X : Cx} : OpR X (compareOp .IsNot) rNotNo := op_notN
theorem r_isNo {x : V} {H : Hp} {Q : VK} (q : Q (.bl (decide (x = .non))) H) : rIsNo x .non H Q := ⟨rfl, q⟩
theorem r_notNo {x : V} {H : Hp} {Q : VK} (q : Q (.bl (!decide (x = .non))) H) : rNotNo x .non H Q := ⟨rfl, q⟩
end Rd

set_option maxHeartbeats 4000000
/-! Sl: slices of lists and tuples as rules. -/
namespace Rd
open PySem L2 StX
section
variable {σ : St} {H : Hp} {Q : VK} {te : TE} {tl th : TO} {K : PySem.W.Frag} {p : Addr} {xs : List V} {r : V → Option Int → Option Int → Hp → VK → Prop} {R : Option Int → Hp → Prop} {x : V} {l u : Option Int}
def kS1 (r : V → Option Int → Option Int → Hp → VK → Prop) (tl th : TO) (σ : St) (Q : VK) : VK := fun x H1 => tl σ H1 fun l H2 => th σ H2 fun u H3 => r x l u H3 Q
def kS2 (r : V → Option Int → Option Int → Hp → VK → Prop) (th : TO) (σ : St) (Q : VK) (x : V) : Option Int → Hp → Prop := fun l H2 => th σ H2 fun u H3 => r x l u H3 Q
def kS3 (r : V → Option Int → Option Int → Hp → VK → Prop) (Q : VK) (x : V) (l : Option Int) : Option Int → Hp → Prop := fun u H3 => r x l u H3 Q
def kPart (R : Option Int → Hp → Prop) : VK := fun x H1 => ∃ i, x = .int i ∧ R (some i) H1
theorem r_sl (q : te σ H (kS1 r tl th σ Q)) : tSl r te tl th σ H Q := q
theorem r_kS1 (q : tl σ H (kS2 r th σ Q x)) : kS1 r tl th σ Q x H := q
theorem r_kS2 (q : th σ H (kS3 r Q x l)) : kS2 r th σ Q x l H := q
theorem r_kS3 (q : r x l u H Q) : kS3 r Q x l u H := q
theorem r_noPart (q : R none H) : tNoPart σ H R := q
theorem r_part (q : te σ H (kPart R)) : tPart te σ H R := q
theorem r_kPart {i : Int} (q : R (some i) H) : kPart R (.int i) H := ⟨i, rfl, q⟩
theorem r_slL (h : SqL K H p xs) (q : ∀ b H', H b = none → Kp [] H H' → H' b = some (.lst (cutV xs l u)) → Q (.ref b) H') : rSlL K (.ref p) l u H Q := ⟨p, xs, rfl, h, fun b n => q b _ n (Kp.new n) upd_same⟩
theorem r_slT (h : SqT K H p xs) (hw : ¬ (HT.sIx xs.length 0 l = 0 ∧ HT.sIx xs.length xs.length u = xs.length)) (q : ∀ b H', H b = none → Kp [] H H' → H' b = some (.tup (cutV xs l u)) → Q (.ref b) H') : rSlT K (.ref p) l u H Q := ⟨p, xs, rfl, h, hw, fun b n => q b _ n (Kp.new n) upd_same⟩
theorem cut_to (n : Nat) : cutV xs none (some (n : Int)) = xs.take n := by
  unfold cutV
  rw [HT.sIx_nat, HT.sIx_none, List.drop_zero, Nat.sub_zero]
  by_cases h : n ≤ xs.length
  · rw [Nat.min_eq_left h]
  · rw [Nat.min_eq_right (by omega), List.take_length, List.take_of_length_le (by omega)]
theorem cut_from (n : Nat) : cutV xs (some (n : Int)) none = xs.drop n := by
  unfold cutV
  rw [HT.sIx_nat, HT.sIx_none]
  by_cases h : n ≤ xs.length
  · rw [Nat.min_eq_left h, List.take_of_length_le (by rw [List.length_drop]; omega)]
  · rw [Nat.min_eq_right (by omega), List.drop_length, List.take_nil, List.drop_eq_nil_of_le (show xs.length ≤ n by omega)]
theorem cut_last : cutV xs none (some (-1)) = xs.take (xs.length - 1) := by
  have e : HT.sIx xs.length xs.length (some (-1)) = xs.length - 1 := by
    show (if (-1 : Int) < 0 then ((-1 : Int) + (xs.length : Int)).toNat else min ((-1 : Int).toNat) xs.length) = xs.length - 1
    rw [if_pos (by decide)]
    omega
  unfold cutV
  rw [e, HT.sIx_none, List.drop_zero, Nat.sub_zero]
theorem atI_last {α : Type} {l : List α} {v : α} (h : l[l.length - 1]? = some v) : atI l (-1) = some v := by
  have hl : l.length - 1 < l.length := (List.getElem?_eq_some_iff.mp h).1
  have e : ixN l.length (-1) = some (l.length - 1) := by
    unfold ixN
    rw [if_neg (by omega), if_pos (by omega)]
    have : ((-1 : Int) + (l.length : Int)).toNat = l.length - 1 := by omega
    rw [this]
  unfold atI
  rw [e]
  exact h
end
end Rd

set_option maxHeartbeats 4000000
/-! TupIt: iter(t) of a tuple: the iterator as an object of the heap. -/
namespace Rd
open PySem PySem.Spec L2 StX PyProof.Rows
def tiObj (t : Addr) : Obj := { cls := .type "tuple_iterator", data := .fields #[.ref t, .int 0 0] }
/-- at it an iterator over the tuple at t, i turns done -/
def TiO (t it : Addr) (i : Nat) : HO := .ext fun h => h.IsTupleIter it t i
section
variable {prog : Program} {w : World} {A : Around} {E : Value → Shared → Prop} {s : Shared} {t it : Addr}
theorem call_iter_tup {items : Array Value} {Q : Value → Shared → Prop} (hl : s.heap.IsTuple t items) (h : Q (.ref s.heap.objs.size) { s with heap := s.heap.push (tiObj t) }) : wpAny (model prog w) A (call (.builtin "iter") [.ref t]) Q E s := by
  refine Calls.call_function_entry (by decide +kernel) (by decide +kernel) PySem.W.kdk_entry_iter (PySem.W.kdk_args_iter _) ?_
  unfold Builtin.«iter»
  refine wpAny_bind (m := someArgs "iter" 1 2 _) (wpAny_of_eq (a := [Value.ref t]) (by first | rfl | kernel_rfl!) ?_)
  show wpAny _ _ (pyIter (.ref t) >>= _) _ _ _
  refine wpAny_bind (wpAny_pyIter_tuple hl ?_)
  exact wpAny_pure ⟨_, rfl, h⟩
theorem tiO_ok {P : Program} {H : Hp} {h : Heap} {i : Nat} (e : h.IsTupleIter it t i) : ObjOk P w H h it (TiO t it i) := ⟨e, ⟨_, e.choose_spec.1⟩, fun h1 h2 q k => Heap.IsTupleIter.at q fun o e => k o e⟩
variable {X : Cx} {pins : List (Addr × Obj)} {σ : L2.St} {H : Hp}
theorem tiO_get {i : Nat} (I : Inv X pins σ H s) (e : H it = some (TiO t it i)) : s.heap.IsTupleIter it t i := (I.hok it _ e).1
def rIterT (K : PySem.W.Frag) : List V → Hp → VK → Prop := fun xs H Q => ∃ (t : Addr) (zs : List V), xs = [.ref t] ∧ SqT K H t zs ∧ ∀ it, H it = none → Q (.ref it) (upd H it (TiO t it 0))
theorem call_iterT : CallR X (.builtin "iter") (rIterT X.K) := by
  intro pins s σ H xs us Q I r h
  obtain ⟨t, zs, rfl, hq, q⟩ := h
  obtain rfl := Vals.ref1 r
  obtain ⟨its, rv, pl, hz⟩ := I.tuple hq
  refine call_iter_tup pl ?_
  exact ⟨.ref s.heap.objs.size, _, I.laid (t' := s.toks) (fun b u e => Heap.get?_push_of_some _ e) (Nat.le_refl _) (tiO_ok ⟨_, Heap.get?_push_size _ rfl, rfl, rfl⟩), rfl, q _ (I.hok.fresh (Nat.le_refl _))⟩
theorem r_iterT {K : PySem.W.Frag} {Q : VK} {zs : List V} (h : SqT K H t zs) (q : ∀ it H', H it = none → Kp [] H H' → H' it = some (TiO t it 0) → Q (.ref it) H') : rIterT K [.ref t] H Q := ⟨t, zs, rfl, h, fun it n => q it _ n (Kp.new n) upd_same⟩
theorem K_iterT {K : PySem.W.Frag} (hK : X.K = K) : CallR X (.builtin "iter") (rIterT K) := by
  subst hK
  exact call_iterT
/-- an iterator that has ended -/
def TiE (it : Addr) : HO := .ext fun h => ∃ o, h.get? it = some o
theorem tiE_ok {P : Program} {H : Hp} {h : Heap} (e : ∃ o, h.get? it = some o) : ObjOk P w H h it (TiE it) := ⟨e, e, fun h1 h2 q k => let ⟨o, e⟩ := q; ⟨o, k o e⟩⟩
theorem ti_end {i : Nat} {items : Array Value} {Q : Option Value → Shared → Prop} (hh : A.handled = none) (hit : s.heap.IsTupleIter it t i) (ht : s.heap.IsTuple t items) (hx : items[i]? = none)
    (hQ : ∀ h', (∃ o, h'.get? it = some o) → Heap.ExtBut it s.heap h' → Q none { s with heap := h' }) : wpAny (model prog w) A (pyNext (.ref it)) Q E s := by
  obtain ⟨o, ho, hc, hd⟩ := id hit
  obtain ⟨ol, hol, _, nl, hdl⟩ := ht
  unfold pyNext
  refine wpAny_bind (wpAny_attempt (wpAny_callSpecial?_slot (name := Str.ofString "__next__") hit.typeIs PySem.F.slot_tuple_iterator_next
    (wpAny_call_entry PySem.F.slot_tuple_iterator_next hit.typeIs PySem.F.entry_tuple_iterator_next ?_ (PySem.F.args_tuple_iterator_next_1 _))))
  show wpAny _ _ (field (.ref it) 0 >>= _) _ _ s
  refine wpAny_bind (wpAny_field ho hd (x := .ref t) rfl ?_)
  show wpAny _ _ (if (Value.ref t == Value.none) = true then _ else _) _ _ s
  rw [if_neg (show ¬ ((Value.ref t == Value.none) = true) from Bool.false_ne_true)]
  show wpAny _ _ (field (.ref it) 1 >>= _) _ _ s
  refine wpAny_bind (wpAny_field ho hd (x := .int i 0) rfl ?_)
  show wpAny _ _ (seqItems? (.ref t) >>= _) _ _ s
  refine wpAny_bind (wpAny_seqItems hol hdl ?_)
  simp only [Int.toNat_natCast, hx]
  refine wpAny_bind (wpAny_rule (wpAny_bind (wpAny_setField ho hd (by simp) ?_)))
  show wpAny _ _ (newExc (.type "StopIteration") [] >>= _) _ _ _
  refine wpAny_bind ?_
  simp only [newExc, newTuple]
  refine wpAny_bind (wpAny_newObj_type ?_ (by size_fits))
  refine wpAny_bind (m := firstArgMember _ _) (wpAny_of_eq (a := Value.none) (by first | rfl | (simp only [firstArgMember]; rfl)) ?_)
  refine wpAny_newObj_type ?_ (by size_fits)
  simp only [raiseNew]
  refine wpAny_bind (wpAny_handled ?_)
  first | rw [show A.in1.handled = none from hh] | rw [hh]
  refine wpAny_bind (wpAny_pure (wpAny_throw ?_))
  refine wpAny_bind (wpAny_isInstance (T := "StopIteration") (b := true) ⟨_, Heap.get?_push_size _ rfl, rfl⟩ isSubtype_stop ?_)
  refine wpAny_pure (hQ _ ⟨_, Heap.get?_push_of_some _ (Heap.get?_push_of_some _ (Heap.get?_update_self _ ho (Obj.isFreed_of_fields (Obj.data_mapFields hd _))))⟩ (((Heap.SameBut.update ..).extBut.push _).push _))
/-- the iterator's items go into a list -/
theorem ti_fill {xs : List V} {q : Addr} {A1 : Around} {Rs : Result → Shared → Prop} (hc : X.calm = true) (hA : A1.handled = none) (t1 : t ≠ it) (t2 : t ≠ q) : ∀ (m i : Nat) (H : Hp) (s : Shared), xs.length - i = m → i ≤ xs.length → Inv X pins σ H s → H it = some (TiO t it i) → SqT X.K H t xs → H q = some (.lst (xs.take i)) →
    (∀ H' s', Inv X pins σ H' s' → Kp [it, q] H H' → H' q = some (.lst xs) → Rs (.ok (.ret .none)) s') → codeAny (model X.prog X.w) A1 (.builtin "list.extend.loop" ⟨[.ref q, .ref it, .none], []⟩) Rs s := by
  intro m
  induction m with
  | zero =>
    intro i H s hm hi I ei ht eq hR
    have hin : i = xs.length := by omega
    subst hin
    obtain ⟨its, rv, p, hz⟩ := I.tuple ht
    have hl := rv.length
    refine codeAny_builtin PySem.F.entry_extend_loop ?_
    rw [Around.under_plainId PySem.F.plain_extend_loop _]
    show wpAny _ A1.in1 (pyNext (.ref it) >>= _) _ _ s
    refine wpAny_bind (ti_end hA (tiO_get I ei) (show s.heap.IsTuple t its.toArray from p) (by simp; omega) fun h' eo eb => ?_)
    have mu : Mut (H it) := by rw [ei]; exact True.intro
    have I1 : L2.Inv X pins σ (upd H it (TiE it)) { s with heap := h' } := I.write (x := it) (e := it) (t' := s.toks) mu (.inl rfl) (fun b o nb z => eb b o nb z) eo (tiE_ok eo)
    have qi : q ≠ it := fun e => by
      rw [e, ei] at eq
      cases eq
    refine wpAny_pure (hR _ _ I1 (Kp.put List.mem_cons_self) ?_)
    rw [upd_ne qi, eq, List.take_length]
  | succ m ih =>
    intro i H s hm hi I ei ht eq hR
    obtain ⟨its, rv, p, hz⟩ := I.tuple ht
    have hl := rv.length
    have hix : i < xs.length := by omega
    obtain ⟨u, hu, ru⟩ := rv.get (List.getElem?_eq_getElem hix)
    have qi : q ≠ it := fun e => by
      rw [e, ei] at eq
      cases eq
    refine codeAny_builtin PySem.F.entry_extend_loop ?_
    rw [Around.under_plainId PySem.F.plain_extend_loop _]
    show wpAny _ A1.in1 (pyNext (.ref it) >>= _) _ _ s
    refine wpAny_bind (wpAny_pyNext_tuple_item (tiO_get I ei) (show s.heap.IsTuple t its.toArray from p) (x := u) (by simpa using hu) fun h' st' sb => ?_)
    have mu : Mut (H it) := by rw [ei]; exact True.intro
    have I1 : L2.Inv X pins σ (upd H it (TiO t it (i + 1))) { s with heap := h' } := I.write (x := it) (e := it) (t' := s.toks) mu (.inl rfl) (fun b o nb z => (sb.2 b nb).trans z) ⟨_, st'.choose_spec.1⟩ (tiO_ok st')
    have eq1 : upd H it (TiO t it (i + 1)) q = some (.lst (xs.take i)) := by rw [upd_ne qi, eq]
    obtain ⟨z, its2, k, r2, hl2, e⟩ := I1.lstM eq1
    show wpAny _ A1.in1 (updateSeq q (·.push u) >>= _) _ _ _
    refine wpAny_bind (wpAny_updateSeq e rfl (wpAny_pure ⟨plainId_quiet PySem.F.plain_extend_loop _, ?_⟩) (by rw [List.size_toArray]; omega) (by show (its2.toArray.push u).size ≤ sizeLine + 1; rw [Array.size_push, List.size_toArray]; omega))
    have I2 := I1.lset (f := (·.push u)) (its := its2) (its' := its2 ++ [u]) (ys := xs.take i ++ [xs[i]]) (t' := s.toks) eq1 e (by simp) (r2.append (.cons ru .nil)) (by rw [List.length_append, List.length_take, List.length_singleton]; omega)
    have hI : it ≠ q := qi.symm
    refine ih (i + 1) _ _ (by omega) hix I2 ?_ ?_ ?_ fun H' s' I' k' e' => hR H' s' I' ?_ e'
    · rw [upd_ne hI, upd_same]
    · exact sqt_kp (sqt_kp ht (Kp.put (ex := [it]) List.mem_cons_self) (not_one t1)) (Kp.put (ex := [q]) List.mem_cons_self) (not_one t2)
    · rw [upd_same, ← List.take_succ_eq_append_getElem hix]
    · exact ((Kp.put List.mem_cons_self).trans (Kp.put (List.mem_cons_of_mem _ List.mem_cons_self))).trans k'
end
end Rd

set_option maxHeartbeats 4000000
/-! OwnList: list(o), o's own __iter__ returns an iterator over a tuple, with an own __len__. -/
namespace Rd
open PySem PySem.Spec L2 PyProof.Rows
section
variable {X : Cx} {pins : List (Addr × Obj)} {σ : L2.St} {H : Hp} {s : Shared} {a C dx f : Addr} {fs : List (Str × V)} {sp : Sp} {n : Nat} {E : Value → Shared → Prop} {A1 : Around}
theorem ol_hint {R : Hp → Prop} {Q : Bool → Shared → Prop} (sb : Sub X n A1.in1) (hm : Meth X.K C "__len__" f) (F : FnR X.prog X.w X.K X.mg X.base CX0 n f sp) (I : Inv X pins σ H s) (ea : H a = some (.ins C dx fs))
    (q : sp [.ref a] H (fun v H' => ∃ k : Int, v = .int k ∧ 0 ≤ k ∧ k < 1000 ∧ R H') E0) (hQ : ∀ b H' s', Inv X pins σ H' s' → R H' → Q b s') :
    wpAny (model X.prog X.w) A1 (Builtin.List.listLengthHint (.ref a)) Q E s := by
  obtain ⟨mA, J, _⟩ := ins_get I.hok ea
  obtain ⟨od, J, _⟩ := J.look
  obtain ⟨m, hF⟩ := I.fr
  unfold Builtin.List.listLengthHint
  refine wpAny_bind (wpAny_bind (J.type.here ((PySem.W.looks_findIn I.kIn hm.at_).here ?_)))
  refine PySem.W.KFB.if_not rfl ?_
  refine PySem.W.KFB.if_so rfl ?_
  refine wpAny_bind (wpAny_rule ?_)
  refine wpAny_bind (wpAny_attempt ?_)
  have e0 : Env0 X.prog X.w X.K X.mg X.base A1.in1 X.stack s H := by
    have e := I.env0
    exact ⟨by rw [sb.fr]; exact e.frames, e.mod, e.bs, e.bsz, e.funs, e.frf, e.hok, e.bare⟩
  refine PySem.W.len_K hF I.ok.mod.kin J hm.at_ hm.fn (wpAny_call (codeAny_mono (F A1.in1 X.stack s H [.ref a] [.ref a] _ E0 sb.room e0 (.cons rfl .nil) q) fun r s' z => ?_))
  cases r with
  | error e => exact False.elim z
  | ok fl =>
    cases fl with
    | ret u =>
      obtain ⟨z', H', I', rz, k, rfl, k0, k1, qz⟩ := I.after z
      obtain ⟨t, e⟩ := (show ∃ t, u = Value.int k t from rz)
      cases e
      refine ⟨⟨k0, by omega⟩, ?_⟩
      refine wpAny_bind (wpAny_pure ?_)
      refine PySem.W.KFB.if_not (decide_eq_false (by have : 1000 < sizeLine := by decide
                                                     omega)) ?_
      exact wpAny_pure (hQ _ H' _ (I'.tok _) qz)
    | next => exact False.elim z
    | brk => exact False.elim z
    | cont => exact False.elim z
/-- list(o): __iter__ gives an iterator over the tuple of xs, __len__ a number -/
def rListOwn (K : PySem.W.Frag) (C : Addr) (spI spL : Sp) : List V → Hp → VK → Prop := fun vs H Q => ∃ a dx fs t xs, vs = [.ref a] ∧ H a = some (.ins C dx fs) ∧ SqT K H t xs ∧
  ∀ q, H q = none → spI [.ref a] (upd H q (.lst [])) (fun v H1 => ∃ it, v = .ref it ∧ t ≠ it ∧ H1 it = some (TiO t it 0) ∧ Kp [] (upd H q (.lst [])) H1 ∧
    spL [.ref a] H1 (fun v H2 => ∃ k : Int, v = .int k ∧ 0 ≤ k ∧ k < 1000 ∧ Kp [] H1 H2 ∧ ∀ H3, Kp [it, q] H2 H3 → H3 q = some (.lst xs) → Q (.ref q) H3) E0) E0
theorem next_ti {it t : Addr} {i : Nat} {M : Model} {Q : Value → Shared → Prop} (h : s.heap.IsTupleIter it t i) (q : Q (.ref it) s) : PySem.W.OwitIt M A1 Q E (.ref it) s := by
  unfold PySem.W.OwitIt
  exact wpAny_specialOf h.typeIs PySem.F.slot_tuple_iterator_next.lookup q
variable {fi fl : Addr} {spI spL : Sp}
theorem call_listOwnT (hc : X.calm = true) (it_ : PySem.W.findIn X.K (.ref C) "__iter__" = some (some (.ref fi))) (itF : PySem.W.isFn X.K (.ref fi) = true) (FI : FnR X.prog X.w X.K X.mg X.base CX0 n fi spI)
    (hl : Meth X.K C "__len__" fl) (FL : FnR X.prog X.w X.K X.mg X.base CX0 n fl spL) (hr : Room (n + 3) X.A) : CallR X (.type "list") (rListOwn X.K C spI spL) := by
  intro pins s σ H xs us Q I rv h
  obtain ⟨a, dx, fs, t, xs, rfl, ha, ht, hq⟩ := h
  obtain ⟨u, rfl, ru⟩ := rv.one
  cases ru
  have sb : Sub X (n + 1) X.A.in1.in1 := (Sub.in1 (Sub.in1 (⟨hr, rfl⟩ : Sub X (n + 3) X.A)))
  have sb3 : Sub X n X.A.in1.in1.in1 := Sub.in1 sb
  refine callType_codes (Q₁ := fun obj s₁ => obj = .ref s.heap.objs.size ∧ s₁ = { s with heap := s.heap.push { cls := .type "list", data := .seq #[] } }) PySem.F.called_list (PySem.F.typeCall_list_1 _) PySem.F.entry_list_init
    (code_list_new _ ⟨rfl, rfl⟩) fun obj s₁ h₁ => ?_
  obtain ⟨rfl, rfl⟩ := h₁
  have hS : (s.heap.push { cls := .type "list", data := .seq #[] }).get? s.heap.objs.size = some { cls := .type "list", data := .seq #[] } := Heap.get?_push_size _ rfl
  refine ⟨⟨_, hS, rfl⟩, PySem.F.args_list_init_2 _ _, ?_⟩
  have fr : H s.heap.objs.size = none := I.hok.fresh (Nat.le_refl _)
  have hsp := hq _ fr
  have I1 : Inv X pins σ (upd H s.heap.objs.size (.lst [])) { s with heap := s.heap.push { cls := .type "list", data := .seq #[] } } := I.lnew (its := []) (t' := s.toks) .nil (Nat.zero_le _)
  show wpAny _ _ (do let old ← Builtin.List.listItems (.ref s.heap.objs.size); Builtin.List.listUpdate (.ref s.heap.objs.size) (fun _ => #[]); letGo old.toList.reverse; Builtin.List.listExtendWith (.ref s.heap.objs.size) (.ref a) .none) _ _ _
  refine wpAny_bind ?_
  unfold Builtin.List.listItems
  refine wpAny_bind (wpAny_seqItems hS rfl (wpAny_pure ?_))
  show wpAny _ _ (updateSeq s.heap.objs.size (fun _ => #[]) >>= fun _ => letGo (#[] : Array Value).toList.reverse >>= fun _ => Builtin.List.listExtendWith (.ref s.heap.objs.size) (.ref a) .none) _ _ _
  refine wpAny_bind (wpAny_updateSeq hS rfl ?_)
  have I2 := I1.lset (f := fun _ => #[]) (its := []) (its' := []) (ys := []) (t' := s.toks) upd_same hS rfl .nil (Nat.zero_le _)
  rw [upd_upd] at I2
  refine wpAny_bind (wpAny_letGo ?_)
  have ha2 : upd H s.heap.objs.size (.lst []) a = some (.ins C dx fs) := by rw [upd_ne (ne_of_none ha fr)]; exact ha
  have hne : s.heap.objs.size ≠ a := fun e => by rw [← e, fr] at ha; cases ha
  obtain ⟨mA, J, _⟩ := ins_get I2.hok ha2
  obtain ⟨od, J, _⟩ := J.look
  obtain ⟨m0, hF⟩ := I2.fr
  unfold Builtin.List.listExtendWith
  refine wpAny_bind (J.type.here ?_)
  have h1 : Builtin.List.listSameRef (.ref s.heap.objs.size) (.ref a) = false := by simp [Builtin.List.listSameRef, hne]
  have h2 : (Value.ref C == Value.type "list") = false := rfl
  have h3 : (Value.ref C == Value.type "tuple") = false := rfl
  simp only [h1, h2, h3, Bool.or_false, Bool.false_eq_true, if_false]
  refine wpAny_bind (PySem.W.owit_iter hF I2.ok.mod.kin J it_ itF ?_)
  have e := I2.env0
  refine wpAny_call (codeAny_mono (FI X.A.in1.in1 X.stack _ _ [.ref a] [.ref a] _ E0 (sb.room.mono (Nat.le_succ n)) ⟨by rw [sb.fr]; exact e.frames, e.mod, e.bs, e.bsz, e.funs, e.frf, e.hok, e.bare⟩ (.cons rfl .nil) hsp) fun r s' z => ?_)
  cases r with
  | error e => exact False.elim z
  | ok fo =>
    cases fo with
    | next => exact False.elim z
    | brk => exact False.elim z
    | cont => exact False.elim z
    | ret u =>
      obtain ⟨v, H1, I3, rv, it, rfl, ti, eit, k1, hsp2⟩ := I2.after z
      cases (show u = Value.ref it from rv)
      refine next_ti (tiO_get I3 eit) ?_
      refine wpAny_bind (wpAny_holding (ol_hint (E := _) (R := fun H2 => Kp [] H1 H2 ∧ ∀ H3, Kp [it, s.heap.objs.size] H2 H3 → H3 s.heap.objs.size = some (.lst xs) → Q (.ref s.heap.objs.size) H3) sb3 hl FL I3 (k1 _ _ ha2 not_nil) hsp2 fun b H2 s2 I4 hR => ?_))
      obtain ⟨k2, qq⟩ := hR
      have hq1 : (upd H s.heap.objs.size (.lst [])) s.heap.objs.size = some (.lst []) := upd_same
      have hq2 := k2 _ _ (k1 _ _ hq1 not_nil) not_nil
      have eit2 := k2 _ _ eit not_nil
      have tq : t ≠ s.heap.objs.size := fun e => by
        obtain ⟨its, rv, p, _⟩ := I.tuple ht
        obtain ⟨o, ho, _⟩ := p
        rw [e] at ho
        exact absurd ho (by rw [PyProof.Rows.new_of_ge (Nat.le_refl _)]; simp)
      have ht2 : SqT X.K H2 t xs := sqt_kp (sqt_kp (sqt_kp ht (Kp.new fr) not_nil) k1 not_nil) k2 not_nil
      refine wpAny_ite_split (fun _ => ?_) (fun _ => wpAny_pure ⟨plainId_quiet PySem.F.plain_extend_loop _, ti_fill (A1 := X.A.in1) hc (show X.A.in1.handled = none from I4.ok.hd hc) ti tq _ 0 H2 s2 rfl (Nat.zero_le _) I4 eit2 ht2 hq2 fun H3 s3 I5 k3 e3 => ⟨rfl, .ref s.heap.objs.size, H3, I5, rfl, qq H3 k3 e3⟩⟩)
      obtain ⟨z, its, k, r3, hl3, e3⟩ := I4.lstM hq2
      cases r3
      refine wpAny_bind (wpAny_rule ?_)
      refine wpAny_bind ?_
      show wpAny _ _ (updateSeq s.heap.objs.size (·.push .none) >>= fun _ => updateSeq s.heap.objs.size (·.pop)) _ _ _
      refine wpAny_bind (wpAny_updateSeq e3 rfl ?_)
      have J2 := I4.lset (f := (·.push Value.none)) (its' := [Value.none]) (ys := [.non]) (t' := s2.toks) hq2 e3 (by simp) (.cons rfl .nil) (by rw [List.length_singleton, sizeLine_eq]; decide)
      obtain ⟨z4, its4, k4, r4, hl4, e4⟩ := J2.lstM upd_same
      obtain ⟨u4, rfl, ru4⟩ := r4.one
      have J3 := J2.lset (f := (·.pop)) (its := [u4]) (its' := []) (ys := []) (t' := s2.toks) upd_same e4 (by rfl) .nil (Nat.zero_le _)
      rw [upd_upd] at J3
      have hH : upd H2 s.heap.objs.size (.lst []) = H2 := by
        funext b
        by_cases hb : b = s.heap.objs.size
        · rw [hb, upd_same, hq2]
        · rw [upd_ne hb]
      rw [hH] at J3
      refine wpAny_updateSeq e4 rfl ?_ (by show 1 ≤ sizeLine; rw [sizeLine_eq]; decide) (by show 0 ≤ sizeLine + 1; exact Nat.zero_le _)
      exact wpAny_pure ⟨plainId_quiet PySem.F.plain_extend_loop _, ti_fill (A1 := X.A.in1) hc (show X.A.in1.handled = none from I4.ok.hd hc) ti tq _ 0 H2 _ rfl (Nat.zero_le _) J3 eit2 ht2 hq2 fun H3 s3 I5 k3 e3 => ⟨rfl, .ref s.heap.objs.size, H3, I5, rfl, qq H3 k3 e3⟩⟩
end
end Rd

set_option maxHeartbeats 4000000
/-! OwnNe: a != b by an own __eq__. -/
namespace PySem.W
open PySem PySem.Spec PySem.Calls PyProof.Rows
section
variable {prog : Program} {w : World} {A : Around} {E : Value → Shared → Prop} {s : Shared} {K : Frag} {x C : Addr} {ox : Obj} {od : Option Obj} {name : Str} {id B : String}
theorem ifBoundB_K {M : Model} {args : List Value} {Q : Option Value → Shared → Prop} (X : K.In s.heap) (I : InstAt s.heap x ox C od) (hs : findIn K (.ref C) name = some (some (.builtin id))) (S : Slot B name id)
    (h : wpAny M A (call (.builtin id) (.ref x :: args)) (fun v => Q (some v)) E s) : wpAny M A (callSpecialIfBound? (.ref x) name args) Q E s := by
  simp only [callSpecialIfBound?, bindSpecialIfBound?]
  refine wpAny_holding (wpAny_bind (wpAny_bind (wpAny_bind (I.type.here ((looks_findIn X hs).here ?_)))))
  simp only [S.bind]
  refine wpAny_bind (wpAny_askSetting (wpAny_ite ?_))
  have fin : wpAny M A (call (.builtin id) ([.ref x] ++ args) >>= fun v => pure (some v)) Q E s := wpAny_bind (wpAny_mono h (fun v s' h' => wpAny_pure h') fun _ _ h' => h')
  split
  · exact wpAny_bind (wpAny_pure (wpAny_pure fin))
  · exact wpAny_tryCatch (wpAny_bind (wpAny_pure (wpAny_pure fin)))
theorem check_ne {rest : List Value} {Q : Unit → Shared → Prop} (X : K.In s.heap) (I : InstAt s.heap x ox C od) (hm : mroIn K C (.type "object") = some true) (ha : argsOk "object.__ne__" ⟨.ref x :: rest, []⟩) (hq : Q () s) :
    wpAny (model prog w) A (checkBuiltinCall "object.__ne__" ⟨.ref x :: rest, []⟩) Q E s := by
  simp only [checkBuiltinCall, F.cmpKind_ne, F.cmpSplit_ne]
  refine wpAny_bind ?_
  have L : Looks (model prog w) s.heap (isInstance (.ref x) (.type "object")) true := Looks.andThen I.type (looks_mroIn (M := model prog w) X hm)
  refine wpAny_mono (L.here (Q := fun b s' => b = true ∧ s' = s) ⟨rfl, rfl⟩) (fun b s' h => ?_) fun _ _ z => z
  obtain ⟨rfl, rfl⟩ := h
  refine KFB.if_not rfl ?_
  cases hsig : Manifest.signature? "object.__ne__" with
  | none => exact wpAny_pure hq
  | some sig =>
    simp only [argsOk, hsig] at ha
    have h2 : Bind.checkArgs "object.__ne__" sig ⟨.ref x :: rest, []⟩ = pure () := ha
    show wpAny _ A (Bind.checkArgs "object.__ne__" sig ⟨.ref x :: rest, []⟩) Q E _
    rw [h2]
    exact wpAny_pure hq
theorem objNe_K {b : Value} {f : Addr} (X : K.In s.heap) (I : InstAt s.heap x ox C od) (he : findIn K (.ref C) "__eq__" = some (some (.ref f))) (hf : isFn K (.ref f) = true) (hu : A.units < cLine) {Q : Fin → Shared → Prop}
    (hcall : wpAny (model prog w) A (call (.ref f) [.ref x, b]) (fun v s' => ∃ c, v = .bool c ∧ Q (.done (.ret (.bool (!c)))) s') E s) :
    wpAny (model prog w) A (Builtin.«object.__ne__» ⟨[.ref x, b], []⟩) Q E s := by
  unfold Builtin.«object.__ne__»
  repeat (first
    | with_reducible refine wpAny_cRoomFor hu ?_
    | (refine wpAny_bind (m := callSpecialIfBound? (.ref x) (Str.ofString "__eq__") [b])
        (ifBound_K X I he hf (wpAny_mono hcall (fun r s' hr => by
          obtain ⟨c, rfl, hq⟩ := hr
          repeat (first | exact hq | exact wpAny_pure hq | exact wpAny_truthy_bool hq | (refine wpAny_bind (m := truthy (.bool _)) (wpAny_truthy_bool ?_)) | wp_step)) fun _ _ e => e)))
    | wp_step)
theorem ne_K {b tb : Value} {f : Addr} {h₀ : Heap} {L : Addr} {m : Str → Option Value} {Q : Value → Shared → Prop} (hu : A.units + 1 < cLine) (F : Fr h₀ L s.heap m) (X₀ : K.In h₀) (I : InstAt s.heap x ox C od) (hb : Looks (model prog w) s.heap (typeOf b) tb) (hn : notFirst K C tb = true)
    (hne : findIn K (.ref C) "__ne__" = some (some (.builtin "object.__ne__"))) (he : findIn K (.ref C) "__eq__" = some (some (.ref f))) (hf : isFn K (.ref f) = true) (hm : mroIn K C (.type "object") = some true)
    (h : wpAny (model prog w) A.in1 (call (.ref f) [.ref x, b]) (fun v s' => ∃ c, v = .bool c ∧ Q (.bool (!c)) s') E s) : wpAny (model prog w) A (richCompare .NotEq (.ref x) b) Q E s := by
  have X := X₀.keeps F.keep
  have one : wpAny (model prog w) A (tryCompare (.ref x) "__ne__" b) (fun r s' => ∃ v, r = some v ∧ Q v s') E s := by
    simp only [tryCompare]
    refine wpAny_bind (ifBoundB_K X I hne PySem.F.cmp_object.ne (wpAny_call (codeAny_call_builtin PySem.F.cmp_object.ne.plain PySem.F.cmpEntry_ne
      (check_ne X I hm (PySem.F.cmpArgs_ne _ _) (objNe_K (A := A.in1) X I he hf hu (wpAny_mono h (fun v s' hv => ?_) fun _ _ e => e))))))
    obtain ⟨c, rfl, hq⟩ := hv
    exact ⟨c, rfl, wpAny_pure ⟨_, rfl, hq⟩⟩
  unfold richCompare
  simp only [oneThing_ref]
  refine wpAny_holding (wpAny_bind (wpAny_cRoomFor (Nat.lt_of_succ_lt hu) ?_))
  rw [cmpInfo_NotEq]
  refine wpAny_bind (I.type.here (wpAny_bind (hb.here ?_)))
  split
  · rename_i q
    have e : subIn K tb (.ref C) = some false := by
      rcases Bool.or_eq_true_iff.mp hn with e | e
      · rw [beq_iff_eq.mp e] at q; simp at q
      · exact beq_iff_eq.mp e
    refine wpAny_bind ((looks_subIn X e).here ?_)
    simp only [Bool.false_eq_true, if_false]
    refine wpAny_bind (wpAny_mono one (fun r s' z => ?_) fun _ _ e => e)
    obtain ⟨v, rfl, hq⟩ := z
    exact wpAny_pure hq
  · refine wpAny_bind (wpAny_pure ?_)
    simp only [Bool.false_eq_true, if_false]
    refine wpAny_bind (wpAny_mono one (fun r s' z => ?_) fun _ _ e => e)
    obtain ⟨v, rfl, hq⟩ := z
    exact wpAny_pure hq
end
end PySem.W

set_option maxHeartbeats 4000000
/-! OwnEq: != by an own __eq__; == of an own object and data; list(o) with K named. -/
namespace Rd
open PySem PySem.Spec L2
/-- x != y, both of the class at C -/
def rNeOwn (C : Addr) (sp : Sp) : R2 := fun x y H Q => ∃ a dx fs b dy gs, x = .ref a ∧ y = .ref b ∧ H a = some (.ins C dx fs) ∧ H b = some (.ins C dy gs) ∧ sp [.ref a, .ref b] H (fun z H' => ∃ c, z = .bl c ∧ Q (.bl (!c)) H') E0
/-- x == y, x of the class at C, y of another type -/
def rEqOth (K : PySem.W.Frag) (C : Addr) (sp : Sp) : R2 := fun x y H Q => ∃ a dx fs t, x = .ref a ∧ H a = some (.ins C dx fs) ∧ TyX K H y t ∧ PySem.W.notFirst K C t = true ∧ sp [.ref a, y] H (fun z H' => ∃ c, z = .bl c ∧ Q (.bl c) H') E0
section
variable {X : Cx} {n : Nat} {C f : Addr} {sp : Sp}
theorem op_neOwn (hm : Meth X.K C "__eq__" f) (F : FnR X.prog X.w X.K X.mg X.base CX0 n f sp) (hr : Room n X.A) (hne : PySem.W.findIn X.K (.ref C) "__ne__" = some (some (.builtin "object.__ne__"))) (ho : PySem.W.mroIn X.K C (.type "object") = some true)
    (hr1 : Room (n + 1) X.A) : OpR X (compareOp .NotEq) (rNeOwn C sp) := by
  intro pins s σ H x y v u Q I rx ry h
  obtain ⟨a, dx, fs, b, dy, gs, rfl, rfl, ea, eb, q⟩ := h
  cases (show v = Value.ref a from rx)
  cases (show u = Value.ref b from ry)
  obtain ⟨mA, O, _⟩ := ins_get I.hok ea
  obtain ⟨od, J, _⟩ := O.look
  obtain ⟨mB, O', _⟩ := ins_get I.hok eb
  obtain ⟨od', J', _⟩ := O'.look
  obtain ⟨m, hF⟩ := I.fr
  have nf : PySem.W.notFirst X.K C (.ref C) = true := by
    unfold PySem.W.notFirst
    simp
  refine PySem.W.ne_K (tb := .ref C) (by have := hr1.units; have := hr.units; omega) hF I.ok.mod.kin J J'.type nf hne hm.at_ hm.fn ho ?_
  refine wpAny_call (codeAny_mono (F X.A.in1 X.stack s H [.ref a, .ref b] [.ref a, .ref b] _ E0 hr1.in1 I.env0.in1 (.cons rfl (.cons rfl .nil)) q) fun r s' z => ?_)
  cases r with
  | error e => exact False.elim z
  | ok fl =>
    cases fl with
    | ret u =>
      obtain ⟨z', H', I', rz, c, rfl, qz⟩ := I.after z
      cases (show u = Value.bool c from rz)
      exact ⟨c, rfl, .bl (!c), H', I'.tok _, rfl, qz⟩
    | next => exact False.elim z
    | brk => exact False.elim z
    | cont => exact False.elim z
theorem op_eqOth (hm : Meth X.K C "__eq__" f) (F : FnR X.prog X.w X.K X.mg X.base CX0 n f sp) (hr : Room n X.A) : OpR X (compareOp .Eq) (rEqOth X.K C sp) := by
  intro pins s σ H x y v u Q I rx ry h
  obtain ⟨a, dx, fs, t, rfl, ea, ty, nf, q⟩ := h
  cases (show v = Value.ref a from rx)
  obtain ⟨mA, O, _⟩ := ins_get I.hok ea
  obtain ⟨od, J, _⟩ := O.look
  obtain ⟨P, Z, p, hx⟩ := kit_of I ry ty
  obtain ⟨m, hF⟩ := I.fr
  refine PySem.W.cmp_K (op := .Eq) (tb := t) hr.units0 hF I.ok.mod.kin J (Z.ty _ _ I.kIn p) nf hm.at_ hm.fn ?_
  refine wpAny_mono (wpAny_call (run_fnR (us := [.ref a, u]) (vs := [.ref a, y]) F hr pass0 I (.cons rfl (.cons ry .nil)) q)) (fun r s' z => ?_) fun _ _ x => x
  obtain ⟨z', H', I', rz, c, rfl, qz⟩ := z
  cases (show r = Value.bool c from rz)
  exact ⟨.bl c, H', I', rfl, qz⟩
theorem K_eqOth {K : PySem.W.Frag} (hK : X.K = K) (hm : Meth K C "__eq__" f) (F : FnR X.prog X.w K X.mg X.base CX0 n f sp) (hr : Room n X.A) : OpR X (compareOp .Eq) (rEqOth K C sp) := by
  subst hK
  exact op_eqOth hm F hr
theorem K_listOwn {K : PySem.W.Frag} {fi fl : Addr} {spI spL : Sp} (hK : X.K = K) (hc : X.calm = true) (hi : Meth K C "__iter__" fi) (FI : FnR X.prog X.w K X.mg X.base CX0 n fi spI)
    (hl : Meth K C "__len__" fl) (FL : FnR X.prog X.w K X.mg X.base CX0 n fl spL) (hr : Room (n + 3) X.A) : CallR X (.type "list") (rListOwn K C spI spL) := by
  subst hK
  exact call_listOwnT hc hi.at_ hi.fn FI hl FL hr
end
section
variable {H : Hp} {Q : VK} {C a b dx dy t : Addr} {fs gs : List (Str × V)} {sp spI spL : Sp} {y : V} {xs : List V} {K : PySem.W.Frag} {ty : Value} {c : Bool}
def kNeg (Q : VK) : VK := fun z H' => ∃ c, z = .bl c ∧ Q (.bl (!c)) H'
def kYes (Q : VK) : VK := fun z H' => ∃ c, z = .bl c ∧ Q (.bl c) H'
theorem r_neOwn (e : H a = some (.ins C dx fs)) (e' : H b = some (.ins C dy gs)) (q : sp [.ref a, .ref b] H (kNeg Q) E0) : rNeOwn C sp (.ref a) (.ref b) H Q := ⟨a, dx, fs, b, dy, gs, rfl, rfl, e, e', q⟩
theorem r_eqOwn (e : H a = some (.ins C dx fs)) (e' : H b = some (.ins C dy gs)) (q : sp [.ref a, .ref b] H (kYes Q) E0) : rEqOwn C sp (.ref a) (.ref b) H Q := ⟨a, dx, fs, b, dy, gs, rfl, rfl, e, e', q⟩
theorem r_eqOth (e : H a = some (.ins C dx fs)) (h : TyX K H y ty) (n : PySem.W.notFirst K C ty = true) (q : sp [.ref a, y] H (kYes Q) E0) : rEqOth K C sp (.ref a) y H Q := ⟨a, dx, fs, ty, rfl, e, h, n, q⟩
theorem r_kNeg (q : Q (.bl (!c)) H) : kNeg Q (.bl c) H := ⟨c, rfl, q⟩
theorem r_kYes (q : Q (.bl c) H) : kYes Q (.bl c) H := ⟨c, rfl, q⟩
/-- list(o) -/
def kLoI (spL : Sp) (a t : Addr) (xs : List V) (q : Addr) (H0 : Hp) (Q : VK) : VK := fun v H1 => ∃ it, v = .ref it ∧ t ≠ it ∧ H1 it = some (TiO t it 0) ∧ Kp [] H0 H1 ∧
    spL [.ref a] H1 (fun v H2 => ∃ k : Int, v = .int k ∧ 0 ≤ k ∧ k < 1000 ∧ Kp [] H1 H2 ∧ ∀ H3, Kp [it, q] H2 H3 → H3 q = some (.lst xs) → Q (.ref q) H3) E0
def kLoL (it q : Addr) (xs : List V) (H1 : Hp) (Q : VK) : VK := fun v H2 => ∃ k : Int, v = .int k ∧ 0 ≤ k ∧ k < 1000 ∧ Kp [] H1 H2 ∧ ∀ H3, Kp [it, q] H2 H3 → H3 q = some (.lst xs) → Q (.ref q) H3
theorem r_listOwn (e : H a = some (.ins C dx fs)) (ht : SqT K H t xs) (q : ∀ q H0, H q = none → Kp [] H H0 → H0 q = some (.lst []) → spI [.ref a] H0 (kLoI spL a t xs q H0 Q) E0) : rListOwn K C spI spL [.ref a] H Q := ⟨a, dx, fs, t, xs, rfl, e, ht, fun p n => q p _ n (Kp.new n) upd_same⟩
theorem r_kLoI {H0 : Hp} {it q : Addr} (n : t ≠ it) (e : H it = some (TiO t it 0)) (k : Kp [] H0 H) (h : spL [.ref a] H (kLoL it q xs H Q) E0) : kLoI spL a t xs q H0 Q (.ref it) H := ⟨it, rfl, n, e, k, h⟩
theorem r_kLoL {H1 : Hp} {it q : Addr} {k : Int} (k0 : 0 ≤ k) (k1 : k < 1000) (kk : Kp [] H1 H) (h : ∀ H3, Kp [it, q] H H3 → H3 q = some (.lst xs) → Q (.ref q) H3) : kLoL it q xs H1 Q (.int k) H := ⟨k, rfl, k0, k1, kk, h⟩
end
end Rd

namespace My
open PySem L2 Rd StX
def top (i : Nat) : Stmt := PySem.Challenge.pw_silentswaps_k01_kinds_made.main.body.getD i (.Pass ⟨0, 0, 0, 0⟩)
local macro_rules | `(tactic| walk_at "s") => `(tactic| (first
  | (with_reducible refine r_seq ?_)
  | (with_reducible refine r_asg ?_)
  | ((with_reducible refine' r_var (v := ?v) ?hv ?_); (case hv => exact rfl))
  | (with_reducible refine r_c ?_)
  | (with_reducible refine r_name ?_)
  | (with_reducible refine r_op ?_)
  | (with_reducible refine r_un ?_)
  | (with_reducible refine r_consA ?_)
  | (with_reducible refine r_nilA ?_)
  | (with_reducible refine r_I0 ?_)
  | (with_reducible refine r_U ?_)
  | (with_reducible refine r_eqI ?_)
  | (with_reducible refine r_neI ?_)
  | (with_reducible refine r_test ?_)
  | (with_reducible refine r_tB ?_)
  | (with_reducible refine r_kB ?_)
  | (with_reducible refine r_ifS ?_)
  | (with_reducible refine r_if ?_)
  | (with_reducible refine r_and ?_)
  | (with_reducible refine r_or ?_)
  | (with_reducible refine r_not ?_)
  | (with_reducible refine r_ret ?_)
  | (with_reducible refine r_retN ?_)
  | (with_reducible refine r_next ?_)
  | (with_reducible refine r_drop ?_)
  | (with_reducible refine r_brk ?_)
  | (with_reducible refine r_cont ?_)
  | (with_reducible refine r_andV ?_)
  | (with_reducible refine r_orV ?_)
  | (with_reducible refine r_notV ?_)
  | (with_reducible refine r_kNotV ?_)
  | (with_reducible refine r_lst ?_)
  | (with_reducible refine r_tup ?_)
  | (with_reducible refine r_dget ?_)
  | (with_reducible refine r_dput ?_)
  | (with_reducible refine r_use ?_)
  | (with_reducible refine r_cb ?_)
  | (with_reducible refine r_par ?_)
  | (with_reducible refine r_int ?_)
  | (with_reducible refine r_abs ?_)
  | (with_reducible refine r_max2 ?_)
  | (with_reducible refine r_min2 ?_)
  | (with_reducible refine r_pnil ?_)
  | (with_reducible refine r_pcons ?_)
  | (with_reducible refine r_eqS ?_)
  | (with_reducible refine r_neS ?_)
  | (with_reducible refine r_for ?_)
  | (with_reducible refine r_rng1 ?_)
  | (with_reducible refine r_rng2 ?_)
  | (with_reducible refine r_wl ?_)
  | (with_reducible refine r_wt ?_)
  | (with_reducible refine r_wq ?_)
  | (with_reducible refine r_ws ?_)
  | (with_reducible refine r_cWS ?_)
  | (with_reducible refine r_enum ?_)
  | (with_reducible refine r_zip ?_)
  | (with_reducible refine r_lc ?_)
  | (with_reducible refine r_dc ?_)
  | ((with_reducible refine r_kTurn ?ht ?_); (case ht => rfl))
  | ((with_reducible refine r_kTurnD ?ht ?_); (case ht => rfl))
  | (with_reducible refine r_yes ?_)
  | ((with_reducible refine r_kKeep1 ?hk ?_); (case hk => rfl))
  | ((with_reducible refine r_kKeepD1 ?hk ?_); (case hk => rfl))
  | (with_reducible refine r_gcons ?_)
  | (with_reducible refine r_gnil ?_)
  | (with_reducible refine r_bm ?_)
  | (with_reducible refine r_bm0 ?_)
  | (with_reducible refine r_fld ?_)
  | (with_reducible refine r_sfld ?_)
  | (with_reducible refine r_methR ?_)
  | (with_reducible refine r_makeR ?_)
  | (with_reducible refine r_chain ?_)))
local macro_rules | `(tactic| walk_at "S") => `(tactic| repeat walk_at "s")
local macro_rules | `(tactic| walk_at "D") => `(tactic| repeat' (first
  | exact AD_nil
  | refine AD_cons ?_ (fun _ _ => ?_)
  | refine ED_tup ?_ (Nat.le_trans (m := 100) (Nat.le_of_ble_eq_true rfl) (by decide))
  | refine ED_lst ?_ (Nat.le_trans (m := 100) (Nat.le_of_ble_eq_true rfl) (by decide))
  | exact ED_c (by constructor)
  | exact ED_var rfl (by constructor)))
local macro_rules | `(tactic| walk_at "N") => `(tactic| repeat' (first
  | exact AN_nil
  | refine AN_cons ?_ (fun _ _ => ?_)
  | refine EN_tup ?_ (Nat.le_trans (m := 100) (Nat.le_of_ble_eq_true rfl) (by decide))
  | refine EN_lst ?_ (Nat.le_trans (m := 100) (Nat.le_of_ble_eq_true rfl) (by decide))
  | exact EN_c (fun _ => by constructor)
  | exact EN_var rfl (fun _ => by constructor)))

/-- what the walk asks of the module's names -/
structure Txt (K : PySem.W.Frag) (mg : Str → Option Value) (C_Kinds : Addr) (G_RESERVED : Addr) : Prop where
  z_ValueError : mg "ValueError" = none
  z_all : mg "all" = none
  z_range : mg "range" = none
  z_enumerate : mg "enumerate" = none
  z_any : mg "any" = none
  z_len : mg "len" = none
  z_iter : mg "iter" = none
  z_abs : mg "abs" = none
  z_int : mg "int" = none
  z_list : mg "list" = none
  z_min : mg "min" = none
  z_max : mg "max" = none
  z_isinstance : mg "isinstance" = none
  z_str : mg "str" = none
  z_bool : mg "bool" = none
  z_tuple : mg "tuple" = none
  z_super : mg "super" = none
  c_Kinds : Cls K C_Kinds
  v_Kinds : ∃ u, mg "Kinds" = some u ∧ RelV (.ref C_Kinds) u
  na_Kinds_names : NoAttr K C_Kinds "names"
  na_Kinds_entries : NoAttr K C_Kinds "entries"
  k_cl : PySem.W.findIn K (.ref C_Kinds) "__class__" = some (some (.builtin "object.__class__"))
  k_gt : PySem.W.specialIn K (.builtin "object.__class__") "__get__" = some (some (.builtin "getset_descriptor.__get__"))
  k_tk : PySem.W.takesIn K (.builtin "object.__class__") = some true
  k_ob : PySem.W.mroIn K C_Kinds (.type "object") = some true
  k_ne : PySem.W.findIn K (.ref C_Kinds) "__ne__" = some (some (.builtin "object.__ne__"))
  k_L : PySem.W.kitOne K (.type "list") (.ref C_Kinds) = some false
  k_T : PySem.W.kitOne K (.type "tuple") (.ref C_Kinds) = some false
  f_L : PySem.W.notFirst K C_Kinds (.type "list") = true
  f_T : PySem.W.notFirst K C_Kinds (.type "tuple") = true
  g_LETTERS : ∃ u, mg "LETTERS" = some u ∧ RelV (.str "abcdefghijklmnopqrstuvwxyz") u
  g_RESERVED : ∃ u, mg "RESERVED" = some u ∧ RelV (.ref G_RESERVED) u
  q_RESERVED : ∀ H, SqT K H G_RESERVED [V.str "kind", V.str "def", V.str "set", V.str "ask", V.str "call", V.str "again", V.str "check", V.str "mean", V.str "if", V.str "else", V.str "end", V.str "return", V.str "refuse", V.str "is", V.str "self", V.str "cls"]
  g_MOST_KINDS : ∃ u, mg "MOST_KINDS" = some u ∧ RelV (.int (4)) u
section
variable {P : Program} {w : World} {K : PySem.W.Frag} {mg : Str → Option Value} {base : Heap}
variable {C_Kinds : Addr} {G_RESERVED : Addr}

/-! ### the draws: a dict of four numbers -/
def bagL (d s t r : Int) : List (Key × V) := [(Sum.inr "digits", .int d), (Sum.inr "seed", .int s), (Sum.inr "turn", .int t), (Sum.inr "room", .int r)]
/-- the draws of a cell stand at p, at least n of them are left -/
def BagAt (H : Hp) (p : Addr) (n : Nat) : Prop := ∃ d s t r : Int, H p = some (.dK (bagL d s t r)) ∧ 0 ≤ d ∧ 0 ≤ s ∧ s < 2305843009213693951 ∧ 0 ≤ t ∧ t + n ≤ 80000000000
theorem BagAt.mono {H : Hp} {p : Addr} {n m : Nat} (b : BagAt H p n) (h : m ≤ n) : BagAt H p m := by
  obtain ⟨d, s, t, r, e, h1, h2, h3, h4, h5⟩ := b
  exact ⟨d, s, t, r, e, h1, h2, h3, h4, by omega⟩
theorem BagAt.kp {H H' : Hp} {p : Addr} {n : Nat} {ex : List Addr} (b : BagAt H p n) (k : Kp ex H H') (m : p ∉ ex) : BagAt H' p n := by
  obtain ⟨d, s, t, r, e, h⟩ := b
  exact ⟨d, s, t, r, k _ _ e m, h⟩
theorem BagAt.some {H : Hp} {p : Addr} {n : Nat} (b : BagAt H p n) : ∃ o, H p = Option.some o := by
  obtain ⟨d, s, t, r, e, _⟩ := b
  exact ⟨_, e⟩
theorem bag_d (d s t r : Int) : valV (bagL d s t r) (Sum.inr "digits") = some (.int d) := by
  unfold bagL
  rw [valV_pos rfl]
theorem bag_s (d s t r : Int) : valV (bagL d s t r) (Sum.inr "seed") = some (.int s) := by
  unfold bagL
  rw [valV_neg (show ¬ (Sum.inr ("digits" : Str) : Key) = Sum.inr ("seed" : Str) by decide +kernel), valV_pos rfl]
theorem bag_t (d s t r : Int) : valV (bagL d s t r) (Sum.inr "turn") = some (.int t) := by
  unfold bagL
  rw [valV_neg (show ¬ (Sum.inr ("digits" : Str) : Key) = Sum.inr ("turn" : Str) by decide +kernel), valV_neg (show ¬ (Sum.inr ("seed" : Str) : Key) = Sum.inr ("turn" : Str) by decide +kernel), valV_pos rfl]
theorem bag_d' (d s t r z : Int) : putK (bagL d s t r) (Sum.inr "digits") (.int z) = bagL z s t r := by
  unfold putK bagL
  have e1 : ¬ (("seed" : Str) = "digits") := by decide +kernel
  have e2 : ¬ (("turn" : Str) = "digits") := by decide +kernel
  have e3 : ¬ (("room" : Str) = "digits") := by decide +kernel
  simp [e1, e2, e3]
theorem bag_t' (d s t r z : Int) : putK (bagL d s t r) (Sum.inr "turn") (.int z) = bagL d s z r := by
  unfold putK bagL
  have e1 : ¬ (("seed" : Str) = "turn") := by decide +kernel
  have e2 : ¬ (("digits" : Str) = "turn") := by decide +kernel
  have e3 : ¬ (("room" : Str) = "turn") := by decide +kernel
  simp [e1, e2, e3]
theorem bag_len (d s t r : Int) : (bagL d s t r).length < sizeLine := by
  show 4 < sizeLine
  decide
theorem bag_mk (d s t r : Int) : mergeK [] (bagL d s t r) = bagL d s t r := by
  have e1 : ¬ (("seed" : Str) = "digits") := by decide +kernel
  have e2 : ¬ (("turn" : Str) = "digits") := by decide +kernel
  have e3 : ¬ (("room" : Str) = "digits") := by decide +kernel
  have e4 : ¬ (("turn" : Str) = "seed") := by decide +kernel
  have e5 : ¬ (("room" : Str) = "seed") := by decide +kernel
  have e6 : ¬ (("room" : Str) = "turn") := by decide +kernel
  have f1 : ¬ (("digits" : Str) = "seed") := by decide +kernel
  have f2 : ¬ (("digits" : Str) = "turn") := by decide +kernel
  have f3 : ¬ (("digits" : Str) = "room") := by decide +kernel
  have f4 : ¬ (("seed" : Str) = "turn") := by decide +kernel
  have f5 : ¬ (("seed" : Str) = "room") := by decide +kernel
  have f6 : ¬ (("turn" : Str) = "room") := by decide +kernel
  simp [mergeK, bagL, putK, f1, f2, f3, f4, f5, f6]
/-- _law_bag(script, at): a new bag -/
def sp__law_bag (K : PySem.W.Frag) : Sp := fun vs H Q _ => ∃ (a : Addr) (ns : List Int) (k : Nat), vs = [.ref a, .int (k : Int)] ∧ SqL K H a (ns.map V.int) ∧ k ≤ 1000 ∧
  ∀ p H', H p = none → Kp [] H H' → BagAt H' p 70000000000 → Q (.ref p) H'
/-- _law_take(bag, many): some number from 0 to below many; nothing but the bag changes -/
def sp__law_take : Sp := fun vs H Q _ => ∃ (p : Addr) (n : Nat) (m : Int), vs = [.ref p, .int m] ∧ BagAt H p (n + 1) ∧ 0 < m ∧ m < 2 ^ 200 ∧
  ∀ (r : Int) H', 0 ≤ r → r < m → Kp [p] H H' → BagAt H' p n → Q (.int r) H'
theorem cdivw {i j : Int} (h : 0 < j) (h2 : j < 2 ^ 200) : CDivW i j := wide_div h (by omega : j.natAbs < 2 ^ 200) (by decide) (by decide)
abbrev s__law_take : Stmt := top 13
theorem sc__law_take : FnScope ["_law_bag_here", "_law_many", "_law_digit", "_law_mixed"] ["_law_bag_here", "_law_many"] (defScope s__law_take) :=
  ⟨rfl, rfl, rfl, by decide +kernel, rfl, by decide +kernel, by decide +kernel⟩
theorem ok__law_take {f : Addr} {fd : FuncData} (F : Fun K "_law_take" "_law_take" s__law_take f fd) (T : Txt K mg C_Kinds G_RESERVED) :
    FnOk P w K mg base CX0 2 f fd ["_law_bag_here", "_law_many"] (sp__law_take) := by
  refine F.ok sc__law_take (fun vs H Q E h => ?_) (fun cdv A outer s H vs Q E hr h => ?_)
  · obtain ⟨p, n, m, rfl, _⟩ := h
    rfl
  · obtain ⟨p, n, m, rfl, hb, h0, h1, q⟩ := h
    obtain ⟨d, z, t, r, e, b1, b2, b3, b4, b5⟩ := hb
    have hu := hu_of hr
    have hu64 := hr.units
    refine ⟨_, (pss_cons (ps_if (pt_cmpR op_gt (pe_dget hu (pv 0) pe_str (fun _ _ => rfl)) pe_int (nomark _))
          (pss_cons (ps_set (i := 2) sc__law_take.nd rfl (by first | exact Or.inl rfl | exact Or.inr rfl) (pe_op op_modN (pe_callTy cr_int (by rfl) T.z_int (by decide +kernel) (pa_cons (pe_dget hu (pv 0) pe_str (fun _ _ => rfl)) pa_nil)) (pv 1)))
          (pss_cons (ps_dput hu (pv 0) pe_str (pe_op op_fdivW (pe_dget hu (pv 0) pe_str (fun _ _ => rfl)) (pv 1)) rfl)
          (pss_one (ps_ret (pv 2)))))
          pss_nil)
        (pss_cons (ps_dput hu (pv 0) pe_str (pe_op op_add (pe_dget hu (pv 0) pe_str (fun _ _ => rfl)) pe_int) rfl)
        (pss_cons (ps_set (i := 3) sc__law_take.nd rfl (by first | exact Or.inl rfl | exact Or.inr rfl) (pe_op op_modN (pe_callTy cr_int (by rfl) T.z_int (by decide +kernel) (pa_cons (pe_op op_add (pe_op op_pow (pe_op op_add (pe_dget hu (pv 0) pe_str (fun _ _ => rfl)) (pe_op op_mul pe_int (pe_dget hu (pv 0) pe_str (fun _ _ => rfl)))) pe_int) (pe_op op_mul pe_int (pe_dget hu (pv 0) pe_str (fun _ _ => rfl)))) pa_nil)) pe_int))
        (pss_cons (ps_set (i := 3) sc__law_take.nd rfl (by first | exact Or.inl rfl | exact Or.inr rfl) (pe_op op_modN (pe_callTy cr_int (by rfl) T.z_int (by decide +kernel) (pa_cons (pe_op op_pow (pe_op op_add (pv 3) (pe_op op_mul pe_int (pe_dget hu (pv 0) pe_str (fun _ _ => rfl)))) pe_int) pa_nil)) pe_int))
        (pss_one (ps_ret (pe_op op_modN (pe_callTy cr_int (by rfl) T.z_int (by decide +kernel) (pa_cons (pe_op op_fdivW (pv 3) pe_int) pa_nil)) (pv 1)))))))), ?_⟩
    walk_at "S"
    refine r_kDGs e (bag_d _ _ _ _) ?_
    walk_at "S"
    refine r_kIfS (fun c => ?_) (fun c => ?_)
    · walk_at "S"
      refine r_kDGs e (bag_d _ _ _ _) ?_
      walk_at "S"
      refine r_I (by omega) ?_
      walk_at "S"
      refine r_kDGs e (bag_d _ _ _ _) ?_
      walk_at "S"
      refine r_I (cdivw h0 h1) ?_
      walk_at "S"
      refine r_kDPs e (bag_len _ _ _ _) ?_
      walk_at "S"
      rw [bag_d']
      refine q _ _ (Int.fmod_nonneg_of_pos _ h0) (Int.fmod_lt_of_pos _ h0) (Kp.put (by simp)) ⟨_, _, _, _, upd_same, Int.ediv_nonneg b1 (by omega), b2, b3, b4, by omega⟩
    · walk_at "S"
      refine r_kDGs e (bag_t _ _ _ _) ?_
      walk_at "S"
      refine r_kDPs e (bag_len _ _ _ _) ?_
      rw [bag_t']
      have e' : upd H p (.dK (bagL d z (t + 1) r)) p = some (.dK (bagL d z (t + 1) r)) := upd_same
      generalize hH : upd H p (.dK (bagL d z (t + 1) r)) = H1 at e'
      have k1 : Kp [p] H H1 := by
        rw [← hH]
        exact Kp.put (by simp)
      walk_at "S"
      refine r_kDGs e' (bag_s _ _ _ _) ?_
      walk_at "S"
      refine r_kDGs e' (bag_t _ _ _ _) ?_
      walk_at "S"
      refine r_I (.inl (by decide)) ?_
      walk_at "S"
      refine r_I ⟨by decide, by decide, by omega⟩ ?_
      walk_at "S"
      refine r_kDGs e' (bag_t _ _ _ _) ?_
      walk_at "S"
      refine r_I (.inl (by decide)) ?_
      walk_at "S"
      refine r_I (by decide) ?_
      generalize hx : Int.fmod _ 2305843009213693921 = x
      have x0 : 0 ≤ x := hx ▸ Int.fmod_nonneg_of_pos _ (by decide)
      have x1 : x < 2305843009213693921 := hx ▸ Int.fmod_lt_of_pos _ (by decide)
      walk_at "S"
      refine r_kDGs e' (bag_t _ _ _ _) ?_
      walk_at "S"
      refine r_I (.inl (by decide)) ?_
      walk_at "S"
      refine r_I ⟨by decide, by decide, by omega⟩ ?_
      walk_at "S"
      refine r_I (by decide) ?_
      walk_at "S"
      refine r_I (cdivw (by decide) (by decide)) ?_
      walk_at "S"
      refine r_I (by omega) ?_
      exact q _ _ (Int.fmod_nonneg_of_pos _ h0) (Int.fmod_lt_of_pos _ h0) k1 ⟨_, _, _, _, e', b1, b2, b3, by omega, by omega⟩

abbrev s__law_bag : Stmt := top 12
theorem sc__law_bag : FnScope ["_law_script", "_law_at", "_law_cell", "_law_digits"] ["_law_script", "_law_at"] (defScope s__law_bag) :=
  ⟨rfl, rfl, rfl, by decide +kernel, rfl, by decide +kernel, by decide +kernel⟩
theorem ok__law_bag {f : Addr} {fd : FuncData} (F : Fun K "_law_bag" "_law_bag" s__law_bag f fd) (T : Txt K mg C_Kinds G_RESERVED) :
    FnOk P w K mg base CX0 2 f fd ["_law_script", "_law_at"] (sp__law_bag K) := by
  refine F.ok sc__law_bag (fun vs H Q E h => ?_) (fun cdv A outer s H vs Q E hr h => ?_)
  · obtain ⟨a, ns, k, rfl, _⟩ := h
    rfl
  · obtain ⟨a, ns, k, rfl, hS, hk, q⟩ := h
    have hu := hu_of hr
    have hu64 := hr.units
    refine ⟨_, (pss_cons (ps_set (i := 2) sc__law_bag.nd rfl (by first | exact Or.inl rfl | exact Or.inr rfl) (pe_ifExp (pt_cmpR op_lt (pv 1) (pe_callB (K_len (K := K) rfl) (by rfl) T.z_len (by decide +kernel) (pa_cons (pv 0) pa_nil)) (nomark _)) (pe_ix (K_ixL (K := K) rfl) (pv 0) (pv 1) (fun _ _ => rfl)) pe_int))
        (pss_cons (ps_set (i := 3) sc__law_bag.nd rfl (by first | exact Or.inl rfl | exact Or.inr rfl) (pe_ifExp (pt_cmpR op_ge (pe_callB cr_abs (by rfl) T.z_abs (by decide +kernel) (pa_cons (pv 2) pa_nil)) (pe_op op_pow pe_int pe_int) (nomark _)) (pe_callB cr_abs (by rfl) T.z_abs (by decide +kernel) (pa_cons (pv 2) pa_nil)) pe_int))
        (pss_one (ps_ret (pe_disp (pps_cons pe_str (pv 3) (pps_cons pe_str (pe_op op_modN (pe_callTy cr_int (by rfl) T.z_int (by decide +kernel) (pa_cons (pv 2) pa_nil)) pe_int) (pps_cons pe_str (pe_op op_mul pe_int (pv 1)) (pps_cons pe_str pe_int pps_nil)))) (by rfl) (by rfl) (fun z => by cases z) (by decide)))))), ?_⟩
    have rest : ∀ c d : Int, 0 ≤ d → ∀ (p : Addr) (H1 : Hp), H p = none → Kp [] H H1 → H1 p = some (.dK []) →
        kDisp Q p ((bagL d (Int.fmod c 2305843009213693951) (31 * (k : Int)) 0).map fun kv => (kV kv.1, kv.2)) H1 := fun c d hd p H1 np k1 e1 => by
      refine r_kDisp e1 (by show 4 ≤ 15; decide) fun H2 k2 e2 => ?_
      rw [bag_mk] at e2
      exact q p H2 np (k1.nil.trans k2 |>.drop np) ⟨_, _, _, _, e2, hd, Int.fmod_nonneg_of_pos _ (by decide), Int.fmod_lt_of_pos _ (by decide), by omega, by omega⟩
    have nn : ∀ c : Int, 0 ≤ (if c < 0 then -c else c) := fun c => by
      split <;> omega
    walk_at "S"
    refine r_lenL hS ?_
    walk_at "S"
    refine r_kIf (fun c => ?_) (fun c => ?_)
    all_goals
      walk_at "S"
    · have c' : (k : Int) < ((ns.map V.int).length : Nat) := of_decide_eq_true c
      obtain ⟨v, hv, hm, _⟩ := atI_in (l := ns.map V.int) (i := (k : Int)) (by omega) c'
      obtain ⟨z, _, rfl⟩ := List.mem_map.mp hm
      refine r_ixL hS hv ?_
      walk_at "S"
      refine r_I ⟨by decide, by decide, by decide⟩ ?_
      walk_at "S"
      refine r_kIf (fun c => ?_) (fun c => ?_)
      all_goals
        walk_at "S"
        refine r_disp fun p H1 np k1 e1 => ?_
        walk_at "S"
        refine r_I (by decide) ?_
        walk_at "S"
        refine r_I (.inl (by decide)) ?_
        walk_at "S"
      · exact rest z _ (nn z) p H1 np k1 e1
      · exact rest z _ (by decide) p H1 np k1 e1
    · refine r_I ⟨by decide, by decide, by decide⟩ ?_
      walk_at "S"
      refine r_kIf (fun c => ?_) (fun c => ?_)
      all_goals
        walk_at "S"
        refine r_disp fun p H1 np k1 e1 => ?_
        walk_at "S"
        refine r_I (by decide) ?_
        walk_at "S"
        refine r_I (.inl (by decide)) ?_
        walk_at "S"
      · exact rest 0 _ (nn 0) p H1 np k1 e1
      · exact rest 0 _ (by decide) p H1 np k1 e1
/-- _law_of(bag, some), some a list: one of its items -/
def sp__law_of (K : PySem.W.Frag) : Sp := fun vs H Q _ => ∃ (p a : Addr) (n : Nat) (xs : List V), vs = [.ref p, .ref a] ∧ BagAt H p (n + 1) ∧ SqL K H a xs ∧ 0 < xs.length ∧ xs.length ≤ 1000000 ∧
  ∀ (v : V) H', v ∈ xs → Kp [p] H H' → BagAt H' p n → Q v H'
theorem sql_bag {H H' : Hp} {p a : Addr} {xs : List V} {n : Nat} (h : SqL K H a xs) (b : BagAt H p n) (k : Kp [p] H H') : SqL K H' a xs := by
  obtain ⟨d, s, t, r, e, _⟩ := b
  exact sql_but h k e (fun _ z => nomatch z) (fun _ _ z => nomatch z)
theorem r_ofS {H : Hp} {Q : VK} {p a : Addr} {n : Nat} {ws : List Str} (hb : BagAt H p (n + 1)) (hS : SqL K H a (ws.map V.str)) (h0 : 0 < ws.length) (h1 : ws.length ≤ 1000000) (q : ∀ (w : Str) H', w ∈ ws → Kp [p] H H' → BagAt H' p n → Q (.str w) H') : sp__law_of K [.ref p, .ref a] H Q E0 :=
  ⟨p, a, n, _, rfl, hb, hS, by rw [List.length_map]; exact h0, by rw [List.length_map]; exact h1, fun v H' m k b => by
    obtain ⟨w, hw, rfl⟩ := List.mem_map.mp m
    exact q w H' hw k b⟩
theorem r_ofI {H : Hp} {Q : VK} {p a : Addr} {n : Nat} {ws : List Int} (hb : BagAt H p (n + 1)) (hS : SqL K H a (ws.map V.int)) (h0 : 0 < ws.length) (h1 : ws.length ≤ 1000000) (q : ∀ (w : Int) H', w ∈ ws → Kp [p] H H' → BagAt H' p n → Q (.int w) H') : sp__law_of K [.ref p, .ref a] H Q E0 :=
  ⟨p, a, n, _, rfl, hb, hS, by rw [List.length_map]; exact h0, by rw [List.length_map]; exact h1, fun v H' m k b => by
    obtain ⟨w, hw, rfl⟩ := List.mem_map.mp m
    exact q w H' hw k b⟩
abbrev s__law_of : Stmt := top 14
theorem sc__law_of : FnScope ["_law_bag_here", "_law_some_here"] ["_law_bag_here", "_law_some_here"] (defScope s__law_of) :=
  ⟨rfl, rfl, rfl, by decide +kernel, rfl, by decide +kernel, by decide +kernel⟩
theorem ok__law_of {f : Addr} {fd : FuncData} (F : Fun K "_law_of" "_law_of" s__law_of f fd) (T : Txt K mg C_Kinds G_RESERVED) (U__law_take : Use P w K mg base 2 "_law_take" ["_law_bag_here", "_law_many"] (sp__law_take)) :
    FnOk P w K mg base CX0 4 f fd ["_law_bag_here", "_law_some_here"] (sp__law_of K) := by
  refine F.ok sc__law_of (fun vs H Q E h => ?_) (fun cdv A outer s H vs Q E hr h => ?_)
  · obtain ⟨p, a, n, xs, rfl, _⟩ := h
    rfl
  · obtain ⟨p, a, n, xs, rfl, hb, hS, h0, h1, q⟩ := h
    have hu := hu_of hr
    have hu64 := hr.units
    refine ⟨_, (pss_one (ps_ret (pe_ix (K_ixL (K := K) rfl) (pv 1) (pe_use U__law_take (hr.mono (by first | decide | omega)) (by rfl) (pa_cons (pv 0) (pa_cons (pe_callB (K_len (K := K) rfl) (by rfl) T.z_len (by decide +kernel) (pa_cons (pv 1) pa_nil)) pa_nil))) (fun _ _ => rfl)))), ?_⟩
    walk_at "S"
    refine r_lenL hS ?_
    walk_at "S"
    refine ⟨p, n, _, rfl, hb, by omega, by omega, fun r H1 r0 r1 k1 b1 => ?_⟩
    obtain ⟨v, hv, hm, _⟩ := atI_in (l := xs) r0 r1
    refine r_ixL (sql_bag hS hb k1) hv ?_
    exact q v H1 hm k1 b1

/-! ### names: one to eight letters a to z, none of them reserved -/
def reserved : List Str := ["kind", "def", "set", "ask", "call", "again", "check", "mean", "if", "else", "end", "return", "refuse", "is", "self", "cls"]
def res13 : List Str := ["kind", "def", "set", "ask", "call", "again", "check", "mean", "if", "else", "end", "return", "refuse"]
def res3 : List Str := ["is", "self", "cls"]
theorem reserved_eq : reserved = res13 ++ res3 := rfl
def letters : Str := "abcdefghijklmnopqrstuvwxyz"
def NameOk (w : Str) : Prop := 1 ≤ w.cps.toList.length ∧ w.cps.toList.length ≤ 8 ∧ (∀ c ∈ w.cps.toList, 97 ≤ c ∧ c ≤ 122) ∧ w ∉ reserved
instance (w : Str) : Decidable (NameOk w) := by
  unfold NameOk
  infer_instance
def menu8 : List Str := ["a", "b", "c", "n", "text", "cents", "rest", "whole"]
def qs : List Str := letters.cps.toList.map fun c => ("q" : Str) ++ ⟨#[c]⟩
theorem menu_ok : ∀ w ∈ menu8, NameOk w := by decide +kernel
theorem qs_ok : ∀ w ∈ qs, NameOk w := by decide +kernel
theorem qs_len : qs.length = 26 := by decide +kernel
theorem qs_nd : qs.Nodup := by decide +kernel
theorem letters_len : letters.cps.toList.length = 26 := by decide +kernel
theorem letters_in : ∀ c ∈ letters.cps.toList, 97 ≤ c ∧ c ≤ 122 := by decide +kernel
theorem str_length (z : Str) : z.length = z.cps.toList.length := by
  show z.cps.size = _
  simp
theorem str_app (a b : Str) : (a ++ b).cps.toList = a.cps.toList ++ b.cps.toList := by
  show (a.cps ++ b.cps).toList = _
  simp
theorem nodup_le {α : Type} [DecidableEq α] : ∀ {l m : List α}, l.Nodup → (∀ x ∈ l, x ∈ m) → l.length ≤ m.length
  | [], _, _, _ => Nat.zero_le _
  | x :: l, m, h, s => by
    have hx := List.nodup_cons.mp h
    have ih := nodup_le (l := l) (m := m.erase x) hx.2 fun y hy => by
      have n : y ≠ x := fun e => hx.1 (e ▸ hy)
      exact (List.mem_erase_of_ne n).mpr (s y (List.mem_cons_of_mem _ hy))
    have mx := s x List.mem_cons_self
    rw [List.length_erase_of_mem mx] at ih
    have : 0 < m.length := List.length_pos_of_mem mx
    rw [List.length_cons]
    omega
/-- among the 26 words one is not taken -/
theorem qs_left {ws : List Str} (h : ws.length ≤ 25) : (qs.filter fun w => decide (w ∉ ws)) ≠ [] := by
  intro e
  have all : ∀ w ∈ qs, w ∈ ws := fun w hw => by
    by_cases c : w ∈ ws
    · exact c
    · have m : w ∈ qs.filter fun w => decide (w ∉ ws) := List.mem_filter.mpr ⟨hw, decide_eq_true c⟩
      rw [e] at m
      cases m
  have := nodup_le qs_nd all
  rw [qs_len] at this
  omega
/-- _law_name(bag, taken), taken a list of at most 25 texts: a name that is none of them -/
def sp__law_name (K : PySem.W.Frag) : Sp := fun vs H Q _ => ∃ (p a : Addr) (n : Nat) (ws : List Str), vs = [.ref p, .ref a] ∧ BagAt H p (n + 12) ∧ SqL K H a (ws.map V.str) ∧ ws.length ≤ 25 ∧
  ∀ (w : Str) H', NameOk w → w ∉ ws → Kp [p] H H' → BagAt H' p n → Q (.str w) H'
abbrev s__law_name : Stmt := top 15
theorem sc__law_name : FnScope ["_law_bag_here", "_law_taken", "_law_letters", "_law_word", "_law_k", "_law_reserved", "_law_letter", "_law_one"] ["_law_bag_here", "_law_taken"] (defScope s__law_name) :=
  ⟨rfl, rfl, rfl, by decide +kernel, rfl, by decide +kernel, by decide +kernel⟩
theorem ok__law_name {f : Addr} {fd : FuncData} (F : Fun K "_law_name" "_law_name" s__law_name f fd) (T : Txt K mg C_Kinds G_RESERVED) (U__law_take : Use P w K mg base 2 "_law_take" ["_law_bag_here", "_law_many"] (sp__law_take)) (U__law_of : Use P w K mg base 4 "_law_of" ["_law_bag_here", "_law_some_here"] (sp__law_of K)) :
    FnOk P w K mg base CX0 6 f fd ["_law_bag_here", "_law_taken"] (sp__law_name K) := by
  refine F.ok sc__law_name (fun vs H Q E h => ?_) (fun cdv A outer s H vs Q E hr h => ?_)
  · obtain ⟨p, a, n, ws, rfl, _⟩ := h
    rfl
  · obtain ⟨p, a, n, ws, rfl, hb, hS, hw, q⟩ := h
    have hu := hu_of hr
    have hu64 := hr.units
    refine ⟨_, (pss_cons (ps_set (i := 2) sc__law_name.nd rfl (by first | exact Or.inl rfl | exact Or.inr rfl) pe_str)
        (pss_cons (ps_set (i := 3) sc__law_name.nd rfl (by first | exact Or.inl rfl | exact Or.inr rfl) (pe_use U__law_of (hr.mono (by first | decide | omega)) (by rfl) (pa_cons (pv 0) (pa_cons (pe_lst (pa_cons pe_str (pa_cons pe_str (pa_cons pe_str (pa_cons pe_str (pa_cons pe_str (pa_cons pe_str (pa_cons pe_str (pa_cons pe_str pa_nil))))))))) pa_nil))))
        (pss_cutS (ps_if (pt_cmpR op_eq (pe_use U__law_take (hr.mono (by first | decide | omega)) (by rfl) (pa_cons (pv 0) (pa_cons pe_int pa_nil))) pe_int (nomark _))
          (pss_cons (ps_set (i := 3) sc__law_name.nd rfl (by first | exact Or.inl rfl | exact Or.inr rfl) pe_str)
          (pss_one (ps_for PassesOwn.never (by rfl) (pi_range1 (by rfl) T.z_range (pa_cons (pe_op op_add pe_int (pe_use U__law_take (hr.mono (by first | decide | omega)) (by rfl) (pa_cons (pv 0) (pa_cons pe_int pa_nil)))) pa_nil)) (pg_name (i := 4) sc__law_name.nd rfl (by first | exact Or.inl rfl | exact Or.inr rfl))
            (pss_one (ps_set (i := 3) sc__law_name.nd rfl (by first | exact Or.inl rfl | exact Or.inr rfl) (pe_op op_addT (pv 3) (pe_ix ix_str (pv 2) (pe_use U__law_take (hr.mono (by first | decide | omega)) (by rfl) (pa_cons (pv 0) (pa_cons pe_int pa_nil))) (fun _ _ => rfl))))))))
          pss_nil)
        (pss_cons (ps_set (i := 5) sc__law_name.nd rfl (by first | exact Or.inl rfl | exact Or.inr rfl) (pe_lst (pa_cons pe_str (pa_cons pe_str (pa_cons pe_str (pa_cons pe_str (pa_cons pe_str (pa_cons pe_str (pa_cons pe_str (pa_cons pe_str (pa_cons pe_str (pa_cons pe_str (pa_cons pe_str (pa_cons pe_str (pa_cons pe_str pa_nil)))))))))))))))
        (pss_cons (ps_if (pt_cutT (PW.pt (pw_or (pt_cmpR (K_in (K := K) rfl) (pv 3) (pv 5) (by with_unfolding_all rfl)) (pw_or (pt_cmpR (K_in (K := K) rfl) (pv 3) (pe_lst (pa_cons pe_str (pa_cons pe_str (pa_cons pe_str pa_nil)))) (by with_unfolding_all rfl)) (pw_or1 (pt_cmpR (K_in (K := K) rfl) (pv 3) (pv 1) (by with_unfolding_all rfl)))))))
          (pss_one (ps_ret (pe_ix (K_ixL (K := K) rfl) (pe_lc (own := [("_law_one", 7)]) (by rfl) sc__law_name.nd (K_pil (K := K) rfl (pe_lc (own := [("_law_letter", 6)]) (by rfl) sc__law_name.nd (pi_str (pv 2)) (blkOk_by (own := [("_law_letter", 6)]) (N := ["_law_bag_here", "_law_taken", "_law_letters", "_law_word", "_law_k", "_law_reserved", "_law_letter", "_law_one"]) (sc := defScope s__law_name) (by decide +kernel)) (fun _ _ _ _ _ => (pg_name (i := 6) sc__law_name.nd rfl (by first | exact Or.inl rfl | exact Or.inr rfl))) (fun _ _ _ _ _ => pts_nil) (fun _ _ _ _ _ => (pe_op op_addT pe_str (pv 6))))) (blkOk_by (own := [("_law_one", 7)]) (N := ["_law_bag_here", "_law_taken", "_law_letters", "_law_word", "_law_k", "_law_reserved", "_law_letter", "_law_one"]) (sc := defScope s__law_name) (by decide +kernel)) (fun _ _ _ _ _ => (pg_name (i := 7) sc__law_name.nd rfl (by first | exact Or.inl rfl | exact Or.inr rfl))) (fun _ _ _ _ _ => pts_one (pt_cmpR (K_notIn (K := K) rfl) (pv 7) (pv 1) (by with_unfolding_all rfl))) (fun _ _ _ _ _ => (pv 7))) pe_int (fun _ _ => rfl))))
          pss_nil)
        (pss_one (ps_ret (pv 3)))))))), ?_⟩
    walk_at "S"
    refine r_kLst (by show 8 ≤ sizeLine; decide) fun l1 H1 n1 k1 e1 => ?_
    walk_at "S"
    refine r_ofS (n := n + 11) (ws := menu8) (hb.kp k1 not_nil) (SqL.of e1) (by decide) (by decide) fun w0 H2 m0 k2 b2 => ?_
    have w0ok := menu_ok w0 m0
    have k02 : Kp [p] H H2 := (k1.nil).trans k2
    walk_at "S"
    refine r_cutS (fun σ' H' => ∃ (w1 : Str) (v : Option V), σ' = [some (.ref p), some (.ref a), some (.str letters), some (.str w1), v, none, none, none] ∧
      (1 ≤ w1.cps.toList.length ∧ w1.cps.toList.length ≤ 8 ∧ ∀ c ∈ w1.cps.toList, 97 ≤ c ∧ c ≤ 122) ∧ Kp [p] H H' ∧ BagAt H' p n) ?_ ?_
    · walk_at "S"
      refine ⟨p, n + 10, 2, rfl, b2, by decide, by decide, fun r H3 r0 r1 k3 b3 => ?_⟩
      have k03 : Kp [p] H H3 := k02.trans k3
      walk_at "S"
      refine r_kIfS (fun c => ?_) (fun c => ?_)
      all_goals
        walk_at "S"
      · refine ⟨p, n + 9, 8, rfl, b3, by decide, by decide, fun m H4 m0 m1 k4 b4 => ?_⟩
        have k04 : Kp [p] H H4 := k03.trans k4
        walk_at "S"
        refine r_cRng1 ⟨by omega, by omega⟩ ?_
        refine r_kForR (fun i σ' H' => ∃ (w1 : Str) (v : Option V), σ' = [some (.ref p), some (.ref a), some (.str letters), some (.str w1), v, none, none, none] ∧
          (w1.cps.toList.length = i ∧ ∀ c ∈ w1.cps.toList, 97 ≤ c ∧ c ≤ 122) ∧ Kp [p] H H' ∧ BagAt H' p (n + (9 - i))) ⟨"", none, rfl, ⟨rfl, fun c hc => by cases hc⟩, k04, b4⟩ ?_ ?_
        · rintro i σ' H5 hi ⟨w1, v, rfl, ⟨hl, hc⟩, k5, b5⟩
          have hi8 : i < 8 := by omega
          walk_at "S"
          refine ⟨p, n + (9 - (i + 1)), 26, rfl, b5.mono (by omega), by decide, by decide, fun g H6 g0 g1 k6 b6 => ?_⟩
          obtain ⟨d, hd, hm, _⟩ := atI_in (l := letters.cps.toList) (i := g) g0 (by rw [letters_len]; exact g1)
          refine r_ixS (by decide +kernel) hd ?_
          refine r_addT ?_ ?_
          · rw [str_length, str_length, hl]
            show i + 1 ≤ sizeLine
            have : 9 ≤ sizeLine := by decide
            omega
          walk_at "S"
          refine ⟨_, _, rfl, ⟨?_, fun c hc' => ?_⟩, k5.trans k6, b6⟩
          · rw [str_app, List.length_append, hl]
            rfl
          · rw [str_app] at hc'
            rcases List.mem_append.mp hc' with z | z
            · exact hc c z
            · obtain rfl := List.mem_singleton.mp z
              exact letters_in _ hm
        · rintro σ' H5 ⟨w1, v, rfl, ⟨hl, hc⟩, k5, b5⟩
          exact ⟨w1, v, rfl, ⟨by omega, by omega, hc⟩, k5, b5.mono (by omega)⟩
      · exact ⟨w0, none, rfl, ⟨w0ok.1, w0ok.2.1, w0ok.2.2.1⟩, k03, b3.mono (by omega)⟩
    rintro σ' H4 ⟨w1, v, rfl, ⟨hl1, hl8, hc⟩, k4, b4⟩
    walk_at "S"
    refine r_kLst (by show 13 ≤ sizeLine; decide) fun l2 H5 n5 k5 e5 => ?_
    have k05 : Kp [p] H H5 := k4.trans k5.nil
    walk_at "S"
    have hS5 : SqL K H5 a (ws.map V.str) := sql_bag hS hb k05
    refine r_cutT (fun b H' => Kp [p] H H' ∧ BagAt H' p n ∧ b = decide (w1 ∈ reserved ∨ w1 ∈ ws)) ?_ ?_
    · walk_at "S"
      refine r_inL (ws := res13) (SqL.of e5) ?_
      walk_at "S"
      refine r_kOr (fun c => ?_) (fun c => ?_)
      · refine ⟨k05, b4.kp k5 not_nil, ?_⟩
        have c' : w1 ∈ res13 := of_decide_eq_true c
        exact (decide_eq_true (.inl (by rw [reserved_eq]; exact List.mem_append_left _ c'))).symm
      have c1 : w1 ∉ res13 := of_decide_eq_false c
      walk_at "S"
      refine r_kLst (by show 3 ≤ sizeLine; decide) fun l3 H6 n6 k6 e6 => ?_
      walk_at "S"
      have k06 : Kp [p] H H6 := k05.trans k6.nil
      have b6 : BagAt H6 p n := (b4.kp k5 not_nil).kp k6 not_nil
      refine r_inL (ws := res3) (SqL.of e6) ?_
      walk_at "S"
      refine r_kOr (fun c => ?_) (fun c => ?_)
      · refine ⟨k06, b6, ?_⟩
        have c' : w1 ∈ res3 := of_decide_eq_true c
        exact (decide_eq_true (.inl (by rw [reserved_eq]; exact List.mem_append_right _ c'))).symm
      have c2 : w1 ∉ res3 := of_decide_eq_false c
      have c3 : w1 ∉ reserved := fun m => by
        rw [reserved_eq] at m
        exact (List.mem_append.mp m).elim c1 c2
      walk_at "S"
      refine r_inL (sql_bag hS hb k06) ?_
      walk_at "S"
      refine ⟨k06, b6, ?_⟩
      by_cases c : w1 ∈ ws
      · rw [decide_eq_true c, decide_eq_true (.inr c)]
      · rw [decide_eq_false c, decide_eq_false fun z => z.elim c3 c]
    · rintro b H' ⟨k6, b6, rfl⟩
      refine r_kIfS (fun c => ?_) (fun c => ?_)
      all_goals
        walk_at "S"
      · have hS6 : SqL K H' a (ws.map V.str) := sql_bag hS hb k6
        refine r_kLcS (fun D i acc H2 => Kp [] H' H2 ∧ acc = ((letters.cps.toList.take i).map fun c => ("q" : Str) ++ ⟨#[c]⟩).map V.str) (fun D H2 nD k7 e7 => ⟨k7, rfl⟩) ?_ ?_
        · rintro D i acc d H2 nD hd eD ⟨k7, rfl⟩
          walk_at "S"
          refine r_addT ?_ ?_
          · show 1 + 1 ≤ sizeLine
            decide
          refine r_kApp eD ?_ fun H3 k8 e8 => ⟨k7.step nD k8, ?_⟩
          · rw [List.length_map, List.length_map, List.length_take]
            have : 26 < sizeLine := by decide
            rw [letters_len]
            omega
          · rw [take_map _ hd, List.map_append]
            rfl
        · rintro D acc H2 nD eD ⟨k7, rfl⟩
          rw [List.take_length] at eD
          have eD : H2 D = some (.lst (qs.map V.str)) := eD
          have hS7 : SqL K H2 a (ws.map V.str) := sql_kp hS6 k7 not_nil
          refine r_cWL (SqL.of eD) ?_
          refine r_kLcL (fun E i acc H3 => Kp [] H2 H3 ∧ acc = ((qs.take i).filter fun w => decide (w ∉ ws)).map V.str) (fun E H3 nE k8 e8 => ⟨k8, rfl⟩) (fun E i acc H3 _ h => sql_kp (SqL.of eD) h.1 not_nil) ?_ ?_
          · rintro E i acc x H3 nE hx eE ⟨k8, rfl⟩
            obtain ⟨u, hu', rfl⟩ := map_at hx
            walk_at "S"
            refine r_notInL (sql_kp hS7 k8 not_nil) ?_
            walk_at "S"
            have ht := take_filter (fun w => decide (w ∉ ws)) hu'
            refine r_kKeep (fun c => ?_) (fun c => ?_)
            · walk_at "S"
              refine r_kApp eE ?_ fun H4 k9 e9 => ⟨k8.step nE k9, ?_⟩
              · rw [List.length_map]
                have h1 : ((qs.take i).filter fun w => decide (w ∉ ws)).length ≤ (qs.take i).length := List.length_filter_le _ _
                have h2 : (qs.take i).length ≤ qs.length := by
                  rw [List.length_take]
                  omega
                rw [qs_len] at h2
                have : 26 < sizeLine := by decide
                omega
              · have c' : decide (u ∉ ws) = true := by simpa using c
                rw [ht, if_pos c', List.map_append]
                rfl
            · have c' : ¬ decide (u ∉ ws) = true := by simpa using c
              exact ⟨_, eE, k8, by rw [ht, if_neg c', List.append_nil]⟩
          · rintro E acc H3 nE eE ⟨k8, rfl⟩
            rw [List.length_map, List.take_length] at eE
            walk_at "S"
            cases hf : qs.filter fun w => decide (w ∉ ws) with
            | nil => exact absurd hf (qs_left hw)
            | cons z zs =>
              have hz : z ∈ qs.filter fun w => decide (w ∉ ws) := by
                rw [hf]
                exact List.mem_cons_self
              obtain ⟨hq, hn⟩ := List.mem_filter.mp hz
              rw [hf] at eE
              refine r_ixL (SqL.of eE) (v := .str z) (atI_nat (j := 0) rfl) ?_
              exact q z H3 (qs_ok z hq) (of_decide_eq_true hn) (k6.trans (k7.trans k8).nil) ((b6.kp k7 not_nil).kp k8 not_nil)
      · have c' : ¬ (w1 ∈ reserved ∨ w1 ∈ ws) := of_decide_eq_false c
        exact q w1 H' ⟨hl1, hl8, hc, fun m => c' (.inl m)⟩ (fun m => c' (.inr m)) k6 b6

/-! ### words and names of data -/
theorem letters_iff (c : Nat) : c ∈ letters.cps.toList ↔ 97 ≤ c ∧ c ≤ 122 := by
  have e : letters.cps.toList = List.range' 97 26 := by decide +kernel
  rw [e, List.mem_range'_1]
  omega
def isWord : PyData → Bool
  | .str w => decide (1 ≤ w.length) && decide (w.length ≤ 8) && w.cps.toList.all fun c => decide (c ∈ letters.cps.toList)
  | _ => false
def isName : PyData → Bool
  | .str w => isWord (.str w) && !decide (w ∈ reserved)
  | _ => false
theorem isWord_eq (w : Str) : isWord (.str w) = (decide (1 ≤ w.length) && decide (w.length ≤ 8) && w.cps.toList.all fun c => decide (c ∈ letters.cps.toList)) := rfl
theorem isName_eq (w : Str) : isName (.str w) = (isWord (.str w) && !decide (w ∈ reserved)) := rfl
theorem isName_iff (w : Str) : isName (.str w) = true ↔ NameOk w := by
  have e : isName (.str w) = ((decide (1 ≤ w.length) && decide (w.length ≤ 8) && w.cps.toList.all fun c => decide (c ∈ letters.cps.toList)) && !decide (w ∈ reserved)) := rfl
  unfold NameOk
  rw [e, str_length]
  simp only [Bool.and_eq_true, decide_eq_true_eq, List.all_eq_true, Bool.not_eq_true', decide_eq_false_iff_not, letters_iff]
  constructor
  · rintro ⟨⟨⟨a, b⟩, c⟩, d⟩
    exact ⟨a, b, c, d⟩
  · rintro ⟨a, b, c, d⟩
    exact ⟨⟨⟨a, b⟩, c⟩, d⟩
theorem isName_str {d : PyData} (h : isName d = true) : ∃ w, d = .str w := by
  cases d <;> first | exact ⟨_, rfl⟩ | cases h
def sp_is_word : Sp := fun vs H Q _ => ∃ (v : V) (d : PyData), vs = [v] ∧ Dt [] H v d ∧ (∀ w, d = .str w → w.length ≤ 1000) ∧ ∀ H', Kp [] H H' → Q (.bl (isWord d)) H'
def sp_is_name : Sp := fun vs H Q _ => ∃ (v : V) (d : PyData), vs = [v] ∧ Dt [] H v d ∧ (∀ w, d = .str w → w.length ≤ 1000) ∧ ∀ H', Kp [] H H' → Q (.bl (isName d)) H'
abbrev s_is_word : Stmt := top 8
theorem sc_is_word : FnScope ["thing", "char"] ["thing"] (defScope s_is_word) :=
  ⟨rfl, rfl, rfl, by decide +kernel, rfl, by decide +kernel, by decide +kernel⟩
theorem ok_is_word {f : Addr} {fd : FuncData} (F : Fun K "is_word" "is_word" s_is_word f fd) (T : Txt K mg C_Kinds G_RESERVED) :
    FnOk P w K mg base CX0 2 f fd ["thing"] (sp_is_word) := by
  refine F.ok sc_is_word (fun vs H Q E h => ?_) (fun cdv A outer s H vs Q E hr h => ?_)
  · obtain ⟨v, d, rfl, _⟩ := h
    rfl
  · obtain ⟨v, d, rfl, hD, hz, q⟩ := h
    have hu := hu_of hr
    have hu64 := hr.units
    refine ⟨_, (pss_cons (ps_if (pt_cutT (PW.pt (pw_or (pt_not (pt_val (pe_callB (K_isi (K := K) rfl) (by rfl) T.z_isinstance (by decide +kernel) (pa_cons (pv 0) (pa_cons (pe_bltn (v := .ty "str") (u := .type "str") (by rfl) T.z_str (by decide +kernel) rfl) pa_nil))))) (pw_or1 (pt_not (pt_chain op_le op_le pe_int (pe_callB cr_lenS (by rfl) T.z_len (by decide +kernel) (pa_cons (pv 0) pa_nil)) pe_int))))))
          (pss_one (ps_ret pe_bl))
          pss_nil)
        (pss_one (ps_ret (pe_callB (K_all (K := K) rfl rfl) (by rfl) T.z_all (by decide +kernel) (pa_cons (pe_lc (own := [("char", 1)]) (by rfl) sc_is_word.nd (pi_str (pv 0)) (blkOk_by (own := [("char", 1)]) (N := ["thing", "char"]) (sc := defScope s_is_word) (by decide +kernel)) (fun _ _ _ _ _ => (pg_name (i := 1) sc_is_word.nd rfl (by first | exact Or.inl rfl | exact Or.inr rfl))) (fun _ _ _ _ _ => pts_nil) (fun _ _ _ _ _ => (pe_cmpR op_inS (pv 1) (pe_globE T.g_LETTERS (by rfl)) (by with_unfolding_all rfl)))) pa_nil))))), ?_⟩
    walk_at "S"
    refine r_cutT (fun b H' => H = H' ∧ ∀ c, b = c → (c = true → isWord d = false) ∧ (c = false → ∃ w, d = .str w ∧ v = .str w ∧ 1 ≤ w.length ∧ w.length ≤ 8)) ?_ ?_
    · walk_at "S"
      refine r_isiStr hD ?_
      walk_at "S"
      refine r_kOr (fun c => ?_) (fun c => ?_)
      · refine ⟨rfl, fun _ e => ⟨fun _ => ?_, fun z => ?_⟩⟩
        · cases d <;> first | rfl | cases c
        · rw [← e] at z
          cases z
      have c' : isStr d = true := by simpa using c
      obtain ⟨w, rfl⟩ : ∃ w, d = .str w := by
        cases d <;> first | exact ⟨_, rfl⟩ | cases c'
      cases hD
      walk_at "S"
      refine r_lenS (Nat.le_trans (hz w rfl) (by decide)) ?_
      walk_at "S"
      refine r_kCh (fun c1 => ?_) (fun c1 => ?_)
      all_goals walk_at "S"
      · refine ⟨rfl, fun e he => ⟨fun z => ?_, fun z => ⟨w, rfl, rfl, ?_⟩⟩⟩
        · subst he
          have : ¬ w.length ≤ 8 := fun y => by
            have : decide (((w.length : Nat) : Int) ≤ 8) = true := decide_eq_true (by omega)
            rw [this] at z
            cases z
          rw [isWord_eq, decide_eq_false this]
          simp
        · subst he
          have h1 : (1 : Int) ≤ ((w.length : Nat) : Int) := of_decide_eq_true c1
          have h2 : decide (((w.length : Nat) : Int) ≤ 8) = true := by simpa using z
          have h2 := of_decide_eq_true h2
          omega
      · refine ⟨rfl, fun e he => ⟨fun z => ?_, fun z => ?_⟩⟩
        · have h1 : ¬ (1 : Int) ≤ ((w.length : Nat) : Int) := of_decide_eq_false c1
          rw [isWord_eq, decide_eq_false (show ¬ 1 ≤ w.length by omega)]
          simp
        · subst he
          cases z
    rintro b H' ⟨rfl, hb⟩
    refine r_kIfS (fun c => ?_) (fun c => ?_)
    all_goals walk_at "S"
    · rw [← (hb b rfl).1 c]
      exact q H (Kp.refl _ _)
    · obtain ⟨w, rfl, rfl, h1, h8⟩ := (hb b rfl).2 c
      walk_at "S"
      refine r_kLcS (fun D i acc H2 => Kp [] H H2 ∧ acc = ((w.cps.toList.take i).map fun c => decide (c ∈ letters.cps.toList)).map V.bl) (fun D H2 nD k7 e7 => ⟨k7, rfl⟩) ?_ ?_
      · rintro D i acc c H2 nD hd eD ⟨k7, rfl⟩
        walk_at "S"
        refine r_inC (z := letters) ?_
        refine r_kApp eD ?_ fun H3 k8 e8 => ⟨k7.step nD k8, ?_⟩
        · rw [List.length_map, List.length_map, List.length_take]
          have e := str_length w
          have : 8 < sizeLine := by decide
          omega
        · rw [take_map _ hd, List.map_append]
          rfl
      · rintro D acc H2 nD eD ⟨k7, rfl⟩
        rw [List.take_length] at eD
        walk_at "S"
        refine r_all (SqL.of eD) ?_
        have e : isWord (.str w) = ((w.cps.toList.map fun c => decide (c ∈ letters.cps.toList)).all id) := by
          rw [isWord_eq, decide_eq_true h1, decide_eq_true h8, List.all_map]
          rfl
        rw [← e]
        exact q H2 k7
abbrev s_is_name : Stmt := top 9
theorem sc_is_name : FnScope ["thing"] ["thing"] (defScope s_is_name) :=
  ⟨rfl, rfl, rfl, by decide +kernel, rfl, by decide +kernel, by decide +kernel⟩
theorem ok_is_name {f : Addr} {fd : FuncData} (F : Fun K "is_name" "is_name" s_is_name f fd) (T : Txt K mg C_Kinds G_RESERVED) (U_is_word : Use P w K mg base 2 "is_word" ["thing"] (sp_is_word)) :
    FnOk P w K mg base CX0 4 f fd ["thing"] (sp_is_name) := by
  refine F.ok sc_is_name (fun vs H Q E h => ?_) (fun cdv A outer s H vs Q E hr h => ?_)
  · obtain ⟨v, d, rfl, _⟩ := h
    rfl
  · obtain ⟨v, d, rfl, hD, hz, q⟩ := h
    have hu := hu_of hr
    have hu64 := hr.units
    refine ⟨_, (pss_one (ps_ret (pe_and (pe_use U_is_word (hr.mono (by first | decide | omega)) (by rfl) (pa_cons (pv 0) pa_nil)) (pe_one (pe_cmpR (K_notIn (K := K) rfl) (pv 0) (pe_globE T.g_RESERVED (by rfl)) (by with_unfolding_all rfl)))))), ?_⟩
    walk_at "S"
    refine ⟨v, d, rfl, hD, hz, fun H1 k1 => ?_⟩
    refine r_kAndV (fun c => ?_) (fun c => ?_)
    · obtain ⟨w, rfl⟩ : ∃ w, d = .str w := by
        cases d <;> first | exact ⟨_, rfl⟩ | cases c
      cases hD
      walk_at "S"
      refine r_ninT (ws := reserved) (T.q_RESERVED H1) ?_
      have e : isName (.str w) = !decide (w ∈ reserved) := by
        rw [isName_eq, c]
        rfl
      rw [← e]
      exact q H1 k1
    · have e : isName d = false := by
        cases d <;> first | rfl | (rw [isName_eq, c]; rfl)
      rw [← e]
      exact q H1 k1

/-! ### declarations of kinds -/
def basesOk (ns : List Str) : List PyData → List Str → Bool
  | [], _ => true
  | .str b :: r, seen => decide (b ∈ ns) && !decide (b ∈ seen) && basesOk ns r (seen ++ [b])
  | _ :: _, _ => false
def seqOf : PyData → Option (List PyData)
  | .list l => some l
  | .tuple l => some l
  | _ => none
def nameOf : PyData → Option Str
  | .str w => some w
  | _ => none
def declares (ns : List Str) : PyData → Bool
  | .tuple [d0, d1] => isName d0 && (match nameOf d0 with | some w => !decide (w ∈ ns) | none => false) && (match seqOf d1 with | some l => basesOk ns l [] | none => false)
  | _ => false
theorem declares_pair (ns : List Str) (d0 d1 : PyData) : declares ns (.tuple [d0, d1]) = (isName d0 && (match nameOf d0 with | some w => !decide (w ∈ ns) | none => false) && (match seqOf d1 with | some l => basesOk ns l [] | none => false)) := rfl
theorem declares_len {ns : List Str} {ds : List PyData} (h : ds.length ≠ 2) : declares ns (.tuple ds) = false := by
  match ds, h with
  | [], _ => rfl
  | [_], _ => rfl
  | [_, _], h => exact absurd rfl h
  | _ :: _ :: _ :: _, _ => rfl
/-- what is walked is not too long -/
def Small : PyData → Prop
  | .tuple [d0, d1] => (∀ w, d0 = .str w → w.length ≤ 1000) ∧ ∀ l, seqOf d1 = some l → l.length ≤ 1000
  | _ => True
theorem Dt.pairOf {ex : List Addr} {H : Hp} {xs : List V} {ds : List PyData} (h : DtAll ex H xs ds) (hl : ds.length = 2) : ∃ v0 v1 d0 d1, xs = [v0, v1] ∧ ds = [d0, d1] ∧ Dt ex H v0 d0 ∧ Dt ex H v1 d1 := by
  match ds, hl with
  | [d0, d1], _ =>
    cases h with
    | cons h0 h =>
      cases h with
      | cons h1 h =>
        cases h
        exact ⟨_, _, _, _, rfl, rfl, h0, h1⟩
def sp_Kinds_can_add (K : PySem.W.Frag) (C : Addr) : Sp := fun vs H Q _ => ∃ (a dx nt : Addr) (fs : List (Str × V)) (ns : List Str) (v : V) (d : PyData), vs = [.ref a, v] ∧ H a = some (.ins C dx fs) ∧ fs.lookup ("names" : Str) = some (.ref nt) ∧
  H nt = some (.tup (ns.map V.str)) ∧ Dt [] H v d ∧ Small d ∧ ∀ H', Kp [] H H' → Q (.bl (declares ns d)) H'
theorem drop_at {α : Type} {l : List α} {i : Nat} {x : α} (h : l[i]? = some x) : l.drop i = x :: l.drop (i + 1) := by
  obtain ⟨hi, e⟩ := List.getElem?_eq_some_iff.mp h
  rw [List.drop_eq_getElem_cons hi, e]
abbrev s_Kinds_can_add : Stmt := inClass (top 10) 1
theorem sc_Kinds_can_add : FnScope ["self", "entry", "found", "base"] ["self", "entry"] (defScope s_Kinds_can_add) :=
  ⟨rfl, rfl, rfl, by decide +kernel, rfl, by decide +kernel, by decide +kernel⟩
theorem ok_Kinds_can_add {f : Addr} {fd : FuncData} (F : Fun K "can_add" "Kinds.can_add" s_Kinds_can_add f fd) (T : Txt K mg C_Kinds G_RESERVED) (U_is_name : Use P w K mg base 4 "is_name" ["thing"] (sp_is_name)) :
    FnOk P w K mg base CX0 6 f fd ["self", "entry"] (sp_Kinds_can_add K C_Kinds) := by
  refine F.ok sc_Kinds_can_add (fun vs H Q E h => ?_) (fun cdv A outer s H vs Q E hr h => ?_)
  · obtain ⟨a, dx, nt, fs, ns, v, d, rfl, _⟩ := h
    rfl
  · obtain ⟨a, dx, nt, fs, ns, v, d, rfl, ha, hf, hn, hD, hs, q⟩ := h
    have hu := hu_of hr
    have hu64 := hr.units
    refine ⟨_, (pss_cons (ps_if (pt_cutT (PW.pt (pw_or (pt_not (pt_val (pe_callB (K_isi (K := K) rfl) (by rfl) T.z_isinstance (by decide +kernel) (pa_cons (pv 1) (pa_cons (pe_bltn (v := .ty "tuple") (u := .type "tuple") (by rfl) T.z_tuple (by decide +kernel) rfl) pa_nil))))) (pw_or1 (pt_cmpR op_ne (pe_callB (K_len (K := K) rfl) (by rfl) T.z_len (by decide +kernel) (pa_cons (pv 1) pa_nil)) pe_int (nomark _))))))
          (pss_one (ps_ret pe_bl))
          pss_nil)
        (pss_cons (ps_if (pt_cutT (PW.pt (pw_or (pt_not (pt_val (pe_use U_is_name (hr.mono (by first | decide | omega)) (by rfl) (pa_cons (pe_ix (K_ixT (K := K) rfl) (pv 1) pe_int (fun _ _ => rfl)) pa_nil)))) (pw_or (pt_cmpR (K_in (K := K) rfl) (pe_ix (K_ixT (K := K) rfl) (pv 1) pe_int (fun _ _ => rfl)) (K_fld (K := K) rfl (pv 0) rfl) (by with_unfolding_all rfl)) (pw_or1 (pt_not (pt_val (pe_callB (K_isiT (K := K) rfl) (by rfl) T.z_isinstance (by decide +kernel) (pa_cons (pe_ix (K_ixT (K := K) rfl) (pv 1) pe_int (fun _ _ => rfl)) (pa_cons (pe_tup (pa_cons (pe_bltn (v := .ty "list") (u := .type "list") (by rfl) T.z_list (by decide +kernel) rfl) (pa_cons (pe_bltn (v := .ty "tuple") (u := .type "tuple") (by rfl) T.z_tuple (by decide +kernel) rfl) pa_nil))) pa_nil))))))))))
          (pss_one (ps_ret pe_bl))
          pss_nil)
        (pss_cons (ps_set (i := 2) sc_Kinds_can_add.nd rfl (by first | exact Or.inl rfl | exact Or.inr rfl) (pe_lst pa_nil))
        (pss_cons (ps_for PassesOwn.never (by rfl) (K_pis (K := K) rfl (pe_ix (K_ixT (K := K) rfl) (pv 1) pe_int (fun _ _ => rfl))) (pg_name (i := 3) sc_Kinds_can_add.nd rfl (by first | exact Or.inl rfl | exact Or.inr rfl))
          (pss_cons (ps_if (pt_cutT (PW.pt (pw_or (pt_not (pt_val (pe_callB (K_isi (K := K) rfl) (by rfl) T.z_isinstance (by decide +kernel) (pa_cons (pv 3) (pa_cons (pe_bltn (v := .ty "str") (u := .type "str") (by rfl) T.z_str (by decide +kernel) rfl) pa_nil))))) (pw_or (pt_cmpR (K_notIn (K := K) rfl) (pv 3) (K_fld (K := K) rfl (pv 0) rfl) (by with_unfolding_all rfl)) (pw_or1 (pt_cmpR (K_in (K := K) rfl) (pv 3) (pv 2) (by with_unfolding_all rfl)))))))
            (pss_one (ps_ret pe_bl))
            pss_nil)
          (pss_one (ps_expr (K_bm (K := K) rfl PySem.F.plainAttrs_list PySem.F.slot_list_append PySem.F.type_list_append mt_append (pv 2) (pa_cons (pv 3) pa_nil))))))
        (pss_one (ps_ret pe_bl)))))), ?_⟩
    walk_at "S"
    refine r_cutT (fun b H' => H = H' ∧ ∀ c, b = c → (c = true → declares ns d = false) ∧ (c = false → ∃ t v0 v1 d0 d1, v = .ref t ∧ d = .tuple [d0, d1] ∧ H t = some (.tup [v0, v1]) ∧ Dt [] H v0 d0 ∧ Dt [] H v1 d1)) ?_ ?_
    · walk_at "S"
      refine r_isiTup hD ?_
      walk_at "S"
      refine r_kOr (fun c => ?_) (fun c => ?_)
      · refine ⟨rfl, fun _ e => ⟨fun _ => ?_, fun z => ?_⟩⟩
        · cases d <;> first | rfl | cases c
        · rw [← e] at z
          cases z
      have c' : isTup d = true := by simpa using c
      obtain ⟨ds, rfl⟩ : ∃ ds, d = .tuple ds := by
        cases d <;> first | exact ⟨_, rfl⟩ | cases c'
      obtain ⟨t, xs, rfl, _, et, al⟩ := hD.tuple
      walk_at "S"
      refine r_lenT (SqT.of et) ?_
      walk_at "S"
      have hl := al.length
      refine ⟨rfl, fun e he => ⟨fun z => declares_len fun y => ?_, fun z => ?_⟩⟩
      · subst he
        have : decide (((xs.length : Nat) : Int) = 2) = true := decide_eq_true (by omega)
        rw [this] at z
        cases z
      · subst he
        have z : decide (((xs.length : Nat) : Int) = 2) = true := by simpa using z
        have z := of_decide_eq_true z
        obtain ⟨v0, v1, d0, d1, rfl, rfl, h0, h1⟩ := Dt.pairOf al (by omega)
        exact ⟨t, v0, v1, d0, d1, rfl, rfl, et, h0, h1⟩
    rintro b H' ⟨rfl, hb⟩
    refine r_kIfS (fun c => ?_) (fun c => ?_)
    all_goals walk_at "S"
    · rw [← (hb b rfl).1 c]
      exact q H (Kp.refl _ _)
    obtain ⟨t, v0, v1, d0, d1, rfl, rfl, et, h0, h1⟩ := (hb b rfl).2 c
    clear hb c b hD
    refine r_cutT (fun b H' => Kp [] H H' ∧ ∀ c, b = c → (c = true → declares ns (.tuple [d0, d1]) = false) ∧ (c = false → ∃ w l, d0 = .str w ∧ seqOf d1 = some l ∧ declares ns (.tuple [d0, d1]) = basesOk ns l [])) ?_ ?_
    · walk_at "S"
      refine r_ixT (SqT.of et) (atI_nat (j := 0) rfl) ?_
      walk_at "S"
      refine ⟨v0, d0, rfl, h0, hs.1, fun H1 k1 => ?_⟩
      walk_at "S"
      refine r_kOr (fun c => ?_) (fun c => ?_)
      · refine ⟨k1, fun _ e => ⟨fun _ => ?_, fun z => ?_⟩⟩
        · have c' : isName d0 = false := by simpa using c
          rw [declares_pair, c']
          rfl
        · rw [← e] at z
          cases z
      have c0 : isName d0 = true := by simpa using c
      obtain ⟨w, rfl⟩ := isName_str c0
      cases h0
      have et1 := k1 _ _ et not_nil
      walk_at "S"
      refine r_ixT (SqT.of et1) (atI_nat (j := 0) rfl) ?_
      walk_at "S"
      refine r_kFld (k1 _ _ ha not_nil) T.c_Kinds T.na_Kinds_names hf ?_
      refine r_inT (SqT.of (k1 _ _ hn not_nil)) ?_
      walk_at "S"
      refine r_kOr (fun c => ?_) (fun c => ?_)
      · refine ⟨k1, fun _ e => ⟨fun _ => ?_, fun z => ?_⟩⟩
        · rw [declares_pair, show nameOf (.str w) = some w from rfl]
          show (isName (.str w) && !decide (w ∈ ns) && _) = false
          rw [c]
          simp
        · rw [← e] at z
          cases z
      have c1 : decide (w ∈ ns) = false := c
      walk_at "S"
      refine r_ixT (SqT.of et1) (atI_nat (j := 1) rfl) ?_
      walk_at "S"
      refine r_kTup (by show 2 ≤ sizeLine; decide) fun tp H2 ntp k2 etp => ?_
      walk_at "S"
      refine r_isiLT ((h1.mono k1).mono k2) etp ?_
      walk_at "S"
      have e2 : declares ns (.tuple [.str w, d1]) = (match seqOf d1 with | some l => basesOk ns l [] | none => false) := by
        rw [declares_pair, c0]
        show (true && !decide (w ∈ ns) && _) = _
        rw [c1]
        rfl
      refine ⟨k1.trans k2, fun e he => ⟨fun z => ?_, fun z => ?_⟩⟩
      · subst he
        rw [e2]
        cases d1 <;> first | rfl | cases z
      · subst he
        cases d1 <;> first | exact ⟨_, _, rfl, rfl, e2⟩ | cases z
    rintro b H1 ⟨k1, hb⟩
    refine r_kIfS (fun c => ?_) (fun c => ?_)
    all_goals walk_at "S"
    · rw [← (hb b rfl).1 c]
      exact q H1 k1
    obtain ⟨w, l, rfl, hl, e0⟩ := (hb b rfl).2 c
    clear hb c b
    have hll : l.length ≤ 1000 := hs.2 l hl
    refine r_kLst (xs := []) (Nat.zero_le _) fun F H2 nF k2 eF => ?_
    have k02 := k1.trans k2
    walk_at "S"
    refine r_ixT (SqT.of (k02 _ _ et not_nil)) (atI_nat (j := 1) rfl) ?_
    obtain ⟨p, ys, rfl, hp, al⟩ : ∃ p ys, v1 = .ref p ∧ (H p = some (.lst ys) ∨ H p = some (.tup ys)) ∧ DtAll [] H ys l := by
      cases d1 with
      | list l' =>
        cases hl
        obtain ⟨p, ys, rfl, _, e, al⟩ := h1.list
        exact ⟨p, ys, rfl, .inl e, al⟩
      | tuple l' =>
        cases hl
        obtain ⟨p, ys, rfl, _, e, al⟩ := h1.tuple
        exact ⟨p, ys, rfl, .inr e, al⟩
      | _ => cases hl
    have hq : Sq K H2 p ys := hp.elim (fun e => .inl (SqL.of (k02 _ _ e not_nil))) fun e => .inr (SqT.of (k02 _ _ e not_nil))
    have Fp : F ≠ p := hp.elim (fun e => ne_none (k1 _ _ e not_nil) nF) fun e => ne_none (k1 _ _ e not_nil) nF
    have Fa : F ≠ a := ne_none (k1 _ _ ha not_nil) nF
    have Fn : F ≠ nt := ne_none (k1 _ _ hn not_nil) nF
    have hylen := al.length
    refine r_kForQ (fun i σ' H' => ∃ (seen : List Str) (v3 : Option V), σ' = [some (.ref a), some (.ref t), some (.ref F), v3] ∧ Kp [F] H2 H' ∧ H' F = some (.lst (seen.map V.str)) ∧ seen.length = i ∧ basesOk ns l [] = basesOk ns (l.drop i) seen) hq
      ⟨[], none, rfl, Kp.refl _ _, eF, rfl, rfl⟩ (fun i σ' H' _ h => by
        obtain ⟨_, _, _, k, _⟩ := h
        exact ⟨[F], not_one Fp.symm, k⟩) ?_ ?_
    · rintro i x σ' H3 hx ⟨seen, v3, rfl, k3, e3, hsn, hbo⟩
      obtain ⟨d, hd, hxd⟩ := al.at hx
      have hsm : seen.length ≤ 1000 := by
        have := lt_at hd
        omega
      rw [drop_at hd] at hbo
      have k23 : Kp [] H1 H3 := k2.step nF (k3.mono fun b hb => hb) |> fun z => z
      have hx3 : Dt [] H3 x d := (hxd.mono k1).mono k23
      walk_at "S"
      refine r_cutT (fun b H' => H3 = H' ∧ ∀ c, b = c → (c = true → basesOk ns l [] = false) ∧ (c = false → ∃ u, d = .str u ∧ x = .str u ∧ u ∈ ns ∧ u ∉ seen)) ?_ ?_
      · walk_at "S"
        refine r_isiStr hx3 ?_
        walk_at "S"
        refine r_kOr (fun c => ?_) (fun c => ?_)
        · refine ⟨rfl, fun _ e => ⟨fun _ => ?_, fun z => ?_⟩⟩
          · rw [hbo]
            cases d <;> first | rfl | cases c
          · rw [← e] at z
            cases z
        have c' : isStr d = true := by simpa using c
        obtain ⟨u, rfl⟩ : ∃ u, d = .str u := by
          cases d <;> first | exact ⟨_, rfl⟩ | cases c'
        cases hx3
        have hbo' : basesOk ns l [] = (decide (u ∈ ns) && !decide (u ∈ seen) && basesOk ns (l.drop (i + 1)) (seen ++ [u])) := hbo
        walk_at "S"
        refine r_kFld (k23 _ _ (k1 _ _ ha not_nil) not_nil) T.c_Kinds T.na_Kinds_names hf ?_
        refine r_ninT (SqT.of (k23 _ _ (k1 _ _ hn not_nil) not_nil)) ?_
        walk_at "S"
        refine r_kOr (fun c => ?_) (fun c => ?_)
        · refine ⟨rfl, fun _ e => ⟨fun _ => ?_, fun z => ?_⟩⟩
          · have c2 : decide (u ∈ ns) = false := by simpa using c
            rw [hbo', c2]
            rfl
          · rw [← e] at z
            cases z
        have c2 : decide (u ∈ ns) = true := by simpa using c
        walk_at "S"
        refine r_inL (SqL.of e3) ?_
        walk_at "S"
        refine ⟨rfl, fun e he => ⟨fun z => ?_, fun z => ⟨u, rfl, rfl, of_decide_eq_true c2, ?_⟩⟩⟩
        · subst he
          rw [hbo', z]
          simp
        · subst he
          exact of_decide_eq_false z
      rintro b H' ⟨rfl, hb⟩
      refine r_kIfS (fun c => ?_) (fun c => ?_)
      all_goals walk_at "S"
      · have e1 := (hb b rfl).1 c
        rw [← e0] at e1
        rw [← e1]
        exact q H3 (k1.trans k23)
      obtain ⟨u, rfl, rfl, hu1, hu2⟩ := (hb b rfl).2 c
      refine r_kBMl (SqL.of e3) ?_
      walk_at "S"
      refine r_append e3 ?_ fun H4 k4 e4 => ?_
      · rw [List.length_map]
        have : 1001 ≤ sizeLine := by decide
        omega
      walk_at "S"
      refine ⟨seen ++ [u], _, rfl, k3.trans k4, ?_, ?_, ?_⟩
      · rw [List.map_append]
        exact e4
      · rw [List.length_append, hsn]
        rfl
      · rw [hbo]
        show (decide (u ∈ ns) && !decide (u ∈ seen) && _) = _
        rw [decide_eq_true hu1, decide_eq_false hu2]
        rfl
    · rintro σ' H3 ⟨seen, v3, rfl, k3, e3, hsn, hbo⟩
      walk_at "S"
      have e1 : declares ns (.tuple [.str w, d1]) = true := by
        rw [e0, hbo, hylen, List.drop_length]
        rfl
      rw [← e1]
      exact q H3 (k1.trans (k2.step nF k3))

/-! ### kinds as they stand -/
def kf (nt et : Addr) : List (Str × V) := [("names", .ref nt), ("entries", .ref et)]
theorem ne_en : ¬ (("names" : Str) = "entries") := by decide +kernel
theorem kf_n (nt et : Addr) : (kf nt et).lookup ("names" : Str) = some (.ref nt) := by
  have e : kf nt et = putF "entries" (.ref et) (putF "names" (.ref nt) []) := by
    show ([("names", V.ref nt), ("entries", V.ref et)] : List (Str × V)) = if ("names" : Str) = "entries" then _ else (("names" : Str), V.ref nt) :: putF "entries" (.ref et) []
    rw [if_neg ne_en]
    rfl
  rw [e, lookup_putF, if_neg ne_en, lookup_putF, if_pos rfl]
theorem kf_put (nt et : Addr) : putF "entries" (.ref et) (putF "names" (.ref nt) []) = kf nt et := by
  show (if ("names" : Str) = "entries" then _ else (("names" : Str), V.ref nt) :: putF "entries" (.ref et) []) = ([("names", V.ref nt), ("entries", V.ref et)] : List (Str × V))
  rw [if_neg ne_en]
  rfl
theorem kf_e (nt et : Addr) : (kf nt et).lookup ("entries" : Str) = some (.ref et) := by
  rw [← kf_put, lookup_putF, if_pos rfl]
theorem kf_no (nt et : Addr) {m : Str} (h1 : ¬ m = "names") (h2 : ¬ m = "entries") : (kf nt et).lookup m = none := by
  rw [← kf_put, lookup_putF, if_neg h2, lookup_putF, if_neg h1]
  all_goals rfl
theorem kf_pn (nt et n' : Addr) : putF "names" (.ref n') (kf nt et) = kf n' et := by
  show (if ("names" : Str) = "names" then (("names" : Str), V.ref n') :: [("entries", V.ref et)] else _) = _
  rw [if_pos rfl]
  rfl
theorem kf_pe (nt et e' : Addr) : putF "entries" (.ref e') (kf nt et) = kf nt e' := by
  show (if ("names" : Str) = "entries" then _ else (("names" : Str), V.ref nt) :: (if ("entries" : Str) = "entries" then (("entries" : Str), V.ref e') :: [] else _)) = _
  rw [if_neg ne_en, if_pos rfl]
  rfl
abbrev Ent := Str × List Str
def entD (e : Ent) : PyData := .tuple [.str e.1, .tuple (e.2.map .str)]
structure KindsAt (C : Addr) (ex : List Addr) (H : Hp) (a : Addr) (es : List Ent) : Prop where
  ob : ∃ dx nt et, a ∉ ex ∧ nt ∉ ex ∧ H a = some (.ins C dx (kf nt et)) ∧ H nt = some (.tup ((es.map Prod.fst).map V.str)) ∧ Dt ex H (.ref et) (.tuple (es.map entD))
theorem KindsAt.kp {C : Addr} {ex : List Addr} {H H' : Hp} {a : Addr} {es : List Ent} (h : KindsAt C ex H a es) (k : Kp ex H H') : KindsAt C ex H' a es := by
  obtain ⟨dx, nt, et, h1, h2, h3, h4, h5⟩ := h.ob
  exact ⟨dx, nt, et, h1, h2, k _ _ h3 h1, k _ _ h4 h2, h5.mono k⟩
theorem KindsAt.less {C : Addr} {ex ex' : List Addr} {H : Hp} {a : Addr} {es : List Ent} (h : KindsAt C ex H a es) (s : ∀ b ∈ ex', b ∈ ex) : KindsAt C ex' H a es := by
  obtain ⟨dx, nt, et, h1, h2, h3, h4, h5⟩ := h.ob
  exact ⟨dx, nt, et, fun m => h1 (s _ m), fun m => h2 (s _ m), h3, h4, h5.less s⟩
theorem KindsAt.skip {C : Addr} {ex : List Addr} {H : Hp} {a b : Addr} {es : List Ent} {o : HO} (h : KindsAt C ex H a es) (e : H b = some o) (n1 : ∀ xs, o ≠ .lst xs) (n2 : ∀ xs, o ≠ .tup xs) (n3 : ∀ D dx fs, o ≠ .ins D dx fs) : KindsAt C (b :: ex) H a es := by
  obtain ⟨dx, nt, et, h1, h2, h3, h4, h5⟩ := h.ob
  refine ⟨dx, nt, et, fun m => ?_, fun m => ?_, h3, h4, h5.skip e n1 n2⟩
  · rcases List.mem_cons.mp m with rfl | m
    · rw [e] at h3
      exact n3 _ _ _ (Option.some.inj h3)
    · exact h1 m
  · rcases List.mem_cons.mp m with rfl | m
    · rw [e] at h4
      exact n2 _ (Option.some.inj h4)
    · exact h2 m

/-! ### Kinds(entries), all of them right -/
def strsOf (l : List PyData) : List Str := l.filterMap nameOf
def toEnt : PyData → Ent
  | .tuple [.str w, d1] => (w, strsOf ((seqOf d1).getD []))
  | _ => ("", [])
theorem basesOk_strs {ns : List Str} : ∀ {l : List PyData} {seen : List Str}, basesOk ns l seen = true → l = (strsOf l).map .str
  | [], _, _ => rfl
  | d :: l, seen, h => by
    cases d with
    | str b =>
      have h' : (decide (b ∈ ns) && !decide (b ∈ seen) && basesOk ns l (seen ++ [b])) = true := h
      rw [Bool.and_eq_true] at h'
      have ih := basesOk_strs h'.2
      show PyData.str b :: l = PyData.str b :: (strsOf l).map PyData.str
      rw [← ih]
    | _ => cases h
theorem declares_get {ns : List Str} {d : PyData} (h : declares ns d = true) : ∃ w d1 l, d = .tuple [.str w, d1] ∧ NameOk w ∧ w ∉ ns ∧ seqOf d1 = some l ∧ basesOk ns l [] = true := by
  cases d with
  | tuple ds =>
    by_cases hl : ds.length = 2
    · match ds, hl with
      | [d0, d1], _ =>
        rw [declares_pair, Bool.and_eq_true, Bool.and_eq_true] at h
        obtain ⟨⟨h1, h2⟩, h3⟩ := h
        obtain ⟨w, rfl⟩ := isName_str h1
        cases e : seqOf d1 with
        | none =>
          rw [e] at h3
          cases h3
        | some l =>
          rw [e] at h3
          refine ⟨w, d1, l, rfl, (isName_iff w).mp h1, ?_, e, h3⟩
          have h2 : (!decide (w ∈ ns)) = true := h2
          simpa using h2
    · rw [declares_len hl] at h
      cases h
  | _ => cases h

/-- the declarations are right, each by the names ahead of it -/
def Good (ds : List PyData) : Prop := ∀ i d, ds[i]? = some d → declares (((ds.take i).map toEnt).map Prod.fst) d = true ∧ Small d
def sp_Kinds___init__ (K : PySem.W.Frag) (C : Addr) : Sp := fun vs H Q _ => ∃ (a dx l : Addr) (xs : List V) (ds : List PyData), vs = [.ref a, .ref l] ∧ H a = some (.ins C dx []) ∧ (H l = some (.lst xs) ∨ H l = some (.tup xs)) ∧ DtAll [] H xs ds ∧ ds.length ≤ 4 ∧ Good ds ∧
  ∀ H', Kp [a] H H' → KindsAt C [] H' a (ds.map toEnt) → Q .non H'
theorem r_tupleD {K : PySem.W.Frag} {H : Hp} {Q : VK} {p : Addr} {xs : List V} (h : H p = some (.lst xs) ∨ H p = some (.tup xs)) (q : ∀ l H', Kp [] H H' → H' l = some (.tup xs) → Q (.ref l) H') : cTuple K [.ref p] H Q :=
  h.elim (fun e => r_tupleL (SqL.of e) fun l H' _ k e' => q l H' k e') fun e => r_tupleT (SqT.of e) (q p H (Kp.refl _ _) e)
abbrev s_Kinds___init__ : Stmt := inClass (top 10) 0
theorem sc_Kinds___init__ : FnScope ["self", "entries", "at", "entry"] ["self", "entries"] (defScope s_Kinds___init__) :=
  ⟨rfl, rfl, rfl, by decide +kernel, rfl, by decide +kernel, by decide +kernel⟩
theorem ok_Kinds___init__ {f : Addr} {fd : FuncData} (F : Fun K "__init__" "Kinds.__init__" s_Kinds___init__ f fd) (T : Txt K mg C_Kinds G_RESERVED) (U_Kinds_can_add : UseM P w K mg base 6 C_Kinds "can_add" (sp_Kinds_can_add K C_Kinds)) :
    FnOk P w K mg base CX0 8 f fd ["self", "entries"] (sp_Kinds___init__ K C_Kinds) := by
  refine F.ok sc_Kinds___init__ (fun vs H Q E h => ?_) (fun cdv A outer s H vs Q E hr h => ?_)
  · obtain ⟨a, dx, l, xs, ds, rfl, _⟩ := h
    rfl
  · obtain ⟨a, dx, l, xs, ds, rfl, ha, el, al, hl4, hG, q⟩ := h
    obtain ⟨f_Kinds_can_add, R_Kinds_can_add, M_Kinds_can_add⟩ := U_Kinds_can_add
    have hu := hu_of hr
    have hu64 := hr.units
    refine ⟨_, (pss_cons (ps_if (pt_not (pt_val (pe_callB (K_isiT (K := K) rfl) (by rfl) T.z_isinstance (by decide +kernel) (pa_cons (pv 1) (pa_cons (pe_tup (pa_cons (pe_bltn (v := .ty "list") (u := .type "list") (by rfl) T.z_list (by decide +kernel) rfl) (pa_cons (pe_bltn (v := .ty "tuple") (u := .type "tuple") (by rfl) T.z_tuple (by decide +kernel) rfl) pa_nil))) pa_nil)))))
          (pss_one ps_never)
          pss_nil)
        (pss_cons (ps_fld (pv 0) (pe_tup pa_nil) rfl)
        (pss_cons (ps_fld (pv 0) (pe_tup pa_nil) rfl)
        (pss_one (ps_for PassesOwn.never (by rfl) (K_enumQ (K := K) rfl (by rfl) T.z_enumerate (pa_cons (pv 1) pa_nil)) (K_gtup (K := K) (n := 2) rfl (by rfl) (pgs_cons (pg_name (i := 2) sc_Kinds___init__.nd rfl (by first | exact Or.inl rfl | exact Or.inr rfl)) (pgs_cons (pg_name (i := 3) sc_Kinds___init__.nd rfl (by first | exact Or.inl rfl | exact Or.inr rfl)) pgs_nil)))
          (pss_cons (ps_if (pt_cutT (PW.pt (pw_or (pt_cmpR op_eq (pv 2) (pe_globE T.g_MOST_KINDS (by rfl)) (nomark _)) (pw_or1 (pt_not (pt_val (pe_methR (pv 0) T.c_Kinds M_Kinds_can_add R_Kinds_can_add (hr.mono (by first | decide | omega)) pass0 (pa_cons (pv 3) pa_nil))))))))
            (pss_one ps_never)
            pss_nil)
          (pss_cons (ps_fld (pv 0) (pe_op (K_catT (K := K) rfl) (K_fld (K := K) rfl (pv 0) rfl) (pe_tup (pa_cons (pe_ix (K_ixT (K := K) rfl) (pv 3) pe_int (fun _ _ => rfl)) pa_nil))) rfl)
          (pss_one (ps_fld (pv 0) (pe_op (K_catT (K := K) rfl) (K_fld (K := K) rfl (pv 0) rfl) (pe_tup (pa_cons (pe_tup (pa_cons (pe_ix (K_ixT (K := K) rfl) (pv 3) pe_int (fun _ _ => rfl)) (pa_cons (pe_callTy (K_tuple (K := K) rfl) (by rfl) T.z_tuple (by decide +kernel) (pa_cons (pe_ix (K_ixT (K := K) rfl) (pv 3) pe_int (fun _ _ => rfl)) pa_nil)) pa_nil))) pa_nil))) rfl))))))))), ?_⟩
    have la : l ≠ a := el.elim (fun e => ne_of e ha fun z => nomatch z) fun e => ne_of e ha fun z => nomatch z
    have hlen := al.length
    walk_at "S"
    refine r_kTup (by show 2 ≤ sizeLine; decide) fun tp H1 n1 k1 e1 => ?_
    walk_at "S"
    have al1 := al.mono k1
    obtain ⟨d, hd, hds⟩ : ∃ d, Dt [] H1 (.ref l) d ∧ (isLst d || isTup d) = true := el.elim (fun e => ⟨.list ds, .lst not_nil (k1 _ _ e not_nil) al1, rfl⟩) fun e => ⟨.tuple ds, .tup not_nil (k1 _ _ e not_nil) al1, rfl⟩
    refine r_isiLT hd e1 ?_
    rw [hds]
    walk_at "S"
    refine r_kIfS0 rfl ?_
    walk_at "S"
    refine r_kTup (xs := []) (Nat.zero_le _) fun nt H2 n2 k2 e2 => ?_
    walk_at "S"
    have ha2 := (k1.trans k2) _ _ ha not_nil
    refine r_kSF ha2 T.c_Kinds T.na_Kinds_names (Nat.zero_lt_succ _) fun H3 k3 e3 => ?_
    walk_at "S"
    refine r_kTup (xs := []) (Nat.zero_le _) fun et H4 n4 k4 e4 => ?_
    walk_at "S"
    refine r_kSF (k4 _ _ e3 not_nil) T.c_Kinds T.na_Kinds_entries (by show 1 < 1000; decide) fun H5 k5 e5 => ?_
    rw [kf_put] at e5
    have nta : nt ≠ a := ne_none (k1 _ _ ha not_nil) n2
    have eta : et ≠ a := ne_none e3 n4
    have k05 : Kp [a] H H5 := ((k1.trans k2).nil.trans k3).trans (k4.nil.trans k5)
    have el5 : Sq K H5 l xs := el.elim (fun e => .inl (SqL.of (k05 _ _ e (not_one la)))) fun e => .inr (SqT.of (k05 _ _ e (not_one la)))
    have al5 : DtAll [a] H5 xs ds := (al.skip ha (fun _ z => nomatch z) (fun _ z => nomatch z)).mono k05
    have e2' := k5 _ _ (k4 _ _ (k3 _ _ e2 (not_one nta)) not_nil) (not_one nta)
    have e4' := k5 _ _ e4 (not_one eta)
    walk_at "S"
    refine r_enumQ ?_
    walk_at "S"
    refine r_kForE (fun i σ' H' => ∃ (nt et dx : Addr) (v2 v3 : Option V), σ' = [some (.ref a), some (.ref l), v2, v3] ∧ Kp [a] H5 H' ∧ H' a = some (.ins C_Kinds dx (kf nt et)) ∧ nt ≠ a ∧
        H' nt = some (.tup ((((ds.take i).map toEnt).map Prod.fst).map V.str)) ∧ Dt [a] H' (.ref et) (.tuple (((ds.take i).map toEnt).map entD))) el5
      ⟨nt, et, dx, none, none, rfl, Kp.refl _ _, e5, nta, e2', .tup (not_one eta) e4' .nil⟩ (fun i σ' H' _ h => by
        obtain ⟨_, _, _, _, _, _, k, _⟩ := h
        exact ⟨[a], not_one la, k⟩) ?_ ?_
    · rintro i v t σ' H6 H7 hx ⟨nt, et, dx, v2, v3, rfl, k6, ea, nta, en, hE⟩ ntt k7 e7
      obtain ⟨d, hd, hxd⟩ := al5.at hx
      have hx6 : Dt [a] H6 v d := hxd.mono k6
      obtain ⟨hdec, hsm⟩ := hG i d hd
      obtain ⟨w, d1, bl, rfl, hw, hnin, hseq, hbo⟩ := declares_get hdec
      obtain ⟨tv, ys, rfl, tva, etv, al2⟩ := hx6.tuple
      cases al2 with
      | cons h0 al2 =>
      cases al2 with
      | @cons v1 _ _ _ h1 al2 =>
      cases al2
      cases h0
      refine r_gtup (SqT.of e7) rfl ?_
      walk_at "S"
      refine r_cutT (fun b H' => Kp [] H7 H' ∧ b = false) ?_ ?_
      · walk_at "S"
        refine r_kOr0 (decide_eq_false (by
          have := lt_at hd
          omega)) ?_
        walk_at "S"
        refine r_kMeth (k7 _ _ ea not_nil) (kf_no _ _ (by decide +kernel) (by decide +kernel)) ?_
        walk_at "S"
        refine ⟨a, dx, nt, _, _, _, _, rfl, k7 _ _ ea not_nil, kf_n _ _, k7 _ _ en not_nil, (hx6.less fun _ m => absurd m not_nil).mono k7, hsm, fun H8 k8 => ?_⟩
        rw [hdec]
        walk_at "S"
        exact ⟨k8, rfl⟩
      rintro b H8 ⟨k8, rfl⟩
      have k68 : Kp [] H6 H8 := k7.trans k8
      have ea8 := k68 _ _ ea not_nil
      have etv8 := k68 _ _ etv not_nil
      refine r_kIfS0 rfl ?_
      walk_at "S"
      refine r_kFld ea8 T.c_Kinds T.na_Kinds_names (kf_n _ _) ?_
      walk_at "S"
      refine r_ixT (SqT.of etv8) (atI_nat (j := 0) rfl) ?_
      walk_at "S"
      refine r_kTup (xs := [V.str w]) (by show 1 ≤ sizeLine; decide) fun o1 H9 no1 k9 eo1 => ?_
      refine r_catT' (ys := [V.str w]) (SqT.of (k9 _ _ (k68 _ _ en not_nil) not_nil)) eo1 ?_ (fun z => nomatch z) fun n2 H10 k10 en2 _ => ?_
      · rw [List.length_map, List.length_map, List.length_map, List.length_take]
        have : 5 ≤ sizeLine := by decide
        show _ + 1 ≤ _
        omega
      walk_at "S"
      have k610 := k68.trans (k9.trans k10)
      have ea10 := k610 _ _ ea not_nil
      have n2a : n2 ≠ a := ne_of en2 ea10 fun z => nomatch z
      refine r_kSF ea10 T.c_Kinds T.na_Kinds_names (by show 2 < 1000; decide) fun H11 k11 ea11 => ?_
      rw [kf_pn] at ea11
      walk_at "S"
      refine r_kFld ea11 T.c_Kinds T.na_Kinds_entries (kf_e _ _) ?_
      walk_at "S"
      have k611 : Kp [a] H6 H11 := k610.nil.trans k11
      have etv11 := k611 _ _ etv tva
      refine r_ixT (SqT.of etv11) (atI_nat (j := 0) rfl) ?_
      walk_at "S"
      refine r_ixT (SqT.of etv11) (atI_nat (j := 1) rfl) ?_
      walk_at "S"
      obtain ⟨p, zs, rfl, pa, hp, al3⟩ : ∃ p zs, v1 = .ref p ∧ p ≠ a ∧ (H6 p = some (.lst zs) ∨ H6 p = some (.tup zs)) ∧ DtAll [a] H6 zs bl := by
        cases d1 with
        | list l' =>
          cases hseq
          obtain ⟨p, zs, rfl, m, e, al⟩ := h1.list
          exact ⟨p, zs, rfl, (fun z => m (z ▸ List.mem_singleton.mpr rfl)), .inl e, al⟩
        | tuple l' =>
          cases hseq
          obtain ⟨p, zs, rfl, m, e, al⟩ := h1.tuple
          exact ⟨p, zs, rfl, (fun z => m (z ▸ List.mem_singleton.mpr rfl)), .inr e, al⟩
        | _ => cases hseq
      refine r_tupleD (hp.elim (fun e => .inl (k611 _ _ e (not_one pa))) fun e => .inr (k611 _ _ e (not_one pa))) fun bt H12 k12 ebt => ?_
      walk_at "S"
      have ea12 := k12 _ _ ea11 not_nil
      have bta : bt ≠ a := ne_of ebt ea12 fun z => nomatch z
      refine r_kTup (xs := [V.str w, V.ref bt]) (by show 2 ≤ sizeLine; decide) fun o2 H13 no2 k13 eo2 => ?_
      walk_at "S"
      refine r_kTup (xs := [V.ref o2]) (by show 1 ≤ sizeLine; decide) fun o3 H14 no3 k14 eo3 => ?_
      have k614 : Kp [a] H6 H14 := k611.trans (k12.trans (k13.trans k14)).nil
      obtain ⟨et', es', e, eta, eet, alE⟩ := (hE.mono k614).tuple
      cases e
      have ea14 := (k13.trans k14) _ _ ea12 not_nil
      have o2a : o2 ≠ a := ne_none ea12 no2
      have hlenE := alE.length
      rw [List.length_map, List.length_map, List.length_take] at hlenE
      refine r_catT' (ys := [V.ref o2]) (SqT.of eet) eo3 ?_ (fun z => nomatch z) fun e2 H15 k15 ee2 _ => ?_
      · rw [hlenE]
        have : 5 ≤ sizeLine := by decide
        show _ + 1 ≤ _
        omega
      walk_at "S"
      have ea15 := k15 _ _ ea14 not_nil
      have e2a : e2 ≠ a := ne_of ee2 ea15 fun z => nomatch z
      refine r_kSF ea15 T.c_Kinds T.na_Kinds_entries (by show 2 < 1000; decide) fun H16 k16 ea16 => ?_
      rw [kf_pe] at ea16
      walk_at "S"
      have k1116 : Kp [a] H11 H16 := (k12.trans (k13.trans (k14.trans k15))).nil.trans k16
      have ht : toEnt (.tuple [.str w, d1]) = (w, strsOf bl) := by
        show (w, strsOf ((seqOf d1).getD [])) = _
        rw [hseq]
        rfl
      have htk : (ds.take (i + 1)).map toEnt = (ds.take i).map toEnt ++ [(w, strsOf bl)] := by
        rw [take_map _ hd, ht]
      refine ⟨n2, e2, dx, _, _, rfl, k6.trans (k611.trans k1116), ea16, n2a, ?_, ?_⟩
      · rw [htk, List.map_append, List.map_append]
        exact k1116 _ _ (k11 _ _ en2 (not_one n2a)) (not_one n2a)
      · rw [htk, List.map_append]
        have hbl := basesOk_strs hbo
        have alB : DtAll [a] H14 zs ((strsOf bl).map .str) := by
          rw [← hbl]
          exact al3.mono k614
        have one : Dt [a] H14 (.ref o2) (entD (w, strsOf bl)) := .tup (not_one o2a) (k14 _ _ eo2 not_nil) (.cons (.str w) (.cons (.tup (not_one bta) ((k13.trans k14) _ _ ebt not_nil) alB) .nil))
        have k1416 : Kp [a] H14 H16 := k15.nil.trans k16
        exact .tup (not_one e2a) (k16 _ _ ee2 (not_one e2a)) ((alE.snoc one).mono k1416)
    · rintro σ' H6 ⟨nt, et, dx, v2, v3, rfl, k6, ea, nta, en, hE⟩
      rw [hlen, List.take_length] at en hE
      exact q H6 (k05.trans k6) ⟨dx, nt, et, not_nil, not_nil, ea, en, hE.less fun _ m => absurd m not_nil⟩

/-! ### drawn kinds -/
/-- _law_some(bag, some, most), some a list of different texts: some of them, each once -/
def sp__law_some (K : PySem.W.Frag) : Sp := fun vs H Q _ => ∃ (p a : Addr) (n : Nat) (ws : List Str) (m : Int), vs = [.ref p, .ref a, .int m] ∧ BagAt H p (n + 20) ∧ SqL K H a (ws.map V.str) ∧ ws.length ≤ 10 ∧ ws.Nodup ∧ 0 ≤ m ∧ m ≤ 1000 ∧
  ∀ (l : Addr) (fs : List Str) H', H l = none → Kp [p] H H' → H' l = some (.lst (fs.map V.str)) → fs.Nodup → (∀ f ∈ fs, f ∈ ws) → fs.length ≤ ws.length → BagAt H' p n → Q (.ref l) H'
theorem erase_perm {α : Type} : ∀ {l : List α} {i : Nat} {x : α}, l[i]? = some x → (x :: l.eraseIdx i).Perm l
  | [], i, x, h => by simp at h
  | a :: l, 0, x, h => by
    cases h
    exact .refl _
  | a :: l, i + 1, x, h => (List.Perm.swap a x _).trans ((erase_perm (l := l) h).cons a)
theorem map_erase {α β : Type} (f : α → β) : ∀ (l : List α) (i : Nat), (l.eraseIdx i).map f = (l.map f).eraseIdx i
  | [], _ => rfl
  | _ :: _, 0 => rfl
  | a :: l, i + 1 => congrArg (f a :: ·) (map_erase f l i)
abbrev s__law_some : Stmt := top 16
theorem sc__law_some : FnScope ["_law_bag_here", "_law_some_here", "_law_most", "_law_left", "_law_found", "_law_turn"] ["_law_bag_here", "_law_some_here", "_law_most"] (defScope s__law_some) :=
  ⟨rfl, rfl, rfl, by decide +kernel, rfl, by decide +kernel, by decide +kernel⟩
theorem ok__law_some {f : Addr} {fd : FuncData} (F : Fun K "_law_some" "_law_some" s__law_some f fd) (T : Txt K mg C_Kinds G_RESERVED) (U__law_take : Use P w K mg base 2 "_law_take" ["_law_bag_here", "_law_many"] (sp__law_take)) :
    FnOk P w K mg base CX0 4 f fd ["_law_bag_here", "_law_some_here", "_law_most"] (sp__law_some K) := by
  refine F.ok sc__law_some (fun vs H Q E h => ?_) (fun cdv A outer s H vs Q E hr h => ?_)
  · obtain ⟨p, a, n, ws, m, rfl, _⟩ := h
    rfl
  · obtain ⟨p, a, n, ws, m, rfl, hb, hS, hw, hnd, m0, m1, q⟩ := h
    have hu := hu_of hr
    have hu64 := hr.units
    refine ⟨_, (pss_cons (ps_par (i := 3) (j := 4) (by rfl) sc__law_some.nd rfl rfl (by decide) rfl rfl (pa_cons (pe_callTy (K_list (K := K) rfl) (by rfl) T.z_list (by decide +kernel) (pa_cons (pv 1) pa_nil)) (pa_cons (pe_lst pa_nil) pa_nil)) (by rfl))
        (pss_cons (ps_for PassesOwn.never (by rfl) (pi_range1 (by rfl) T.z_range (pa_cons (pe_callB (cr_min2 rfl) (by rfl) T.z_min (by decide +kernel) (pa_cons (pv 2) (pa_cons (pe_callB (K_len (K := K) rfl) (by rfl) T.z_len (by decide +kernel) (pa_cons (pv 3) pa_nil)) pa_nil))) pa_nil)) (pg_name (i := 5) sc__law_some.nd rfl (by first | exact Or.inl rfl | exact Or.inr rfl))
          (pss_one (ps_if (pt_cmpR op_gt (pe_use U__law_take (hr.mono (by first | decide | omega)) (by rfl) (pa_cons (pv 0) (pa_cons pe_int pa_nil))) pe_int (nomark _))
            (pss_one (ps_expr (K_bm (K := K) rfl PySem.F.plainAttrs_list PySem.F.slot_list_append PySem.F.type_list_append mt_append (pv 4) (pa_cons (K_bm (K := K) rfl PySem.F.plainAttrs_list PySem.F.slot_list_pop PySem.F.type_list_pop mt_popAt (pv 3) (pa_cons (pe_use U__law_take (hr.mono (by first | decide | omega)) (by rfl) (pa_cons (pv 0) (pa_cons (pe_callB (K_len (K := K) rfl) (by rfl) T.z_len (by decide +kernel) (pa_cons (pv 3) pa_nil)) pa_nil))) pa_nil)) pa_nil))))
            pss_nil)))
        (pss_one (ps_ret (pv 4))))), ?_⟩
    walk_at "S"
    refine r_listL hS fun L H1 nL k1 eL => ?_
    walk_at "S"
    refine r_kLst (xs := []) (Nat.zero_le _) fun F H2 nF k2 eF => ?_
    walk_at "S"
    refine ⟨_, _, rfl, ?_⟩
    have b2 := (hb.kp k1 not_nil).kp k2 not_nil
    have eL2 := k2 _ _ eL not_nil
    have FL : F ≠ L := ne_none eL nF
    have Lp : L ≠ p := by
      obtain ⟨o, ho⟩ := hb.some
      exact ne_none ho nL
    have Fp : F ≠ p := by
      obtain ⟨o, ho⟩ := (hb.kp k1 not_nil).some
      exact ne_none ho nF
    walk_at "S"
    refine r_lenL (SqL.of eL2) ?_
    walk_at "S"
    have hlen : (ws.map V.str).length = ws.length := List.length_map _
    refine r_cRng1 ⟨by split <;> omega, by split <;> omega⟩ ?_
    have nL0 := nL
    have nF0 : H F = none := k1.free nF not_nil
    refine r_kForR (fun i σ' H' => ∃ (ls fs : List Str) (v5 : Option V), σ' = [some (.ref p), some (.ref a), some (.int m), some (.ref L), some (.ref F), v5] ∧ Kp [p] H H' ∧ H' L = some (.lst (ls.map V.str)) ∧ H' F = some (.lst (fs.map V.str)) ∧
        (fs ++ ls).Perm ws ∧ fs.length ≤ i ∧ BagAt H' p (n + 2 * (10 - i))) ⟨ws, [], none, rfl, (k1.trans k2).nil, eL2, eF, .refl _, Nat.zero_le _, b2.mono (by omega)⟩ ?_ ?_
    · rintro i σ' H3 hi ⟨ls, fs, v5, rfl, k3, e3L, e3F, pm, hfi, b3⟩
      have hi10 : i < ws.length := by
        split at hi <;> omega
      have hpl := pm.length_eq
      rw [List.length_append] at hpl
      walk_at "S"
      refine ⟨p, n + 2 * (10 - i) - 1, 3, rfl, b3.mono (by omega), by decide, by decide, fun r H4 r0 r1 k4 b4 => ?_⟩
      walk_at "S"
      refine r_kIfS (fun c => ?_) (fun c => ?_)
      all_goals walk_at "S"
      · have e4L := k4 _ _ e3L (not_one Lp)
        have e4F := k4 _ _ e3F (not_one Fp)
        refine r_kBMl (SqL.of e4F) ?_
        walk_at "S"
        refine r_kBMl (SqL.of e4L) ?_
        walk_at "S"
        refine r_lenL (SqL.of e4L) ?_
        walk_at "S"
        have hll : (ls.map V.str).length = ls.length := List.length_map _
        refine ⟨p, n + 2 * (10 - i) - 2, _, rfl, b4.mono (by omega), by omega, by omega, fun j H5 j0 j1 k5 b5 => ?_⟩
        walk_at "S"
        have e5L := k5 _ _ e4L (not_one Lp)
        have e5F := k5 _ _ e4F (not_one Fp)
        have hj : j.toNat < ls.length := by omega
        have ey : ls[j.toNat]? = some ls[j.toNat] := List.getElem?_eq_getElem hj
        refine r_popAt (y := V.str ls[j.toNat]) e5L j0 j1 (by omega) (by rw [List.getElem?_map, ey]; rfl) fun H6 k6 e6 => ?_
        walk_at "S"
        have e6F := k6 _ _ e5F (not_one FL)
        have k36 : Kp [p] H H6 := (k3.trans (k4.trans k5)).step nL0 k6
        refine r_append e6F ?_ fun H7 k7 e7 => ?_
        · rw [List.length_map]
          have : 20 < sizeLine := by decide
          omega
        walk_at "S"
        refine ⟨ls.eraseIdx j.toNat, fs ++ [ls[j.toNat]], _, rfl, k36.step nF0 k7, ?_, ?_, ?_, ?_, ((b5.kp k6 (not_one Lp.symm)).kp k7 (not_one Fp.symm)).mono (by omega)⟩
        · rw [map_erase]
          exact k7 _ _ e6 (not_one FL.symm)
        · rw [List.map_append]
          exact e7
        · refine List.Perm.trans ?_ pm
          rw [List.append_assoc]
          exact (erase_perm ey).append_left fs
        · rw [List.length_append]
          show fs.length + 1 ≤ i + 1
          omega
      · exact ⟨ls, fs, _, rfl, k3.trans k4, k4 _ _ e3L (not_one Lp), k4 _ _ e3F (not_one Fp), pm, by omega, b4.mono (by omega)⟩
    · rintro σ' H3 ⟨ls, fs, v5, rfl, k3, e3L, e3F, pm, hfi, b3⟩
      walk_at "S"
      have nd2 := (pm.nodup_iff).mpr hnd
      have hpl := pm.length_eq
      rw [List.length_append] at hpl
      exact q F fs H3 nF0 k3 e3F (List.nodup_append.mp nd2).1 (fun f hf => pm.mem_iff.mp (List.mem_append_left _ hf)) (by omega) (b3.mono (by omega))
/-- declarations as they are drawn: each name new, the bases declared ahead -/
def GoodE (es : List Ent) : Prop := ∀ i e, es[i]? = some e → NameOk e.1 ∧ e.1 ∉ (es.take i).map Prod.fst ∧ e.2.Nodup ∧ e.2.length ≤ 100 ∧ ∀ b ∈ e.2, b ∈ (es.take i).map Prod.fst
theorem strs_of : ∀ bs : List Str, strsOf (bs.map .str) = bs
  | [] => rfl
  | b :: bs => congrArg (b :: ·) (strs_of bs)
theorem ent_of (e : Ent) : toEnt (entD e) = e := by
  show (e.1, strsOf (e.2.map .str)) = e
  rw [strs_of]
theorem ents_of (es : List Ent) : (es.map entD).map toEnt = es := by
  rw [List.map_map]
  have : (toEnt ∘ entD) = id := funext ent_of
  rw [this, List.map_id]
theorem bases_ok {ns : List Str} : ∀ {bs seen : List Str}, (∀ b ∈ bs, b ∈ ns) → bs.Nodup → (∀ b ∈ bs, b ∉ seen) → basesOk ns (bs.map .str) seen = true
  | [], _, _, _, _ => rfl
  | b :: bs, seen, h1, h2, h3 => by
    have hn := List.nodup_cons.mp h2
    show (decide (b ∈ ns) && !decide (b ∈ seen) && basesOk ns (bs.map .str) (seen ++ [b])) = true
    rw [decide_eq_true (h1 b List.mem_cons_self), decide_eq_false (h3 b List.mem_cons_self)]
    refine bases_ok (fun x hx => h1 x (List.mem_cons_of_mem _ hx)) hn.2 fun x hx m => ?_
    rcases List.mem_append.mp m with m | m
    · exact h3 x (List.mem_cons_of_mem _ hx) m
    · exact hn.1 (List.mem_singleton.mp m ▸ hx)
theorem nameOk_len {w : Str} (h : NameOk w) : w.length ≤ 8 := by
  rw [str_length]
  exact h.2.1
theorem GoodE.good {es : List Ent} (h : GoodE es) : Good (es.map entD) := fun i d hd => by
  obtain ⟨e, he, rfl⟩ := map_at hd
  obtain ⟨h1, h2, h3, h4, h5⟩ := h i e he
  rw [← List.map_take, ents_of]
  refine ⟨?_, fun w hw => ?_, fun l hl => ?_⟩
  · show declares _ (.tuple [.str e.1, .tuple (e.2.map .str)]) = true
    rw [declares_pair, (isName_iff e.1).mpr h1]
    show (true && !decide (e.1 ∈ (es.take i).map Prod.fst) && basesOk _ (e.2.map .str) []) = true
    rw [decide_eq_false h2, bases_ok h5 h3 fun _ _ m => by cases m]
    rfl
  · cases hw
    have := nameOk_len h1
    omega
  · cases hl
    rw [List.length_map]
    omega
theorem GoodE.snoc {es : List Ent} {e : Ent} (h : GoodE es) (h1 : NameOk e.1) (h2 : e.1 ∉ es.map Prod.fst) (h3 : e.2.Nodup) (h4 : e.2.length ≤ 100) (h5 : ∀ b ∈ e.2, b ∈ es.map Prod.fst) : GoodE (es ++ [e]) := fun i x hx => by
  by_cases c : i < es.length
  · rw [List.getElem?_append_left c] at hx
    rw [List.take_append_of_le_length (by omega)]
    exact h i x hx
  · have hi := lt_at hx
    rw [List.length_append, List.length_singleton] at hi
    have hie : i = es.length := by omega
    subst hie
    rw [List.getElem?_append_right (Nat.le_refl _), Nat.sub_self] at hx
    cases hx
    rw [List.take_left']
    · exact ⟨h1, h2, h3, h4, h5⟩
    · rfl
theorem GoodE.nodup {es : List Ent} (h : GoodE es) : (es.map Prod.fst).Nodup := by
  rw [List.nodup_iff_pairwise_ne, List.pairwise_iff_getElem]
  intro i j hi hj hij e
  rw [List.length_map] at hi hj
  have h2 := (h j es[j] (List.getElem?_eq_getElem hj)).2.1
  refine h2 ?_
  rw [List.getElem_map, List.getElem_map] at e
  rw [← e]
  refine List.mem_map.mpr ⟨es[i], ?_, rfl⟩
  rw [List.mem_take_iff_getElem]
  exact ⟨i, by omega, rfl⟩
/-- one of such declarations -/
theorem ents_get {ex : List Addr} {H : Hp} {xs : List V} {es : List Ent} {i : Nat} {x : V} (h : DtAll ex H xs (es.map entD)) (e : xs[i]? = some x) : ∃ n bs t b, es[i]? = some (n, bs) ∧ x = .ref t ∧ t ∉ ex ∧ H t = some (.tup [.str n, .ref b]) ∧ b ∉ ex ∧ H b = some (.tup (bs.map V.str)) := by
  obtain ⟨d, hd, hx⟩ := h.at e
  obtain ⟨⟨n, bs⟩, he, rfl⟩ := map_at hd
  obtain ⟨t, ys, rfl, ht, et, al⟩ := hx.tuple
  cases al with
  | cons h0 al =>
  cases al with
  | cons h1 al =>
  cases al
  cases h0
  obtain ⟨b, zs, rfl, hb, eb, al2⟩ := h1.tuple
  have := al2.strs
  subst this
  exact ⟨n, bs, t, b, he, rfl, ht, et, hb, eb⟩
/-- _law_kinds(bag, most): right declarations -/
def sp__law_kinds (K : PySem.W.Frag) : Sp := fun vs H Q _ => ∃ (p : Addr) (n : Nat) (m : Int), vs = [.ref p, .int m] ∧ BagAt H p (n + 400) ∧ 1 ≤ m ∧ m ≤ 8 ∧
  ∀ (l : Addr) (es : List Ent) H', H l = none → Kp [p] H H' → Dt [p] H' (.ref l) (.list (es.map entD)) → GoodE es → 0 < es.length → es.length ≤ m.toNat → BagAt H' p n → Q (.ref l) H'
abbrev s__law_kinds : Stmt := top 17
theorem sc__law_kinds : FnScope ["_law_bag_here", "_law_most", "_law_found", "_law_turn", "_law_one", "_law_bases", "_law_known"] ["_law_bag_here", "_law_most"] (defScope s__law_kinds) :=
  ⟨rfl, rfl, rfl, by decide +kernel, rfl, by decide +kernel, by decide +kernel⟩
theorem ok__law_kinds {f : Addr} {fd : FuncData} (F : Fun K "_law_kinds" "_law_kinds" s__law_kinds f fd) (T : Txt K mg C_Kinds G_RESERVED) (U__law_take : Use P w K mg base 2 "_law_take" ["_law_bag_here", "_law_many"] (sp__law_take)) (U__law_name : Use P w K mg base 6 "_law_name" ["_law_bag_here", "_law_taken"] (sp__law_name K)) (U__law_some : Use P w K mg base 4 "_law_some" ["_law_bag_here", "_law_some_here", "_law_most"] (sp__law_some K)) :
    FnOk P w K mg base CX0 8 f fd ["_law_bag_here", "_law_most"] (sp__law_kinds K) := by
  refine F.ok sc__law_kinds (fun vs H Q E h => ?_) (fun cdv A outer s H vs Q E hr h => ?_)
  · obtain ⟨p, n, m, rfl, _⟩ := h
    rfl
  · obtain ⟨p, n, m, rfl, hb, m1, m8, q⟩ := h
    have hu := hu_of hr
    have hu64 := hr.units
    refine ⟨_, (pss_cons (ps_set (i := 2) sc__law_kinds.nd rfl (by first | exact Or.inl rfl | exact Or.inr rfl) (pe_lst pa_nil))
        (pss_cons (ps_for PassesOwn.never (by rfl) (pi_range1 (by rfl) T.z_range (pa_cons (pe_op op_add pe_int (pe_use U__law_take (hr.mono (by first | decide | omega)) (by rfl) (pa_cons (pv 0) (pa_cons (pv 1) pa_nil)))) pa_nil)) (pg_name (i := 3) sc__law_kinds.nd rfl (by first | exact Or.inl rfl | exact Or.inr rfl))
          (pss_cons (ps_setLc (i := 6) (own := [("_law_one", 4), ("_law_bases", 5)]) (by rfl) sc__law_kinds.nd rfl rfl (sw_true rfl rfl rfl (by decide +kernel)) (K_pil (K := K) rfl (pv 2)) (blkOk_by (own := [("_law_one", 4), ("_law_bases", 5)]) (N := ["_law_bag_here", "_law_most", "_law_found", "_law_turn", "_law_one", "_law_bases", "_law_known"]) (sc := defScope s__law_kinds) (by decide +kernel)) (fun _ _ _ _ _ => (K_gtup (K := K) (n := 2) rfl (by rfl) (pgs_cons (pg_name (i := 4) sc__law_kinds.nd rfl (by first | exact Or.inl rfl | exact Or.inr rfl)) (pgs_cons (pg_name (i := 5) sc__law_kinds.nd rfl (by first | exact Or.inl rfl | exact Or.inr rfl)) pgs_nil)))) (fun _ _ _ _ _ => pts_nil) (fun _ _ _ _ _ => (pv 4)))
          (pss_one (ps_expr (K_bm (K := K) rfl PySem.F.plainAttrs_list PySem.F.slot_list_append PySem.F.type_list_append mt_append (pv 2) (pa_cons (pe_tup (pa_cons (pe_use U__law_name (hr.mono (by first | decide | omega)) (by rfl) (pa_cons (pv 0) (pa_cons (pv 6) pa_nil))) (pa_cons (pe_callTy (K_tuple (K := K) rfl) (by rfl) T.z_tuple (by decide +kernel) (pa_cons (pe_use U__law_some (hr.mono (by first | decide | omega)) (by rfl) (pa_cons (pv 0) (pa_cons (pv 6) (pa_cons (pe_op op_mul pe_int (pe_use U__law_take (hr.mono (by first | decide | omega)) (by rfl) (pa_cons (pv 0) (pa_cons pe_int pa_nil)))) pa_nil)))) pa_nil)) pa_nil))) pa_nil))))))
        (pss_one (ps_ret (pv 2))))), ?_⟩
    walk_at "S"
    refine r_kLst (xs := []) (Nat.zero_le _) fun L H1 nL k1 eL => ?_
    have b1 := hb.kp k1 not_nil
    have Lp : L ≠ p := by
      obtain ⟨o, ho⟩ := hb.some
      exact ne_none ho nL
    walk_at "S"
    refine ⟨p, n + 399, m, rfl, b1, by omega, by omega, fun r H2 r0 r1 k2 b2 => ?_⟩
    walk_at "S"
    refine r_cRng1 ⟨by omega, by omega⟩ ?_
    refine r_kForR (fun i σ' H' => ∃ (es : List Ent) (acc : List V) (v3 v4 v5 v6 : Option V), σ' = [some (.ref p), some (.int m), some (.ref L), v3, v4, v5, v6] ∧ Kp [p] H H' ∧ H' L = some (.lst acc) ∧ DtAll [L, p] H' acc (es.map entD) ∧ es.length = i ∧ GoodE es ∧
        BagAt H' p (n + 40 * (8 - i))) ⟨[], [], none, none, none, none, rfl, k1.nil.trans k2, k2 _ _ eL (not_one Lp), .nil, rfl, (fun i e h => by cases h), b2.mono (by omega)⟩ ?_ ?_
    · rintro i σ' H3 hi ⟨es, acc, v3, v4, v5, v6, rfl, k3, e3, hA, hes, hG, b3⟩
      have hi8 : i < 8 := by omega
      have hal := hA.length
      rw [List.length_map] at hal
      walk_at "S"
      refine r_cWL (SqL.of e3) ?_
      refine r_kLcL (fun D j ac H' => Kp [] H3 H' ∧ ac = ((es.take j).map Prod.fst).map V.str) (fun D H' nD k e => ⟨k, rfl⟩) (fun D j ac H' _ h => sql_kp (SqL.of e3) h.1 not_nil) ?_ ?_
      · rintro D j ac x H4 nD hx eD ⟨k4, rfl⟩
        obtain ⟨w, bs, t, b, he, rfl, _, et, _, _⟩ := ents_get hA hx
        refine r_gtup (SqT.of (k4 _ _ et not_nil)) rfl ?_
        walk_at "S"
        refine r_kApp eD ?_ fun H5 k5 e5 => ⟨k4.step nD k5, ?_⟩
        · rw [List.length_map, List.length_map, List.length_take]
          have : 10 < sizeLine := by decide
          omega
        · rw [take_map _ he, List.map_append]
          rfl
      rintro D ac H4 nD eD ⟨k4, rfl⟩
      rw [hal, List.take_length] at eD
      have Dp : D ≠ p := by
        obtain ⟨o, ho⟩ := b3.some
        exact ne_none ho nD
      have DL : D ≠ L := ne_none e3 nD
      walk_at "S"
      have e4 := k4 _ _ e3 not_nil
      refine r_kBMl (SqL.of e4) ?_
      walk_at "S"
      have hnl : (es.map Prod.fst).length ≤ 8 := by
        rw [List.length_map]
        omega
      refine ⟨p, D, n + 40 * (8 - i) - 12, es.map Prod.fst, rfl, (b3.kp k4 not_nil).mono (by omega), SqL.of eD, by omega, fun u H5 uok un k5 b5 => ?_⟩
      walk_at "S"
      have eD5 := k5 _ _ eD (not_one Dp)
      refine ⟨p, n + 40 * (8 - i) - 13, 2, rfl, b5.mono (by omega), by decide, by decide, fun z H6 z0 z1 k6 b6 => ?_⟩
      walk_at "S"
      refine r_I (.inl (by decide)) ?_
      walk_at "S"
      refine ⟨p, D, n + 40 * (8 - (i + 1)), es.map Prod.fst, 3 * z, rfl, b6.mono (by omega), SqL.of (k6 _ _ eD5 (not_one Dp)), by omega, hG.nodup, by omega, by omega, fun F fs H7 nF k7 eF hfn hfm hfl b7 => ?_⟩
      walk_at "S"
      refine r_tupleL (SqL.of eF) fun bt H8 nb k8 eb => ?_
      walk_at "S"
      refine r_kTup (xs := [V.str u, V.ref bt]) (by show 2 ≤ sizeLine; decide) fun t H9 nt k9 et => ?_
      walk_at "S"
      have k47 : Kp [p] H4 H7 := k5.trans (k6.trans k7)
      have k49 : Kp [p] H4 H9 := k47.trans (k8.trans k9).nil
      have e9L := k49 _ _ e4 (not_one Lp)
      have tL : t ≠ L := ne_none (k8 _ _ (k47 _ _ e4 (not_one Lp)) not_nil) nt
      have bL : bt ≠ L := ne_none (k47 _ _ e4 (not_one Lp)) nb
      have bp : bt ≠ p := by
        obtain ⟨o, ho⟩ := b7.some
        exact ne_none ho nb
      have tp : t ≠ p := by
        obtain ⟨o, ho⟩ := (b7.kp k8 not_nil).some
        exact ne_none ho nt
      refine r_append e9L ?_ fun H10 k10 e10 => ?_
      · have : 10 < sizeLine := by decide
        omega
      walk_at "S"
      have k39 : Kp [p] H3 H9 := k4.nil.trans k49
      have hA9 : DtAll [L, p] H9 acc (es.map entD) := hA.mono (k39.mono fun b hb => List.mem_cons_of_mem _ hb)
      have one : Dt [L, p] H9 (.ref t) (entD (u, fs)) := .tup (not_two tL tp) et (.cons (.str u) (.cons (.tup (not_two bL bp) (k9 _ _ eb not_nil) (DtAll.of_strs fs)) .nil))
      refine ⟨es ++ [(u, fs)], _, _, _, _, _, rfl, (k3.trans k39).step nL k10, e10, ?_, ?_, hG.snoc uok un hfn (by show fs.length ≤ 100; omega) hfm, ((b7.kp k8 not_nil).kp k9 not_nil).kp k10 (not_one Lp.symm)⟩
      · rw [List.map_append]
        exact (hA9.snoc one).mono (k10.mono fun b hb => by rw [List.mem_singleton.mp hb]; exact List.mem_cons_self)
      · rw [List.length_append, hes]
        rfl
    · rintro σ' H3 ⟨es, acc, v3, v4, v5, v6, rfl, k3, e3, hA, hes, hG, b3⟩
      walk_at "S"
      exact q L es H3 nL k3 (.lst (not_one Lp) e3 (hA.less fun b hb => List.mem_cons_of_mem _ hb)) hG (by omega) (by omega) (b3.mono (by omega))

/-! ### Kinds.bases, Kinds.within -/
def basesOf : List Ent → Str → List Str
  | [], _ => []
  | e :: es, x => if e.1 = x then e.2 else basesOf es x
theorem basesOf_skip : ∀ {es : List Ent} {i : Nat} {x : Str}, (∀ j e, j < i → es[j]? = some e → ¬ e.1 = x) → basesOf es x = basesOf (es.drop i) x
  | _, 0, _, _ => rfl
  | [], _ + 1, _, _ => rfl
  | e :: es, i + 1, x, h => by
    show (if e.1 = x then e.2 else basesOf es x) = basesOf (es.drop i) x
    rw [if_neg (h 0 e (Nat.zero_lt_succ _) rfl)]
    exact basesOf_skip fun j e' hj he => h (j + 1) e' (by omega) he
def sp_Kinds_bases (K : PySem.W.Frag) (C : Addr) : Sp := fun vs H Q _ => ∃ (a : Addr) (es : List Ent) (x : Str), vs = [.ref a, .str x] ∧ KindsAt C [] H a es ∧
  ∀ b H', Kp [] H H' → H' b = some (.tup ((basesOf es x).map V.str)) → Q (.ref b) H'
abbrev s_Kinds_bases : Stmt := inClass (top 10) 2
theorem sc_Kinds_bases : FnScope ["self", "name", "kind", "bases"] ["self", "name"] (defScope s_Kinds_bases) :=
  ⟨rfl, rfl, rfl, by decide +kernel, rfl, by decide +kernel, by decide +kernel⟩
theorem ok_Kinds_bases {f : Addr} {fd : FuncData} (F : Fun K "bases" "Kinds.bases" s_Kinds_bases f fd) (T : Txt K mg C_Kinds G_RESERVED) :
    FnOk P w K mg base CX0 2 f fd ["self", "name"] (sp_Kinds_bases K C_Kinds) := by
  refine F.ok sc_Kinds_bases (fun vs H Q E h => ?_) (fun cdv A outer s H vs Q E hr h => ?_)
  · obtain ⟨a, es, x, rfl, _⟩ := h
    rfl
  · obtain ⟨a, es, x, rfl, hK, q⟩ := h
    have hu := hu_of hr
    have hu64 := hr.units
    refine ⟨_, (pss_cons (ps_for PassesOwn.never (by rfl) (K_pit (K := K) rfl (K_fld (K := K) rfl (pv 0) rfl)) (K_gtup (K := K) (n := 2) rfl (by rfl) (pgs_cons (pg_name (i := 2) sc_Kinds_bases.nd rfl (by first | exact Or.inl rfl | exact Or.inr rfl)) (pgs_cons (pg_name (i := 3) sc_Kinds_bases.nd rfl (by first | exact Or.inl rfl | exact Or.inr rfl)) pgs_nil)))
          (pss_one (ps_if (pt_cmpR op_eq (pv 2) (pv 1) (nomark _))
            (pss_one (ps_ret (pv 3)))
            pss_nil)))
        (pss_one (ps_ret (pe_tup pa_nil)))), ?_⟩
    obtain ⟨dx, nt, et, _, _, ha, hn, hE⟩ := hK.ob
    obtain ⟨et', xs, e, _, ee, al⟩ := hE.tuple
    cases e
    have hlen := al.length
    rw [List.length_map] at hlen
    walk_at "S"
    refine r_kFld ha T.c_Kinds T.na_Kinds_entries (kf_e _ _) ?_
    refine r_cWT (SqT.of ee) ?_
    refine r_kForT (fun i σ' H' => H' = H ∧ ∃ v3 v4, σ' = [some (.ref a), some (.str x), v3, v4] ∧ ∀ j e, j < i → es[j]? = some e → ¬ e.1 = x) ⟨rfl, none, none, rfl, fun j e hj => absurd hj (Nat.not_lt_zero _)⟩ (fun i σ' H' _ h => by
        obtain ⟨rfl, _⟩ := h
        exact SqT.of ee) ?_ ?_
    · rintro i v σ' H' hx ⟨rfl, v3, v4, rfl, hno⟩
      obtain ⟨n, bs, t, b, he, rfl, _, et, _, eb⟩ := ents_get al hx
      refine r_gtup (SqT.of et) rfl ?_
      walk_at "S"
      refine r_kIfS (fun c => ?_) (fun c => ?_)
      all_goals walk_at "S"
      · have c' : n = x := of_decide_eq_true c
        refine q b _ (Kp.refl _ _) ?_
        rw [basesOf_skip hno, drop_at he]
        show _ = some (HO.tup ((if n = x then bs else _).map V.str))
        rw [if_pos c']
        exact eb
      · have c' : ¬ n = x := of_decide_eq_false c
        refine ⟨rfl, _, _, rfl, fun j e hj h' => ?_⟩
        by_cases hji : j = i
        · subst hji
          rw [he] at h'
          cases h'
          exact c'
        · exact hno j e (by omega) h'
    · rintro σ' H' ⟨rfl, v3, v4, rfl, hno⟩
      walk_at "S"
      refine r_kTup (xs := []) (Nat.zero_le _) fun t H1 _ k1 e1 => ?_
      walk_at "S"
      refine q t H1 k1 ?_
      rw [basesOf_skip hno, hlen, List.drop_length]
      exact e1
/-- enough steps for all ways up -/
def okd (es : List Ent) : Nat → Str → Bool
  | 0, _ => false
  | d + 1, x => (basesOf es x).all (okd es d)
def reach (es : List Ent) : Nat → Str → Str → Bool
  | 0, _, _ => false
  | d + 1, x, y => decide (x = y) || ((basesOf es x).map fun b => reach es d b y).any id
def sp_Kinds_within (_K : PySem.W.Frag) (C : Addr) (d : Nat) : Sp := fun vs H Q _ => ∃ (a : Addr) (es : List Ent) (x y : Str), vs = [.ref a, .str x, .str y] ∧ KindsAt C [] H a es ∧ okd es d x = true ∧ (∀ e ∈ es, e.2.length ≤ 100) ∧
  ∀ H', Kp [] H H' → Q (.bl (reach es d x y)) H'
theorem bases_len {x : Str} : ∀ {es : List Ent}, (∀ e ∈ es, e.2.length ≤ 100) → (basesOf es x).length ≤ 100
  | [], _ => Nat.zero_le _
  | e :: es, h => by
    show (if e.1 = x then e.2 else basesOf es x).length ≤ 100
    split
    · exact h e List.mem_cons_self
    · exact bases_len fun e' m => h e' (List.mem_cons_of_mem _ m)
abbrev s_Kinds_within : Stmt := inClass (top 10) 3
theorem sc_Kinds_within : FnScope ["self", "one", "other", "base"] ["self", "one", "other"] (defScope s_Kinds_within) :=
  ⟨rfl, rfl, rfl, by decide +kernel, rfl, by decide +kernel, by decide +kernel⟩
theorem step_within {d : Nat} {f : Addr} {fd : FuncData} (F : Fun K "within" "Kinds.within" s_Kinds_within f fd) (T : Txt K mg C_Kinds G_RESERVED) (U_Kinds_bases : UseM P w K mg base 2 C_Kinds "bases" (sp_Kinds_bases K C_Kinds))
    (U_Kinds_within : UseM P w K mg base (3 + d) C_Kinds "within" (sp_Kinds_within K C_Kinds d)) :
    FnOk P w K mg base CX0 (3 + (d + 1)) f fd ["self", "one", "other"] (sp_Kinds_within K C_Kinds (d + 1)) := by
  refine F.ok (k := 3 + d) sc_Kinds_within (fun vs H Q E h => ?_) (fun cdv A outer s H vs Q E hr h => ?_)
  · obtain ⟨a, es, x, y, rfl, _⟩ := h
    rfl
  · obtain ⟨a, es, x, y, rfl, hK, hok, hbl, q⟩ := h
    obtain ⟨f_Kinds_within, R_Kinds_within, M_Kinds_within⟩ := U_Kinds_within
    obtain ⟨f_Kinds_bases, R_Kinds_bases, M_Kinds_bases⟩ := U_Kinds_bases
    have hu := hu_of hr
    have hu64 := hr.units
    refine ⟨_, (pss_cons (ps_if (pt_cmpR op_eq (pv 1) (pv 2) (nomark _))
          (pss_one (ps_ret pe_bl))
          pss_nil)
        (pss_one (ps_ret (pe_callB (K_any (K := K) rfl rfl) (by rfl) T.z_any (by decide +kernel) (pa_cons (pe_lc (own := [("base", 3)]) (by rfl) sc_Kinds_within.nd (K_pit (K := K) rfl (pe_methR (pv 0) T.c_Kinds M_Kinds_bases R_Kinds_bases (hr.mono (by first | decide | omega)) pass0 (pa_cons (pv 1) pa_nil))) (blkOk_by (own := [("base", 3)]) (N := ["self", "one", "other", "base"]) (sc := defScope s_Kinds_within) (by decide +kernel)) (fun _ _ _ _ _ => (pg_name (i := 3) sc_Kinds_within.nd rfl (by first | exact Or.inl rfl | exact Or.inr rfl))) (fun _ _ _ _ _ => pts_nil) (fun _ _ _ _ _ => (pe_methR (pv 0) T.c_Kinds M_Kinds_within R_Kinds_within (hr.mono (by first | decide | omega)) pass0 (pa_cons (pv 3) (pa_cons (pv 2) pa_nil))))) pa_nil))))), ?_⟩
    walk_at "S"
    refine r_kIfS (fun c => ?_) (fun c => ?_)
    all_goals walk_at "S"
    · have c' : x = y := of_decide_eq_true c
      have : reach es (d + 1) x y = true := by
        show (decide (x = y) || _) = true
        rw [decide_eq_true c']
        rfl
      rw [← this]
      exact q _ (Kp.refl _ _)
    have c' : decide (x = y) = false := c
    obtain ⟨dx, nt, et, _, _, ha, hn, hE⟩ := hK.ob
    refine r_kMeth ha (kf_no _ _ (by decide +kernel) (by decide +kernel)) ?_
    walk_at "S"
    refine ⟨a, es, x, rfl, hK, fun b H1 k1 eb => ?_⟩
    have hbl' := bases_len (x := x) hbl
    refine r_cWT (SqT.of eb) ?_
    refine r_kLcT (fun D i acc H2 => Kp [] H1 H2 ∧ acc = (((basesOf es x).take i).map fun b => reach es d b y).map V.bl) (fun D H2 nD k2 e2 => ⟨k2, rfl⟩) (fun D i acc H2 _ h => sqt_kp (SqT.of eb) h.1 not_nil) ?_ ?_
    · rintro D i acc v H2 nD hx eD ⟨k2, rfl⟩
      obtain ⟨z, hz, rfl⟩ := map_at hx
      walk_at "S"
      refine r_kMeth ((k1.trans k2) _ _ ha not_nil) (kf_no _ _ (by decide +kernel) (by decide +kernel)) ?_
      walk_at "S"
      have hok' : (basesOf es x).all (okd es d) = true := hok
      refine ⟨a, es, z, y, rfl, (hK.kp k1).kp k2, (List.all_eq_true.mp hok') z (mem_at hz), hbl, fun H3 k3 => ?_⟩
      walk_at "S"
      refine r_kApp (k3 _ _ eD not_nil) ?_ fun H4 k4 e4 => ⟨(k2.trans k3).step nD k4, ?_⟩
      · rw [List.length_map, List.length_map, List.length_take]
        have : 102 < sizeLine := by decide
        omega
      · rw [take_map _ hz, List.map_append]
        rfl
    rintro D acc H2 nD eD ⟨k2, rfl⟩
    rw [List.length_map, List.take_length] at eD
    walk_at "S"
    refine r_any (SqL.of eD) ?_
    walk_at "S"
    have : reach es (d + 1) x y = ((basesOf es x).map fun b => reach es d b y).any id := by
      show (decide (x = y) || _) = _
      rw [c']
      rfl
    rw [← this]
    exact q _ (k1.trans k2)
theorem all_within {f : Addr} {fd : FuncData} (F : Fun K "within" "Kinds.within" s_Kinds_within f fd) (b : Binds K fd ["self", "one", "other"] []) (M : Meth K C_Kinds "within" f) (T : Txt K mg C_Kinds G_RESERVED)
    (U_Kinds_bases : UseM P w K mg base 2 C_Kinds "bases" (sp_Kinds_bases K C_Kinds)) : ∀ d, FnOk P w K mg base CX0 (3 + d) f fd ["self", "one", "other"] (sp_Kinds_within K C_Kinds d)
  | 0 => by
    refine ⟨fun vs H Q E h => ?_, fun A outer s H args us vs Q E _ _ _ _ h => ?_⟩
    all_goals
      obtain ⟨a, es, x, y, _, _, z, _⟩ := h
      cases z
  | d + 1 => step_within F T U_Kinds_bases ⟨f, fnr (all_within F b M T U_Kinds_bases d) b, M⟩

/-! ### _law_lies: all that lies above a name -/
theorem r_while {tc : TT} {tb : TS} {D : Ends} {σ : St} {H : Hp} (W : Nat → St → Hp → Prop) (m : Nat) (h0 : W m σ H)
    (hs : ∀ m σ H, W m σ H → tc σ H fun b H1 => if b = true then ∃ N : St → Hp → Prop, (∀ σ' H', N σ' H' → ∃ m', m' < m ∧ W m' σ' H') ∧ tb { D with nx := N, ct := N, bk := D.nx } σ H1 else D.nx σ H1) : tWhile tc tb D σ H := ⟨W, ⟨m, h0⟩, hs⟩
theorem eqvAll_strs : ∀ a b : List Str, PyData.eqvAll (a.map .str) (b.map .str) = decide (a = b)
  | [], [] => rfl
  | _ :: _, [] => rfl
  | [], _ :: _ => rfl
  | x :: a, y :: b => by
    have e : PyData.eqvAll ((x :: a).map .str) ((y :: b).map .str) = (x == y && PyData.eqvAll (a.map .str) (b.map .str)) := rfl
    rw [e, eqvAll_strs a b]
    by_cases h : x = y
    · subst h
      by_cases h2 : a = b
      · subst h2
        simp
      · simp [h2]
    · simp [h]
theorem eqv_strs (a b : List Str) : PyData.eqv (.list (a.map .str)) (.list (b.map .str)) = decide (a = b) := by
  have e : PyData.eqv (.list (a.map .str)) (.list (b.map .str)) = PyData.eqvAll (a.map .str) (b.map .str) := rfl
  rw [e, eqvAll_strs]
inductive Up (es : List Ent) (x : Str) : Str → Prop
  | refl : Up es x x
  | step {z b : Str} : Up es x z → b ∈ basesOf es z → Up es x b
theorem reach_any {es : List Ent} {d : Nat} {x y : Str} : reach es (d + 1) x y = true ↔ x = y ∨ ∃ b ∈ basesOf es x, reach es d b y = true := by
  show (decide (x = y) || ((basesOf es x).map fun b => reach es d b y).any id) = true ↔ _
  rw [Bool.or_eq_true, decide_eq_true_iff, List.any_eq_true]
  constructor
  · rintro (h | ⟨c, m, h⟩)
    · exact .inl h
    · obtain ⟨b, mb, rfl⟩ := List.mem_map.mp m
      exact .inr ⟨b, mb, h⟩
  · rintro (h | ⟨b, mb, h⟩)
    · exact .inl h
    · exact .inr ⟨_, List.mem_map.mpr ⟨b, mb, rfl⟩, h⟩
theorem up_left {es : List Ent} {x b y : Str} (h : b ∈ basesOf es x) (u : Up es b y) : Up es x y := by
  induction u with
  | refl => exact .step .refl h
  | step _ m ih => exact .step ih m
theorem up_reach {es : List Ent} {y : Str} : ∀ {d : Nat} {x : Str}, reach es d x y = true → Up es x y
  | 0, _, h => by cases h
  | d + 1, x, h => by
    rcases reach_any.mp h with rfl | ⟨b, mb, h⟩
    · exact .refl
    · exact up_left mb (up_reach h)
theorem reach_step {es : List Ent} {z b : Str} (hb : b ∈ basesOf es z) : ∀ {d : Nat} {x : Str}, okd es d x = true → reach es d x z = true → reach es d x b = true
  | 0, _, h, _ => by cases h
  | d + 1, x, h, r => by
    have h' : (basesOf es x).all (okd es d) = true := h
    rcases reach_any.mp r with rfl | ⟨c, mc, r⟩
    · refine reach_any.mpr (.inr ⟨b, hb, ?_⟩)
      have := List.all_eq_true.mp h' b hb
      cases d with
      | zero => cases this
      | succ d => exact reach_any.mpr (.inl rfl)
    · exact reach_any.mpr (.inr ⟨c, mc, reach_step hb (List.all_eq_true.mp h' c mc) r⟩)
theorem reach_up {es : List Ent} {d : Nat} {x y : Str} (h : okd es d x = true) (u : Up es x y) : reach es d x y = true := by
  induction u with
  | refl =>
    cases d with
    | zero => cases h
    | succ d => exact reach_any.mpr (.inl rfl)
  | step _ m ih => exact reach_step m h ih
theorem bases_mem {b z : Str} : ∀ {es : List Ent}, b ∈ basesOf es z → ∃ e ∈ es, e.1 = z ∧ b ∈ e.2
  | [], h => by cases h
  | e :: es, h => by
    have h : b ∈ (if e.1 = z then e.2 else basesOf es z) := h
    split at h
    · exact ⟨e, List.mem_cons_self, ‹_›, h⟩
    · obtain ⟨e', m, h⟩ := bases_mem h
      exact ⟨e', List.mem_cons_of_mem _ m, h⟩
theorem GoodE.bases {es : List Ent} (h : GoodE es) {i : Nat} {n : Str} {bs : List Str} (hi : es[i]? = some (n, bs)) : basesOf es n = bs := by
  rw [basesOf_skip (i := i), drop_at hi]
  · show (if n = n then bs else _) = bs
    rw [if_pos rfl]
  · intro j e hj he c
    refine (h i _ hi).2.1 (List.mem_map.mpr ⟨e, ?_, c⟩)
    rw [List.mem_take_iff_getElem]
    have := lt_at he
    have := lt_at hi
    refine ⟨j, by omega, ?_⟩
    rw [List.getElem?_eq_getElem (by assumption)] at he
    exact Option.some.inj he
/-- what is reached so far -/
structure Rch (es : List Ent) (x : Str) (R : List Str) : Prop where
  nd : R.Nodup
  up : ∀ z ∈ R, Up es x z
  sub : ∀ z ∈ R, z ∈ es.map Prod.fst
  one : x ∈ R
theorem nodup_len : ∀ {a b : List Str}, a.Nodup → (∀ z ∈ a, z ∈ b) → a.length ≤ b.length
  | [], _, _, _ => Nat.zero_le _
  | x :: a, b, h, s => by
    have hn := List.nodup_cons.mp h
    have hx := s x List.mem_cons_self
    have := nodup_len (b := b.erase x) hn.2 fun z m => (List.mem_erase_of_ne fun e => hn.1 (by rw [← e]; exact m)).mpr (s z (List.mem_cons_of_mem _ m))
    rw [List.length_erase_of_mem hx] at this
    have h0 := List.length_pos_of_mem hx
    rw [List.length_cons]
    omega
theorem nameOk_strOk {w : Str} (h : NameOk w) : PyData.strOk w = true := strOk_of (fun c hc => (h.2.2.1 c hc).2) (by decide)
theorem Rch.len {es : List Ent} {x : Str} {R : List Str} (h : Rch es x R) : R.length ≤ es.length := by
  have := nodup_len h.nd h.sub
  rw [List.length_map] at this
  exact this
def Clo (es : List Ent) (R : List Str) : Prop := ∀ e ∈ es, e.1 ∈ R → ∀ b ∈ e.2, b ∈ R
theorem Rch.all {es : List Ent} {x y : Str} {R : List Str} (h : Rch es x R) (c : Clo es R) {d : Nat} (hd : okd es d x = true) : decide (y ∈ R) = reach es d x y := by
  have : y ∈ R ↔ reach es d x y = true := by
    constructor
    · intro m
      exact reach_up hd (h.up y m)
    · intro r
      have u := up_reach r
      clear r
      induction u with
      | refl => exact h.one
      | step _ m ih =>
        obtain ⟨e, me, rfl, mb⟩ := bases_mem m
        exact c e me ih _ mb
  by_cases m : y ∈ R
  · rw [decide_eq_true m, this.mp m]
  · rw [decide_eq_false m]
    cases e : reach es d x y with
    | false => rfl
    | true => exact absurd (this.mpr e) m
theorem GoodE.base_name {es : List Ent} (h : GoodE es) {i : Nat} {e : Ent} (hi : es[i]? = some e) {b : Str} (hb : b ∈ e.2) : b ∈ es.map Prod.fst := by
  obtain ⟨e', m, rfl⟩ := List.mem_map.mp ((h i e hi).2.2.2.2 b hb)
  exact List.mem_map.mpr ⟨e', List.mem_of_mem_take m, rfl⟩
theorem Rch.more {es : List Ent} {x : Str} {R : List Str} (h : Rch es x R) (hG : GoodE es) {i : Nat} {n : Str} {bs : List Str} (hi : es[i]? = some (n, bs)) (hn : n ∈ R) : Rch es x (R ++ bs.filter fun b => decide (b ∉ R)) := by
  have hb := (hG i _ hi).2.2.1
  refine ⟨List.nodup_append.mpr ⟨h.nd, hb.filter _, fun a ma b mb e => ?_⟩, fun z m => ?_, fun z m => ?_, List.mem_append_left _ h.one⟩
  · subst e
    have := (List.mem_filter.mp mb).2
    exact absurd ma (of_decide_eq_true this)
  · rcases List.mem_append.mp m with m | m
    · exact h.up z m
    · refine .step (h.up n hn) ?_
      rw [hG.bases hi]
      exact (List.mem_filter.mp m).1
  · rcases List.mem_append.mp m with m | m
    · exact h.sub z m
    · exact hG.base_name hi (List.mem_filter.mp m).1
theorem more_mem {R bs : List Str} {b : Str} (h : b ∈ bs) : b ∈ R ++ bs.filter fun b => decide (b ∉ R) := by
  by_cases m : b ∈ R
  · exact List.mem_append_left _ m
  · exact List.mem_append_right _ (List.mem_filter.mpr ⟨h, decide_eq_true m⟩)
theorem shp_strs {ws : List Str} (h : ∀ x ∈ ws, PyData.strOk x = true) : Shp 1 (.list (ws.map .str)) := Shp.list (n := 0) fun d m => by
  obtain ⟨x, mx, rfl⟩ := List.mem_map.mp m
  exact Shp.str (h x mx) 0
def sp__law_lies (K : PySem.W.Frag) : Sp := fun vs H Q _ => ∃ (l : Addr) (es : List Ent) (x y : Str), vs = [.ref l, .str x, .str y] ∧ Dt [] H (.ref l) (.list (es.map entD)) ∧ GoodE es ∧ es.length ≤ 8 ∧ x ∈ es.map Prod.fst ∧
  ∀ b H', Kp [] H H' → (∀ d, okd es d x = true → b = reach es d x y) → Q (.bl b) H'
abbrev s__law_lies : Stmt := top 18
theorem sc__law_lies : FnScope ["_law_kinds_here", "_law_one", "_law_other", "_law_reached", "_law_before", "_law_name_here", "_law_bases", "_law_base"] ["_law_kinds_here", "_law_one", "_law_other"] (defScope s__law_lies) :=
  ⟨rfl, rfl, rfl, by decide +kernel, rfl, by decide +kernel, by decide +kernel⟩
theorem ok__law_lies {f : Addr} {fd : FuncData} (F : Fun K "_law_lies" "_law_lies" s__law_lies f fd) (T : Txt K mg C_Kinds G_RESERVED) :
    FnOk P w K mg base CX0 2 f fd ["_law_kinds_here", "_law_one", "_law_other"] (sp__law_lies K) := by
  refine F.ok sc__law_lies (fun vs H Q E h => ?_) (fun cdv A outer s H vs Q E hr h => ?_)
  · obtain ⟨l, es, x, y, rfl, _⟩ := h
    rfl
  · obtain ⟨l, es, x, y, rfl, hD, hG, hl8, hx, q⟩ := h
    have hu := hu_of hr
    have hu64 := hr.units
    refine ⟨_, (pss_cons (ps_asg (pe_tup (pa_cons (pe_lst (pa_cons (pv 1) pa_nil)) (pa_cons (pe_lst pa_nil) pa_nil))) (K_gtup (K := K) (n := 2) rfl (by rfl) (pgs_cons (pg_name (i := 3) sc__law_lies.nd rfl (by first | exact Or.inl rfl | exact Or.inr rfl)) (pgs_cons (pg_name (i := 4) sc__law_lies.nd rfl (by first | exact Or.inl rfl | exact Or.inr rfl)) pgs_nil))))
        (pss_cons (ps_while PassesOwn.never (pt_cmpR (K_neD (K := K) rfl hu64) (pv 4) (pv 3) (nomark _))
          (pss_cons (ps_set (i := 4) sc__law_lies.nd rfl (by first | exact Or.inl rfl | exact Or.inr rfl) (pv 3))
          (pss_one (ps_for PassesOwn.never (by rfl) (K_pil (K := K) rfl (pv 0)) (K_gtup (K := K) (n := 2) rfl (by rfl) (pgs_cons (pg_name (i := 5) sc__law_lies.nd rfl (by first | exact Or.inl rfl | exact Or.inr rfl)) (pgs_cons (pg_name (i := 6) sc__law_lies.nd rfl (by first | exact Or.inl rfl | exact Or.inr rfl)) pgs_nil)))
            (pss_one (ps_if (pt_cmpR (K_in (K := K) rfl) (pv 5) (pv 3) (by with_unfolding_all rfl))
              (pss_one (ps_set (i := 3) sc__law_lies.nd rfl (by first | exact Or.inl rfl | exact Or.inr rfl) (pe_op op_cat (pv 3) (pe_lc (own := [("_law_base", 7)]) (by rfl) sc__law_lies.nd (K_pit (K := K) rfl (pv 6)) (blkOk_by (own := [("_law_base", 7)]) (N := ["_law_kinds_here", "_law_one", "_law_other", "_law_reached", "_law_before", "_law_name_here", "_law_bases", "_law_base"]) (sc := defScope s__law_lies) (by decide +kernel)) (fun _ _ _ _ _ => (pg_name (i := 7) sc__law_lies.nd rfl (by first | exact Or.inl rfl | exact Or.inr rfl))) (fun _ _ _ _ _ => pts_one (pt_cmpR (K_notIn (K := K) rfl) (pv 7) (pv 3) (by with_unfolding_all rfl))) (fun _ _ _ _ _ => (pv 7))))))
              pss_nil))))))
        (pss_one (ps_ret (pe_cmpR (K_in (K := K) rfl) (pv 2) (pv 3) (by with_unfolding_all rfl)))))), ?_⟩
    obtain ⟨l', xs, e, _, el, al⟩ := hD.list
    cases e
    have hlen := al.length
    rw [List.length_map] at hlen
    have hok : ∀ z ∈ es.map Prod.fst, PyData.strOk z = true := fun z m => by
      obtain ⟨e, me, rfl⟩ := List.mem_map.mp m
      obtain ⟨i, hi, rfl⟩ := List.getElem_of_mem me
      exact nameOk_strOk (hG i _ (List.getElem?_eq_getElem hi)).1
    walk_at "S"
    refine r_kLst (xs := [V.str x]) (by show 1 ≤ sizeLine; decide) fun rp H1 n1 k1 e1 => ?_
    walk_at "S"
    refine r_kLst (xs := []) (Nat.zero_le _) fun bp H2 n2 k2 e2 => ?_
    walk_at "S"
    refine r_kTup (xs := [V.ref rp, V.ref bp]) (by show 2 ≤ sizeLine; decide) fun tp H2' ntp k2' etp => ?_
    refine r_gtup (SqT.of etp) rfl ?_
    walk_at "S"
    refine r_while (fun m σ' H' => ∃ (rp bp : Addr) (R B : List Str) (v5 v6 v7 : Option V), σ' = [some (.ref l), some (.str x), some (.str y), some (.ref rp), some (.ref bp), v5, v6, v7] ∧ Kp [] H H' ∧ H' rp = some (.lst (R.map V.str)) ∧ H' bp = some (.lst (B.map V.str)) ∧
        Rch es x R ∧ (∀ z ∈ B, z ∈ R) ∧ (B = R → Clo es R) ∧ m = 2 * (es.length - R.length) + (if B = R then 0 else 1)) _ ⟨rp, bp, [x], [], none, none, none, rfl, k1.trans (k2.trans k2'), k2' _ _ (k2 _ _ e1 not_nil) not_nil, k2' _ _ e2 not_nil, ⟨by simp, fun z m => List.mem_singleton.mp m ▸ .refl, fun z m => List.mem_singleton.mp m ▸ hx, List.mem_cons_self⟩, (fun z m => by cases m), (fun z => by cases z), rfl⟩ ?_
    rintro m σ' H3 ⟨rp, bp, R, B, v5, v6, v7, rfl, k3, er, eb, hR, hBR, hC, rfl⟩
    walk_at "S"
    refine r_neD (ex := []) (ex' := []) (.lst not_nil eb (DtAll.of_strs B)) (.lst not_nil er (DtAll.of_strs R)) (shp_strs fun z m => hok z (hR.sub z (hBR z m))) (shp_strs fun z m => hok z (hR.sub z m)) (by decide) ?_
    rw [eqv_strs]
    walk_at "S"
    have hRl := hR.len
    by_cases hBe : B = R
    · rw [decide_eq_true hBe]
      show ite (false = true) _ _
      rw [if_neg (by decide)]
      walk_at "S"
      refine r_inL (SqL.of er) ?_
      walk_at "S"
      exact q _ H3 k3 fun d hd => hR.all (hC hBe) hd
    rw [decide_eq_false hBe]
    show ite (true = true) _ _
    rw [if_pos rfl, if_neg hBe]
    refine ⟨fun σ' H' => ∃ m', m' < 2 * (es.length - R.length) + 1 ∧ ∃ (rp bp : Addr) (R B : List Str) (v5 v6 v7 : Option V), σ' = [some (.ref l), some (.str x), some (.str y), some (.ref rp), some (.ref bp), v5, v6, v7] ∧ Kp [] H H' ∧ H' rp = some (.lst (R.map V.str)) ∧ H' bp = some (.lst (B.map V.str)) ∧
        Rch es x R ∧ (∀ z ∈ B, z ∈ R) ∧ (B = R → Clo es R) ∧ m' = 2 * (es.length - R.length) + (if B = R then 0 else 1), fun σ' H' h => h, ?_⟩
    walk_at "S"
    have el3 := k3 _ _ el not_nil
    have al3 := al.mono k3
    refine r_cWL (SqL.of el3) ?_
    refine r_kForL (fun i σ' H' => ∃ (rq : Addr) (R' : List Str) (v5 v6 v7 : Option V), σ' = [some (.ref l), some (.str x), some (.str y), some (.ref rq), some (.ref rp), v5, v6, v7] ∧ Kp [] H3 H' ∧ H' rq = some (.lst (R'.map V.str)) ∧ Rch es x R' ∧ (∃ t, R' = R ++ t) ∧
        ∀ (j : Nat) e, j < i → es[j]? = some e → e.1 ∈ R → ∀ b ∈ e.2, b ∈ R') ⟨rp, R, v5, v6, v7, rfl, Kp.refl _ _, er, hR, ⟨[], (List.append_nil R).symm⟩, fun j e hj => absurd hj (Nat.not_lt_zero _)⟩ (fun i σ' H' _ h => by
        obtain ⟨_, _, _, _, _, _, k, _⟩ := h
        exact sql_kp (SqL.of el3) k not_nil) ?_ ?_
    · rintro i v σ' H4 hx' ⟨rq, R', v5, v6, v7, rfl, k4, eq, hR', ⟨t, rfl⟩, hdone⟩
      obtain ⟨n, bs, tp, b, he, rfl, _, et, _, ebs⟩ := ents_get al3 hx'
      refine r_gtup (SqT.of (k4 _ _ et not_nil)) rfl ?_
      walk_at "S"
      refine r_inL (SqL.of eq) ?_
      walk_at "S"
      refine r_kIfS (fun c => ?_) (fun c => ?_)
      all_goals walk_at "S"
      · have hn : n ∈ R ++ t := of_decide_eq_true c
        have ebs4 := k4 _ _ ebs not_nil
        have hbl := (hG i _ he).2.2.2.1
        refine r_cWT (SqT.of ebs4) ?_
        refine r_kLcT (fun D i acc H' => Kp [] H4 H' ∧ acc = ((bs.take i).filter fun b => decide (b ∉ R ++ t)).map V.str) (fun D H' nD k e => ⟨k, rfl⟩) (fun D i acc H' _ h => sqt_kp (SqT.of ebs4) h.1 not_nil) ?_ ?_
        · rintro D j acc v H5 nD hv eD ⟨k5, rfl⟩
          obtain ⟨z, hz, rfl⟩ := map_at hv
          walk_at "S"
          refine r_notInL (sql_kp (SqL.of eq) k5 not_nil) ?_
          walk_at "S"
          have ht := take_filter (fun b => decide (b ∉ R ++ t)) hz
          refine r_kKeep (fun c => ?_) (fun c => ?_)
          · walk_at "S"
            refine r_kApp eD ?_ fun H6 k6 e6 => ⟨k5.step nD k6, ?_⟩
            · rw [List.length_map]
              have h1 : ((bs.take j).filter fun b => decide (b ∉ R ++ t)).length ≤ (bs.take j).length := List.length_filter_le _ _
              rw [List.length_take] at h1
              have : 102 < sizeLine := by decide
              have hbl : bs.length ≤ 100 := hbl
              omega
            · have c' : decide (z ∉ R ++ t) = true := by simpa using c
              rw [ht, if_pos c', List.map_append]
              rfl
          · refine ⟨_, eD, k5, ?_⟩
            have c' : ¬ decide (z ∉ R ++ t) = true := by simpa using c
            rw [ht, if_neg c', List.append_nil]
        rintro D acc H5 nD eD ⟨k5, rfl⟩
        rw [List.length_map, List.take_length] at eD
        walk_at "S"
        have hm := hR'.more hG he hn
        have hml := hm.len
        refine r_cat (k5 _ _ eq not_nil) eD ?_ fun p H6 np k6 e6 => ?_
        · rw [List.length_map, List.length_map, ← List.length_append]
          have : 10 < sizeLine := by decide
          omega
        walk_at "S"
        rw [← List.map_append] at e6
        refine ⟨p, _, _, _, _, rfl, k4.trans (k5.trans k6), e6, hm, ⟨t ++ _, List.append_assoc _ _ _⟩, fun j e hj he' hin b hb => ?_⟩
        by_cases hji : j = i
        · subst hji
          rw [he] at he'
          cases he'
          exact more_mem hb
        · exact List.mem_append_left _ (hdone j e (by omega) he' hin b hb)
      · refine ⟨rq, R ++ t, _, _, _, rfl, k4, eq, hR', ⟨t, rfl⟩, fun j e hj he' hin b hb => ?_⟩
        by_cases hji : j = i
        · subst hji
          rw [he] at he'
          cases he'
          have c' : ¬ n ∈ R ++ t := of_decide_eq_false c
          exact absurd (List.mem_append_left _ hin) c'
        · exact hdone j e (by omega) he' hin b hb
    · rintro σ' H4 ⟨rq, R', v5, v6, v7, rfl, k4, eq, hR', ⟨t, rfl⟩, hdone⟩
      walk_at "S"
      have hl' := hR'.len
      rw [List.length_append] at hl'
      refine ⟨_, ?_, rq, rp, R ++ t, R, _, _, _, rfl, k3.trans k4, eq, k4 _ _ er not_nil, hR', fun z m => List.mem_append_left _ m, fun e => ?_, rfl⟩
      · rw [List.length_append]
        split
        · omega
        · rename_i hne
          cases t with
          | nil => exact absurd (List.append_nil R).symm hne
          | cons a t =>
            rw [List.length_cons] at hl' ⊢
            omega
      · intro e' me hin b hb
        obtain ⟨j, hj, rfl⟩ := List.getElem_of_mem me
        rw [← e] at hin
        exact hdone j _ (by omega) (List.getElem?_eq_getElem hj) hin b hb

/-! ### _law_others: declarations beside these -/
theorem GoodE.take {es : List Ent} (h : GoodE es) (k : Nat) : GoodE (es.take k) := fun i e he => by
  have hi := lt_at he
  rw [List.length_take] at hi
  rw [List.getElem?_take_of_lt (by omega)] at he
  rw [List.take_take, Nat.min_eq_left (by omega)]
  exact h i e he
theorem names_set {es : List Ent} {i : Nat} {n : Str} {bs bs' : List Str} (he : es[i]? = some (n, bs)) : (es.set i (n, bs')).map Prod.fst = es.map Prod.fst := by
  apply List.ext_getElem?
  intro j
  rw [List.getElem?_map, List.getElem?_map, List.getElem?_set]
  by_cases c : i = j
  · subst c
    rw [he, if_pos rfl, if_pos (lt_at he)]
    rfl
  · rw [if_neg c]
theorem GoodE.set {es : List Ent} (h : GoodE es) {i : Nat} {n : Str} {bs bs' : List Str} (he : es[i]? = some (n, bs)) (h1 : bs'.Nodup) (h2 : ∀ b ∈ bs', b ∈ (es.take i).map Prod.fst) (h3 : bs'.length ≤ 100) : GoodE (es.set i (n, bs')) := fun j e hj => by
  have ht : ((es.set i (n, bs')).take j).map Prod.fst = (es.take j).map Prod.fst := by
    rw [List.map_take, List.map_take, names_set he]
  rw [ht]
  rw [List.getElem?_set] at hj
  by_cases c : i = j
  · subst c
    rw [if_pos rfl, if_pos (lt_at he)] at hj
    cases hj
    obtain ⟨g1, g2, _⟩ := h i _ he
    exact ⟨g1, g2, h1, h3, h2⟩
  · rw [if_neg c] at hj
    exact h j e hj
theorem set_ne {es : List Ent} {i : Nat} {n : Str} {bs bs' : List Str} (he : es[i]? = some (n, bs)) (hb : bs' ≠ bs) : es.set i (n, bs') ≠ es := fun e => by
  have := congrArg (·[i]?) e
  simp only [List.getElem?_set, if_true, lt_at he, he] at this
  exact hb (Prod.mk.inj (Option.some.inj this)).2
theorem set_split {es : List Ent} {i : Nat} {x : Ent} (hi : i < es.length) : es.take i ++ [x] ++ es.drop (i + 1) = es.set i x := by
  rw [List.set_eq_take_append_cons_drop, if_pos hi, List.append_assoc]
  rfl
def Beside (es os : List Ent) : Prop := GoodE os ∧ os.length ≤ 4 ∧ os ≠ es
def manyD (oss : List (List Ent)) : List PyData := oss.map fun os => .list (os.map entD)
theorem dtAll_take {ex : List Addr} {H : Hp} : ∀ {vs : List V} {ds : List PyData} (k : Nat), DtAll ex H vs ds → DtAll ex H (vs.take k) (ds.take k)
  | _, _, 0, _ => .nil
  | [], _, k + 1, h => by
    cases h
    exact .nil
  | v :: vs, _, k + 1, h => by
    cases h with
    | cons h0 h1 => exact .cons h0 (dtAll_take k h1)
theorem dtAll_drop {ex : List Addr} {H : Hp} : ∀ {vs : List V} {ds : List PyData} (k : Nat), DtAll ex H vs ds → DtAll ex H (vs.drop k) (ds.drop k)
  | _, _, 0, h => h
  | [], _, k + 1, h => by
    cases h
    exact .nil
  | v :: vs, _, k + 1, h => by
    cases h with
    | cons h0 h1 => exact dtAll_drop k h1
theorem other_dt {ex : List Addr} {H : Hp} {xs : List V} {es : List Ent} {i : Nat} {e : Ent} {t : V} (al : DtAll ex H xs (es.map entD)) (hi : i < es.length) (ht : Dt ex H t (entD e)) : DtAll ex H (xs.take i ++ [t] ++ xs.drop (i + 1)) ((es.set i e).map entD) := by
  rw [← set_split hi, List.map_append, List.map_append, List.map_take, List.map_drop]
  exact ((dtAll_take i al).append (.cons ht .nil)).append (dtAll_drop (i + 1) al)
/-- what is found so far -/
structure Ot (es : List Ent) (F p : Addr) (H8 H' : Hp) (c : Nat) (acc : List V) (oss : List (List Ent)) : Prop where
  kp : Kp [F] H8 H'
  eF : H' F = some (.lst acc)
  al : DtAll [F, p] H' acc (manyD oss)
  bs : ∀ os ∈ oss, Beside es os
  ln : oss.length ≤ c
theorem Ot.mono {es : List Ent} {F p : Addr} {H8 H' H'' : Hp} {c c' : Nat} {acc : List V} {oss : List (List Ent)} (h : Ot es F p H8 H' c acc oss) (k : Kp [] H' H'') (hc : c ≤ c') : Ot es F p H8 H'' c' acc oss :=
  ⟨h.kp.trans k.nil, k _ _ h.eF not_nil, h.al.mono k.nil, h.bs, Nat.le_trans h.ln hc⟩
theorem Ot.more {es os : List Ent} {F p : Addr} {H8 H' Hf Hg : Hp} {c : Nat} {acc : List V} {oss : List (List Ent)} {z : V} (h : Ot es F p H8 H' c acc oss) (k : Kp [] H' Hf) (kg : Kp [F] Hf Hg) (e : Hg F = some (.lst (acc ++ [z]))) (hb : Beside es os) (hz : Dt [F, p] Hg z (.list (os.map entD))) : Ot es F p H8 Hg (c + 1) (acc ++ [z]) (oss ++ [os]) := by
  have kk : Kp [F] H' Hg := k.nil.trans kg
  refine ⟨h.kp.trans kk, e, ?_, fun o m => ?_, ?_⟩
  · show DtAll _ _ _ ((oss ++ [os]).map _)
    rw [List.map_append]
    exact (h.al.mono (kk.mono fun b m => by rw [List.mem_singleton.mp m]; exact List.mem_cons_self)).snoc hz
  · rcases List.mem_append.mp m with m | m
    · exact h.bs o m
    · rw [List.mem_singleton.mp m]
      exact hb
  · rw [List.length_append]
    exact Nat.succ_le_succ h.ln
def sp__law_others (K : PySem.W.Frag) : Sp := fun vs H Q _ => ∃ (p l : Addr) (n : Nat) (es : List Ent), vs = [.ref p, .ref l] ∧ BagAt H p (n + 12) ∧ Dt [p] H (.ref l) (.list (es.map entD)) ∧ GoodE es ∧ 0 < es.length ∧ es.length ≤ 4 ∧
  ∀ (F : Addr) (oss : List (List Ent)) H', H F = none → Kp [p] H H' → Dt [p] H' (.ref F) (.list (manyD oss)) → (∀ os ∈ oss, Beside es os) → oss.length ≤ 30 → BagAt H' p n → Q (.ref F) H'
local macro_rules | `(tactic| walk_at "s") => `(tactic| (first
  | (with_reducible refine r_sl ?_)
  | (with_reducible refine r_kS1 ?_)
  | (with_reducible refine r_kS2 ?_)
  | (with_reducible refine r_kS3 ?_)
  | (with_reducible refine r_noPart ?_)
  | (with_reducible refine r_part ?_)
  | (with_reducible refine r_kPart ?_)))
abbrev s__law_others : Stmt := top 20
theorem sc__law_others : FnScope ["_law_bag_here", "_law_kinds_here", "_law_one", "_law_bases", "_law_names", "_law_found", "_law_at", "_law_base", "_law_less"] ["_law_bag_here", "_law_kinds_here"] (defScope s__law_others) :=
  ⟨rfl, rfl, rfl, by decide +kernel, rfl, by decide +kernel, by decide +kernel⟩
theorem ok__law_others {f : Addr} {fd : FuncData} (F : Fun K "_law_others" "_law_others" s__law_others f fd) (T : Txt K mg C_Kinds G_RESERVED) (U__law_name : Use P w K mg base 6 "_law_name" ["_law_bag_here", "_law_taken"] (sp__law_name K)) :
    FnOk P w K mg base CX0 8 f fd ["_law_bag_here", "_law_kinds_here"] (sp__law_others K) := by
  refine F.ok sc__law_others (fun vs H Q E h => ?_) (fun cdv A outer s H vs Q E hr h => ?_)
  · obtain ⟨p, l, n, es, rfl, _⟩ := h
    rfl
  · obtain ⟨p, l, n, es, rfl, hb, hD, hG, h0, h4, q⟩ := h
    have hu := hu_of hr
    have hu64 := hr.units
    refine ⟨_, (pss_cons (ps_setLc (i := 4) (own := [("_law_one", 2), ("_law_bases", 3)]) (by rfl) sc__law_others.nd rfl rfl (sw_true rfl rfl rfl (by decide +kernel)) (K_pil (K := K) rfl (pv 1)) (blkOk_by (own := [("_law_one", 2), ("_law_bases", 3)]) (N := ["_law_bag_here", "_law_kinds_here", "_law_one", "_law_bases", "_law_names", "_law_found", "_law_at", "_law_base", "_law_less"]) (sc := defScope s__law_others) (by decide +kernel)) (fun _ _ _ _ _ => (K_gtup (K := K) (n := 2) rfl (by rfl) (pgs_cons (pg_name (i := 2) sc__law_others.nd rfl (by first | exact Or.inl rfl | exact Or.inr rfl)) (pgs_cons (pg_name (i := 3) sc__law_others.nd rfl (by first | exact Or.inl rfl | exact Or.inr rfl)) pgs_nil)))) (fun _ _ _ _ _ => pts_nil) (fun _ _ _ _ _ => (pv 2)))
        (pss_cons (ps_set (i := 5) sc__law_others.nd rfl (by first | exact Or.inl rfl | exact Or.inr rfl) (pe_lst (pa_cons (pe_slice (K_slL (K := K) rfl) (pv 1) po_none (po_some (pe_un un_neg pe_int))) (pa_cons (pe_op op_cat (pe_slice (K_slL (K := K) rfl) (pv 1) po_none (po_some (pe_un un_neg pe_int))) (pe_lst (pa_cons (pe_tup (pa_cons (pe_use U__law_name (hr.mono (by first | decide | omega)) (by rfl) (pa_cons (pv 0) (pa_cons (pv 4) pa_nil))) (pa_cons (pe_ix (K_ixT (K := K) rfl) (pe_ix (K_ixL (K := K) rfl) (pv 1) (pe_un un_neg pe_int) (fun _ _ => rfl)) pe_int (fun _ _ => rfl)) pa_nil))) pa_nil))) pa_nil))))
        (pss_cons (ps_for PassesOwn.never (by rfl) (K_enum (K := K) rfl (by rfl) T.z_enumerate (pa_cons (pv 1) pa_nil)) (K_gtup (K := K) (n := 2) rfl (by rfl) (pgs_cons (pg_name (i := 6) sc__law_others.nd rfl (by first | exact Or.inl rfl | exact Or.inr rfl)) (pgs_cons (K_gtup (K := K) (n := 2) rfl (by rfl) (pgs_cons (pg_name (i := 2) sc__law_others.nd rfl (by first | exact Or.inl rfl | exact Or.inr rfl)) (pgs_cons (pg_name (i := 3) sc__law_others.nd rfl (by first | exact Or.inl rfl | exact Or.inr rfl)) pgs_nil))) pgs_nil)))
          (pss_cutS (ps_if (pt_cmpR op_gt (pe_callB (K_len (K := K) rfl) (by rfl) T.z_len (by decide +kernel) (pa_cons (pv 3) pa_nil)) pe_int (nomark _))
            (pss_one (ps_expr (K_bm (K := K) rfl PySem.F.plainAttrs_list PySem.F.slot_list_append PySem.F.type_list_append mt_append (pv 5) (pa_cons (pe_op op_cat (pe_op op_cat (pe_slice (K_slL (K := K) rfl) (pv 1) po_none (po_some (pv 6))) (pe_lst (pa_cons (pe_tup (pa_cons (pv 2) (pa_cons (pe_slice (K_slT (K := K) rfl) (pv 3) (po_some pe_int) po_none) pa_nil))) pa_nil))) (pe_slice (K_slL (K := K) rfl) (pv 1) (po_some (pe_op op_add (pv 6) pe_int)) po_none)) pa_nil))))
            pss_nil)
          (pss_cutS (ps_if (pt_cmpR op_gt (pe_callB (K_len (K := K) rfl) (by rfl) T.z_len (by decide +kernel) (pa_cons (pv 3) pa_nil)) pe_int (nomark _))
            (pss_one (ps_expr (K_bm (K := K) rfl PySem.F.plainAttrs_list PySem.F.slot_list_append PySem.F.type_list_append mt_append (pv 5) (pa_cons (pe_op op_cat (pe_op op_cat (pe_slice (K_slL (K := K) rfl) (pv 1) po_none (po_some (pv 6))) (pe_lst (pa_cons (pe_tup (pa_cons (pv 2) (pa_cons (pe_op (K_catT (K := K) rfl) (pe_slice (K_slT (K := K) rfl) (pv 3) (po_some pe_int) po_none) (pe_slice (K_slT (K := K) rfl) (pv 3) po_none (po_some pe_int))) pa_nil))) pa_nil))) (pe_slice (K_slL (K := K) rfl) (pv 1) (po_some (pe_op op_add (pv 6) pe_int)) po_none)) pa_nil))))
            pss_nil)
          (pss_cons (ps_setLc (i := 8) (own := [("_law_base", 7)]) (by rfl) sc__law_others.nd rfl rfl (sw_true rfl rfl rfl (by decide +kernel)) (K_pil (K := K) rfl (pe_slice (K_slL (K := K) rfl) (pv 4) po_none (po_some (pv 6)))) (blkOk_by (own := [("_law_base", 7)]) (N := ["_law_bag_here", "_law_kinds_here", "_law_one", "_law_bases", "_law_names", "_law_found", "_law_at", "_law_base", "_law_less"]) (sc := defScope s__law_others) (by decide +kernel)) (fun _ _ _ _ _ => (pg_name (i := 7) sc__law_others.nd rfl (by first | exact Or.inl rfl | exact Or.inr rfl))) (fun _ _ _ _ _ => pts_one (pt_cmpR (K_notIn (K := K) rfl) (pv 7) (pv 3) (by with_unfolding_all rfl))) (fun _ _ _ _ _ => (pv 7)))
          (pss_one (ps_if (pt_cmpR (K_neD (K := K) rfl hu64) (pv 8) (pe_lst pa_nil) (nomark _))
            (pss_one (ps_expr (K_bm (K := K) rfl PySem.F.plainAttrs_list PySem.F.slot_list_append PySem.F.type_list_append mt_append (pv 5) (pa_cons (pe_op op_cat (pe_op op_cat (pe_slice (K_slL (K := K) rfl) (pv 1) po_none (po_some (pv 6))) (pe_lst (pa_cons (pe_tup (pa_cons (pv 2) (pa_cons (pe_op (K_catT (K := K) rfl) (pv 3) (pe_tup (pa_cons (pe_ix (K_ixL (K := K) rfl) (pv 8) pe_int (fun _ _ => rfl)) pa_nil))) pa_nil))) pa_nil))) (pe_slice (K_slL (K := K) rfl) (pv 1) (po_some (pe_op op_add (pv 6) pe_int)) po_none)) pa_nil))))
            pss_nil))))))
        (pss_one (ps_ret (pv 5)))))), ?_⟩
    obtain ⟨l', xs, e, hlp, el, al⟩ := hD.list
    cases e
    have lp : l ≠ p := fun e => hlp (e ▸ List.mem_singleton.mpr rfl)
    have hlen := al.length
    rw [List.length_map] at hlen
    walk_at "S"
    refine r_cWL (SqL.of el) ?_
    refine r_kLcL (fun D j ac H' => Kp [] H H' ∧ ac = ((es.take j).map Prod.fst).map V.str) (fun D H' nD k e => ⟨k, rfl⟩) (fun D j ac H' _ h => sql_kp (SqL.of el) h.1 not_nil) ?_ ?_
    · rintro D j ac x H4 nD hx eD ⟨k4, rfl⟩
      obtain ⟨w, bs, t, b, he, rfl, _, et, _, _⟩ := ents_get al hx
      refine r_gtup (SqT.of (k4 _ _ et not_nil)) rfl ?_
      walk_at "S"
      refine r_kApp eD ?_ fun H5 k5 e5 => ⟨k4.step nD k5, ?_⟩
      · rw [List.length_map, List.length_map, List.length_take]
        have : 10 < sizeLine := by decide
        omega
      · rw [take_map _ he, List.map_append]
        rfl
    rintro D ac H1 nD eD ⟨k1, rfl⟩
    rw [hlen, List.take_length] at eD
    have Dp : D ≠ p := by
      obtain ⟨o, ho⟩ := hb.some
      exact ne_none ho nD
    walk_at "S"
    refine r_slL (SqL.of (k1 _ _ el not_nil)) fun s1 H2 ns1 k2 es1 => ?_
    walk_at "S"
    refine r_slL (SqL.of ((k1.trans k2) _ _ el not_nil)) fun s2 H3 ns2 k3 es2 => ?_
    walk_at "S"
    have k13 := k1.trans (k2.trans k3)
    have hesl : (es.map Prod.fst).length ≤ 25 := by
      rw [List.length_map]
      omega
    refine ⟨p, D, n, es.map Prod.fst, rfl, ((hb.kp k1 not_nil).kp k2 not_nil).kp k3 not_nil, SqL.of ((k2.trans k3) _ _ eD not_nil), hesl, fun u H4 uok un k4 b4 => ?_⟩
    walk_at "S"
    have el4 : H4 l = some (.lst xs) := k4 _ _ (k13 _ _ el not_nil) (not_one lp)
    have al4 : DtAll [p] H4 xs (es.map entD) := (al.mono k13.nil).mono k4
    obtain ⟨vl, hvl⟩ : ∃ vl, xs[xs.length - 1]? = some vl := ⟨_, List.getElem?_eq_getElem (by omega)⟩
    obtain ⟨n0, bs0, t0, a0, he0, rfl, ht0, et0, ha0, ea0⟩ := ents_get al4 hvl
    rw [hlen] at he0
    refine r_ixL (SqL.of el4) (atI_last hvl) ?_
    walk_at "S"
    refine r_ixT (SqT.of et0) (atI_nat (j := 1) rfl) ?_
    walk_at "S"
    refine r_kTup (xs := [V.str u, V.ref a0]) (by show 2 ≤ sizeLine; decide) fun t1 H5 nt1 k5 et1 => ?_
    walk_at "S"
    refine r_kLst (xs := [V.ref t1]) (by show 1 ≤ sizeLine; decide) fun w1 H6 nw1 k6 ew1 => ?_
    have s2p : s2 ≠ p := by
      obtain ⟨o, ho⟩ := ((hb.kp k1 not_nil).kp k2 not_nil).some
      exact ne_none ho ns2
    have s1p : s1 ≠ p := by
      obtain ⟨o, ho⟩ := (hb.kp k1 not_nil).some
      exact ne_none ho ns1
    have es2' : H6 s2 = some (.lst (cutV xs none (some (-1)))) := (k5.trans k6) _ _ (k4 _ _ es2 (not_one s2p)) not_nil
    walk_at "S"
    have hz : (xs.take (xs.length - 1)).length + [V.ref t1].length ≤ sizeLine := by
      rw [List.length_take]
      have : 10 < sizeLine := by decide
      show _ + 1 ≤ _
      omega
    rw [cut_last] at es1 es2'
    refine r_cat es2' ew1 hz fun c1 H7 nc1 k7 ec1 => ?_
    walk_at "S"
    refine r_kLst (xs := [V.ref s1, V.ref c1]) (by show 2 ≤ sizeLine; decide) fun F H8 nF k8 eF => ?_
    walk_at "S"
    have k48 : Kp [] H4 H8 := k5.trans (k6.trans (k7.trans k8))
    have k08 : Kp [p] H H8 := k13.nil.trans (k4.trans k48.nil)
    have el8 := k48 _ _ el4 not_nil
    have al8 := al4.mono k48.nil
    have eD8 : H8 D = some (.lst ((es.map Prod.fst).map V.str)) := k48 _ _ (k4 _ _ ((k2.trans k3) _ _ eD not_nil) (not_one Dp)) not_nil
    have es18 : H8 s1 = some (.lst (xs.take (xs.length - 1))) := k48 _ _ (k4 _ _ (k3 _ _ es1 not_nil) (not_one s1p)) not_nil
    have b8 := b4.kp k48 not_nil
    have hF0 : H F = none := (k13.nil.trans (k4.trans (k5.trans (k6.trans k7)).nil)).free nF (fun m => by
      obtain ⟨o, ho⟩ := (b4.kp (k5.trans (k6.trans k7)) not_nil).some
      rw [List.mem_singleton.mp m, ho] at nF
      cases nF)
    have lF : l ≠ F := fun e => by
      rw [e] at el
      rw [hF0] at el
      cases el
    have DF : D ≠ F := fun e => by
      rw [← e, (k5.trans (k6.trans k7)) _ _ (k4 _ _ ((k2.trans k3) _ _ eD not_nil) (not_one Dp)) not_nil] at nF
      cases nF
    have Fp : F ≠ p := by
      obtain ⟨o, ho⟩ := (b4.kp (k5.trans (k6.trans k7)) not_nil).some
      exact ne_none ho nF
    have al7F : DtAll [F, p] H7 xs (es.map entD) := (al4.mono (k5.trans (k6.trans k7)).nil).more nF
    have al8F : DtAll [F, p] H8 xs (es.map entD) := al7F.mono k8.nil
    have s1F : s1 ≠ F := fun e => by
      rw [← e, (k5.trans (k6.trans k7)) _ _ (k4 _ _ (k3 _ _ es1 not_nil) (not_one s1p)) not_nil] at nF
      cases nF
    have c1F : c1 ≠ F := fun e => by
      rw [← e, ec1] at nF
      cases nF
    have t1F : t1 ≠ F := fun e => by
      rw [← e, (k6.trans k7) _ _ et1 not_nil] at nF
      cases nF
    have a0F : a0 ≠ F := fun e => by
      rw [← e, (k5.trans (k6.trans k7)) _ _ ea0 not_nil] at nF
      cases nF
    have t1p : t1 ≠ p := by
      obtain ⟨o, ho⟩ := b4.some
      exact ne_none ho nt1
    have c1p : c1 ≠ p := by
      obtain ⟨o, ho⟩ := (b4.kp (k5.trans k6) not_nil).some
      exact ne_none ho nc1
    have a0p : a0 ≠ p := fun e => ha0 (e ▸ List.mem_singleton.mpr rfl)
    have mine : Ot es F p H8 H8 2 [V.ref s1, V.ref c1] [es.take (es.length - 1), es.take (es.length - 1) ++ [(u, bs0)]] := by
      obtain ⟨_, _, g3, g4, g5⟩ := hG _ _ he0
      refine ⟨Kp.refl _ _, eF, .cons (.lst (not_two s1F s1p) es18 ?_) (.cons (.lst (not_two c1F c1p) (k8 _ _ ec1 not_nil) ?_) .nil), fun os m => ?_, Nat.le_refl _⟩
      · rw [List.map_take, hlen]
        exact dtAll_take _ al8F
      · rw [List.map_append, List.map_take, hlen]
        exact (dtAll_take _ al8F).append (.cons (.tup (not_two t1F t1p) ((k6.trans (k7.trans k8)) _ _ et1 not_nil) (.cons (.str u) (.cons (.tup (not_two a0F a0p) (k48 _ _ ea0 not_nil) (DtAll.of_strs bs0)) .nil))) .nil)
      · simp only [List.mem_cons, List.not_mem_nil, or_false] at m
        rcases m with rfl | rfl
        · refine ⟨hG.take _, ?_, fun e => ?_⟩
          · rw [List.length_take]
            omega
          · have := congrArg List.length e
            rw [List.length_take] at this
            omega
        · refine ⟨(hG.take _).snoc uok (fun m => un ?_) g3 g4 g5, ?_, fun e => un ?_⟩
          · rw [List.map_take] at m
            exact List.mem_of_mem_take m
          · rw [List.length_append, List.length_take]
            show _ + 1 ≤ 4
            omega
          · rw [← e, List.map_append]
            exact List.mem_append_right _ List.mem_cons_self
    refine r_cEnum (SqL.of el8) ?_
    refine r_kFor walk_enum (fun i σ' H' => ∃ v2 v3 v6 v7 v8 acc oss, σ' = [some (.ref p), some (.ref l), v2, v3, some (.ref D), some (.ref F), v6, v7, v8] ∧ Ot es F p H8 H' (2 + 3 * i) acc oss) ⟨none, none, none, none, none, _, _, rfl, mine⟩ (fun i σ' H' _ h => by
        obtain ⟨_, _, _, _, _, _, _, _, hO⟩ := h
        exact sql_kp (SqL.of el8) hO.kp (not_one lF)) ?_ ?_
    · rintro i x σ' H9 H10 hi ⟨v2, v3, v6, v7, v8, acc, oss, rfl, hO⟩ ⟨t, uu, v, rfl, ntt, rfl, hu', hx⟩
      cases hu'
      have e10 : upd H9 t (.tup [.int (i : Int), v]) t = some (.tup [.int (i : Int), v]) := upd_same
      have k10 : Kp [] H9 (upd H9 t (.tup [.int (i : Int), v])) := Kp.new ntt
      generalize upd H9 t (.tup [.int (i : Int), v]) = H10 at e10 k10
      obtain ⟨m, bs, tt, b, he, rfl, htt, ett, hbn, eb⟩ := ents_get al8F hx
      have hO := hO.mono k10 (Nat.le_refl _)
      have hie : i < es.length := by omega
      have ttF : tt ∉ [F] := fun m => htt (by rw [List.mem_singleton.mp m]; exact List.mem_cons_self)
      have bF : b ∉ [F] := fun m => hbn (by rw [List.mem_singleton.mp m]; exact List.mem_cons_self)
      obtain ⟨gok, gnew, gnd, gln, gsub⟩ := hG i _ he
      refine r_gtup (SqT.of e10) rfl ?_
      walk_at "S"
      refine r_gtup (SqT.of (hO.kp _ _ ett ttF)) rfl ?_
      walk_at "S"
      refine r_cutS (fun σ' H' => ∃ acc oss, σ' = [some (.ref p), some (.ref l), some (.str m), some (.ref b), some (.ref D), some (.ref F), some (.int (i : Int)), v7, v8] ∧ Ot es F p H8 H' (2 + 3 * i + 1) acc oss) ?_ ?_
      · walk_at "S"
        have elh := hO.kp _ _ el8 (not_one lF)
        have ebh := hO.kp _ _ eb bF
        refine r_lenT (SqT.of ebh) ?_
        walk_at "S"
        refine r_kIfS (fun c => ?_) (fun c => ?_)
        · walk_at "S"
          have c' := of_decide_eq_true c
          rw [List.length_map] at c'
          refine r_kBMl (SqL.of hO.eF) ?_
          walk_at "S"
          refine r_slL (SqL.of elh) fun sl Ha1 nsl ka1 esl => ?_
          rw [cut_to] at esl
          walk_at "S"
          refine r_slT (SqT.of (ka1 _ _ ebh not_nil)) ?_ fun bt Ha nbt ka ebt => ?_
          · rintro ⟨h, _⟩
            rw [show HT.sIx (bs.map V.str).length 0 (some (1 : Int)) = min 1 (bs.map V.str).length from HT.sIx_nat _ _ 1, List.length_map] at h
            omega
          rw [show cutV (bs.map V.str) (some (1 : Int)) none = (bs.map V.str).drop 1 from cut_from 1, ← List.map_drop] at ebt
          have kHa : Kp [] H10 Ha := ka1.trans ka
          have esl' := ka _ _ esl not_nil
          have btF : bt ≠ F := ne_none (ka1 _ _ hO.eF not_nil) nbt
          have btp : bt ≠ p := by
            obtain ⟨o, ho⟩ := ((b8.kp hO.kp (not_one Fp.symm)).kp ka1 not_nil).some
            exact ne_none ho nbt
          walk_at "S"
          refine r_kTup (xs := [V.str m, V.ref bt]) (by show 2 ≤ sizeLine; decide) fun t2 Hb nt2 kb et2 => ?_
          walk_at "S"
          refine r_kLst (xs := [V.ref t2]) (by show 1 ≤ sizeLine; decide) fun w2 Hc nw2 kc ew2 => ?_
          walk_at "S"
          refine r_cat ((kb.trans kc) _ _ esl' not_nil) ew2 ?_ fun c2 Hd nc2 kd ec2 => ?_
          · rw [List.length_take]
            have : 10 < sizeLine := by decide
            show _ + 1 ≤ _
            omega
          walk_at "S"
          have kHd : Kp [] H10 Hd := kHa.trans (kb.trans (kc.trans kd))
          refine r_slL (SqL.of (kHd _ _ elh not_nil)) fun d2 He nd2 ke ed2 => ?_
          walk_at "S"
          rw [show cutV xs (some ((i : Int) + 1)) none = xs.drop (i + 1) from cut_from (i + 1)] at ed2
          refine r_cat (ke _ _ ec2 not_nil) ed2 ?_ fun z Hf nz kf ez => ?_
          · rw [List.length_append, List.length_take, List.length_drop]
            have : 10 < sizeLine := by decide
            show _ + 1 + _ ≤ _
            omega
          walk_at "S"
          have kHf : Kp [] H10 Hf := kHd.trans (ke.trans kf)
          have zF : z ≠ F := ne_none ((kHd.trans ke) _ _ hO.eF not_nil) nz
          have t2F : t2 ≠ F := ne_none (kHa _ _ hO.eF not_nil) nt2
          have bh := b8.kp hO.kp (not_one Fp.symm)
          have zp : z ≠ p := by
            obtain ⟨o, ho⟩ := (bh.kp (kHd.trans ke) not_nil).some
            exact ne_none ho nz
          have t2p : t2 ≠ p := by
            obtain ⟨o, ho⟩ := (bh.kp kHa not_nil).some
            exact ne_none ho nt2
          have hap := hO.al.length
          rw [show (manyD oss).length = oss.length from List.length_map _] at hap
          have hln := hO.ln
          refine r_append (kHf _ _ hO.eF not_nil) ?_ fun Hg kg eg => ?_
          · have : 1000 < sizeLine := by decide
            omega
          walk_at "S"
          have et2g := kg _ _ ((kc.trans (kd.trans (ke.trans kf))) _ _ et2 not_nil) (not_one t2F)
          have ebtg := kg _ _ ((kb.trans (kc.trans (kd.trans (ke.trans kf)))) _ _ ebt not_nil) (not_one btF)
          have ezg := kg _ _ ez (not_one zF)
          have alg : DtAll [F, p] Hg xs (es.map entD) := al8F.mono (((hO.kp.trans kHf.nil).trans kg).mono fun b m => by rw [List.mem_singleton.mp m]; exact List.mem_cons_self)
          refine ⟨_, _, rfl, hO.more (os := es.set i (m, bs.drop 1)) kHf kg eg ⟨hG.set he ?_ ?_ ?_, by rw [List.length_set]; exact h4, set_ne he ?_⟩ (.lst (not_two zF zp) ezg (other_dt alg hie (.tup (not_two t2F t2p) et2g (.cons (.str m) (.cons (.tup (not_two btF btp) ebtg (DtAll.of_strs _)) .nil)))))⟩
          · exact gnd.sublist (List.drop_sublist 1 bs)
          · exact fun x hx => gsub x (List.mem_of_mem_drop hx)
          · rw [List.length_drop]
            have gln : bs.length ≤ 100 := gln
            omega
          · intro e
            have := congrArg List.length e
            rw [List.length_drop] at this
            omega
        · walk_at "S"
          exact ⟨acc, oss, rfl, hO.mono (Kp.refl _ _) (by omega)⟩
      rintro _ H11 ⟨acc, oss, rfl, hO⟩
      refine r_cutS (fun σ' H' => ∃ acc oss, σ' = [some (.ref p), some (.ref l), some (.str m), some (.ref b), some (.ref D), some (.ref F), some (.int (i : Int)), v7, v8] ∧ Ot es F p H8 H' (2 + 3 * i + 2) acc oss) ?_ ?_
      · walk_at "S"
        have elh := hO.kp _ _ el8 (not_one lF)
        have ebh := hO.kp _ _ eb bF
        refine r_lenT (SqT.of ebh) ?_
        walk_at "S"
        refine r_kIfS (fun c => ?_) (fun c => ?_)
        · walk_at "S"
          have c' := of_decide_eq_true c
          rw [List.length_map] at c'
          refine r_kBMl (SqL.of hO.eF) ?_
          walk_at "S"
          refine r_slL (SqL.of elh) fun sl Ha1 nsl ka1 esl => ?_
          rw [cut_to] at esl
          walk_at "S"
          refine r_slT (SqT.of (ka1 _ _ ebh not_nil)) ?_ fun x1 Ha2 nx1 ka2 ex1 => ?_
          · rintro ⟨h, _⟩
            rw [show HT.sIx (bs.map V.str).length 0 (some (1 : Int)) = min 1 (bs.map V.str).length from HT.sIx_nat _ _ 1, List.length_map] at h
            omega
          rw [show cutV (bs.map V.str) (some (1 : Int)) none = (bs.map V.str).drop 1 from cut_from 1, ← List.map_drop] at ex1
          walk_at "S"
          refine r_slT (SqT.of ((ka1.trans ka2) _ _ ebh not_nil)) ?_ fun x2 Ha3 nx2 ka3 ex2 => ?_
          · rintro ⟨_, h⟩
            rw [show HT.sIx (bs.map V.str).length (bs.map V.str).length (some (1 : Int)) = min 1 (bs.map V.str).length from HT.sIx_nat _ _ 1, List.length_map] at h
            omega
          rw [show cutV (bs.map V.str) none (some (1 : Int)) = (bs.map V.str).take 1 from cut_to 1, ← List.map_take] at ex2
          walk_at "S"
          have x2p : x2 ≠ p := by
            obtain ⟨o, ho⟩ := ((b8.kp hO.kp (not_one Fp.symm)).kp (ka1.trans ka2) not_nil).some
            exact ne_none ho nx2
          have gln' : bs.length ≤ 100 := gln
          refine r_catT' (SqT.of (ka3 _ _ ex1 not_nil)) ex2 ?_ ?_ fun bt Ha ka ebt hor => ?_
          · rw [List.length_map, List.length_map, List.length_drop, List.length_take]
            have : 1000 < sizeLine := by decide
            omega
          · intro e
            have := congrArg List.length e
            rw [List.length_map, List.length_take] at this
            have : min 1 bs.length = 0 := this
            omega
          rw [← List.map_append] at ebt
          have kHa : Kp [] H11 Ha := ka1.trans (ka2.trans (ka3.trans ka))
          have esl' := (ka2.trans (ka3.trans ka)) _ _ esl not_nil
          have btF : bt ≠ F := ne_of ebt (kHa _ _ hO.eF not_nil) fun z => nomatch z
          have btp : bt ≠ p := by
            rcases hor with e | nbt
            · rw [e]
              exact x2p
            · obtain ⟨o, ho⟩ := ((b8.kp hO.kp (not_one Fp.symm)).kp (ka1.trans (ka2.trans ka3)) not_nil).some
              exact ne_none ho nbt
          walk_at "S"
          refine r_kTup (xs := [V.str m, V.ref bt]) (by show 2 ≤ sizeLine; decide) fun t2 Hb nt2 kb et2 => ?_
          walk_at "S"
          refine r_kLst (xs := [V.ref t2]) (by show 1 ≤ sizeLine; decide) fun w2 Hc nw2 kc ew2 => ?_
          walk_at "S"
          refine r_cat ((kb.trans kc) _ _ esl' not_nil) ew2 ?_ fun c2 Hd nc2 kd ec2 => ?_
          · rw [List.length_take]
            have : 10 < sizeLine := by decide
            show _ + 1 ≤ _
            omega
          walk_at "S"
          have kHd : Kp [] H11 Hd := kHa.trans (kb.trans (kc.trans kd))
          refine r_slL (SqL.of (kHd _ _ elh not_nil)) fun d2 He nd2 ke ed2 => ?_
          walk_at "S"
          rw [show cutV xs (some ((i : Int) + 1)) none = xs.drop (i + 1) from cut_from (i + 1)] at ed2
          refine r_cat (ke _ _ ec2 not_nil) ed2 ?_ fun z Hf nz kf ez => ?_
          · rw [List.length_append, List.length_take, List.length_drop]
            have : 10 < sizeLine := by decide
            show _ + 1 + _ ≤ _
            omega
          walk_at "S"
          have kHf : Kp [] H11 Hf := kHd.trans (ke.trans kf)
          have zF : z ≠ F := ne_none ((kHd.trans ke) _ _ hO.eF not_nil) nz
          have t2F : t2 ≠ F := ne_none (kHa _ _ hO.eF not_nil) nt2
          have bh := b8.kp hO.kp (not_one Fp.symm)
          have zp : z ≠ p := by
            obtain ⟨o, ho⟩ := (bh.kp (kHd.trans ke) not_nil).some
            exact ne_none ho nz
          have t2p : t2 ≠ p := by
            obtain ⟨o, ho⟩ := (bh.kp kHa not_nil).some
            exact ne_none ho nt2
          have hap := hO.al.length
          rw [show (manyD oss).length = oss.length from List.length_map _] at hap
          have hln := hO.ln
          refine r_append (kHf _ _ hO.eF not_nil) ?_ fun Hg kg eg => ?_
          · have : 1000 < sizeLine := by decide
            omega
          walk_at "S"
          have et2g := kg _ _ ((kc.trans (kd.trans (ke.trans kf))) _ _ et2 not_nil) (not_one t2F)
          have ebtg := kg _ _ ((kb.trans (kc.trans (kd.trans (ke.trans kf)))) _ _ ebt not_nil) (not_one btF)
          have ezg := kg _ _ ez (not_one zF)
          have alg : DtAll [F, p] Hg xs (es.map entD) := al8F.mono (((hO.kp.trans kHf.nil).trans kg).mono fun b m => by rw [List.mem_singleton.mp m]; exact List.mem_cons_self)
          refine ⟨_, _, rfl, hO.more (os := es.set i (m, bs.drop 1 ++ bs.take 1)) kHf kg eg ⟨hG.set he ?_ ?_ ?_, by rw [List.length_set]; exact h4, set_ne he ?_⟩ (.lst (not_two zF zp) ezg (other_dt alg hie (.tup (not_two t2F t2p) et2g (.cons (.str m) (.cons (.tup (not_two btF btp) ebtg (DtAll.of_strs _)) .nil)))))⟩
          · have pm : (bs.drop 1 ++ bs.take 1).Perm bs := by
              have := List.perm_append_comm (l₁ := bs.drop 1) (l₂ := bs.take 1)
              rw [List.take_append_drop] at this
              exact this
            exact pm.nodup_iff.mpr gnd
          · intro x hx
            rcases List.mem_append.mp hx with hx | hx
            · exact gsub x (List.mem_of_mem_drop hx)
            · exact gsub x (List.mem_of_mem_take hx)
          · rw [List.length_append, List.length_drop, List.length_take]
            omega
          · intro e
            match bs, gnd, c', e with
            | [], _, c', _ => exact absurd c' (by decide)
            | [_], _, c', _ => exact absurd c' (by show ¬ (1 : Int) < 1; decide)
            | x :: y :: r, gnd, _, e =>
              have e1 : y = x := (List.cons.inj e).1
              exact (List.nodup_cons.mp gnd).1 (e1 ▸ List.mem_cons_self)
        · walk_at "S"
          exact ⟨acc, oss, rfl, hO.mono (Kp.refl _ _) (by omega)⟩
      rintro _ H12 ⟨acc, oss, rfl, hO⟩
      walk_at "S"
      have elh := hO.kp _ _ el8 (not_one lF)
      have ebh := hO.kp _ _ eb bF
      have eDh := hO.kp _ _ eD8 (not_one DF)
      have gln' : bs.length ≤ 100 := gln
      refine r_slL (SqL.of eDh) fun s0 Hn1 ns0 kn1 es0 => ?_
      rw [cut_to, ← List.map_take, ← List.map_take] at es0
      refine r_cWL (SqL.of es0) ?_
      refine r_kLcL (fun G j ac H' => Kp [] Hn1 H' ∧ ac = ((((es.take i).map Prod.fst).take j).filter fun x => decide (x ∉ bs)).map V.str) (fun G H' nG k e => ⟨k, rfl⟩) (fun G j ac H' _ h => sql_kp (SqL.of es0) h.1 not_nil) ?_ ?_
      · rintro G j ac x Hn nG hx' eG ⟨kn, rfl⟩
        obtain ⟨y, hy, rfl⟩ := map_at hx'
        walk_at "S"
        refine r_ninT (SqT.of (kn _ _ (kn1 _ _ ebh not_nil) not_nil)) ?_
        walk_at "S"
        have ht := take_filter (fun x => decide (x ∉ bs)) hy
        refine r_kKeep (fun c => ?_) (fun c => ?_)
        · walk_at "S"
          refine r_kApp eG ?_ fun Hm km em => ⟨kn.step nG km, ?_⟩
          · rw [List.length_map]
            have h1 : ((((es.take i).map Prod.fst).take j).filter fun x => decide (x ∉ bs)).length ≤ (((es.take i).map Prod.fst).take j).length := List.length_filter_le _ _
            rw [List.length_take, List.length_map, List.length_take] at h1
            have : 1000 < sizeLine := by decide
            omega
          · have c' : decide (y ∉ bs) = true := by simpa using c
            rw [ht, if_pos c', List.map_append]
            rfl
        · refine ⟨_, eG, kn, ?_⟩
          have c' : ¬ decide (y ∉ bs) = true := by simpa using c
          rw [ht, if_neg c', List.append_nil]
      rintro G ac Hn2 nG eG ⟨kn2, rfl⟩
      rw [List.length_map, List.take_length] at eG
      walk_at "S"
      refine r_kLst (xs := []) (Nat.zero_le _) fun nl Hn3 nnl kn3 enl => ?_
      have kN : Kp [] H12 Hn3 := kn1.trans (kn2.trans kn3)
      have eG3 := kn3 _ _ eG not_nil
      have hless : ∀ x ∈ ((es.take i).map Prod.fst).filter (fun x => decide (x ∉ bs)), x ∈ (es.take i).map Prod.fst ∧ x ∉ bs := fun x m => ⟨(List.mem_filter.mp m).1, of_decide_eq_true (List.mem_filter.mp m).2⟩
      have hstr : ∀ x ∈ ((es.take i).map Prod.fst).filter (fun x => decide (x ∉ bs)), PyData.strOk x = true := fun x m => by
        obtain ⟨e, me, rfl⟩ := List.mem_map.mp (hless x m).1
        obtain ⟨j, hj, rfl⟩ := List.getElem_of_mem (List.mem_of_mem_take me)
        exact nameOk_strOk (hG j _ (List.getElem?_eq_getElem hj)).1
      generalize ((es.take i).map Prod.fst).filter (fun x => decide (x ∉ bs)) = less at eG3 hless hstr
      refine r_neD (ex := []) (ex' := []) (e := .list (([] : List Str).map .str)) (.lst not_nil eG3 (DtAll.of_strs less)) (.lst not_nil enl .nil) (shp_strs hstr) (shp_strs fun z m => by cases m) (by decide) ?_
      rw [eqv_strs]
      walk_at "S"
      refine r_kIfS (fun c => ?_) (fun c => ?_)
      · obtain ⟨x0, less, rfl⟩ : ∃ x0 r, less = x0 :: r := by
          cases less with
          | nil => cases c
          | cons x0 r => exact ⟨x0, r, rfl⟩
        obtain ⟨hx0, hx0b⟩ := hless x0 List.mem_cons_self
        walk_at "S"
        refine r_kBMl (SqL.of (kN _ _ hO.eF not_nil)) ?_
        walk_at "S"
        refine r_slL (SqL.of (kN _ _ elh not_nil)) fun sl Ha1 nsl ka1 esl => ?_
        rw [cut_to] at esl
        walk_at "S"
        refine r_ixL (SqL.of (ka1 _ _ eG3 not_nil)) (atI_nat (j := 0) rfl) ?_
        walk_at "S"
        refine r_kTup (xs := [V.str x0]) (by show 1 ≤ sizeLine; decide) fun x2 Ha3 nx2 ka3 ex2 => ?_
        walk_at "S"
        have x2p : x2 ≠ p := by
          obtain ⟨o, ho⟩ := ((b8.kp hO.kp (not_one Fp.symm)).kp (kN.trans ka1) not_nil).some
          exact ne_none ho nx2
        refine r_catT' (ys := [V.str x0]) (SqT.of ((kN.trans (ka1.trans ka3)) _ _ ebh not_nil)) ex2 ?_ (fun z => nomatch z) fun bt Ha ka ebt hor => ?_
        · rw [List.length_map]
          have : 1000 < sizeLine := by decide
          show _ + 1 ≤ _
          omega
        rw [show bs.map V.str ++ [V.str x0] = (bs ++ [x0]).map V.str by rw [List.map_append]; rfl] at ebt
        have kHa : Kp [] H12 Ha := kN.trans (ka1.trans (ka3.trans ka))
        have esl' := (ka3.trans ka) _ _ esl not_nil
        have btF : bt ≠ F := ne_of ebt (kHa _ _ hO.eF not_nil) fun z => nomatch z
        have btp : bt ≠ p := by
          rcases hor with e | nbt
          · rw [e]
            exact x2p
          · obtain ⟨o, ho⟩ := ((b8.kp hO.kp (not_one Fp.symm)).kp (kN.trans (ka1.trans ka3)) not_nil).some
            exact ne_none ho nbt
        walk_at "S"
        refine r_kTup (xs := [V.str m, V.ref bt]) (by show 2 ≤ sizeLine; decide) fun t2 Hb nt2 kb et2 => ?_
        walk_at "S"
        refine r_kLst (xs := [V.ref t2]) (by show 1 ≤ sizeLine; decide) fun w2 Hc nw2 kc ew2 => ?_
        walk_at "S"
        refine r_cat ((kb.trans kc) _ _ esl' not_nil) ew2 ?_ fun c2 Hd nc2 kd ec2 => ?_
        · rw [List.length_take]
          have : 10 < sizeLine := by decide
          show _ + 1 ≤ _
          omega
        walk_at "S"
        have kHd : Kp [] H12 Hd := kHa.trans (kb.trans (kc.trans kd))
        refine r_slL (SqL.of (kHd _ _ elh not_nil)) fun d2 He nd2 ke ed2 => ?_
        walk_at "S"
        rw [show cutV xs (some ((i : Int) + 1)) none = xs.drop (i + 1) from cut_from (i + 1)] at ed2
        refine r_cat (ke _ _ ec2 not_nil) ed2 ?_ fun z Hf nz kf ez => ?_
        · rw [List.length_append, List.length_take, List.length_drop]
          have : 10 < sizeLine := by decide
          show _ + 1 + _ ≤ _
          omega
        walk_at "S"
        have kHf : Kp [] H12 Hf := kHd.trans (ke.trans kf)
        have zF : z ≠ F := ne_none ((kHd.trans ke) _ _ hO.eF not_nil) nz
        have t2F : t2 ≠ F := ne_none (kHa _ _ hO.eF not_nil) nt2
        have bh := b8.kp hO.kp (not_one Fp.symm)
        have zp : z ≠ p := by
          obtain ⟨o, ho⟩ := (bh.kp (kHd.trans ke) not_nil).some
          exact ne_none ho nz
        have t2p : t2 ≠ p := by
          obtain ⟨o, ho⟩ := (bh.kp kHa not_nil).some
          exact ne_none ho nt2
        have hap := hO.al.length
        rw [show (manyD oss).length = oss.length from List.length_map _] at hap
        have hln := hO.ln
        refine r_append (kHf _ _ hO.eF not_nil) ?_ fun Hg kg eg => ?_
        · have : 1000 < sizeLine := by decide
          omega
        walk_at "S"
        have et2g := kg _ _ ((kc.trans (kd.trans (ke.trans kf))) _ _ et2 not_nil) (not_one t2F)
        have ebtg := kg _ _ ((kb.trans (kc.trans (kd.trans (ke.trans kf)))) _ _ ebt not_nil) (not_one btF)
        have ezg := kg _ _ ez (not_one zF)
        have alg : DtAll [F, p] Hg xs (es.map entD) := al8F.mono (((hO.kp.trans kHf.nil).trans kg).mono fun b m => by rw [List.mem_singleton.mp m]; exact List.mem_cons_self)
        refine ⟨_, _, _, _, _, _, _, rfl, hO.more (os := es.set i (m, bs ++ [x0])) kHf kg eg ⟨hG.set he ?_ ?_ ?_, by rw [List.length_set]; exact h4, set_ne he ?_⟩ (.lst (not_two zF zp) ezg (other_dt alg hie (.tup (not_two t2F t2p) et2g (.cons (.str m) (.cons (.tup (not_two btF btp) ebtg (DtAll.of_strs _)) .nil)))))⟩
        · refine List.nodup_append.mpr ⟨gnd, by simp, fun a ma b mb e => ?_⟩
          rw [List.mem_singleton.mp mb] at e
          exact hx0b (e ▸ ma)
        · intro x hx
          rcases List.mem_append.mp hx with hx | hx
          · exact gsub x hx
          · rw [List.mem_singleton.mp hx]
            exact hx0
        · rw [List.length_append]
          have hb4 : bs.length ≤ ((es.take i).map Prod.fst).length := nodup_len gnd gsub
          rw [List.length_map, List.length_take] at hb4
          show _ + 1 ≤ 100
          omega
        · intro e
          have := congrArg List.length e
          rw [List.length_append] at this
          have : bs.length + 1 = bs.length := this
          omega
      · walk_at "S"
        exact ⟨_, _, _, _, _, acc, oss, rfl, hO.mono kN (by omega)⟩
    · rintro σ' H9 ⟨v2, v3, v6, v7, v8, acc, oss, rfl, hO⟩
      walk_at "S"
      have hln := hO.ln
      exact q F oss H9 hF0 (k08.step hF0 hO.kp) (.lst (not_one Fp) hO.eF (hO.al.less fun b hb => List.mem_cons_of_mem _ hb)) hO.bs (by omega) (b8.kp hO.kp (not_one Fp.symm))

/-! ### data of kinds -/
theorem GoodE.strOk {es : List Ent} (hG : GoodE es) : ∀ z ∈ es.map Prod.fst, PyData.strOk z = true := fun z m => by
  obtain ⟨e, me, rfl⟩ := List.mem_map.mp m
  obtain ⟨i, hi, rfl⟩ := List.getElem_of_mem me
  exact nameOk_strOk (hG i _ (List.getElem?_eq_getElem hi)).1
theorem GoodE.strOkB {es : List Ent} (hG : GoodE es) : ∀ e ∈ es, ∀ z ∈ e.2, PyData.strOk z = true := fun e me z m => by
  obtain ⟨i, hi, rfl⟩ := List.getElem_of_mem me
  exact hG.strOk z (hG.base_name (List.getElem?_eq_getElem hi) m)
theorem shp_strsT {ws : List Str} (h : ∀ x ∈ ws, PyData.strOk x = true) : Shp 1 (.tuple (ws.map .str)) := Shp.tuple (n := 0) fun d m => by
  obtain ⟨x, mx, rfl⟩ := List.mem_map.mp m
  exact Shp.str (h x mx) 0
theorem shp_entD {e : Ent} (h1 : PyData.strOk e.1 = true) (h2 : ∀ x ∈ e.2, PyData.strOk x = true) : Shp 2 (entD e) := Shp.tuple (n := 1) fun d m => by
  rcases List.mem_cons.mp m with rfl | m
  · exact Shp.str h1 1
  · rw [List.mem_singleton.mp m]
    exact shp_strsT h2
theorem shp_ents {es : List Ent} (hG : GoodE es) : Shp 3 (.tuple (es.map entD)) := Shp.tuple (n := 2) fun d m => by
  obtain ⟨e, me, rfl⟩ := List.mem_map.mp m
  exact shp_entD (hG.strOk _ (List.mem_map.mpr ⟨e, me, rfl⟩)) (hG.strOkB e me)
theorem eqv_entD (e f : Ent) : PyData.eqv (entD e) (entD f) = decide (e = f) := by
  have h : PyData.eqv (entD e) (entD f) = (e.1 == f.1 && (PyData.eqvAll (e.2.map .str) (f.2.map .str) && true)) := rfl
  rw [h, eqvAll_strs]
  obtain ⟨a, b⟩ := e
  obtain ⟨c, d⟩ := f
  by_cases h1 : a = c
  · subst h1
    by_cases h2 : b = d
    · subst h2
      simp
    · simp [h2]
  · simp [h1]
theorem eqvAll_ents : ∀ a b : List Ent, PyData.eqvAll (a.map entD) (b.map entD) = decide (a = b)
  | [], [] => rfl
  | _ :: _, [] => rfl
  | [], _ :: _ => rfl
  | x :: a, y :: b => by
    have e : PyData.eqvAll ((x :: a).map entD) ((y :: b).map entD) = (PyData.eqv (entD x) (entD y) && PyData.eqvAll (a.map entD) (b.map entD)) := rfl
    rw [e, eqvAll_ents a b, eqv_entD]
    by_cases h : x = y
    · subst h
      by_cases h2 : a = b
      · subst h2
        simp
      · simp [h2]
    · simp [h]
theorem eqv_ents (a b : List Ent) : PyData.eqv (.tuple (a.map entD)) (.tuple (b.map entD)) = decide (a = b) := by
  have e : PyData.eqv (.tuple (a.map entD)) (.tuple (b.map entD)) = PyData.eqvAll (a.map entD) (b.map entD) := rfl
  rw [e, eqvAll_ents]
theorem okd_succ {es : List Ent} : ∀ {d : Nat} {x : Str}, okd es d x = true → okd es (d + 1) x = true
  | 0, _, h => by cases h
  | d + 1, x, h => by
    have h' : (basesOf es x).all (okd es d) = true := h
    show (basesOf es x).all (okd es (d + 1)) = true
    exact List.all_eq_true.mpr fun b m => okd_succ (List.all_eq_true.mp h' b m)
theorem okd_le {es : List Ent} {d d' : Nat} {x : Str} (h : okd es d x = true) (hd : d ≤ d') : okd es d' x = true := by
  induction hd with
  | refl => exact h
  | step _ ih => exact okd_succ ih
theorem GoodE.okd {es : List Ent} (hG : GoodE es) : ∀ (i : Nat) (n : Str) (bs : List Str), es[i]? = some (n, bs) → okd es (i + 1) n = true := by
  intro i
  induction i using Nat.strongRecOn with
  | _ i ih =>
    intro n bs he
    show (basesOf es n).all (My.okd es i) = true
    rw [hG.bases he]
    refine List.all_eq_true.mpr fun b mb => ?_
    obtain ⟨⟨n', bs'⟩, m, rfl⟩ := List.mem_map.mp ((hG i _ he).2.2.2.2 b mb)
    obtain ⟨j, hj, e⟩ := List.mem_take_iff_getElem.mp m
    have hj' : j < i ∧ j < es.length := by omega
    exact okd_le (ih j hj'.1 n' bs' (by rw [List.getElem?_eq_getElem hj'.2, e])) hj'.1
theorem kit_self {K : PySem.W.Frag} {C : Addr} : PySem.W.kitOne K (.ref C) (.ref C) = some true := by
  unfold PySem.W.kitOne
  rw [if_pos]
  exact beq_self_eq_true _
/-! ### Kinds.__len__, __iter__, __eq__ -/
def sp_Kinds___len__ (_K : PySem.W.Frag) (C : Addr) : Sp := fun vs H Q _ => ∃ (a : Addr) (es : List Ent), vs = [.ref a] ∧ KindsAt C [] H a es ∧ Q (.int (es.length : Nat)) H
abbrev s_Kinds___len__ : Stmt := inClass (top 10) 6
theorem sc_Kinds___len__ : FnScope ["self"] ["self"] (defScope s_Kinds___len__) :=
  ⟨rfl, rfl, rfl, by decide +kernel, rfl, by decide +kernel, by decide +kernel⟩
theorem ok_Kinds___len__ {f : Addr} {fd : FuncData} (F : Fun K "__len__" "Kinds.__len__" s_Kinds___len__ f fd) (T : Txt K mg C_Kinds G_RESERVED) :
    FnOk P w K mg base CX0 2 f fd ["self"] (sp_Kinds___len__ K C_Kinds) := by
  refine F.ok sc_Kinds___len__ (fun vs H Q E h => ?_) (fun cdv A outer s H vs Q E hr h => ?_)
  · obtain ⟨a, es, rfl, _⟩ := h
    rfl
  · obtain ⟨a, es, rfl, hK, q⟩ := h
    have hu := hu_of hr
    have hu64 := hr.units
    refine ⟨_, (pss_one (ps_ret (pe_callB (K_len (K := K) rfl) (by rfl) T.z_len (by decide +kernel) (pa_cons (K_fld (K := K) rfl (pv 0) rfl) pa_nil)))), ?_⟩
    obtain ⟨dx, nt, et, _, _, ha, hn, hE⟩ := hK.ob
    walk_at "S"
    refine r_kFld ha T.c_Kinds T.na_Kinds_names (kf_n _ _) ?_
    walk_at "S"
    refine r_lenT (SqT.of hn) ?_
    rw [List.length_map, List.length_map]
    exact q
def sp_Kinds___iter__ (_K : PySem.W.Frag) (C : Addr) : Sp := fun vs H Q _ => ∃ (a nt dx et : Addr) (xs : List V), vs = [.ref a] ∧ H a = some (.ins C dx (kf nt et)) ∧ H nt = some (.tup xs) ∧ ∀ it H', H it = none → Kp [] H H' → H' it = some (TiO nt it 0) → Q (.ref it) H'
abbrev s_Kinds___iter__ : Stmt := inClass (top 10) 7
theorem sc_Kinds___iter__ : FnScope ["self"] ["self"] (defScope s_Kinds___iter__) :=
  ⟨rfl, rfl, rfl, by decide +kernel, rfl, by decide +kernel, by decide +kernel⟩
theorem ok_Kinds___iter__ {f : Addr} {fd : FuncData} (F : Fun K "__iter__" "Kinds.__iter__" s_Kinds___iter__ f fd) (T : Txt K mg C_Kinds G_RESERVED) :
    FnOk P w K mg base CX0 2 f fd ["self"] (sp_Kinds___iter__ K C_Kinds) := by
  refine F.ok sc_Kinds___iter__ (fun vs H Q E h => ?_) (fun cdv A outer s H vs Q E hr h => ?_)
  · obtain ⟨a, nt, dx, et, xs, rfl, _⟩ := h
    rfl
  · obtain ⟨a, nt, dx, et, xs, rfl, ha, hn, q⟩ := h
    have hu := hu_of hr
    have hu64 := hr.units
    refine ⟨_, (pss_one (ps_ret (pe_callB (K_iterT (K := K) rfl) (by rfl) T.z_iter (by decide +kernel) (pa_cons (K_fld (K := K) rfl (pv 0) rfl) pa_nil)))), ?_⟩
    walk_at "S"
    refine r_kFld ha T.c_Kinds T.na_Kinds_names (kf_n _ _) ?_
    walk_at "S"
    exact r_iterT (SqT.of hn) fun it H' n k e => q it H' n k e
def sp_Kinds___eq__ (K : PySem.W.Frag) (C : Addr) : Sp := fun vs H Q _ => ∃ (a : Addr) (es : List Ent) (y : V), vs = [.ref a, y] ∧ KindsAt C [] H a es ∧ GoodE es ∧
  ((∃ b os, y = .ref b ∧ KindsAt C [] H b os ∧ GoodE os ∧ Q (.bl (decide (es = os))) H) ∨ (∃ t, TyX K H y t ∧ PySem.W.kitOne K t (.ref C) = some false ∧ Q (.bl false) H))
abbrev s_Kinds___eq__ : Stmt := inClass (top 10) 5
theorem sc_Kinds___eq__ : FnScope ["self", "other"] ["self", "other"] (defScope s_Kinds___eq__) :=
  ⟨rfl, rfl, rfl, by decide +kernel, rfl, by decide +kernel, by decide +kernel⟩
theorem ok_Kinds___eq__ {f : Addr} {fd : FuncData} (F : Fun K "__eq__" "Kinds.__eq__" s_Kinds___eq__ f fd) (T : Txt K mg C_Kinds G_RESERVED) :
    FnOk P w K mg base CX0 2 f fd ["self", "other"] (sp_Kinds___eq__ K C_Kinds) := by
  refine F.ok sc_Kinds___eq__ (fun vs H Q E h => ?_) (fun cdv A outer s H vs Q E hr h => ?_)
  · obtain ⟨a, es, y, rfl, _⟩ := h
    rfl
  · obtain ⟨a, es, y, rfl, hK, hG, hc⟩ := h
    have hu := hu_of hr
    have hu64 := hr.units
    refine ⟨_, (pss_one (ps_ret (pe_and (pe_callB (K_isi (K := K) rfl) (by rfl) T.z_isinstance (by decide +kernel) (pa_cons (pv 1) (pa_cons (pe_globE T.v_Kinds (by rfl)) pa_nil))) (pe_one (pe_cmpR (K_eqD (K := K) rfl hu64) (K_fld (K := K) rfl (pv 0) rfl) (K_fld (K := K) rfl (pv 1) rfl) (nomark _)))))), ?_⟩
    obtain ⟨dx, nt, et, _, _, ha, hn, hE⟩ := hK.ob
    walk_at "S"
    rcases hc with ⟨b, os, rfl, hB, hO, q⟩ | ⟨t, ty, kf, q⟩
    · obtain ⟨dy, mt, ft, _, _, hb, hm, hF⟩ := hB.ob
      refine ⟨.ref b, .ref C_Kinds, .ref C_Kinds, .ref C_Kinds, true, rfl, .own _, .base (.ins hb T.c_Kinds T.k_cl T.k_gt T.k_tk T.k_ob), kit_self, ?_⟩
      refine r_kAndV (fun _ => ?_) (fun z => nomatch z)
      walk_at "S"
      refine r_kFld ha T.c_Kinds T.na_Kinds_entries (kf_e _ _) ?_
      walk_at "S"
      refine r_kFld hb T.c_Kinds T.na_Kinds_entries (kf_e _ _) ?_
      refine r_eqD hE hF (shp_ents hG) (shp_ents hO) (by decide) ?_
      rw [eqv_ents]
      exact q
    · refine ⟨y, .ref C_Kinds, t, .ref C_Kinds, false, rfl, .own _, ty, kf, ?_⟩
      refine r_kAndV (fun z => nomatch z) (fun _ => ?_)
      exact q

/-! ### _law_told -/
def sp__law_told (_K : PySem.W.Frag) (C : Addr) : Sp := fun vs H Q _ => ∃ (a l : Addr) (es : List Ent), vs = [.ref a, .ref l] ∧ KindsAt C [] H a es ∧ Dt [] H (.ref l) (.list (es.map entD)) ∧ GoodE es ∧ es.length ≤ 4 ∧ ∀ H', Kp [] H H' → Q (.bl true) H'
abbrev s__law_told : Stmt := top 19
theorem sc__law_told : FnScope ["_law_made", "_law_kinds_here", "_law_one", "_law_bases", "_law_names", "_law_other", "_law_told_here"] ["_law_made", "_law_kinds_here"] (defScope s__law_told) :=
  ⟨rfl, rfl, rfl, by decide +kernel, rfl, by decide +kernel, by decide +kernel⟩
theorem ok__law_told {f : Addr} {fd : FuncData} (F : Fun K "_law_told" "_law_told" s__law_told f fd) (T : Txt K mg C_Kinds G_RESERVED) (U_Kinds_bases : UseM P w K mg base 2 C_Kinds "bases" (sp_Kinds_bases K C_Kinds)) (U_Kinds___len__ : UseM P w K mg base 2 C_Kinds "__len__" (sp_Kinds___len__ K C_Kinds)) (U_Kinds___iter__ : UseM P w K mg base 2 C_Kinds "__iter__" (sp_Kinds___iter__ K C_Kinds)) (U_Kinds_within : UseM P w K mg base 7 C_Kinds "within" (sp_Kinds_within K C_Kinds 4)) (U__law_lies : Use P w K mg base 2 "_law_lies" ["_law_kinds_here", "_law_one", "_law_other"] (sp__law_lies K)) :
    FnOk P w K mg base CX0 9 f fd ["_law_made", "_law_kinds_here"] (sp__law_told K C_Kinds) := by
  refine F.ok sc__law_told (fun vs H Q E h => ?_) (fun cdv A outer s H vs Q E hr h => ?_)
  · obtain ⟨a, l, es, rfl, _⟩ := h
    rfl
  · obtain ⟨a, l, es, rfl, hK, hD, hG, h4, q⟩ := h
    obtain ⟨f_Kinds_bases, R_Kinds_bases, M_Kinds_bases⟩ := U_Kinds_bases
    obtain ⟨f_Kinds___len__, R_Kinds___len__, M_Kinds___len__⟩ := U_Kinds___len__
    obtain ⟨f_Kinds___iter__, R_Kinds___iter__, M_Kinds___iter__⟩ := U_Kinds___iter__
    obtain ⟨f_Kinds_within, R_Kinds_within, M_Kinds_within⟩ := U_Kinds_within
    have hu := hu_of hr
    have hu64 := hr.units
    refine ⟨_, (pss_cons (ps_setLc (i := 4) (own := [("_law_one", 2), ("_law_bases", 3)]) (by rfl) sc__law_told.nd rfl rfl (sw_true rfl rfl rfl (by decide +kernel)) (K_pil (K := K) rfl (pv 1)) (blkOk_by (own := [("_law_one", 2), ("_law_bases", 3)]) (N := ["_law_made", "_law_kinds_here", "_law_one", "_law_bases", "_law_names", "_law_other", "_law_told_here"]) (sc := defScope s__law_told) (by decide +kernel)) (fun _ _ _ _ _ => (K_gtup (K := K) (n := 2) rfl (by rfl) (pgs_cons (pg_name (i := 2) sc__law_told.nd rfl (by first | exact Or.inl rfl | exact Or.inr rfl)) (pgs_cons (pg_name (i := 3) sc__law_told.nd rfl (by first | exact Or.inl rfl | exact Or.inr rfl)) pgs_nil)))) (fun _ _ _ _ _ => pts_nil) (fun _ _ _ _ _ => (pv 2)))
        (pss_cons (ps_if (pt_cutT (PW.pt (pw_or (pt_not (pt_val (pe_callB (K_isi (K := K) rfl) (by rfl) T.z_isinstance (by decide +kernel) (pa_cons (K_fld (K := K) rfl (pv 0) rfl) (pa_cons (pe_bltn (v := .ty "tuple") (u := .type "tuple") (by rfl) T.z_tuple (by decide +kernel) rfl) pa_nil))))) (pw_or (pt_cmpR (K_neD (K := K) rfl hu64) (K_fld (K := K) rfl (pv 0) rfl) (pe_callTy (K_tuple (K := K) rfl) (by rfl) T.z_tuple (by decide +kernel) (pa_cons (pv 4) pa_nil)) (nomark _)) (pw_or (pt_cmpR (K_neD (K := K) rfl hu64) (pe_callTy (K_listOwn (K := K) rfl rfl M_Kinds___iter__ R_Kinds___iter__ M_Kinds___len__ R_Kinds___len__ (hr.mono (by first | decide | omega))) (by rfl) T.z_list (by decide +kernel) (pa_cons (pv 0) pa_nil)) (pv 4) (nomark _)) (pw_or1 (pt_cmpR op_ne (pe_callB (cr_lenOwn M_Kinds___len__ R_Kinds___len__ (hr.mono (by first | decide | omega))) (by rfl) T.z_len (by decide +kernel) (pa_cons (pv 0) pa_nil)) (pe_callB (K_len (K := K) rfl) (by rfl) T.z_len (by decide +kernel) (pa_cons (pv 4) pa_nil)) (nomark _))))))))
          (pss_one (ps_ret pe_bl))
          pss_nil)
        (pss_cons (ps_for PassesOwn.never (by rfl) (K_pil (K := K) rfl (pv 1)) (K_gtup (K := K) (n := 2) rfl (by rfl) (pgs_cons (pg_name (i := 2) sc__law_told.nd rfl (by first | exact Or.inl rfl | exact Or.inr rfl)) (pgs_cons (pg_name (i := 3) sc__law_told.nd rfl (by first | exact Or.inl rfl | exact Or.inr rfl)) pgs_nil)))
          (pss_cons (ps_if (pt_cutT (PW.pt (pw_or (pt_not (pt_val (pe_callB (K_isi (K := K) rfl) (by rfl) T.z_isinstance (by decide +kernel) (pa_cons (pe_methR (pv 0) T.c_Kinds M_Kinds_bases R_Kinds_bases (hr.mono (by first | decide | omega)) pass0 (pa_cons (pv 2) pa_nil)) (pa_cons (pe_bltn (v := .ty "tuple") (u := .type "tuple") (by rfl) T.z_tuple (by decide +kernel) rfl) pa_nil))))) (pw_or1 (pt_cmpR (K_neD (K := K) rfl hu64) (pe_methR (pv 0) T.c_Kinds M_Kinds_bases R_Kinds_bases (hr.mono (by first | decide | omega)) pass0 (pa_cons (pv 2) pa_nil)) (pv 3) (nomark _))))))
            (pss_one (ps_ret pe_bl))
            pss_nil)
          (pss_one (ps_for PassesOwn.never (by rfl) (K_pil (K := K) rfl (pv 4)) (pg_name (i := 5) sc__law_told.nd rfl (by first | exact Or.inl rfl | exact Or.inr rfl))
            (pss_cons (ps_set (i := 6) sc__law_told.nd rfl (by first | exact Or.inl rfl | exact Or.inr rfl) (pe_methR (pv 0) T.c_Kinds M_Kinds_within R_Kinds_within (hr.mono (by first | decide | omega)) pass0 (pa_cons (pv 2) (pa_cons (pv 5) pa_nil))))
            (pss_one (ps_if (pt_cutT (PW.pt (pw_or (pt_not (pt_val (pe_callB (K_isi (K := K) rfl) (by rfl) T.z_isinstance (by decide +kernel) (pa_cons (pv 6) (pa_cons (pe_bltn (v := .ty "bool") (u := .type "bool") (by rfl) T.z_bool (by decide +kernel) rfl) pa_nil))))) (pw_or1 (pt_cmpR op_ne (pv 6) (pe_use U__law_lies (hr.mono (by first | decide | omega)) (by rfl) (pa_cons (pv 1) (pa_cons (pv 2) (pa_cons (pv 5) pa_nil)))) (nomark _))))))
              (pss_one (ps_ret pe_bl))
              pss_nil)))))))
        (pss_one (ps_ret pe_bl))))), ?_⟩
    obtain ⟨l', xs, e, _, el, al⟩ := hD.list
    cases e
    have hlen := al.length
    rw [List.length_map] at hlen
    have shT : Shp 1 (.tuple ((es.map Prod.fst).map .str)) := shp_strsT hG.strOk
    have shL : Shp 1 (.list ((es.map Prod.fst).map .str)) := shp_strs hG.strOk
    walk_at "S"
    refine r_cWL (SqL.of el) ?_
    refine r_kLcL (fun D j ac H' => Kp [] H H' ∧ ac = ((es.take j).map Prod.fst).map V.str) (fun D H' nD k e => ⟨k, rfl⟩) (fun D j ac H' _ h => sql_kp (SqL.of el) h.1 not_nil) ?_ ?_
    · rintro D j ac x H4 nD hx eD ⟨k4, rfl⟩
      obtain ⟨w, bs, t, b, he, rfl, _, et, _, _⟩ := ents_get al hx
      refine r_gtup (SqT.of (k4 _ _ et not_nil)) rfl ?_
      walk_at "S"
      refine r_kApp eD ?_ fun H5 k5 e5 => ⟨k4.step nD k5, ?_⟩
      · rw [List.length_map, List.length_map, List.length_take]
        have : 10 < sizeLine := by decide
        omega
      · rw [take_map _ he, List.map_append]
        rfl
    rintro D ac H1 nD eD ⟨k1, rfl⟩
    rw [hlen, List.take_length] at eD
    walk_at "S"
    have hK1 := hK.kp k1
    refine r_cutT (fun b H' => Kp [] H1 H' ∧ b = false) ?_ ?_
    · walk_at "S"
      obtain ⟨dx, nt, et, _, _, ha, hn, hE⟩ := hK1.ob
      have hnd : Dt [] H1 (.ref nt) (.tuple ((es.map Prod.fst).map .str)) := .tup not_nil hn (DtAll.of_strs _)
      refine r_kFld ha T.c_Kinds T.na_Kinds_names (kf_n _ _) ?_
      walk_at "S"
      refine r_isiTup hnd ?_
      walk_at "S"
      refine r_kOr0 rfl ?_
      walk_at "S"
      refine r_kFld ha T.c_Kinds T.na_Kinds_names (kf_n _ _) ?_
      walk_at "S"
      refine r_tupleL (SqL.of eD) fun t2 H2 n2 k2 e2 => ?_
      refine r_neD0 (hnd.mono k2) (.tup (ex := []) not_nil e2 (DtAll.of_strs _)) shT (by decide) ?_
      walk_at "S"
      refine r_kOr0 rfl ?_
      walk_at "S"
      have ha2 := k2 _ _ ha not_nil
      have hn2 := k2 _ _ hn not_nil
      refine r_listOwn ha2 (SqT.of hn2) fun q0 H3 nq k3 eq => ?_
      have hn3 := k3 _ _ hn2 not_nil
      refine ⟨a, nt, dx, et, _, rfl, k3 _ _ ha2 not_nil, hn3, fun it H4 nit k4 eit => ?_⟩
      refine r_kLoI (ne_none hn3 nit).symm eit k4 ?_
      refine ⟨a, es, rfl, hK1.kp (k2.trans (k3.trans k4)), ?_⟩
      refine r_kLoL (by omega) (by omega) (Kp.refl _ _) fun H5 k5 e5 => ?_
      have k25 : Kp [] H2 H5 := (((k3.trans k4).nil.trans k5).drop (k3.free nit not_nil)).drop nq
      walk_at "S"
      have k15 := k2.trans k25
      have eD5 := k15 _ _ eD not_nil
      refine r_neD0 (.lst (ex := []) not_nil e5 (DtAll.of_strs _)) (.lst (ex := []) not_nil eD5 (DtAll.of_strs _)) shL (by decide) ?_
      walk_at "S"
      refine r_kOr0 rfl ?_
      walk_at "S"
      refine ⟨a, dx, _, rfl, k15 _ _ ha not_nil, ?_⟩
      refine ⟨a, es, rfl, hK1.kp k15, ?_⟩
      refine ⟨(es.length : Nat), rfl, by omega, by omega, ?_⟩
      walk_at "S"
      refine r_lenL (SqL.of eD5) ?_
      walk_at "S"
      refine ⟨k15, ?_⟩
      rw [List.length_map, List.length_map]
      simp
    rintro b H2 ⟨k2, rfl⟩
    refine r_kIfS0 rfl ?_
    walk_at "S"
    have k12 := k1.trans k2
    have hK2 := hK.kp k12
    have eD2 := k2 _ _ eD not_nil
    refine r_cWL (SqL.of (k12 _ _ el not_nil)) ?_
    refine r_kForL (fun i σ' H' => ∃ v2 v3 v5 v6, σ' = [some (.ref a), some (.ref l), v2, v3, some (.ref D), v5, v6] ∧ Kp [] H2 H') ⟨_, _, _, _, rfl, Kp.refl _ _⟩ (fun i σ' H' _ h => by
        obtain ⟨_, _, _, _, _, k⟩ := h
        exact SqL.of (k _ _ (k12 _ _ el not_nil) not_nil)) ?_ ?_
    · rintro i x σ' H3 hx ⟨v2, v3, v5, v6, rfl, k3⟩
      obtain ⟨n, bs, t, b, he, rfl, _, et, _, eb⟩ := ents_get al hx
      have k03 := k12.trans k3
      have hK3 := hK2.kp k3
      have hi := lt_at he
      refine r_gtup (SqT.of (k03 _ _ et not_nil)) rfl ?_
      walk_at "S"
      have shB : Shp 1 (.tuple (bs.map .str)) := shp_strsT (hG.strOkB (n, bs) (mem_at he))
      refine r_cutT (fun b H' => Kp [] H3 H' ∧ b = false) ?_ ?_
      · walk_at "S"
        obtain ⟨dx, nt, et, _, _, ha, hn, hE⟩ := hK3.ob
        refine r_kMeth ha (kf_no _ _ (by decide +kernel) (by decide +kernel)) ?_
        walk_at "S"
        refine ⟨a, es, n, rfl, hK3, fun b1 H4 k4 e4 => ?_⟩
        walk_at "S"
        refine r_isiTup (.tup (ex := []) not_nil e4 (DtAll.of_strs _)) ?_
        walk_at "S"
        refine r_kOr0 rfl ?_
        walk_at "S"
        refine r_kMeth (k4 _ _ ha not_nil) (kf_no _ _ (by decide +kernel) (by decide +kernel)) ?_
        walk_at "S"
        refine ⟨a, es, n, rfl, hK3.kp k4, fun b2 H5 k5 e5 => ?_⟩
        rw [hG.bases he] at e5
        walk_at "S"
        refine r_neD0 (.tup (ex := []) not_nil e5 (DtAll.of_strs _)) (.tup (ex := []) not_nil ((k03.trans (k4.trans k5)) _ _ eb not_nil) (DtAll.of_strs _)) shB (by decide) ?_
        walk_at "S"
        exact ⟨k4.trans k5, rfl⟩
      rintro b' H4 ⟨k4, rfl⟩
      refine r_kIfS0 rfl ?_
      walk_at "S"
      have k24 := k3.trans k4
      refine r_cWL (SqL.of (k24 _ _ eD2 not_nil)) ?_
      refine r_kForL (fun j σ' H' => ∃ v5 v6, σ' = [some (.ref a), some (.ref l), some (.str n), some (.ref b), some (.ref D), v5, v6] ∧ Kp [] H2 H') ⟨_, _, rfl, k24⟩ (fun i σ' H' _ h => by
          obtain ⟨_, _, _, k⟩ := h
          exact SqL.of (k _ _ eD2 not_nil)) ?_ ?_
      · rintro j y σ' H5 hy ⟨v5, v6, rfl, k5⟩
        obtain ⟨m, hm, rfl⟩ := map_at hy
        have hK5 := hK2.kp k5
        have hok : okd es 4 n = true := okd_le (hG.okd i n bs he) (by omega)
        obtain ⟨dx, nt, et, _, _, ha, hn, hE⟩ := hK5.ob
        walk_at "S"
        refine r_kMeth ha (kf_no _ _ (by decide +kernel) (by decide +kernel)) ?_
        walk_at "S"
        refine ⟨a, es, n, m, rfl, hK5, hok, fun e me => ?_, fun H6 k6 => ?_⟩
        · obtain ⟨i, hi, rfl⟩ := List.getElem_of_mem me
          exact (hG i _ (List.getElem?_eq_getElem hi)).2.2.2.1
        walk_at "S"
        refine r_cutT (fun b H' => Kp [] H6 H' ∧ b = false) ?_ ?_
        · walk_at "S"
          refine r_isiBool (ex := []) (.bl _) ?_
          walk_at "S"
          refine r_kOr0 rfl ?_
          walk_at "S"
          refine ⟨l, es, n, m, rfl, hD.mono (k12.trans (k5.trans k6)), hG, by omega, List.mem_map.mpr ⟨_, mem_at he, rfl⟩, fun c H7 k7 hc => ?_⟩
          walk_at "S"
          refine r_neB ?_
          walk_at "S"
          refine ⟨k7, ?_⟩
          rw [hc 4 hok]
          simp
        rintro b' H7 ⟨k7, rfl⟩
        refine r_kIfS0 rfl ?_
        walk_at "S"
        exact ⟨_, _, rfl, k5.trans (k6.trans k7)⟩
      · rintro σ' H5 ⟨v5, v6, rfl, k5⟩
        walk_at "S"
        exact ⟨_, _, _, _, rfl, k5⟩
    · rintro σ' H3 ⟨v2, v3, v5, v6, rfl, k3⟩
      walk_at "S"
      exact q H3 (k12.trans k3)

/-! ### the law -/
def entL (e : Ent) : PyData := .tuple [.str e.1, .list (e.2.map .str)]
theorem entL_of (es : List Ent) : (es.map entL).map toEnt = es := by
  rw [List.map_map]
  have : (toEnt ∘ entL) = id := funext fun e => by
    show (e.1, strsOf (e.2.map .str)) = e
    rw [strs_of]
  rw [this, List.map_id]
theorem GoodE.goodL {es : List Ent} (h : GoodE es) : Good (es.map entL) := fun i d hd => by
  obtain ⟨e, he, rfl⟩ := map_at hd
  obtain ⟨h1, h2, h3, h4, h5⟩ := h i e he
  rw [← List.map_take, entL_of]
  refine ⟨?_, fun w hw => ?_, fun l hl => ?_⟩
  · show declares _ (.tuple [.str e.1, .list (e.2.map .str)]) = true
    rw [declares_pair, (isName_iff e.1).mpr h1]
    show (true && !decide (e.1 ∈ (es.take i).map Prod.fst) && basesOk _ (e.2.map .str) []) = true
    rw [decide_eq_false h2, bases_ok h5 h3 fun _ _ m => by cases m]
    rfl
  · cases hw
    have := nameOk_len h1
    omega
  · cases hl
    rw [List.length_map]
    omega
theorem shp_entsL {es : List Ent} (hG : GoodE es) : Shp 3 (.list (es.map entL)) := Shp.list (n := 2) fun d m => by
  obtain ⟨e, me, rfl⟩ := List.mem_map.mp m
  refine Shp.tuple (n := 1) fun d m => ?_
  rcases List.mem_cons.mp m with rfl | m
  · exact Shp.str (hG.strOk _ (List.mem_map.mpr ⟨e, me, rfl⟩)) 1
  · rw [List.mem_singleton.mp m]
    exact shp_strs (hG.strOkB e me)
/-- one of the entries: a new list of bases -/
theorem inn_get {H0 H : Hp} {acc : List V} {es : List Ent} (h : NewAll H0 H acc (es.map entL)) {i : Nat} {x : V} (e : acc[i]? = some x) : ∃ n bs t q, es[i]? = some (n, bs) ∧ x = .ref t ∧ H t = some (.tup [.str n, .ref q]) ∧ H q = some (.lst (bs.map V.str)) ∧ ∀ b, Has H0 b → q ≠ b := by
  have get : ∀ ex, (∀ b ∈ ex, Has H0 b) → ∃ n bs t q, es[i]? = some (n, bs) ∧ x = .ref t ∧ H t = some (.tup [.str n, .ref q]) ∧ H q = some (.lst (bs.map V.str)) ∧ q ∉ ex := fun ex he => by
    obtain ⟨d, hd, hx⟩ := (h ex he).at e
    obtain ⟨⟨n, bs⟩, he, rfl⟩ := map_at hd
    obtain ⟨t, ys, rfl, ht, et, al⟩ := hx.tuple
    cases al with
    | cons h0 al =>
    cases al with
    | cons h1 al =>
    cases al
    cases h0
    obtain ⟨b, zs, rfl, hb, eb, al2⟩ := h1.list
    have := al2.strs
    subst this
    exact ⟨n, bs, t, b, he, rfl, et, eb, hb⟩
  obtain ⟨n, bs, t, q, he, rfl, et, eq, _⟩ := get [] fun _ m => nomatch m
  refine ⟨n, bs, t, q, he, rfl, et, eq, fun b hb e => ?_⟩
  subst e
  obtain ⟨n', bs', t', q', _, e1, et', _, m⟩ := get [q] fun b m => List.mem_singleton.mp m ▸ hb
  cases e1
  rw [et] at et'
  cases et'
  exact m (List.mem_singleton.mpr rfl)
theorem NewAll.snoc {H H' : Hp} {xs : List V} {ds : List PyData} {v : V} {d : PyData} (h : NewAll H H' xs ds) (g : New H H' v d) : NewAll H H' (xs ++ [v]) (ds ++ [d]) := fun ex e => (h ex e).snoc (g ex e)
/-- all but lists stay -/
def KpT (H H' : Hp) : Prop := ∀ b o, H b = some o → (∀ xs, o ≠ .lst xs) → H' b = some o
theorem KpT.all {H H' : Hp} (k : KpT H H') : ∀ {es : List Ent} {vs : List V}, DtAll [] H vs (es.map entD) → DtAll [] H' vs (es.map entD)
  | [], _, h => by cases h; exact .nil
  | e :: es, _, h => by
    cases h with
    | cons h0 h =>
      refine .cons ?_ (KpT.all k h)
      obtain ⟨t, ys, rfl, _, et, al⟩ := h0.tuple
      cases al with
      | cons g0 al =>
      cases al with
      | cons g1 al =>
      cases al
      cases g0
      obtain ⟨b, zs, rfl, _, eb, al2⟩ := g1.tuple
      have := al2.strs
      subst this
      exact .tup not_nil (k _ _ et fun _ z => nomatch z) (.cons (.str _) (.cons (.tup not_nil (k _ _ eb fun _ z => nomatch z) (DtAll.of_strs _)) .nil))
theorem KindsAt.kpT {C : Addr} {H H' : Hp} {a : Addr} {es : List Ent} (h : KindsAt C [] H a es) (k : KpT H H') : KindsAt C [] H' a es := by
  obtain ⟨dx, nt, et, _, _, ha, hn, hE⟩ := h.ob
  obtain ⟨et', xs, e, _, ee, al⟩ := hE.tuple
  cases e
  exact ⟨dx, nt, et, not_nil, not_nil, k _ _ ha (fun _ z => nomatch z), k _ _ hn (fun _ z => nomatch z), .tup not_nil (k _ _ ee fun _ z => nomatch z) (k.all al)⟩
theorem Has.kp1 {H H' : Hp} {b D : Addr} (h : Has H b) (k : Kp [D] H H') (hD : Has H' D) : Has H' b := by
  by_cases e : b = D
  · exact e ▸ hD
  · obtain ⟨o, ho⟩ := h
    exact ⟨o, k _ _ ho (not_one e)⟩
theorem r_clear {H : Hp} {Q : VK} {p : Addr} {xs : List V} (e : H p = some (.lst xs)) (q : ∀ H', Kp [p] H H' → Q .non H') : rClear (.ref p) [] H Q := ⟨p, xs, rfl, rfl, e, q _ (Kp.put (by simp))⟩
/-- what is laid so far of the entries -/
structure Lay (H3 : Hp) (D : Addr) (H' : Hp) (acc : List V) (es : List Ent) : Prop where
  kp : Kp [] H3 H'
  nw : ∃ H0, Has H0 D ∧ Kp [] H3 H0 ∧ (∀ b, Has H0 b → Has H' b) ∧ NewAll H0 H' acc (es.map entL)
theorem Lay.more {H3 H4 H5 H6 H7 : Hp} {D q t : Addr} {acc : List V} {es : List Ent} {n : Str} {bs : List Str} (h : Lay H3 D H4 acc es) (nD : H3 D = none) (nq : H4 q = none) (k5 : Kp [] H4 H5) (eq : H5 q = some (.lst (bs.map V.str)))
    (nt : H5 t = none) (k6 : Kp [] H5 H6) (et : H6 t = some (.tup [.str n, .ref q])) (k7 : Kp [D] H6 H7) (e7 : Has H7 D) : Lay H3 D H7 (acc ++ [.ref t]) (es ++ [(n, bs)]) := by
  obtain ⟨H0, h0, k0, hh, hN⟩ := h.nw
  refine ⟨(h.kp.trans (k5.trans k6)).step nD k7, H0, h0, k0, fun b hb => Has.kp1 (((hh b hb).kp k5).kp k6) k7 e7, ?_⟩
  rw [List.map_append]
  have g : New H0 H6 (.ref t) (entL (n, bs)) := by
    refine New.tup (H1 := H5) (xs := [.str n, .ref q]) ?_ nt (fun b hb => (hh b hb).kp k5) et
    refine NewAll.cons (fun ex _ => .str n) (NewAll.cons ?_ fun ex _ => .nil)
    exact New.mono (New.lst (H1 := H4) (fun ex _ => DtAll.of_strs bs) nq hh eq) k6
  exact NewAll.snoc ((hN.mono (k5.trans k6)).mono1 h0 k7) (g.mono1 h0 k7)
/-- the law: True -/
def sp_law (K : PySem.W.Frag) : Sp := fun vs H Q _ => ∃ (a : Addr) (ns : List Int), vs = [.ref a] ∧ SqL K H a (ns.map V.int) ∧ ns.length ≤ 63 ∧ ∀ H', Q (.bl true) H'
abbrev s_law : Stmt := top 21
theorem sc_law : FnScope ["_law_script", "_law_at", "_law_bag_here", "_law_kinds_here", "_law_one", "_law_bases", "_law_entries", "_law_made", "_law_again", "_law_other"] ["_law_script"] (defScope s_law) :=
  ⟨rfl, rfl, rfl, by decide +kernel, rfl, by decide +kernel, by decide +kernel⟩
theorem ok_law {f : Addr} {fd : FuncData} (F : Fun K "law" "law" s_law f fd) (T : Txt K mg C_Kinds G_RESERVED) (U_Kinds___init__ : UseC P w K mg base 8 "Kinds" C_Kinds (sp_Kinds___init__ K C_Kinds)) (U_Kinds___eq__ : UseM P w K mg base 2 C_Kinds "__eq__" (sp_Kinds___eq__ K C_Kinds)) (U__law_bag : Use P w K mg base 2 "_law_bag" ["_law_script", "_law_at"] (sp__law_bag K)) (U__law_kinds : Use P w K mg base 8 "_law_kinds" ["_law_bag_here", "_law_most"] (sp__law_kinds K)) (U__law_told : Use P w K mg base 9 "_law_told" ["_law_made", "_law_kinds_here"] (sp__law_told K C_Kinds)) (U__law_others : Use P w K mg base 8 "_law_others" ["_law_bag_here", "_law_kinds_here"] (sp__law_others K)) :
    FnOk P w K mg base CX0 11 f fd ["_law_script"] (sp_law K) := by
  refine F.ok sc_law (fun vs H Q E h => ?_) (fun cdv A outer s H vs Q E hr h => ?_)
  · obtain ⟨a, ns, rfl, _⟩ := h
    rfl
  · obtain ⟨a, ns, rfl, hS, hl, q⟩ := h
    obtain ⟨f_Kinds___init__, R_Kinds___init__, M_Kinds___init__, g_Kinds___init__⟩ := U_Kinds___init__
    obtain ⟨f_Kinds___eq__, R_Kinds___eq__, M_Kinds___eq__⟩ := U_Kinds___eq__
    have hu := hu_of hr
    have hu64 := hr.units
    refine ⟨_, (pss_cons (ps_for PassesOwn.never (by rfl) (pi_range1 (by rfl) T.z_range (pa_cons (pe_callB (cr_max2 rfl) (by rfl) T.z_max (by decide +kernel) (pa_cons pe_int (pa_cons (pe_callB (cr_min2 rfl) (by rfl) T.z_min (by decide +kernel) (pa_cons pe_int (pa_cons (pe_callB (K_len (K := K) rfl) (by rfl) T.z_len (by decide +kernel) (pa_cons (pv 0) pa_nil)) pa_nil))) pa_nil))) pa_nil)) (pg_name (i := 1) sc_law.nd rfl (by first | exact Or.inl rfl | exact Or.inr rfl))
          (pss_cons (ps_set (i := 2) sc_law.nd rfl (by first | exact Or.inl rfl | exact Or.inr rfl) (pe_use U__law_bag (hr.mono (by first | decide | omega)) (by rfl) (pa_cons (pv 0) (pa_cons (pv 1) pa_nil))))
          (pss_cons (ps_set (i := 3) sc_law.nd rfl (by first | exact Or.inl rfl | exact Or.inr rfl) (pe_use U__law_kinds (hr.mono (by first | decide | omega)) (by rfl) (pa_cons (pv 2) (pa_cons pe_int pa_nil))))
          (pss_cons (ps_setLc (i := 6) (own := [("_law_one", 4), ("_law_bases", 5)]) (by rfl) sc_law.nd rfl rfl (sw_true rfl rfl rfl (by decide +kernel)) (K_pil (K := K) rfl (pv 3)) (blkOk_by (own := [("_law_one", 4), ("_law_bases", 5)]) (N := ["_law_script", "_law_at", "_law_bag_here", "_law_kinds_here", "_law_one", "_law_bases", "_law_entries", "_law_made", "_law_again", "_law_other"]) (sc := defScope s_law) (by decide +kernel)) (fun _ _ _ _ _ => (K_gtup (K := K) (n := 2) rfl (by rfl) (pgs_cons (pg_name (i := 4) sc_law.nd rfl (by first | exact Or.inl rfl | exact Or.inr rfl)) (pgs_cons (pg_name (i := 5) sc_law.nd rfl (by first | exact Or.inl rfl | exact Or.inr rfl)) pgs_nil)))) (fun _ _ _ _ _ => pts_nil) (fun _ _ _ _ _ => (pe_tup (pa_cons (pv 4) (pa_cons (pe_callTy (K_list (K := K) rfl) (by rfl) T.z_list (by decide +kernel) (pa_cons (pv 5) pa_nil)) pa_nil)))))
          (pss_cons (ps_par (i := 7) (j := 8) (by rfl) sc_law.nd rfl rfl (by decide) rfl rfl (pa_cons (pe_makeR M_Kinds___init__ R_Kinds___init__ (hr.mono (by first | decide | omega)) (by rfl) g_Kinds___init__ pass0 (pa_cons (pv 6) pa_nil)) (pa_cons (pe_makeR M_Kinds___init__ R_Kinds___init__ (hr.mono (by first | decide | omega)) (by rfl) g_Kinds___init__ pass0 (pa_cons (pe_callTy (K_tuple (K := K) rfl) (by rfl) T.z_tuple (by decide +kernel) (pa_cons (pv 3) pa_nil)) pa_nil)) pa_nil)) (by rfl))
          (pss_cons (ps_if (pt_cmpR (K_neD (K := K) rfl hu64) (pv 6) (pe_lc (own := [("_law_one", 4), ("_law_bases", 5)]) (by rfl) sc_law.nd (K_pil (K := K) rfl (pv 3)) (blkOk_by (own := [("_law_one", 4), ("_law_bases", 5)]) (N := ["_law_script", "_law_at", "_law_bag_here", "_law_kinds_here", "_law_one", "_law_bases", "_law_entries", "_law_made", "_law_again", "_law_other"]) (sc := defScope s_law) (by decide +kernel)) (fun _ _ _ _ _ => (K_gtup (K := K) (n := 2) rfl (by rfl) (pgs_cons (pg_name (i := 4) sc_law.nd rfl (by first | exact Or.inl rfl | exact Or.inr rfl)) (pgs_cons (pg_name (i := 5) sc_law.nd rfl (by first | exact Or.inl rfl | exact Or.inr rfl)) pgs_nil)))) (fun _ _ _ _ _ => pts_nil) (fun _ _ _ _ _ => (pe_tup (pa_cons (pv 4) (pa_cons (pe_callTy (K_list (K := K) rfl) (by rfl) T.z_list (by decide +kernel) (pa_cons (pv 5) pa_nil)) pa_nil))))) (nomark _))
            (pss_one (ps_ret pe_bl))
            pss_nil)
          (pss_cons (ps_for PassesOwn.never (by rfl) (K_pil (K := K) rfl (pv 6)) (K_gtup (K := K) (n := 2) rfl (by rfl) (pgs_cons (pg_name (i := 4) sc_law.nd rfl (by first | exact Or.inl rfl | exact Or.inr rfl)) (pgs_cons (pg_name (i := 5) sc_law.nd rfl (by first | exact Or.inl rfl | exact Or.inr rfl)) pgs_nil)))
            (pss_one (ps_expr (K_bm (K := K) rfl PySem.F.plainAttrs_list PySem.F.slot_list_append PySem.F.type_list_append mt_append (pv 5) (pa_cons (pv 4) pa_nil)))))
          (pss_cons (ps_expr (K_bm0 (K := K) rfl PySem.F.plainAttrs_list PySem.F.slot_list_clear PySem.F.type_list_clear mt_clear (pv 6)))
          (pss_cons (ps_if (pt_cutT (PW.pt (pw_or (pt_not (pt_val (pe_use U__law_told (hr.mono (by first | decide | omega)) (by rfl) (pa_cons (pv 7) (pa_cons (pv 3) pa_nil))))) (pw_or (pt_not (pt_val (pe_use U__law_told (hr.mono (by first | decide | omega)) (by rfl) (pa_cons (pv 8) (pa_cons (pv 3) pa_nil))))) (pw_or1 (pt_not (pt_val (pe_use U__law_told (hr.mono (by first | decide | omega)) (by rfl) (pa_cons (pv 7) (pa_cons (pv 3) pa_nil))))))))))
            (pss_one (ps_ret pe_bl))
            pss_nil)
          (pss_cons (ps_if (pt_cutT (PW.pt (pw_or (pt_not (pt_cmpR (op_eqOwn M_Kinds___eq__ R_Kinds___eq__ (hr.mono (by first | decide | omega))) (pv 7) (pv 8) (nomark _))) (pw_or (pt_cmpR (op_neOwn M_Kinds___eq__ R_Kinds___eq__ (hr.mono (by first | decide | omega)) T.k_ne T.k_ob (hr.mono (by first | decide | omega))) (pv 7) (pv 8) (nomark _)) (pw_or (pt_cmpR (K_eqOth (K := K) rfl M_Kinds___eq__ R_Kinds___eq__ (hr.mono (by first | decide | omega))) (pv 7) (pe_callTy (K_tuple (K := K) rfl) (by rfl) T.z_tuple (by decide +kernel) (pa_cons (pv 3) pa_nil)) (nomark _)) (pw_or1 (pt_cmpR (K_eqOth (K := K) rfl M_Kinds___eq__ R_Kinds___eq__ (hr.mono (by first | decide | omega))) (pv 7) (pv 3) (nomark _))))))))
            (pss_one (ps_ret pe_bl))
            pss_nil)
          (pss_one (ps_for PassesOwn.never (by rfl) (K_pil (K := K) rfl (pe_use U__law_others (hr.mono (by first | decide | omega)) (by rfl) (pa_cons (pv 2) (pa_cons (pv 3) pa_nil)))) (pg_name (i := 9) sc_law.nd rfl (by first | exact Or.inl rfl | exact Or.inr rfl))
            (pss_one (ps_if (pt_cutT (PW.pt (pw_or (pt_cmpR (op_eqOwn M_Kinds___eq__ R_Kinds___eq__ (hr.mono (by first | decide | omega))) (pv 7) (pe_makeR M_Kinds___init__ R_Kinds___init__ (hr.mono (by first | decide | omega)) (by rfl) g_Kinds___init__ pass0 (pa_cons (pv 9) pa_nil)) (nomark _)) (pw_or (pt_not (pt_cmpR (op_neOwn M_Kinds___eq__ R_Kinds___eq__ (hr.mono (by first | decide | omega)) T.k_ne T.k_ob (hr.mono (by first | decide | omega))) (pe_makeR M_Kinds___init__ R_Kinds___init__ (hr.mono (by first | decide | omega)) (by rfl) g_Kinds___init__ pass0 (pa_cons (pv 9) pa_nil)) (pv 7) (nomark _))) (pw_or1 (pt_not (pt_val (pe_use U__law_told (hr.mono (by first | decide | omega)) (by rfl) (pa_cons (pe_makeR M_Kinds___init__ R_Kinds___init__ (hr.mono (by first | decide | omega)) (by rfl) g_Kinds___init__ pass0 (pa_cons (pv 9) pa_nil)) (pa_cons (pv 9) pa_nil))))))))))
              (pss_one (ps_ret pe_bl))
              pss_nil))))))))))))))
        (pss_one (ps_ret pe_bl))), ?_⟩
    walk_at "S"
    refine r_lenL hS ?_
    walk_at "S"
    have hlen : (ns.map V.int).length = ns.length := List.length_map _
    refine r_cRng1 ?_ ?_
    · rw [hlen]
      split <;> split <;> omega
    refine r_kForR (fun i σ' H' => ∃ v1 v2 v3 v4 v5 v6 v7 v8 v9, σ' = [some (.ref a), v1, v2, v3, v4, v5, v6, v7, v8, v9] ∧ Kp [] H H') ⟨none, none, none, none, none, none, none, none, none, rfl, Kp.refl _ _⟩ ?_ ?_
    · rintro i σ' H1 hi ⟨v1, v2, v3, v4, v5, v6, v7, v8, v9, rfl, k1⟩
      have hi63 : i ≤ 63 := by
        rw [hlen] at hi
        split at hi <;> split at hi <;> omega
      walk_at "S"
      refine ⟨a, ns, i, rfl, k1.sql hS, by omega, fun p H2 np k2 b2 => ?_⟩
      walk_at "S"
      refine ⟨p, 69999000000, 4, rfl, b2.mono (by omega), by decide, by decide, fun L es H3 nL k3 hD hG h0 h4 b3 => ?_⟩
      have h4 : es.length ≤ 4 := h4
      obtain ⟨L', xs, e, Lp, eL, hA⟩ := hD.list
      cases e
      have hal := hA.length
      rw [List.length_map] at hal
      have hD0 : Dt [] H3 (.ref L) (.list (es.map entD)) := hD.less fun _ m => absurd m not_nil
      walk_at "S"
      refine r_cWL (SqL.of eL) ?_
      refine r_kLcL (fun D j ac H' => Lay H3 D H' ac (es.take j)) (fun D H' nD k e => ⟨k, H', ⟨_, e⟩, k, fun _ h => h, fun _ _ => .nil⟩) (fun D j ac H' _ h => sql_kp (SqL.of eL) h.kp not_nil) ?_ ?_
      · rintro D j ac x H4 nD hx eD hlay
        obtain ⟨w, bs, t, b, he, rfl, _, et, _, eb⟩ := ents_get hA hx
        have hal4 := hlay.nw.choose_spec.2.2.2.dt.length
        refine r_gtup (SqT.of (hlay.kp _ _ et not_nil)) rfl ?_
        walk_at "S"
        refine r_listT (SqT.of (hlay.kp _ _ eb not_nil)) fun q1 H5 nq k5 eq => ?_
        walk_at "S"
        refine r_kTup (xs := [V.str w, V.ref q1]) (by show 2 ≤ sizeLine; decide) fun t1 H6 nt k6 et1 => ?_
        walk_at "S"
        refine r_kApp (k6 _ _ (k5 _ _ eD not_nil) not_nil) ?_ fun H7 k7 e7 => ?_
        · rw [hal4, List.length_map, List.length_take]
          have : 10 < sizeLine := by decide
          omega
        · rw [take_more he]
          exact hlay.more nD nq k5 eq nt k6 et1 k7 ⟨_, e7⟩
      rintro D ac H4 nD eD hlay
      rw [hal, List.take_length] at hlay
      obtain ⟨k4, H0, h0D, k30, _, hN⟩ := hlay
      walk_at "S"
      refine r_kMake fun o dx H5 no k5 eo => ?_
      refine ⟨o, dx, D, ac, es.map entL, rfl, eo, .inl (k5 _ _ eD not_nil), hN.dt.mono k5, by rw [List.length_map]; exact h4, hG.goodL, fun H6 k6 hK => ?_⟩
      rw [entL_of] at hK
      refine r_kMade ?_
      have k46 : Kp [] H4 H6 := (k5.nil.trans k6).drop no
      walk_at "S"
      refine r_tupleL (SqL.of ((k4.trans k46) _ _ eL not_nil)) fun tl H7 ntl k7 etl => ?_
      walk_at "S"
      refine r_kMake fun o2 dx2 H8 no2 k8 eo2 => ?_
      have hA0 : DtAll [] H3 xs (es.map entD) := hA.less fun _ m => absurd m not_nil
      refine ⟨o2, dx2, tl, xs, es.map entD, rfl, eo2, .inr (k8 _ _ etl not_nil), hA0.mono (k4.trans (k46.trans (k7.trans k8))), by rw [List.length_map]; exact h4, hG.good, fun H9 k9 hK2 => ?_⟩
      rw [ents_of] at hK2
      refine r_kMade ?_
      have k79 : Kp [] H7 H9 := (k8.nil.trans k9).drop no2
      have k49 := k46.trans (k7.trans k79)
      have hK9 := hK.kp (k7.trans k79)
      have eD9 := k49 _ _ eD not_nil
      have eL9 := (k4.trans k49) _ _ eL not_nil
      have hA9 : DtAll [] H9 xs (es.map entD) := hA0.mono (k4.trans k49)
      clear eo eo2 hK
      refine ⟨_, _, rfl, ?_⟩
      walk_at "S"
      refine r_cWL (SqL.of eL9) ?_
      refine r_kLcL (fun D j ac H' => Lay H9 D H' ac (es.take j)) (fun D H' nD k e => ⟨k, H', ⟨_, e⟩, k, fun _ h => h, fun _ _ => .nil⟩) (fun D j ac H' _ h => sql_kp (SqL.of eL9) h.kp not_nil) ?_ ?_
      · rintro D j ac x H4 nD hx eD hlay
        obtain ⟨w, bs, t, b, he, rfl, _, et, _, eb⟩ := ents_get hA9 hx
        have hal4 := hlay.nw.choose_spec.2.2.2.dt.length
        refine r_gtup (SqT.of (hlay.kp _ _ et not_nil)) rfl ?_
        walk_at "S"
        refine r_listT (SqT.of (hlay.kp _ _ eb not_nil)) fun q1 H5 nq k5 eq => ?_
        walk_at "S"
        refine r_kTup (xs := [V.str w, V.ref q1]) (by show 2 ≤ sizeLine; decide) fun t1 H6 nt k6 et1 => ?_
        walk_at "S"
        refine r_kApp (k6 _ _ (k5 _ _ eD not_nil) not_nil) ?_ fun H7 k7 e7 => ?_
        · rw [hal4, List.length_map, List.length_take]
          have : 10 < sizeLine := by decide
          omega
        · rw [take_more he]
          exact hlay.more nD nq k5 eq nt k6 et1 k7 ⟨_, e7⟩
      rintro D2 ac2 H10 nD2 eD2 hlay
      rw [hal, List.take_length] at hlay
      obtain ⟨k10, H00, _, _, _, hN2⟩ := hlay
      walk_at "S"
      have k410 := k49.trans k10
      refine r_neD0 (.lst (ex := []) not_nil (k410 _ _ eD not_nil) (hN.dt.mono k410)) (.lst (ex := []) not_nil eD2 hN2.dt) (shp_entsL hG) (by decide) ?_
      walk_at "S"
      refine r_kIfS0 rfl ?_
      walk_at "S"
      have eD10 := k410 _ _ eD not_nil
      have hN10 : NewAll H0 H10 ac (es.map entL) := hN.mono k410
      have k310 : Kp [] H3 H10 := k4.trans k410
      have hacl := hN.dt.length
      rw [List.length_map] at hacl
      refine r_cWL (SqL.of eD10) ?_
      refine r_kForL (fun j σ' H' => ∃ v4 v5, σ' = [some (.ref a), some (.int (i : Int)), some (.ref p), some (.ref L), v4, v5, some (.ref D), some (.ref o), some (.ref o2), v9] ∧ Kp [] H3 H' ∧ H' D = some (.lst ac) ∧ KpT H10 H' ∧
          ∀ b ys, H10 b = some (.lst ys) → ∃ zs, H' b = some (.lst zs) ∧ zs.length ≤ ys.length + j)
        ⟨_, _, rfl, k310, eD10, fun _ _ e _ => e, fun b ys e => ⟨ys, e, Nat.le_refl _⟩⟩ (fun j σ' H' _ h => by
          obtain ⟨_, _, _, _, e, _⟩ := h
          exact SqL.of e) ?_ ?_
      · rintro j x σ' H11 hx ⟨v4, v5, rfl, k11, e11, t11, l11⟩
        obtain ⟨n, bs, t, q1, he, rfl, et, eq, nq⟩ := inn_get hN10 hx
        obtain ⟨zs, ez, hz⟩ := l11 _ _ eq
        have hj := lt_at he
        have qD : q1 ≠ D := nq D h0D
        have q3 : H3 q1 = none := by
          cases hq : H3 q1 with
          | none => rfl
          | some ob => exact absurd rfl (nq q1 ⟨ob, k30 _ _ hq not_nil⟩)
        have hbl := (hG j _ he).2.2.2.1
        refine r_gtup (SqT.of (t11 _ _ et fun _ z => nomatch z)) rfl ?_
        walk_at "S"
        refine r_kBMl (SqL.of ez) ?_
        walk_at "S"
        refine r_append ez ?_ fun H12 k12 e12 => ?_
        · rw [List.length_map] at hz
          have : 200 < sizeLine := by decide
          have : bs.length ≤ 100 := hbl
          omega
        walk_at "S"
        refine ⟨_, _, rfl, k11.step q3 k12, k12 _ _ e11 (not_one qD.symm), fun b ob hb hn => ?_, fun b ys hb => ?_⟩
        · refine k12 _ _ (t11 b ob hb hn) (not_one fun z => ?_)
          subst z
          rw [eq] at hb
          exact hn _ (Option.some.inj hb).symm
        · by_cases z : b = q1
          · subst z
            rw [eq] at hb
            cases hb
            refine ⟨_, e12, ?_⟩
            rw [List.length_append]
            exact Nat.succ_le_succ hz
          · obtain ⟨zs', ez', hz'⟩ := l11 b ys hb
            exact ⟨zs', k12 _ _ ez' (not_one z), by omega⟩
      · rintro σ' H11 ⟨v4, v5, rfl, k11, e11, t11, _⟩
        walk_at "S"
        refine r_kBM0l (SqL.of e11) ?_
        refine r_clear e11 fun H12 k12 => ?_
        walk_at "S"
        have k312 : Kp [] H3 H12 := k11.step nD k12
        have t12 : KpT H10 H12 := fun b ob hb hn => k12 _ _ (t11 b ob hb hn) (not_one fun z => by
          subst z
          have := t11 b ob hb hn
          rw [e11] at this
          exact hn _ (Option.some.inj this).symm)
        have hK12 : KindsAt C_Kinds [] H12 o es := (hK9.kp k10).kpT t12
        have hK212 : KindsAt C_Kinds [] H12 o2 es := (hK2.kp k10).kpT t12
        have hD12 : Dt [] H12 (.ref L) (.list (es.map entD)) := hD0.mono k312
        have b12 := b3.kp k312 not_nil
        have k112 : Kp [] H1 H12 := ((k2.nil.trans k3).trans k312.nil).drop np
        refine r_cutT (fun b H' => Kp [] H12 H' ∧ b = false) ?_ ?_
        · walk_at "S"
          refine ⟨o, L, es, rfl, hK12, hD12, hG, h4, fun H13 k13 => ?_⟩
          walk_at "S"
          refine r_kOr0 rfl ?_
          walk_at "S"
          refine ⟨o2, L, es, rfl, hK212.kp k13, hD12.mono k13, hG, h4, fun H14 k14 => ?_⟩
          walk_at "S"
          refine r_kOr0 rfl ?_
          walk_at "S"
          refine ⟨o, L, es, rfl, hK12.kp (k13.trans k14), hD12.mono (k13.trans k14), hG, h4, fun H15 k15 => ?_⟩
          walk_at "S"
          exact ⟨k13.trans (k14.trans k15), rfl⟩
        rintro b H13 ⟨k13, rfl⟩
        refine r_kIfS0 rfl ?_
        walk_at "S"
        refine r_cutT (fun b H' => Kp [] H13 H' ∧ b = false) ?_ ?_
        · have hKa := hK12.kp k13
          have hKb := hK212.kp k13
          obtain ⟨da, na, ta, _, _, ha, _, _⟩ := hKa.ob
          obtain ⟨db, nb, tb, _, _, hb, _, _⟩ := hKb.ob
          walk_at "S"
          refine r_eqOwn ha hb ?_
          refine ⟨o, es, .ref o2, rfl, hKa, hG, .inl ⟨o2, es, rfl, hKb, hG, r_kYes ?_⟩⟩
          walk_at "S"
          refine r_kOr0 (by simp) ?_
          walk_at "S"
          refine r_neOwn ha hb ?_
          refine ⟨o, es, .ref o2, rfl, hKa, hG, .inl ⟨o2, es, rfl, hKb, hG, r_kNeg ?_⟩⟩
          walk_at "S"
          refine r_kOr0 (by simp) ?_
          walk_at "S"
          refine r_tupleL (SqL.of ((k312.trans k13) _ _ eL not_nil)) fun t2 H14 nt2 k14 et2 => ?_
          refine r_eqOth (k14 _ _ ha not_nil) (.base (.tup et2)) T.f_T ?_
          refine ⟨o, es, .ref t2, rfl, hKa.kp k14, hG, .inr ⟨_, .base (.tup et2), T.k_T, r_kYes ?_⟩⟩
          walk_at "S"
          refine r_kOr0 rfl ?_
          walk_at "S"
          have eL14 := (k312.trans (k13.trans k14)) _ _ eL not_nil
          refine r_eqOth (k14 _ _ ha not_nil) (.base (.lst eL14)) T.f_L ?_
          refine ⟨o, es, .ref L, rfl, hKa.kp k14, hG, .inr ⟨_, .base (.lst eL14), T.k_L, r_kYes ?_⟩⟩
          walk_at "S"
          exact ⟨k14, rfl⟩
        rintro b H14 ⟨k14, rfl⟩
        refine r_kIfS0 rfl ?_
        walk_at "S"
        have k314 := k312.trans (k13.trans k14)
        refine ⟨p, L, 60000000000, es, rfl, (b3.kp k314 not_nil).mono (by omega), hD.mono k314.nil, hG, h0, h4, fun F oss H15 nF k15 hF hB hol b15 => ?_⟩
        obtain ⟨F', ys, e, Fp, eF, hY⟩ := hF.list
        cases e
        have hyl := hY.length
        have hyl2 : (manyD oss).length = oss.length := List.length_map _
        have op : o ≠ p := by
          obtain ⟨ob, hob⟩ := b12.some
          intro z
          obtain ⟨dd, sd, td, rd, ebag, _⟩ := b12
          obtain ⟨da, na, ta, _, _, ha, _, _⟩ := hK12.ob
          rw [z] at ha
          rw [ebag] at ha
          cases ha
        have hK15 : KindsAt C_Kinds [p] H15 o es := by
          obtain ⟨dd, sd, td, rd, ebag, _⟩ := b12
          exact ((hK12.skip ebag (fun _ z => nomatch z) (fun _ z => nomatch z) (fun _ _ _ z => nomatch z)).kp (k13.trans k14).nil).kp k15
        have k115 : Kp [] H1 H15 := ((k112.trans (k13.trans k14)).nil.trans k15).drop np
        have hKo : KindsAt C_Kinds [] H15 o es := hK15.less fun _ m => absurd m not_nil
        refine r_cWL (SqL.of eF) ?_
        refine r_kForL (fun j σ' H' => ∃ v9, σ' = [some (.ref a), some (.int (i : Int)), some (.ref p), some (.ref L), v4, v5, some (.ref D), some (.ref o), some (.ref o2), v9] ∧ Kp [] H15 H')
          ⟨_, rfl, Kp.refl _ _⟩ (fun j σ' H' _ h => by
            obtain ⟨_, _, k⟩ := h
            exact SqL.of (k _ _ eF not_nil)) ?_ ?_
        · rintro j x σ' H16 hx ⟨v9, rfl, k16⟩
          obtain ⟨d, hd, hxd⟩ := hY.at hx
          obtain ⟨os, hos, rfl⟩ := map_at hd
          obtain ⟨hOg, hO4, hOne⟩ := hB os (mem_at hos)
          have hxd0 : Dt [] H15 x (.list (os.map entD)) := hxd.less fun _ m => absurd m not_nil
          obtain ⟨m, zs, rfl, _, em, hZ⟩ := hxd0.list
          walk_at "S"
          have mk : ∀ (Hs : Hp) (Q' : VK), Kp [] H15 Hs → (∀ o3 H', Kp [] Hs H' → KindsAt C_Kinds [] H' o3 os → Q' (.ref o3) H') → kMake C_Kinds (sp_Kinds___init__ K C_Kinds) Q' [.ref m] Hs := fun Hs Q' ks q' => by
            refine r_kMake fun o3 dx3 Ht no3 kt eo3 => ?_
            refine ⟨o3, dx3, m, zs, os.map entD, rfl, eo3, .inl ((ks.trans kt) _ _ em not_nil), hZ.mono (ks.trans kt), by rw [List.length_map]; exact hO4, hOg.good, fun Hu ku hKu => ?_⟩
            rw [ents_of] at hKu
            exact r_kMade (q' o3 Hu ((kt.nil.trans ku).drop no3) hKu)
          refine r_cutT (fun b H' => Kp [] H16 H' ∧ b = false) ?_ ?_
          · walk_at "S"
            refine mk _ _ k16 fun o3 H17 k17 hK3 => ?_
            have hKa := (hKo.kp k16).kp k17
            obtain ⟨da, na, ta, _, _, ha, _, _⟩ := hKa.ob
            obtain ⟨db, nb, tb, _, _, hb, _, _⟩ := hK3.ob
            refine r_eqOwn ha hb ?_
            refine ⟨o, es, .ref o3, rfl, hKa, hG, .inl ⟨o3, os, rfl, hK3, hOg, r_kYes ?_⟩⟩
            walk_at "S"
            refine r_kOr0 (decide_eq_false fun z => hOne z.symm) ?_
            walk_at "S"
            refine mk _ _ (k16.trans k17) fun o4 H18 k18 hK4 => ?_
            walk_at "S"
            obtain ⟨dc, nc, tc, _, _, hc, _, _⟩ := hK4.ob
            refine r_neOwn hc (k18 _ _ ha not_nil) ?_
            refine ⟨o4, os, .ref o, rfl, hK4, hOg, .inl ⟨o, es, rfl, hKa.kp k18, hG, r_kNeg ?_⟩⟩
            walk_at "S"
            refine r_kOr0 (by rw [decide_eq_false hOne]; rfl) ?_
            walk_at "S"
            refine mk _ _ (k16.trans (k17.trans k18)) fun o5 H19 k19 hK5 => ?_
            walk_at "S"
            refine ⟨o5, m, os, rfl, hK5, hxd0.mono (k16.trans (k17.trans (k18.trans k19))), hOg, hO4, fun H20 k20 => ?_⟩
            walk_at "S"
            exact ⟨k17.trans (k18.trans (k19.trans k20)), rfl⟩
          rintro b H17 ⟨k17, rfl⟩
          refine r_kIfS0 rfl ?_
          walk_at "S"
          exact ⟨_, rfl, k16.trans k17⟩
        · rintro σ' H16 ⟨v9, rfl, k16⟩
          walk_at "S"
          exact ⟨_, _, _, _, _, _, _, _, _, rfl, k1.trans (k115.trans k16)⟩
    · rintro σ' H1 ⟨v1, v2, v3, v4, v5, v6, v7, v8, v9, rfl, k1⟩
      walk_at "S"
      exact q H1

end
theorem all_mk {l : PySem.W.OpenLaw} {w : World} {K : PySem.W.Frag} {h : Heap} {mg : Str → Option Value} {fa f1 f2 f3 f4 f5 f6 f7 f8 f9 f10 f11 f12 f13 f14 f15 f16 f17 f18 f19 C_Kinds G_RESERVED : Addr} (X : K.In h) (G : h.Ns mainGlobals mg) (hfa : mg "law" = some (.ref fa))
    {od1 an1 od2 an2 od3 an3 od4 an4 od5 an5 od6 an6 od7 an7 od8 an8 od9 an9 od10 an10 od11 an11 od12 an12 od13 an13 od14 an14 od15 an15 od16 an16 od17 an17 od18 an18 od19 an19 : Option Addr} {sl1 sl2 sl3 sl4 sl5 sl6 sl7 sl8 sl9 sl10 sl11 sl12 sl13 sl14 sl15 sl16 sl17 sl18 sl19 : Array (Option Value)} {oc1 kV1 dc1 pm1 cd1 ct1 oc2 kV2 dc2 pm2 cd2 ct2 oc3 kV3 dc3 pm3 cd3 ct3 oc4 kV4 dc4 pm4 cd4 ct4 oc5 kV5 dc5 pm5 cd5 ct5 oc6 kV6 dc6 pm6 cd6 ct6 oc7 kV7 dc7 pm7 cd7 ct7 oc8 kV8 dc8 pm8 cd8 ct8 oc9 kV9 dc9 pm9 cd9 ct9 oc10 kV10 dc10 pm10 cd10 ct10 oc11 kV11 dc11 pm11 cd11 ct11 oc12 kV12 dc12 pm12 cd12 ct12 oc13 kV13 dc13 pm13 cd13 ct13 oc14 kV14 dc14 pm14 cd14 ct14 oc15 kV15 dc15 pm15 cd15 ct15 oc16 kV16 dc16 pm16 cd16 ct16 oc17 kV17 dc17 pm17 cd17 ct17 oc18 kV18 dc18 pm18 cd18 ct18 oc19 kV19 dc19 pm19 cd19 ct19 : Value} {tk_LETTERS tk_RESERVED_0 tk_RESERVED_1 tk_RESERVED_2 tk_RESERVED_3 tk_RESERVED_4 tk_RESERVED_5 tk_RESERVED_6 tk_RESERVED_7 tk_RESERVED_8 tk_RESERVED_9 tk_RESERVED_10 tk_RESERVED_11 tk_RESERVED_12 tk_RESERVED_13 tk_RESERVED_14 tk_RESERVED_15 tk_MOST_KINDS : Tok} {od_RESERVED : Option Addr} {sl_RESERVED : Array (Option Value)} {n_RESERVED : Nat}
    (aC_Kinds : PySem.W.nsIn K mainGlobals "Kinds" = some (some (.ref C_Kinds)))
    (pg_Kinds : PySem.W.plainGet K C_Kinds Str.empty = true)
    (hd_Kinds : PySem.W.hasDictIn K C_Kinds = true)
    (po_Kinds : PySem.W.plainOver K C_Kinds = true)
    (sa_Kinds : PySem.W.findIn K (.ref C_Kinds) "__setattr__" = some (some (.builtin "object.__setattr__")))
    (mk_Kinds : PySem.W.makesIn K C_Kinds = true)
    (kc_Kinds : PySem.W.keepIn K (.ref C_Kinds) = true)
    (na_Kinds_names : PySem.W.findIn K (.ref C_Kinds) "names" = some none)
    (na_Kinds_entries : PySem.W.findIn K (.ref C_Kinds) "entries" = some none)
    (fa_k_cl : PySem.W.findIn K (.ref C_Kinds) "__class__" = some (some (.builtin "object.__class__")))
    (fa_k_gt : PySem.W.specialIn K (.builtin "object.__class__") "__get__" = some (some (.builtin "getset_descriptor.__get__")))
    (fa_k_tk : PySem.W.takesIn K (.builtin "object.__class__") = some true)
    (fa_k_ob : PySem.W.mroIn K C_Kinds (.type "object") = some true)
    (fa_k_ne : PySem.W.findIn K (.ref C_Kinds) "__ne__" = some (some (.builtin "object.__ne__")))
    (fa_k_L : PySem.W.kitOne K (.type "list") (.ref C_Kinds) = some false)
    (fa_k_T : PySem.W.kitOne K (.type "tuple") (.ref C_Kinds) = some false)
    (fa_f_L : PySem.W.notFirst K C_Kinds (.type "list") = true)
    (fa_f_T : PySem.W.notFirst K C_Kinds (.type "tuple") = true)
    (aG_LETTERS : PySem.W.nsIn K mainGlobals "LETTERS" = some (some (Value.str "abcdefghijklmnopqrstuvwxyz" tk_LETTERS)))
    (aG_RESERVED : PySem.W.nsIn K mainGlobals "RESERVED" = some (some (.ref G_RESERVED)))
    (lG_RESERVED : K.lookup G_RESERVED = some ⟨.type "tuple", od_RESERVED, .seq #[Value.str "kind" tk_RESERVED_0, Value.str "def" tk_RESERVED_1, Value.str "set" tk_RESERVED_2, Value.str "ask" tk_RESERVED_3, Value.str "call" tk_RESERVED_4, Value.str "again" tk_RESERVED_5, Value.str "check" tk_RESERVED_6, Value.str "mean" tk_RESERVED_7, Value.str "if" tk_RESERVED_8, Value.str "else" tk_RESERVED_9, Value.str "end" tk_RESERVED_10, Value.str "return" tk_RESERVED_11, Value.str "refuse" tk_RESERVED_12, Value.str "is" tk_RESERVED_13, Value.str "self" tk_RESERVED_14, Value.str "cls" tk_RESERVED_15] n_RESERVED, sl_RESERVED⟩)
    (aG_MOST_KINDS : PySem.W.nsIn K mainGlobals "MOST_KINDS" = some (some (Value.int (4) tk_MOST_KINDS)))
    (a1 : PySem.W.nsIn K mainGlobals "is_word" = some (some (.ref f1))) (l1 : K.lookup f1 = some ⟨oc1, od1, .func (PySem.W.fnOf "is_word" "is_word" (defArgs s_is_word) (defBody s_is_word) (defScope s_is_word) .none kV1 dc1 pm1 an1 cd1 ct1), sl1⟩) (c1 : PySem.W.codeIn K cd1 "is_word" = true) (k1 : PySem.W.keepIn K (.ref f1) = true)
    (a2 : PySem.W.findIn K (.ref C_Kinds) "bases" = some (some (.ref f2))) (i2 : PySem.W.isFn K (.ref f2) = true) (l2 : K.lookup f2 = some ⟨oc2, od2, .func (PySem.W.fnOf "bases" "Kinds.bases" (defArgs s_Kinds_bases) (defBody s_Kinds_bases) (defScope s_Kinds_bases) .none kV2 dc2 pm2 an2 cd2 ct2), sl2⟩) (c2 : PySem.W.codeIn K cd2 "Kinds.bases" = true) (k2 : PySem.W.keepIn K (.ref f2) = true)
    (a3 : PySem.W.findIn K (.ref C_Kinds) "__len__" = some (some (.ref f3))) (i3 : PySem.W.isFn K (.ref f3) = true) (l3 : K.lookup f3 = some ⟨oc3, od3, .func (PySem.W.fnOf "__len__" "Kinds.__len__" (defArgs s_Kinds___len__) (defBody s_Kinds___len__) (defScope s_Kinds___len__) .none kV3 dc3 pm3 an3 cd3 ct3), sl3⟩) (c3 : PySem.W.codeIn K cd3 "Kinds.__len__" = true) (k3 : PySem.W.keepIn K (.ref f3) = true)
    (a4 : PySem.W.findIn K (.ref C_Kinds) "__iter__" = some (some (.ref f4))) (i4 : PySem.W.isFn K (.ref f4) = true) (l4 : K.lookup f4 = some ⟨oc4, od4, .func (PySem.W.fnOf "__iter__" "Kinds.__iter__" (defArgs s_Kinds___iter__) (defBody s_Kinds___iter__) (defScope s_Kinds___iter__) .none kV4 dc4 pm4 an4 cd4 ct4), sl4⟩) (c4 : PySem.W.codeIn K cd4 "Kinds.__iter__" = true) (k4 : PySem.W.keepIn K (.ref f4) = true)
    (a5 : PySem.W.findIn K (.ref C_Kinds) "__eq__" = some (some (.ref f5))) (i5 : PySem.W.isFn K (.ref f5) = true) (l5 : K.lookup f5 = some ⟨oc5, od5, .func (PySem.W.fnOf "__eq__" "Kinds.__eq__" (defArgs s_Kinds___eq__) (defBody s_Kinds___eq__) (defScope s_Kinds___eq__) .none kV5 dc5 pm5 an5 cd5 ct5), sl5⟩) (c5 : PySem.W.codeIn K cd5 "Kinds.__eq__" = true) (k5 : PySem.W.keepIn K (.ref f5) = true)
    (a6 : PySem.W.nsIn K mainGlobals "_law_bag" = some (some (.ref f6))) (l6 : K.lookup f6 = some ⟨oc6, od6, .func (PySem.W.fnOf "_law_bag" "_law_bag" (defArgs s__law_bag) (defBody s__law_bag) (defScope s__law_bag) .none kV6 dc6 pm6 an6 cd6 ct6), sl6⟩) (c6 : PySem.W.codeIn K cd6 "_law_bag" = true) (k6 : PySem.W.keepIn K (.ref f6) = true)
    (a7 : PySem.W.nsIn K mainGlobals "_law_take" = some (some (.ref f7))) (l7 : K.lookup f7 = some ⟨oc7, od7, .func (PySem.W.fnOf "_law_take" "_law_take" (defArgs s__law_take) (defBody s__law_take) (defScope s__law_take) .none kV7 dc7 pm7 an7 cd7 ct7), sl7⟩) (c7 : PySem.W.codeIn K cd7 "_law_take" = true) (k7 : PySem.W.keepIn K (.ref f7) = true)
    (a8 : PySem.W.nsIn K mainGlobals "_law_lies" = some (some (.ref f8))) (l8 : K.lookup f8 = some ⟨oc8, od8, .func (PySem.W.fnOf "_law_lies" "_law_lies" (defArgs s__law_lies) (defBody s__law_lies) (defScope s__law_lies) .none kV8 dc8 pm8 an8 cd8 ct8), sl8⟩) (c8 : PySem.W.codeIn K cd8 "_law_lies" = true) (k8 : PySem.W.keepIn K (.ref f8) = true)
    (a9 : PySem.W.nsIn K mainGlobals "is_name" = some (some (.ref f9))) (l9 : K.lookup f9 = some ⟨oc9, od9, .func (PySem.W.fnOf "is_name" "is_name" (defArgs s_is_name) (defBody s_is_name) (defScope s_is_name) .none kV9 dc9 pm9 an9 cd9 ct9), sl9⟩) (c9 : PySem.W.codeIn K cd9 "is_name" = true) (k9 : PySem.W.keepIn K (.ref f9) = true)
    (a10 : PySem.W.nsIn K mainGlobals "_law_of" = some (some (.ref f10))) (l10 : K.lookup f10 = some ⟨oc10, od10, .func (PySem.W.fnOf "_law_of" "_law_of" (defArgs s__law_of) (defBody s__law_of) (defScope s__law_of) .none kV10 dc10 pm10 an10 cd10 ct10), sl10⟩) (c10 : PySem.W.codeIn K cd10 "_law_of" = true) (k10 : PySem.W.keepIn K (.ref f10) = true)
    (a11 : PySem.W.nsIn K mainGlobals "_law_some" = some (some (.ref f11))) (l11 : K.lookup f11 = some ⟨oc11, od11, .func (PySem.W.fnOf "_law_some" "_law_some" (defArgs s__law_some) (defBody s__law_some) (defScope s__law_some) .none kV11 dc11 pm11 an11 cd11 ct11), sl11⟩) (c11 : PySem.W.codeIn K cd11 "_law_some" = true) (k11 : PySem.W.keepIn K (.ref f11) = true)
    (a12 : PySem.W.findIn K (.ref C_Kinds) "can_add" = some (some (.ref f12))) (i12 : PySem.W.isFn K (.ref f12) = true) (l12 : K.lookup f12 = some ⟨oc12, od12, .func (PySem.W.fnOf "can_add" "Kinds.can_add" (defArgs s_Kinds_can_add) (defBody s_Kinds_can_add) (defScope s_Kinds_can_add) .none kV12 dc12 pm12 an12 cd12 ct12), sl12⟩) (c12 : PySem.W.codeIn K cd12 "Kinds.can_add" = true) (k12 : PySem.W.keepIn K (.ref f12) = true)
    (a13 : PySem.W.nsIn K mainGlobals "_law_name" = some (some (.ref f13))) (l13 : K.lookup f13 = some ⟨oc13, od13, .func (PySem.W.fnOf "_law_name" "_law_name" (defArgs s__law_name) (defBody s__law_name) (defScope s__law_name) .none kV13 dc13 pm13 an13 cd13 ct13), sl13⟩) (c13 : PySem.W.codeIn K cd13 "_law_name" = true) (k13 : PySem.W.keepIn K (.ref f13) = true)
    (a14 : PySem.W.findIn K (.ref C_Kinds) "within" = some (some (.ref f14))) (i14 : PySem.W.isFn K (.ref f14) = true) (l14 : K.lookup f14 = some ⟨oc14, od14, .func (PySem.W.fnOf "within" "Kinds.within" (defArgs s_Kinds_within) (defBody s_Kinds_within) (defScope s_Kinds_within) .none kV14 dc14 pm14 an14 cd14 ct14), sl14⟩) (c14 : PySem.W.codeIn K cd14 "Kinds.within" = true) (k14 : PySem.W.keepIn K (.ref f14) = true)
    (a15 : PySem.W.findIn K (.ref C_Kinds) "__init__" = some (some (.ref f15))) (i15 : PySem.W.isFn K (.ref f15) = true) (l15 : K.lookup f15 = some ⟨oc15, od15, .func (PySem.W.fnOf "__init__" "Kinds.__init__" (defArgs s_Kinds___init__) (defBody s_Kinds___init__) (defScope s_Kinds___init__) .none kV15 dc15 pm15 an15 cd15 ct15), sl15⟩) (c15 : PySem.W.codeIn K cd15 "Kinds.__init__" = true) (k15 : PySem.W.keepIn K (.ref f15) = true)
    (a16 : PySem.W.nsIn K mainGlobals "_law_kinds" = some (some (.ref f16))) (l16 : K.lookup f16 = some ⟨oc16, od16, .func (PySem.W.fnOf "_law_kinds" "_law_kinds" (defArgs s__law_kinds) (defBody s__law_kinds) (defScope s__law_kinds) .none kV16 dc16 pm16 an16 cd16 ct16), sl16⟩) (c16 : PySem.W.codeIn K cd16 "_law_kinds" = true) (k16 : PySem.W.keepIn K (.ref f16) = true)
    (a17 : PySem.W.nsIn K mainGlobals "_law_others" = some (some (.ref f17))) (l17 : K.lookup f17 = some ⟨oc17, od17, .func (PySem.W.fnOf "_law_others" "_law_others" (defArgs s__law_others) (defBody s__law_others) (defScope s__law_others) .none kV17 dc17 pm17 an17 cd17 ct17), sl17⟩) (c17 : PySem.W.codeIn K cd17 "_law_others" = true) (k17 : PySem.W.keepIn K (.ref f17) = true)
    (a18 : PySem.W.nsIn K mainGlobals "_law_told" = some (some (.ref f18))) (l18 : K.lookup f18 = some ⟨oc18, od18, .func (PySem.W.fnOf "_law_told" "_law_told" (defArgs s__law_told) (defBody s__law_told) (defScope s__law_told) .none kV18 dc18 pm18 an18 cd18 ct18), sl18⟩) (c18 : PySem.W.codeIn K cd18 "_law_told" = true) (k18 : PySem.W.keepIn K (.ref f18) = true)
    (a19 : PySem.W.nsIn K mainGlobals "law" = some (some (.ref f19))) (l19 : K.lookup f19 = some ⟨oc19, od19, .func (PySem.W.fnOf "law" "law" (defArgs s_law) (defBody s_law) (defScope s_law) .none kV19 dc19 pm19 an19 cd19 ct19), sl19⟩) (c19 : PySem.W.codeIn K cd19 "law" = true) (k19 : PySem.W.keepIn K (.ref f19) = true)
    (z_ValueError : PySem.W.nsIn K mainGlobals "ValueError" = some none) (z_all : PySem.W.nsIn K mainGlobals "all" = some none) (z_range : PySem.W.nsIn K mainGlobals "range" = some none) (z_enumerate : PySem.W.nsIn K mainGlobals "enumerate" = some none) (z_any : PySem.W.nsIn K mainGlobals "any" = some none) (z_len : PySem.W.nsIn K mainGlobals "len" = some none) (z_iter : PySem.W.nsIn K mainGlobals "iter" = some none) (z_abs : PySem.W.nsIn K mainGlobals "abs" = some none) (z_int : PySem.W.nsIn K mainGlobals "int" = some none) (z_list : PySem.W.nsIn K mainGlobals "list" = some none) (z_min : PySem.W.nsIn K mainGlobals "min" = some none) (z_max : PySem.W.nsIn K mainGlobals "max" = some none) (z_isinstance : PySem.W.nsIn K mainGlobals "isinstance" = some none) (z_str : PySem.W.nsIn K mainGlobals "str" = some none) (z_bool : PySem.W.nsIn K mainGlobals "bool" = some none) (z_tuple : PySem.W.nsIn K mainGlobals "tuple" = some none) (z_super : PySem.W.nsIn K mainGlobals "super" = some none) :
    ∃ fd : FuncData, (∀ (s : Shared) (v : Value), BindsTo s fd ⟨[v], []⟩ [("_law_script", v)]) ∧ ∀ base : Heap, K.In base → base.Ns mainGlobals mg → FnOk l.prog w K mg base CX0 11 fa fd ["_law_script"] (sp_law K) := by
  have e := hfa.symm.trans (PySem.W.mg_of X G a19)
  cases e
  have T : Txt K mg C_Kinds G_RESERVED := ⟨PySem.W.mg_none_of X G z_ValueError, PySem.W.mg_none_of X G z_all, PySem.W.mg_none_of X G z_range, PySem.W.mg_none_of X G z_enumerate, PySem.W.mg_none_of X G z_any, PySem.W.mg_none_of X G z_len, PySem.W.mg_none_of X G z_iter, PySem.W.mg_none_of X G z_abs, PySem.W.mg_none_of X G z_int, PySem.W.mg_none_of X G z_list, PySem.W.mg_none_of X G z_min, PySem.W.mg_none_of X G z_max, PySem.W.mg_none_of X G z_isinstance, PySem.W.mg_none_of X G z_str, PySem.W.mg_none_of X G z_bool, PySem.W.mg_none_of X G z_tuple, PySem.W.mg_none_of X G z_super, ⟨pg_Kinds, hd_Kinds, po_Kinds, sa_Kinds⟩, ⟨_, PySem.W.mg_of X G aC_Kinds, rfl⟩, na_Kinds_names, na_Kinds_entries, fa_k_cl, fa_k_gt, fa_k_tk, fa_k_ob, fa_k_ne, fa_k_L, fa_k_T, fa_f_L, fa_f_T, ⟨_, PySem.W.mg_of X G aG_LETTERS, ⟨_, rfl⟩⟩, ⟨_, PySem.W.mg_of X G aG_RESERVED, rfl⟩, fun H => .inr ⟨_, _, _, lG_RESERVED, rfl, rfl, (by show 16 ≤ sizeLine; decide), .cons ⟨_, rfl⟩ (.cons ⟨_, rfl⟩ (.cons ⟨_, rfl⟩ (.cons ⟨_, rfl⟩ (.cons ⟨_, rfl⟩ (.cons ⟨_, rfl⟩ (.cons ⟨_, rfl⟩ (.cons ⟨_, rfl⟩ (.cons ⟨_, rfl⟩ (.cons ⟨_, rfl⟩ (.cons ⟨_, rfl⟩ (.cons ⟨_, rfl⟩ (.cons ⟨_, rfl⟩ (.cons ⟨_, rfl⟩ (.cons ⟨_, rfl⟩ (.cons ⟨_, rfl⟩ (.nil))))))))))))))))⟩, ⟨_, PySem.W.mg_of X G aG_MOST_KINDS, ⟨_, rfl⟩⟩⟩
  have F1 := fun_mk (st := s_is_word) l1 c1 k1
  have b1 := F1.binds (ps := ["thing"]) fun _ _ _ _ _ _ us hl => match us, hl with | [_], _ => rfl
  have F2 := fun_mk (st := s_Kinds_bases) l2 c2 k2
  have b2 := F2.binds (ps := ["self", "name"]) fun _ _ _ _ _ _ us hl => match us, hl with | [_, _], _ => rfl
  have F3 := fun_mk (st := s_Kinds___len__) l3 c3 k3
  have b3 := F3.binds (ps := ["self"]) fun _ _ _ _ _ _ us hl => match us, hl with | [_], _ => rfl
  have F4 := fun_mk (st := s_Kinds___iter__) l4 c4 k4
  have b4 := F4.binds (ps := ["self"]) fun _ _ _ _ _ _ us hl => match us, hl with | [_], _ => rfl
  have F5 := fun_mk (st := s_Kinds___eq__) l5 c5 k5
  have b5 := F5.binds (ps := ["self", "other"]) fun _ _ _ _ _ _ us hl => match us, hl with | [_, _], _ => rfl
  have F6 := fun_mk (st := s__law_bag) l6 c6 k6
  have b6 := F6.binds (ps := ["_law_script", "_law_at"]) fun _ _ _ _ _ _ us hl => match us, hl with | [_, _], _ => rfl
  have F7 := fun_mk (st := s__law_take) l7 c7 k7
  have b7 := F7.binds (ps := ["_law_bag_here", "_law_many"]) fun _ _ _ _ _ _ us hl => match us, hl with | [_, _], _ => rfl
  have F8 := fun_mk (st := s__law_lies) l8 c8 k8
  have b8 := F8.binds (ps := ["_law_kinds_here", "_law_one", "_law_other"]) fun _ _ _ _ _ _ us hl => match us, hl with | [_, _, _], _ => rfl
  have F9 := fun_mk (st := s_is_name) l9 c9 k9
  have b9 := F9.binds (ps := ["thing"]) fun _ _ _ _ _ _ us hl => match us, hl with | [_], _ => rfl
  have F10 := fun_mk (st := s__law_of) l10 c10 k10
  have b10 := F10.binds (ps := ["_law_bag_here", "_law_some_here"]) fun _ _ _ _ _ _ us hl => match us, hl with | [_, _], _ => rfl
  have F11 := fun_mk (st := s__law_some) l11 c11 k11
  have b11 := F11.binds (ps := ["_law_bag_here", "_law_some_here", "_law_most"]) fun _ _ _ _ _ _ us hl => match us, hl with | [_, _, _], _ => rfl
  have F12 := fun_mk (st := s_Kinds_can_add) l12 c12 k12
  have b12 := F12.binds (ps := ["self", "entry"]) fun _ _ _ _ _ _ us hl => match us, hl with | [_, _], _ => rfl
  have F13 := fun_mk (st := s__law_name) l13 c13 k13
  have b13 := F13.binds (ps := ["_law_bag_here", "_law_taken"]) fun _ _ _ _ _ _ us hl => match us, hl with | [_, _], _ => rfl
  have F14 := fun_mk (st := s_Kinds_within) l14 c14 k14
  have b14 := F14.binds (ps := ["self", "one", "other"]) fun _ _ _ _ _ _ us hl => match us, hl with | [_, _, _], _ => rfl
  have F15 := fun_mk (st := s_Kinds___init__) l15 c15 k15
  have b15 := F15.binds (ps := ["self", "entries"]) fun _ _ _ _ _ _ us hl => match us, hl with | [_, _], _ => rfl
  have F16 := fun_mk (st := s__law_kinds) l16 c16 k16
  have b16 := F16.binds (ps := ["_law_bag_here", "_law_most"]) fun _ _ _ _ _ _ us hl => match us, hl with | [_, _], _ => rfl
  have F17 := fun_mk (st := s__law_others) l17 c17 k17
  have b17 := F17.binds (ps := ["_law_bag_here", "_law_kinds_here"]) fun _ _ _ _ _ _ us hl => match us, hl with | [_, _], _ => rfl
  have F18 := fun_mk (st := s__law_told) l18 c18 k18
  have b18 := F18.binds (ps := ["_law_made", "_law_kinds_here"]) fun _ _ _ _ _ _ us hl => match us, hl with | [_, _], _ => rfl
  have F19 := fun_mk (st := s_law) l19 c19 k19
  refine ⟨PySem.W.fnOf "law" "law" (defArgs s_law) (defBody s_law) (defScope s_law) .none kV19 dc19 pm19 an19 cd19 ct19, fun s v => .of_eq rfl, fun base _ _ => ?_⟩
  have U_is_word : Use l.prog w K mg base 2 "is_word" ["thing"] (sp_is_word) := ⟨_, _, ok_is_word F1 T, PySem.W.mg_of X G a1, k1, b1⟩
  have U_Kinds_bases : UseM l.prog w K mg base 2 C_Kinds "bases" (sp_Kinds_bases K C_Kinds) := ⟨_, fnr (ok_Kinds_bases F2 T) b2, ⟨a2, i2, k2⟩⟩
  have U_Kinds___len__ : UseM l.prog w K mg base 2 C_Kinds "__len__" (sp_Kinds___len__ K C_Kinds) := ⟨_, fnr (ok_Kinds___len__ F3 T) b3, ⟨a3, i3, k3⟩⟩
  have U_Kinds___iter__ : UseM l.prog w K mg base 2 C_Kinds "__iter__" (sp_Kinds___iter__ K C_Kinds) := ⟨_, fnr (ok_Kinds___iter__ F4 T) b4, ⟨a4, i4, k4⟩⟩
  have U_Kinds___eq__ : UseM l.prog w K mg base 2 C_Kinds "__eq__" (sp_Kinds___eq__ K C_Kinds) := ⟨_, fnr (ok_Kinds___eq__ F5 T) b5, ⟨a5, i5, k5⟩⟩
  have U__law_bag : Use l.prog w K mg base 2 "_law_bag" ["_law_script", "_law_at"] (sp__law_bag K) := ⟨_, _, ok__law_bag F6 T, PySem.W.mg_of X G a6, k6, b6⟩
  have U__law_take : Use l.prog w K mg base 2 "_law_take" ["_law_bag_here", "_law_many"] (sp__law_take) := ⟨_, _, ok__law_take F7 T, PySem.W.mg_of X G a7, k7, b7⟩
  have U__law_lies : Use l.prog w K mg base 2 "_law_lies" ["_law_kinds_here", "_law_one", "_law_other"] (sp__law_lies K) := ⟨_, _, ok__law_lies F8 T, PySem.W.mg_of X G a8, k8, b8⟩
  have U_is_name : Use l.prog w K mg base 4 "is_name" ["thing"] (sp_is_name) := ⟨_, _, ok_is_name F9 T U_is_word, PySem.W.mg_of X G a9, k9, b9⟩
  have U__law_of : Use l.prog w K mg base 4 "_law_of" ["_law_bag_here", "_law_some_here"] (sp__law_of K) := ⟨_, _, ok__law_of F10 T U__law_take, PySem.W.mg_of X G a10, k10, b10⟩
  have U__law_some : Use l.prog w K mg base 4 "_law_some" ["_law_bag_here", "_law_some_here", "_law_most"] (sp__law_some K) := ⟨_, _, ok__law_some F11 T U__law_take, PySem.W.mg_of X G a11, k11, b11⟩
  have U_Kinds_can_add : UseM l.prog w K mg base 6 C_Kinds "can_add" (sp_Kinds_can_add K C_Kinds) := ⟨_, fnr (ok_Kinds_can_add F12 T U_is_name) b12, ⟨a12, i12, k12⟩⟩
  have U__law_name : Use l.prog w K mg base 6 "_law_name" ["_law_bag_here", "_law_taken"] (sp__law_name K) := ⟨_, _, ok__law_name F13 T U__law_take U__law_of, PySem.W.mg_of X G a13, k13, b13⟩
  have U_Kinds_within : UseM l.prog w K mg base 7 C_Kinds "within" (sp_Kinds_within K C_Kinds 4) := ⟨f14, fnr (all_within F14 b14 ⟨a14, i14, k14⟩ T U_Kinds_bases 4) b14, ⟨a14, i14, k14⟩⟩
  have U_Kinds___init__ : UseC l.prog w K mg base 8 "Kinds" C_Kinds (sp_Kinds___init__ K C_Kinds) := ⟨_, fnr (ok_Kinds___init__ F15 T U_Kinds_can_add) b15, ⟨mk_Kinds, a15, i15, kc_Kinds⟩, PySem.W.mg_of X G aC_Kinds⟩
  have U__law_kinds : Use l.prog w K mg base 8 "_law_kinds" ["_law_bag_here", "_law_most"] (sp__law_kinds K) := ⟨_, _, ok__law_kinds F16 T U__law_take U__law_name U__law_some, PySem.W.mg_of X G a16, k16, b16⟩
  have U__law_others : Use l.prog w K mg base 8 "_law_others" ["_law_bag_here", "_law_kinds_here"] (sp__law_others K) := ⟨_, _, ok__law_others F17 T U__law_name, PySem.W.mg_of X G a17, k17, b17⟩
  have U__law_told : Use l.prog w K mg base 9 "_law_told" ["_law_made", "_law_kinds_here"] (sp__law_told K C_Kinds) := ⟨_, _, ok__law_told F18 T U_Kinds_bases U_Kinds___len__ U_Kinds___iter__ U_Kinds_within U__law_lies, PySem.W.mg_of X G a18, k18, b18⟩
  exact ok_law F19 T U_Kinds___init__ U_Kinds___eq__ U__law_bag U__law_kinds U__law_told U__law_others
theorem walk {l : PySem.W.OpenLaw} {q : Program} {loose : List Str} {XP : (Str → Option Value) → Heap → Prop} {YP : World → Heap → Prop} {d : DefRec} {K : Params → PySem.W.Frag} (hn : l.most = some 63) (hdf : d.params.defaults = [])
    (hY : ∀ (w : World) (h : Heap), YP w h → (K w.params).In h)
    (F : ∀ (w : World) (mg : Str → Option Value) (fa : Addr) (h : Heap), (K w.params).In h → h.Ns mainGlobals mg → mg d.name = some (.ref fa) →
      ∃ fd : FuncData, (∀ (s : Shared) (u : Value), BindsTo s fd ⟨[u], []⟩ [("_law_script", u)]) ∧ ∀ base : Heap, (K w.params).In base → base.Ns mainGlobals mg → FnOk l.prog w (K w.params) mg base CX0 11 fa fd ["_law_script"] (sp_law (K w.params))) :
    PySem.W.WalkO q loose XP YP l.row.toRowW d [] (fun f vs => PySem.call f vs) :=
  L2.walk_of (n := 63) (k := 11) (x := "_law_script") (CX := fun _ => CX0) (sp := fun w => sp_law (K w.params)) hn (by decide) hdf ⟨rfl, by decide, by decide⟩ hY F (fun _ _ a ns hl _ hS => ⟨a, ns, rfl, hS, hl, fun _ => rfl⟩) fun _ _ _ _ _ z => z
end My
open PySem PySem.W PyProof.Rows
set_option maxRecDepth 100000 in
set_option maxHeartbeats 0 in
theorem PySem.Challenge.cw_silentswaps_k01_kinds_made_holds : PySem.Challenge.rw_silentswaps_k01_kinds_made.Holds := by
  w_on; o_law; k_head; (case hw => w_witness2)
  k_fill
  refine My.walk (l := PySem.Challenge.rw_silentswaps_k01_kinds_made) rfl rfl (fun w h Y => PySem.W.kIn_of Y) ?F
  case F =>
    intro w mg fa h KX G hmg
    refine' My.all_mk KX G hmg ?aC_Kinds ?pg_Kinds ?hd_Kinds ?po_Kinds ?sa_Kinds ?mk_Kinds ?kc_Kinds ?na_Kinds_names ?na_Kinds_entries ?fa_k_cl ?fa_k_gt ?fa_k_tk ?fa_k_ob ?fa_k_ne ?fa_k_L ?fa_k_T ?fa_f_L ?fa_f_T ?aG_LETTERS ?aG_RESERVED ?lG_RESERVED ?aG_MOST_KINDS ?a1 ?l1 ?c1 ?k1 ?a2 ?i2 ?l2 ?c2 ?k2 ?a3 ?i3 ?l3 ?c3 ?k3 ?a4 ?i4 ?l4 ?c4 ?k4 ?a5 ?i5 ?l5 ?c5 ?k5 ?a6 ?l6 ?c6 ?k6 ?a7 ?l7 ?c7 ?k7 ?a8 ?l8 ?c8 ?k8 ?a9 ?l9 ?c9 ?k9 ?a10 ?l10 ?c10 ?k10 ?a11 ?l11 ?c11 ?k11 ?a12 ?i12 ?l12 ?c12 ?k12 ?a13 ?l13 ?c13 ?k13 ?a14 ?i14 ?l14 ?c14 ?k14 ?a15 ?i15 ?l15 ?c15 ?k15 ?a16 ?l16 ?c16 ?k16 ?a17 ?l17 ?c17 ?k17 ?a18 ?l18 ?c18 ?k18 ?a19 ?l19 ?c19 ?k19 ?z_ValueError ?z_all ?z_range ?z_enumerate ?z_any ?z_len ?z_iter ?z_abs ?z_int ?z_list ?z_min ?z_max ?z_isinstance ?z_str ?z_bool ?z_tuple ?z_super
    (case aC_Kinds => k_is)
    (case pg_Kinds => k_is)
    (case hd_Kinds => k_is)
    (case po_Kinds => k_is)
    (case sa_Kinds => k_is)
    (case mk_Kinds => k_is)
    (case kc_Kinds => k_is)
    (case na_Kinds_names => k_is)
    (case na_Kinds_entries => k_is)
    (case fa_k_cl => first | k_is | rfl)
    (case fa_k_gt => first | k_is | rfl)
    (case fa_k_tk => first | k_is | rfl)
    (case fa_k_ob => first | k_is | rfl)
    (case fa_k_ne => first | k_is | rfl)
    (case fa_k_L => first | k_is | rfl)
    (case fa_k_T => first | k_is | rfl)
    (case fa_f_L => first | k_is | rfl)
    (case fa_f_T => first | k_is | rfl)
    (case aG_LETTERS => k_is)
    (case aG_RESERVED => k_is)
    (case lG_RESERVED => k_is)
    (case aG_MOST_KINDS => k_is)
    (case a1 => k_is)
    (case l1 => k_is)
    (case c1 => k_is)
    (case k1 => k_is)
    (case a2 => k_is)
    (case i2 => k_is)
    (case l2 => k_is)
    (case c2 => k_is)
    (case k2 => k_is)
    (case a3 => k_is)
    (case i3 => k_is)
    (case l3 => k_is)
    (case c3 => k_is)
    (case k3 => k_is)
    (case a4 => k_is)
    (case i4 => k_is)
    (case l4 => k_is)
    (case c4 => k_is)
    (case k4 => k_is)
    (case a5 => k_is)
    (case i5 => k_is)
    (case l5 => k_is)
    (case c5 => k_is)
    (case k5 => k_is)
    (case a6 => k_is)
    (case l6 => k_is)
    (case c6 => k_is)
    (case k6 => k_is)
    (case a7 => k_is)
    (case l7 => k_is)
    (case c7 => k_is)
    (case k7 => k_is)
    (case a8 => k_is)
    (case l8 => k_is)
    (case c8 => k_is)
    (case k8 => k_is)
    (case a9 => k_is)
    (case l9 => k_is)
    (case c9 => k_is)
    (case k9 => k_is)
    (case a10 => k_is)
    (case l10 => k_is)
    (case c10 => k_is)
    (case k10 => k_is)
    (case a11 => k_is)
    (case l11 => k_is)
    (case c11 => k_is)
    (case k11 => k_is)
    (case a12 => k_is)
    (case i12 => k_is)
    (case l12 => k_is)
    (case c12 => k_is)
    (case k12 => k_is)
    (case a13 => k_is)
    (case l13 => k_is)
    (case c13 => k_is)
    (case k13 => k_is)
    (case a14 => k_is)
    (case i14 => k_is)
    (case l14 => k_is)
    (case c14 => k_is)
    (case k14 => k_is)
    (case a15 => k_is)
    (case i15 => k_is)
    (case l15 => k_is)
    (case c15 => k_is)
    (case k15 => k_is)
    (case a16 => k_is)
    (case l16 => k_is)
    (case c16 => k_is)
    (case k16 => k_is)
    (case a17 => k_is)
    (case l17 => k_is)
    (case c17 => k_is)
    (case k17 => k_is)
    (case a18 => k_is)
    (case l18 => k_is)
    (case c18 => k_is)
    (case k18 => k_is)
    (case a19 => k_is)
    (case l19 => k_is)
    (case c19 => k_is)
    (case k19 => k_is)
    (case z_ValueError => k_is)
    (case z_all => k_is)
    (case z_range => k_is)
    (case z_enumerate => k_is)
    (case z_any => k_is)
    (case z_len => k_is)
    (case z_iter => k_is)
    (case z_abs => k_is)
    (case z_int => k_is)
    (case z_list => k_is)
    (case z_min => k_is)
    (case z_max => k_is)
    (case z_isinstance => k_is)
    (case z_str => k_is)
    (case z_bool => k_is)
    (case z_tuple => k_is)
    (case z_super => k_is)
#print axioms PySem.Challenge.cw_silentswaps_k01_kinds_made_holds
